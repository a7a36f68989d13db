import PyProof.Rows.All
import Wide.All
import OpenK.AllK
import Wide.FinOn
import HandS.ForMost
import HandS.Defaults
import HandS.IsInst
import HandS.Walk
import HandS.Zip
import HandS.Deep
import HandS.DictComp
import HandS.Conv
import HandS.More
import HandS.WideBits
import HandS.Style
import HandS.FStr
import PySem.Challenge.RW_cycleready_k55_whole_order_of_main_progr
import PyProof.RulesMatch
import HandS.MakeKwOnly
import KE.SortData
import HandS.DictTup
import PyProof.ReprBulk
import HandS.HeadEnd
import HandS.Head0
import HandS.Head1
import HandS.Head2
import HandS.HeadHook1
import HandS.HeadHook2
import HandS.HeadHook3
import HandS.HeadHook4
set_option Elab.async false
set_option maxRecDepth 100000
set_option maxHeartbeats 4000000
/-! Plain mathematics: steps, one program's run as a function of what the modules are worth, acyclic libraries, what is reached. -/
namespace Cy
open PySem L2

inductive Stp where
  | set (x : Str) (n : Int)
  | add (x y : Str)
  | skip (x : Str) (k : Nat)
  | exp (l x : Str)
  | read (x m l : Str)
  | need (m : Str)
  | try_ (m x : Str)
  | fail
  deriving Inhabited

/-- the tuple that a step is -/
def sv : Stp → List V
  | .set x n => [.str "set", .str x, .int n]
  | .add x y => [.str "add", .str x, .str y]
  | .skip x k => [.str "skip", .str x, .int k]
  | .exp l x => [.str "export", .str l, .str x]
  | .read x m l => [.str "read", .str x, .str m, .str l]
  | .need m => [.str "need", .str m]
  | .try_ m x => [.str "try", .str m, .str x]
  | .fail => [.str "fail"]

abbrev vrs : List Str := ["a", "b", "c", "d"]

/-- what a module is worth: whether it is ready, what it exports -/
structure Res where
  ready : Bool
  exps : List (Str × Int)

structure Out where
  ended : Bool
  vars : Str → Int
  exps : List (Str × Int)
  hit : List Str

def updF (f : Str → Int) (x : Str) (n : Int) : Str → Int := fun y => if y = x then n else f y
def putX (X : List (Str × Int)) (l : Str) (n : Int) : List (Str × Int) :=
  if (X.any fun p => decide (p.1 = l)) = true then X.map (fun p => if p.1 = l then (p.1, n) else p) else X ++ [(l, n)]
def getX (X : List (Str × Int)) (l : Str) : Int := ((X.find? fun p => decide (p.1 = l)).map (·.2)).getD (-1)
def readV (R : Str → Res) (own : Option Str) (acc : List Str) (X : List (Str × Int)) (m l : Str) : Int :=
  if own = some m then getX X l else if m ∈ acc then getX (R m).exps l else -1
def hitC (m : Str) (o : Out) : Out := { o with hit := m :: o.hit }

/-- the run of a program: skip counter, rest, variables, accessed modules, own exports -/
def exec (R : Str → Res) (own : Option Str) : Nat → List Stp → (Str → Int) → List Str → List (Str × Int) → Out
  | _, [], f, _, X => ⟨true, f, X, []⟩
  | k + 1, _ :: r, f, acc, X => exec R own k r f acc X
  | 0, s :: r, f, acc, X =>
    match s with
    | .set x n => exec R own 0 r (updF f x n) acc X
    | .add x y => exec R own 0 r (updF f x (f x + f y)) acc X
    | .skip x k => exec R own (if f x > 0 then k else 0) r f acc X
    | .exp l x => exec R own 0 r f acc (putX X l (f x))
    | .read x m l => exec R own 0 r (updF f x (readV R own acc X m l)) acc X
    | .need m => if (R m).ready = true then hitC m (exec R own 0 r f (m :: acc) X) else ⟨false, f, X, [m]⟩
    | .try_ m x => hitC m (exec R own 0 r (updF f x (if (R m).ready = true then 1 else 0)) (if (R m).ready = true then m :: acc else acc) X)
    | .fail => ⟨false, f, X, []⟩

theorem exec_nil {R own k f acc X} : exec R own k [] f acc X = ⟨true, f, X, []⟩ := by cases k <;> rfl
theorem exec_skip {R own f acc X} : ∀ (k : Nat) (r : List Stp), exec R own k r f acc X = exec R own 0 (r.drop k) f acc X
  | 0, r => by rw [List.drop_zero]
  | k + 1, [] => by rw [List.drop_nil, exec_nil, exec_nil]
  | k + 1, _ :: r => by
    show exec R own k r f acc X = _
    rw [exec_skip k r, List.drop_succ_cons]

/-! ### dicts -/
def vDict (f : Str → Int) : List (Key × V) := vrs.map fun x => (Sum.inr x, V.int (f x))
def xDict (X : List (Str × Int)) : List (Key × V) := X.map fun p => (Sum.inr p.1, V.int p.2)
def stT (b : Bool) : Str := if b then "ready" else "failed"
def sDict (D : List (Str × Bool)) : List (Key × V) := D.map fun p => (Sum.inr p.1, V.str (stT p.2))

theorem inr_dec (a b : Str) : decide ((Sum.inr a : Key) = Sum.inr b) = decide (a = b) := key_rr a b ▸ rfl
theorem any_x (l : Str) : ∀ X : List (Str × Int), ((xDict X).any fun kv => decide (kv.1 = (Sum.inr l : Key))) = X.any fun p => decide (p.1 = l)
  | [] => rfl
  | p :: X => by
    show (decide ((Sum.inr p.1 : Key) = Sum.inr l) || (xDict X).any _) = (decide (p.1 = l) || X.any _)
    rw [inr_dec, any_x l X]
theorem putX_dict (X : List (Str × Int)) (l : Str) (n : Int) : putK (xDict X) (Sum.inr l) (V.int n) = xDict (putX X l n) := by
  unfold putK putX
  rw [any_x]
  split
  · unfold xDict
    rw [List.map_map, List.map_map]
    refine List.map_congr_left fun p _ => ?_
    show (if (Sum.inr p.1 : Key) = Sum.inr l then _ else _) = _
    by_cases e : p.1 = l
    · rw [if_pos (by rw [e])]
      show _ = ((Sum.inr (if p.1 = l then (p.1, n) else p).1 : Key), V.int (if p.1 = l then (p.1, n) else p).2)
      rw [if_pos e]
    · rw [if_neg (fun q => e (Sum.inr.inj q))]
      show _ = ((Sum.inr (if p.1 = l then (p.1, n) else p).1 : Key), V.int (if p.1 = l then (p.1, n) else p).2)
      rw [if_neg e]
  · unfold xDict
    rw [List.map_append]
    rfl
theorem getX_dict (l : Str) : ∀ X : List (Str × Int), (valV (xDict X) (Sum.inr l)).getD (V.int (-1)) = V.int (getX X l)
  | [] => rfl
  | p :: X => by
    by_cases e : p.1 = l
    · rw [show valV (xDict (p :: X)) (Sum.inr l) = some (V.int p.2) from valV_pos (p := ((Sum.inr p.1 : Key), V.int p.2)) (by show (Sum.inr p.1 : Key) = _; rw [e])]
      unfold getX
      rw [List.find?_cons, decide_eq_true e]
      rfl
    · rw [show valV (xDict (p :: X)) (Sum.inr l) = valV (xDict X) (Sum.inr l) from valV_neg (p := ((Sum.inr p.1 : Key), V.int p.2)) (fun q => e (Sum.inr.inj q)), getX_dict l X]
      unfold getX
      rw [List.find?_cons, decide_eq_false e]
theorem getX_nil (l : Str) : getX [] l = -1 := rfl
theorem vDict_get (f : Str → Int) {x : Str} (h : x ∈ vrs) : valV (vDict f) (Sum.inr x) = some (V.int (f x)) := by
  have gen : ∀ l : List Str, x ∈ l → valV (l.map fun x => ((Sum.inr x : Key), V.int (f x))) (Sum.inr x) = some (V.int (f x)) := by
    intro l
    induction l with
    | nil => intro h; cases h
    | cons y r ih =>
      intro h
      by_cases e : y = x
      · subst e
        exact valV_pos rfl
      · rw [List.map_cons, valV_neg (p := ((Sum.inr y : Key), V.int (f y))) (fun q => e (Sum.inr.inj q))]
        exact ih ((List.mem_cons.mp h).resolve_left fun q => e q.symm)
  exact gen vrs h
theorem vDict_put (f : Str → Int) {x : Str} (n : Int) (h : x ∈ vrs) : putK (vDict f) (Sum.inr x) (V.int n) = vDict (updF f x n) := by
  unfold putK
  have hany : ((vDict f).any fun kv => decide (kv.1 = (Sum.inr x : Key))) = true := by
    rw [List.any_eq_true]
    exact ⟨(Sum.inr x, V.int (f x)), List.mem_map.mpr ⟨x, h, rfl⟩, decide_eq_true rfl⟩
  rw [if_pos hany]
  unfold vDict
  rw [List.map_map]
  refine List.map_congr_left fun y _ => ?_
  show (if (Sum.inr y : Key) = Sum.inr x then _ else _) = ((Sum.inr y : Key), V.int (updF f x n y))
  unfold updF
  by_cases e : y = x
  · rw [if_pos (by rw [e]), if_pos e]
  · rw [if_neg (fun q => e (Sum.inr.inj q)), if_neg e]
theorem vDict_len (f : Str → Int) : (vDict f).length = 4 := rfl
theorem xDict_len (X : List (Str × Int)) : (xDict X).length = X.length := List.length_map _
theorem sDict_len (D : List (Str × Bool)) : (sDict D).length = D.length := List.length_map _
theorem sDict_get {D : List (Str × Bool)} {m : Str} {b : Bool} (hn : (D.map (·.1)).Nodup) (h : (m, b) ∈ D) : valV (sDict D) (Sum.inr m) = some (V.str (stT b)) := by
  induction D with
  | nil => cases h
  | cons p r ih =>
    rw [List.map_cons, List.nodup_cons] at hn
    by_cases e : p.1 = m
    · rcases List.mem_cons.mp h with q | q
      · subst q
        exact valV_pos rfl
      · exact absurd (List.mem_map.mpr ⟨(m, b), q, e.symm⟩) hn.1
    · rw [show valV (sDict (p :: r)) (Sum.inr m) = valV (sDict r) (Sum.inr m) from valV_neg (p := ((Sum.inr p.1 : Key), V.str (stT p.2))) (fun q => e (Sum.inr.inj q))]
      exact ih hn.2 ((List.mem_cons.mp h).resolve_left fun q => e (by rw [← q]))
theorem sDict_none {D : List (Str × Bool)} {m : Str} (h : m ∉ D.map (·.1)) : valV (sDict D) (Sum.inr m) = none := by
  induction D with
  | nil => rfl
  | cons p r ih =>
    rw [List.map_cons, List.mem_cons, not_or] at h
    rw [show valV (sDict (p :: r)) (Sum.inr m) = valV (sDict r) (Sum.inr m) from valV_neg (p := ((Sum.inr p.1 : Key), V.str (stT p.2))) (fun q => h.1 (Sum.inr.inj q).symm)]
    exact ih h.2
theorem sDict_put {D : List (Str × Bool)} {m : Str} (b : Bool) (h : m ∉ D.map (·.1)) : putK (sDict D) (Sum.inr m) (V.str (stT b)) = sDict (D ++ [(m, b)]) := by
  rw [putK_new _ (sDict_none h)]
  unfold sDict
  rw [List.map_append]
  rfl
theorem putX_len (X : List (Str × Int)) (l : Str) (n : Int) : (putX X l n).length ≤ X.length + 1 := by
  unfold putX
  split
  · rw [List.length_map]; omega
  · rw [List.length_append]; exact Nat.le_refl _

/-! ### what steps are well said -/
def letters : Str := "abcdefghijklmnopqrstuvwxyz"
structure IsName (x : Str) : Prop where
  lo : 1 ≤ x.length
  hi : x.length ≤ 8
  lt : ∀ c ∈ x.cps.toList, c ∈ letters.cps.toList
def big : Nat := 10 ^ 30
/-- step s of a program, so many steps after it; its modules among those below rank r -/
def WfS (names : List Str) (rk : Str → Nat) (r : Nat) (main : Bool) (after : Nat) : Stp → Prop
  | .set x n => x ∈ vrs ∧ n.natAbs ≤ big
  | .add x y => x ∈ vrs ∧ y ∈ vrs
  | .skip x k => x ∈ vrs ∧ 1 ≤ k ∧ k ≤ after
  | .exp l x => main = false ∧ IsName l ∧ x ∈ vrs
  | .read x m l => x ∈ vrs ∧ (m ∈ names ∧ IsName m ∧ rk m < r) ∧ IsName l
  | .need m => m ∈ names ∧ IsName m ∧ rk m < r
  | .try_ m x => (m ∈ names ∧ IsName m ∧ rk m < r) ∧ x ∈ vrs
  | .fail => True
structure WfP (names : List Str) (rk : Str → Nat) (r : Nat) (main : Bool) (p : List Stp) : Prop where
  len : p.length ≤ 10
  at_ : ∀ (i : Nat) (s : Stp), p[i]? = some s → WfS names rk r main (p.length - 1 - i) s

/-! ### libraries -/
abbrev Lib := List (Str × List Stp)
def prg (L : Lib) (m : Str) : List Stp := (L.lookup m).getD []
def f0 : Str → Int := fun _ => 0
def resO (o : Out) : Res := ⟨o.ended, if o.ended then o.exps else []⟩
def resN (L : Lib) : Nat → Str → Res
  | 0, _ => ⟨false, []⟩
  | n + 1, m => resO (exec (resN L n) (some m) 0 (prg L m) f0 [] [])
structure WfL (L : Lib) (rk : Str → Nat) : Prop where
  nd : (L.map (·.1)).Nodup
  lo : 1 ≤ L.length
  hi : L.length ≤ 9
  nm : ∀ m ∈ L.map (·.1), IsName m
  rk9 : ∀ m ∈ L.map (·.1), rk m < 9
  wf : ∀ m p, (m, p) ∈ L → WfP (L.map (·.1)) rk (rk m) false p
/-- a module's worth -/
def res (L : Lib) (rk : Str → Nat) (m : Str) : Res := resN L (rk m + 1) m
/-- a program's run over the library -/
def runP (L : Lib) (rk : Str → Nat) (own : Option Str) (p : List Stp) : Out := exec (res L rk) own 0 p f0 [] []

/-- the modules that a step asks -/
def asks : Stp → List Str
  | .read _ m _ => [m]
  | .need m => [m]
  | .try_ m _ => [m]
  | _ => []
/-- only the modules that the steps ask count -/
theorem exec_congr {R R' : Str → Res} {own : Option Str} : ∀ (p : List Stp) (k : Nat) (f : Str → Int) (acc : List Str) (X : List (Str × Int)),
    (∀ s ∈ p, ∀ m ∈ asks s, R m = R' m) → exec R own k p f acc X = exec R' own k p f acc X
  | [], k, f, acc, X, _ => by rw [exec_nil, exec_nil]
  | s :: r, k + 1, f, acc, X, h => exec_congr r k f acc X fun t ht => h t (List.mem_cons_of_mem _ ht)
  | s :: r, 0, f, acc, X, h => by
    have hr := fun k f acc X => exec_congr (own := own) r k f acc X fun t ht => h t (List.mem_cons_of_mem _ ht)
    have hs := h s List.mem_cons_self
    cases s with
    | set x n => exact hr ..
    | add x y => exact hr ..
    | skip x n => exact hr ..
    | exp l x => exact hr ..
    | read x m l =>
      have e := hs m (List.mem_singleton.mpr rfl)
      show exec R own 0 r _ acc X = exec R' own 0 r _ acc X
      rw [hr]
      unfold readV
      rw [e]
    | need m =>
      have e := hs m (List.mem_singleton.mpr rfl)
      show (if (R m).ready = true then _ else _) = (if (R' m).ready = true then _ else _)
      rw [e, hr]
    | try_ m x =>
      have e := hs m (List.mem_singleton.mpr rfl)
      show hitC m (exec R own 0 r _ _ X) = hitC m (exec R' own 0 r _ _ X)
      rw [hr, e]
    | fail => rfl
theorem hit_asks {R : Str → Res} {own : Option Str} : ∀ (p : List Stp) (k : Nat) (f : Str → Int) (acc : List Str) (X : List (Str × Int)) (m : Str),
    m ∈ (exec R own k p f acc X).hit → ∃ s ∈ p, m ∈ asks s
  | [], k, f, acc, X, m, h => by rw [exec_nil] at h; cases h
  | s :: r, k + 1, f, acc, X, m, h => by
    obtain ⟨t, ht, hm⟩ := hit_asks r k f acc X m h
    exact ⟨t, List.mem_cons_of_mem _ ht, hm⟩
  | s :: r, 0, f, acc, X, m, h => by
    have go : ∀ k f acc X, m ∈ (exec R own k r f acc X).hit → ∃ t ∈ s :: r, m ∈ asks t := fun k f acc X h => by
      obtain ⟨t, ht, hm⟩ := hit_asks r k f acc X m h
      exact ⟨t, List.mem_cons_of_mem _ ht, hm⟩
    cases s with
    | set x n => exact go _ _ _ _ h
    | add x y => exact go _ _ _ _ h
    | skip x n => exact go _ _ _ _ h
    | exp l x => exact go _ _ _ _ h
    | read x m l => exact go _ _ _ _ h
    | need a =>
      have h' : m ∈ (if (R a).ready = true then hitC a (exec R own 0 r f (a :: acc) X) else ⟨false, f, X, [a]⟩ : Out).hit := h
      split at h'
      · rcases List.mem_cons.mp h' with e | e
        · exact ⟨_, List.mem_cons_self, by rw [e]; exact List.mem_singleton.mpr rfl⟩
        · exact go _ _ _ _ e
      · exact ⟨_, List.mem_cons_self, h'⟩
    | try_ a x =>
      rcases List.mem_cons.mp (show m ∈ a :: (exec R own 0 r _ _ X).hit from h) with e | e
      · exact ⟨_, List.mem_cons_self, by rw [e]; exact List.mem_singleton.mpr rfl⟩
      · exact go _ _ _ _ e
    | fail => cases h

section
variable {L : Lib} {rk : Str → Nat}
theorem prg_of (hn : (L.map (·.1)).Nodup) {m : Str} {p : List Stp} (h : (m, p) ∈ L) : prg L m = p := by
  unfold prg
  induction L with
  | nil => cases h
  | cons q r ih =>
    rw [List.map_cons, List.nodup_cons] at hn
    obtain ⟨a, b⟩ := q
    by_cases e : m = a
    · rcases List.mem_cons.mp h with z | z
      · cases z
        simp [List.lookup]
      · exact absurd (List.mem_map.mpr ⟨(m, p), z, e⟩) hn.1
    · have hb : (m == a) = false := beq_eq_false_iff_ne.mpr e
      simp only [List.lookup, hb]
      exact ih hn.2 ((List.mem_cons.mp h).resolve_left fun z => e (by cases z; rfl))
theorem prg_mem {m : Str} (h : m ∈ L.map (·.1)) (hn : (L.map (·.1)).Nodup) : (m, prg L m) ∈ L := by
  obtain ⟨⟨a, p⟩, hp, e⟩ := List.mem_map.mp h
  have e' : a = m := e
  subst e'
  rw [prg_of hn hp]
  exact hp
theorem WfP.asks {names : List Str} {r : Nat} {main : Bool} {p : List Stp} (w : WfP names rk r main p) {s : Stp} (hs : s ∈ p) {m : Str} (hm : m ∈ asks s) : m ∈ names ∧ IsName m ∧ rk m < r := by
  obtain ⟨i, hi, e⟩ := List.mem_iff_getElem.mp hs
  have q := w.at_ i s (by rw [List.getElem?_eq_getElem hi, e])
  cases s with
  | read x a l => obtain rfl := List.mem_singleton.mp hm; exact q.2.1
  | need a => obtain rfl := List.mem_singleton.mp hm; exact q
  | try_ a x => obtain rfl := List.mem_singleton.mp hm; exact q.1
  | set x n => cases hm
  | add x y => cases hm
  | skip x n => cases hm
  | exp l x => cases hm
  | fail => cases hm
theorem resN_stable (W : WfL L rk) : ∀ (n : Nat) (m : Str), m ∈ L.map (·.1) → rk m < n → resN L n m = res L rk m := by
  intro n
  induction n using Nat.strongRecOn with
  | ind n ih =>
    intro m hm h
    obtain ⟨k, rfl⟩ : ∃ k, n = k + 1 := ⟨n - 1, by omega⟩
    unfold res
    show resO _ = resO _
    have hw := W.wf m _ (prg_mem hm W.nd)
    have e : exec (resN L k) (some m) 0 (prg L m) f0 [] [] = exec (resN L (rk m)) (some m) 0 (prg L m) f0 [] [] := by
      refine exec_congr _ _ _ _ _ fun s hs a ha => ?_
      obtain ⟨h1, _, h3⟩ := hw.asks hs ha
      rw [ih k (by omega) a h1 (by omega), ih (rk m) (by omega) a h1 h3]
    rw [e]
theorem res_eq (W : WfL L rk) {m : Str} (hm : m ∈ L.map (·.1)) : res L rk m = resO (runP L rk (some m) (prg L m)) := by
  show resO _ = resO _
  unfold runP
  rw [exec_congr (R := resN L (rk m)) (R' := res L rk)]
  intro s hs a ha
  obtain ⟨h1, _, h3⟩ := (W.wf m _ (prg_mem hm W.nd)).asks hs ha
  exact resN_stable W _ a h1 h3

/-- the modules that a module starts, itself among them -/
inductive Rch (L : Lib) (rk : Str → Nat) : Str → Str → Prop
  | self (m : Str) : Rch L rk m m
  | step {m a x : Str} : a ∈ (runP L rk (some m) (prg L m)).hit → Rch L rk a x → Rch L rk m x
def RchP (L : Lib) (rk : Str → Nat) (own : Option Str) (p : List Stp) (x : Str) : Prop := ∃ a ∈ (runP L rk own p).hit, Rch L rk a x
theorem Rch.iff {m x : Str} : Rch L rk m x ↔ x = m ∨ RchP L rk (some m) (prg L m) x := by
  constructor
  · intro h
    cases h with
    | self => exact .inl rfl
    | step h1 h2 => exact .inr ⟨_, h1, h2⟩
  · rintro (rfl | ⟨a, h1, h2⟩)
    · exact .self _
    · exact .step h1 h2
theorem Rch.names (W : WfL L rk) {m x : Str} (h : Rch L rk m x) : m ∈ L.map (·.1) → x ∈ L.map (·.1) ∧ rk x ≤ rk m := by
  induction h with
  | self m => exact fun q => ⟨q, Nat.le_refl _⟩
  | step h1 _ ih =>
    intro q
    obtain ⟨s, hs, hm⟩ := hit_asks _ _ _ _ _ _ h1
    obtain ⟨a1, _, a3⟩ := (W.wf _ _ (prg_mem q W.nd)).asks hs hm
    obtain ⟨b1, b2⟩ := ih a1
    exact ⟨b1, by omega⟩
theorem hit_wf {names : List Str} {r : Nat} {main : Bool} {p : List Stp} {own : Option Str} (w : WfP names rk r main p) {m : Str} (h : m ∈ (runP L rk own p).hit) : m ∈ names ∧ IsName m ∧ rk m < r := by
  obtain ⟨s, hs, hm⟩ := hit_asks _ _ _ _ _ _ h
  exact w.asks hs hm
theorem RchP.names (W : WfL L rk) {own : Option Str} {r : Nat} {main : Bool} {p : List Stp} (w : WfP (L.map (·.1)) rk r main p) {x : Str} (h : RchP L rk own p x) : x ∈ L.map (·.1) ∧ rk x < r := by
  obtain ⟨a, h1, h2⟩ := h
  obtain ⟨q1, _, q3⟩ := hit_wf w h1
  obtain ⟨b1, b2⟩ := h2.names W q1
  exact ⟨b1, by omega⟩

/-! ### bounds of the values -/
def BndX (M : Nat) (X : List (Str × Int)) : Prop := ∀ p ∈ X, p.2.natAbs ≤ M
def BndF (M : Nat) (f : Str → Int) : Prop := ∀ x, (f x).natAbs ≤ M
theorem getX_bnd {M : Nat} {X : List (Str × Int)} (h : BndX M X) (h1 : 1 ≤ M) (l : Str) : (getX X l).natAbs ≤ M := by
  unfold getX
  cases e : X.find? fun p => decide (p.1 = l) with
  | none => show (-1 : Int).natAbs ≤ M; exact h1
  | some p => exact h p (List.mem_of_find?_eq_some e)
theorem putX_bnd {M : Nat} {X : List (Str × Int)} (h : BndX M X) (l : Str) {n : Int} (hn : n.natAbs ≤ M) : BndX M (putX X l n) := by
  unfold putX
  split
  · intro p hp
    obtain ⟨q, hq, e⟩ := List.mem_map.mp hp
    have e' : (if q.1 = l then (q.1, n) else q) = p := e
    split at e'
    · rw [← e']; exact hn
    · rw [← e']; exact h q hq
  · intro p hp
    rcases List.mem_append.mp hp with q | q
    · exact h p q
    · rw [List.mem_singleton.mp q]; exact hn
theorem updF_bnd {M : Nat} {f : Str → Int} (h : BndF M f) (x : Str) {n : Int} (hn : n.natAbs ≤ M) : BndF M (updF f x n) := fun y => by
  unfold updF
  split
  · exact hn
  · exact h y
theorem exec_bnd {R : Str → Res} {own : Option Str} : ∀ (p : List Stp) (k : Nat) (f : Str → Int) (acc : List Str) (X : List (Str × Int)) (M : Nat), 1 ≤ M →
    (∀ s ∈ p, ∀ x n, s = .set x n → n.natAbs ≤ M) → (∀ s ∈ p, ∀ m ∈ asks s, BndX M (R m).exps) → BndF M f → BndX M X →
    BndF (M * 2 ^ p.length) (exec R own k p f acc X).vars ∧ BndX (M * 2 ^ p.length) (exec R own k p f acc X).exps
  | [], k, f, acc, X, M, _, _, _, hf, hX => by
    rw [exec_nil]
    simp only [List.length_nil, Nat.pow_zero, Nat.mul_one]
    exact ⟨hf, hX⟩
  | s :: r, k, f, acc, X, M, h1, hs, hR, hf, hX => by
    have e2 : M * 2 ^ (s :: r).length = (2 * M) * 2 ^ r.length := by rw [List.length_cons, Nat.pow_succ]; simp only [Nat.mul_assoc, Nat.mul_comm]
    have le2 : M ≤ 2 * M := by omega
    have up : BndF (2 * M) f := fun x => Nat.le_trans (hf x) le2
    have upX : BndX (2 * M) X := fun x hx => Nat.le_trans (hX x hx) le2
    have go : ∀ k f acc X, BndF (2 * M) f → BndX (2 * M) X → BndF (M * 2 ^ (s :: r).length) (exec R own k r f acc X).vars ∧ BndX (M * 2 ^ (s :: r).length) (exec R own k r f acc X).exps := fun k f acc X h2 h3 => by
      rw [e2]
      exact exec_bnd r k f acc X (2 * M) (by omega) (fun t ht x n e => Nat.le_trans (hs t (List.mem_cons_of_mem _ ht) x n e) le2)
        (fun t ht m hm y hy => Nat.le_trans (hR t (List.mem_cons_of_mem _ ht) m hm y hy) le2) h2 h3
    have big1 : 2 * M ≤ M * 2 ^ (s :: r).length := by
      rw [e2]
      exact Nat.le_mul_of_pos_right _ (Nat.pow_pos (by decide))
    have stop : BndF (M * 2 ^ (s :: r).length) f ∧ BndX (M * 2 ^ (s :: r).length) X := ⟨fun x => Nat.le_trans (up x) big1, fun x hx => Nat.le_trans (upX x hx) big1⟩
    cases k with
    | succ k => exact go k f acc X up upX
    | zero =>
      have hs0 := hs s List.mem_cons_self
      have hR0 := hR s List.mem_cons_self
      cases s with
      | set x n => exact go 0 _ acc X (updF_bnd up x (Nat.le_trans (hs0 x n rfl) le2)) upX
      | add x y => exact go 0 _ acc X (updF_bnd up x (by have := hf x; have := hf y; omega)) upX
      | skip x n => exact go _ f acc X up upX
      | exp l x => exact go 0 f acc _ up (putX_bnd upX l (up x))
      | read x m l =>
        refine go 0 _ acc X (updF_bnd up x ?_) upX
        unfold readV
        split
        · exact Nat.le_trans (getX_bnd hX h1 l) le2
        · split
          · exact Nat.le_trans (getX_bnd (hR0 m (List.mem_singleton.mpr rfl)) h1 l) le2
          · show (-1 : Int).natAbs ≤ _
            have : (-1 : Int).natAbs = 1 := rfl
            omega
      | need m =>
        show BndF _ (if (R m).ready = true then hitC m (exec R own 0 r f (m :: acc) X) else ⟨false, f, X, [m]⟩ : Out).vars ∧ BndX _ (if (R m).ready = true then hitC m (exec R own 0 r f (m :: acc) X) else ⟨false, f, X, [m]⟩ : Out).exps
        split
        · exact go 0 f _ X up upX
        · exact stop
      | try_ m x =>
        refine go 0 _ _ X (updF_bnd up x ?_) upX
        split
        · show (1 : Int).natAbs ≤ _
          have : (1 : Int).natAbs = 1 := rfl
          omega
        · exact Nat.zero_le _
      | fail => exact stop
theorem WfP.sets {names : List Str} {r : Nat} {main : Bool} {p : List Stp} (w : WfP names rk r main p) {s : Stp} (hs : s ∈ p) {x : Str} {n : Int} (e : s = .set x n) : n.natAbs ≤ big := by
  obtain ⟨i, hi, e'⟩ := List.mem_iff_getElem.mp hs
  have q := w.at_ i s (by rw [List.getElem?_eq_getElem hi, e'])
  subst e
  exact q.2
def lid (r : Nat) : Nat := big * 2 ^ (10 * r)
theorem lid_pos (r : Nat) : 1 ≤ lid r := Nat.mul_pos (by decide) (Nat.pow_pos (by decide))
theorem lid_mono {a b : Nat} (h : a ≤ b) : lid a ≤ lid b := Nat.mul_le_mul_left _ (Nat.pow_le_pow_right (by decide) (by omega))
theorem big_lid (r : Nat) : big ≤ lid r := Nat.le_mul_of_pos_right _ (Nat.pow_pos (by decide))
theorem lid_up {r n : Nat} (h : n ≤ 10) : lid r * 2 ^ n ≤ lid (r + 1) := by
  unfold lid
  rw [Nat.mul_assoc, ← Nat.pow_add]
  exact Nat.mul_le_mul_left _ (Nat.pow_le_pow_right (by decide) (by omega))
theorem run_bnd {own : Option Str} {r : Nat} {main : Bool} {p : List Stp} (w : WfP (L.map (·.1)) rk r main p) (hR : ∀ m ∈ L.map (·.1), rk m < r → BndX (lid r) (res L rk m).exps) :
    BndF (lid (r + 1)) (runP L rk own p).vars ∧ BndX (lid (r + 1)) (runP L rk own p).exps := by
  have h := exec_bnd (R := res L rk) (own := own) p 0 f0 [] [] (lid r) (lid_pos r) (fun s hs x n e => Nat.le_trans (w.sets hs e) (big_lid r)) (fun s hs m hm => by
    obtain ⟨a1, _, a3⟩ := w.asks hs hm
    exact hR m a1 a3) (fun _ => Nat.zero_le _) fun _ h => by cases h
  exact ⟨fun x => Nat.le_trans (h.1 x) (lid_up w.len), fun x hx => Nat.le_trans (h.2 x hx) (lid_up w.len)⟩
theorem res_bnd (W : WfL L rk) (k : Nat) : k ≤ 9 → ∀ (m : Str), m ∈ L.map (·.1) → rk m < k → BndX (lid k) (res L rk m).exps := by
  induction k using Nat.strongRecOn with
  | ind k ih =>
    intro hk m hm h
    rw [res_eq W hm]
    unfold resO
    show BndX _ (if (runP L rk (some m) (prg L m)).ended = true then _ else [])
    split
    · have h2 := (run_bnd (own := some m) (W.wf m _ (prg_mem hm W.nd)) fun a ha h1 x hx => ih (rk m) h (by omega) a ha h1 x hx).2
      exact fun x hx => Nat.le_trans (h2 x hx) (lid_mono (by omega))
    · intro x hx; cases hx
end
end Cy

set_option Elab.async false
set_option linter.all false
set_option maxRecDepth 100000
set_option maxHeartbeats 4000000
/-! The text by places, what a def's facts are, calls by promises, heaps. -/
namespace Cy
open PySem PySem.Spec PyProof.Rows L2
/-! ### the text by places -/
def top (i : Nat) : Stmt := PySem.Challenge.pw_cycleready_k55_whole_order_of_main_progr.main.body.getD i (.Pass ⟨0, 0, 0, 0⟩)
/-! ### a def of the top as it stands behind it -/
structure FnF (K : PySem.W.Frag) (mg : Str → Option Value) (x : Str) (st : Stmt) (dvs : List V) (kws : List (Str × V)) (f : Addr) (fd : FuncData) : Prop where
  mg_ : mg x = some (.ref f)
  fn : FunD K x x (defArgs st) (defBody st) (defScope st) dvs kws f fd
/-- a method: C is its class -/
structure FnM (K : PySem.W.Frag) (C : Addr) (m qual : Str) (st : Stmt) (dvs : List V) (kws : List (Str × V)) (f : Addr) (fd : FuncData) : Prop where
  meth : Meth K C m f
  fn : FunD K m qual (defArgs st) (defBody st) (defScope st) dvs kws f fd
/-- what a caller needs of a def that is called by name: n values are written, the rest are defaults -/
structure Pr (P : Program) (w : World) (K : PySem.W.Frag) (mg : Str → Option Value) (base : Heap) (x : Str) (ps : List Str) (dvs : List V) (k : Nat) (sp : Sp) : Prop where
  ex : ∃ (f : Addr) (fd : FuncData) (ds : List Value), mg x = some (.ref f) ∧ PySem.W.keepIn K (.ref f) = true ∧ FnOk P w K mg base CX0 k f fd ps sp ∧ Vals dvs ds ∧ Binds K fd ps ds
structure PrM (P : Program) (w : World) (K : PySem.W.Frag) (mg : Str → Option Value) (base : Heap) (C : Addr) (m : Str) (ps : List Str) (dvs : List V) (k : Nat) (sp : Sp) : Prop where
  ex : ∃ (f : Addr) (fd : FuncData) (ds : List Value), Meth K C m f ∧ FnOk P w K mg base CX0 k f fd ps sp ∧ Vals dvs ds ∧ Binds K fd ps ds
section
variable {P : Program} {w : World} {K : PySem.W.Frag} {mg : Str → Option Value} {base : Heap}
theorem Pr.mono {x : Str} {ps : List Str} {dvs : List V} {j k : Nat} {sp : Sp} (h : Pr P w K mg base x ps dvs j sp) (hk : j ≤ k) : Pr P w K mg base x ps dvs k sp := by
  obtain ⟨f, fd, ds, a, b, c, d, e⟩ := h.ex
  exact ⟨f, fd, ds, a, b, c.mono hk, d, e⟩
theorem PrM.mono {C : Addr} {x : Str} {ps : List Str} {dvs : List V} {j k : Nat} {sp : Sp} (h : PrM P w K mg base C x ps dvs j sp) (hk : j ≤ k) : PrM P w K mg base C x ps dvs k sp := by
  obtain ⟨f, fd, ds, a, c, d, e⟩ := h.ex
  exact ⟨f, fd, ds, a, c.mono hk, d, e⟩
theorem Pr.imp {x : Str} {ps : List Str} {dvs : List V} {k : Nat} {sp sp' : Sp} (h : Pr P w K mg base x ps dvs k sp) (hs : ∀ vs H Q E, sp' vs H Q E → sp vs H Q E) : Pr P w K mg base x ps dvs k sp' := by
  obtain ⟨f, fd, ds, a, b, c, d, e⟩ := h.ex
  exact ⟨f, fd, ds, a, b, c.imp hs, d, e⟩
theorem PrM.imp {C : Addr} {x : Str} {ps : List Str} {dvs : List V} {k : Nat} {sp sp' : Sp} (h : PrM P w K mg base C x ps dvs k sp) (hs : ∀ vs H Q E, sp' vs H Q E → sp vs H Q E) : PrM P w K mg base C x ps dvs k sp' := by
  obtain ⟨f, fd, ds, a, c, d, e⟩ := h.ex
  exact ⟨f, fd, ds, a, c.imp hs, d, e⟩
/-- a def without defaults keeps its promise, by its body -/
theorem _root_.L2.FunD.ok0 {x qual : Str} {params : Arguments} {body : List Stmt} {scope : Scope} {dvs : List V} {kws : List (Str × V)} {f : Addr} {fd : FuncData} {N ps : List Str} {k : Nat} {sp : Sp}
    (F : FunD K x qual params body scope dvs kws f fd) (S : FnScope N ps scope) (len : ∀ vs H Q E, sp vs H Q E → vs.length = ps.length)
    (hbody : ∀ (cdv : Value) (A : Around) (outer : List Env) (s : Shared) (H : Hp) (vs : List V) (Q : VK) (E : XK),
      Room k (A.deeper (envOfC qual scope s.heap.objs.size f cdv)) → sp vs H Q E →
      ∃ t, PSs (cxOf CX0 P w K mg base N qual scope f cdv A outer s H E).nox body t ∧ t { nx := fun _ H' => Q .non H', rt := Q } (start N vs) H) :
    FnOk P w K mg base CX0 (k + 1) f fd ps sp :=
  F.ok S len fun cdv A outer s H vs Q E hr h => by
    obtain ⟨t, a, b⟩ := hbody cdv A outer s H vs Q E hr h
    exact ⟨t, a.nox, b⟩
end
section
variable {X : Cx} {k : Nat} {C : Addr} {ps : List Str} {sp : Sp} {dvs : List V} {x m : Str} {p pos apos : Pos} {e o : Expr} {es : List Expr} {ta : TE} {t : TA}
/-- f(e, ..) -/
theorem pe_pr (h : Pr X.prog X.w X.K X.mg X.base x ps dvs k sp) (hr : Room k X.A) (hg : Gl X x) (ha : PA X (e :: es) t)
    (hdb : (x == ("__debug__" : Str)) = false := by decide)
    (he : starEach (e :: es) X.env = (false, eval e X.env) :: starEach es X.env := by rfl)
    (hpl : (backTo pos (starEach es X.env)).any (·.1) = false := by rfl) :
    PE X (.Call (.Name x p) (e :: es) [] pos) (tCall sp dvs E0 t) := by
  obtain ⟨f, fd, ds, hm, hk, F, hd, hb⟩ := h.ex
  exact pe_call F hr hg hm hk hb hd pass0 ha hdb he hpl
/-- o.m(e, ..) -/
theorem pe_prm {pl : Sem Bool} (he : PE X o ta) (c : Cls X.K C) (h : PrM X.prog X.w X.K X.mg X.base C m ps dvs k sp) (hr : Room k X.A) (ha : PA X (e :: es) t)
    (hst : starEach (e :: es) X.env = (false, eval e X.env) :: starEach es X.env := by rfl)
    (hpl : (backTo pos (starEach es X.env)).any (·.1) = false := by rfl)
    (ht : eval (.Call (.Attribute o m apos) (e :: es) [] pos) X.env = (do
      let ov ← eval o X.env
      standAt apos.atName
      let (f, first) ← holding [ov] (getMethod ov m pl)
      callWith pos f first (backTo pos (starEach (e :: es) X.env)) (backToKw pos (keywordEach [] X.env))) := by rfl) :
    PE X (.Call (.Attribute o m apos) (e :: es) [] pos) (tMeth C m sp dvs E0 ta t) := by
  obtain ⟨f, fd, ds, hm, F, hd, hb⟩ := h.ex
  exact pe_meth he c hm F hr hb hd pass0 ha hst hpl ht
/-- o.m() -/
theorem pe_prm0 {pl : Sem Bool} (he : PE X o ta) (c : Cls X.K C) (h : PrM X.prog X.w X.K X.mg X.base C m ps dvs k sp) (hr : Room k X.A)
    (ht : eval (.Call (.Attribute o m apos) [] [] pos) X.env = (do
      let ov ← eval o X.env
      standAt apos.atName
      let (f, first) ← holding [ov] (getMethod ov m pl)
      callWith pos f first (backTo pos (starEach [] X.env)) (backToKw pos (keywordEach [] X.env))) := by rfl) :
    PE X (.Call (.Attribute o m apos) [] [] pos) (tMeth C m sp dvs E0 ta tNil) := by
  obtain ⟨f, fd, ds, hm, F, hd, hb⟩ := h.ex
  exact pe_meth0 he c hm F hr hb hd pass0 ht
/-- a module's constant: an int, a text -/
theorem pe_gi {i : Int} (hg : Gl X x) (h : ∃ t, X.mg x = some (.int i t)) (hd : (x == ("__debug__" : Str)) = false := by decide) : PE X (.Name x pos) (tC (.int i)) := by
  obtain ⟨t, h⟩ := h
  exact pe_glob hg h ⟨t, rfl⟩ hd
theorem pe_gs {z : Str} (hg : Gl X x) (h : ∃ t, X.mg x = some (.str z t)) (hd : (x == ("__debug__" : Str)) = false := by decide) : PE X (.Name x pos) (tC (.str z)) := by
  obtain ⟨t, h⟩ := h
  exact pe_glob hg h ⟨t, rfl⟩ hd
theorem pe_gr {a : Addr} (hg : Gl X x) (h : X.mg x = some (.ref a)) (hd : (x == ("__debug__" : Str)) = false := by decide) : PE X (.Name x pos) (tC (.ref a)) := pe_glob hg h rfl hd
/-- a built-in class as a value -/
theorem pe_ty {n : String} (hg : Gl X x) (hm : X.mg x = none) (hv : bootBuiltins x = some (.type n)) (hn : x ≠ "__name__" := by decide) (hd : (x == ("__debug__" : Str)) = false := by decide) : PE X (.Name x pos) (tC (.ty n)) := pe_bltn hg hm hv rfl hn hd
/-- isinstance(e, T), T a built-in class -/
theorem pe_isi {T : Str} {n : String} {q : Pos} {te : TE} (hx : Gl X "isinstance") (hm : X.mg "isinstance" = none) (he : PE X e te) (hg : Gl X T) (hT : X.mg T = none) (hv : bootBuiltins T = some (.type n))
    (hn : T ≠ "__name__" := by decide) (hd : (T == ("__debug__" : Str)) = false := by decide)
    (hst : starEach [e, .Name T q] X.env = (false, eval e X.env) :: starEach [.Name T q] X.env := by rfl)
    (hpl : (backTo pos (starEach [.Name T q] X.env)).any (·.1) = false := by rfl) : PE X (.Call (.Name "isinstance" p) [e, .Name T q] [] pos) (tCB (rIsi X.K) (tCons te (tCons (tC (.ty n)) tNil))) :=
  pe_callB call_isi hx hm (by decide +kernel) (pa_cons he (pa_cons (pe_ty hg hT hv hn hd) pa_nil) hst) (by decide) (by decide) hst hpl
end
/-- a block cut behind its first statement: Mid is what stands there -/
def tMid (t u : TS) : TS := fun D σ H => ∃ Mid : L2.St → Hp → Prop, t { D with nx := Mid } σ H ∧ ∀ σ' H', Mid σ' H' → u D σ' H'
theorem pss_mid {X : Cx} {st : Stmt} {rest : List Stmt} {t u : TS} (h1 : PS X st t) (h2 : PSs X rest u) : PSs X (st :: rest) (tMid t u) := by
  refine ⟨fun pins s σ H D I h => ?_⟩
  obtain ⟨Mid, a, b⟩ := h
  refine wpAny_execs_cons (thn (h1.run pins s σ H { D with nx := Mid } I a) fun f s1 q => ?_)
  cases f with
  | next =>
    obtain ⟨σ', H', I', q⟩ := q
    exact h2.run pins s1 σ' H' D I' (b σ' H' q)
  | ret v => exact q
  | brk => exact q
  | cont => exact q
/-! ### heaps -/
/-- all but the addresses of S stands as it stood; tuples always do -/
def Kp (S : Addr → Prop) (H H' : Hp) : Prop := ∀ b o, H b = some o → (¬ S b ∨ ∃ xs, o = .tup xs) → H' b = some o
theorem Kp.refl {S : Addr → Prop} (H : Hp) : Kp S H H := fun _ _ h _ => h
theorem Kp.of {S : Addr → Prop} {H H' : Hp} (h : Same H H') : Kp S H H' := fun b o e _ => h b o e
theorem Kp.trans {S S2 T : Addr → Prop} {H H1 H2 : Hp} (a : Kp S H H1) (b : Kp S2 H1 H2) (h1 : ∀ c, S c → T c) (h2 : ∀ c, S2 c → T c ∨ H c = none) : Kp T H H2 := fun c o e n =>
  b c o (a c o e (n.imp (fun n q => n (h1 c q)) id)) (n.imp (fun n q => (h2 c q).elim n fun z => by rw [z] at e; cases e) id)
theorem Kp.trans' {S : Addr → Prop} {H H1 H2 : Hp} (a : Kp S H H1) (b : Kp S H1 H2) : Kp S H H2 := a.trans b (fun _ h => h) fun _ h => .inl h
theorem Kp.same {S : Addr → Prop} {H H1 H2 : Hp} (a : Kp S H H1) (b : Same H1 H2) : Kp S H H2 := fun c o e n => b c o (a c o e n)
theorem Kp.sub {S T : Addr → Prop} {H H' : Hp} (a : Kp S H H') (h : ∀ c, S c → T c) : Kp T H H' := fun c o e n => a c o e (n.imp (fun n q => n (h c q)) id)
theorem Kp.tup {S : Addr → Prop} {H H' : Hp} (a : Kp S H H') {b : Addr} {xs : List V} (h : H b = some (.tup xs)) : H' b = some (.tup xs) := a b _ h (.inr ⟨xs, rfl⟩)
theorem Kp.at {S : Addr → Prop} {H H' : Hp} (a : Kp S H H') {b : Addr} {o : HO} (h : H b = some o) (n : ¬ S b) : H' b = some o := a b _ h (.inl n)
theorem Kp.upd {S T : Addr → Prop} {H H' : Hp} (a : Kp S H H') (h1 : ∀ c, S c → T c) {l : Addr} (hl : T l ∨ H l = none) (nt : ∀ xs, H' l ≠ some (.tup xs)) (o : HO) : Kp T H (upd H' l o) := fun c u e n => by
  have e1 := a c u e (n.imp (fun n q => n (h1 c q)) id)
  rw [upd_ne]
  · exact e1
  · rintro rfl
    rcases n with n | ⟨xs, rfl⟩
    · exact hl.elim n fun z => by rw [z] at e; cases e
    · exact nt xs e1
theorem Kp.free {S : Addr → Prop} {H H' : Hp} (a : Kp S H H') {l : Addr} (h : H' l = none) (hl : ¬ S l) : H l = none := by
  cases q : H l with
  | none => rfl
  | some o => rw [a.at q hl] at h; cases h
theorem nt_lst {H : Hp} {l : Addr} {xs : List V} (h : H l = some (.lst xs)) : ∀ ys, H l ≠ some (.tup ys) := fun ys e => by rw [h] at e; cases e
theorem nt_dK {H : Hp} {l : Addr} {xs : List (Key × V)} (h : H l = some (.dK xs)) : ∀ ys, H l ≠ some (.tup ys) := fun ys e => by rw [h] at e; cases e
theorem nt_ins {H : Hp} {l C dx : Addr} {fs : List (Str × V)} (h : H l = some (.ins C dx fs)) : ∀ ys, H l ≠ some (.tup ys) := fun ys e => by rw [h] at e; cases e
theorem nt_none {H : Hp} {l : Addr} (h : H l = none) : ∀ ys, H l ≠ some (.tup ys) := fun ys e => by rw [h] at e; cases e
theorem _root_.L2.Same.upd {H H' : Hp} (a : Same H H') {l : Addr} (h : H l = none) (o : HO) : Same H (L2.upd H' l o) := fun c u e => by
  rw [upd_ne (ne_of_none e h)]
  exact a c u e
theorem _root_.L2.Same.new {H : Hp} {l : Addr} (h : H l = none) (o : HO) : Same H (L2.upd H l o) := L2.Same.upd (Same.refl H) h o
theorem _root_.L2.Same.seqT {K : PySem.W.Frag} {H H' : Hp} {a : Addr} {xs : List V} (e : Same H H') (h : SqT K H a xs) : SqT K H' a xs := by
  rcases h with (h | ⟨o, h⟩) | h
  · exact .inl (.inl (e _ _ h))
  · exact .inl (.inr ⟨o, e _ _ h⟩)
  · exact .inr h
/-- a, b = .. of a tuple of two, in slots i, j -/
abbrev gTwo (K : PySem.W.Frag) (i j : Nat) : TG := gTup K 2 (gCons (gName i) (gCons (gName j) gNil))
theorem iteA {c A B : Prop} [Decidable c] (hc : c) (h : A) : if c then A else B := by rw [if_pos hc]; exact h
theorem iteB {c A B : Prop} [Decidable c] (hc : ¬ c) (h : B) : if c then A else B := by rw [if_neg hc]; exact h
end Cy

set_option Elab.async false
set_option linter.all false
set_option maxRecDepth 100000
set_option maxHeartbeats 4000000
/-! words.py -/
namespace Cy
open PySem PySem.Spec PyProof.Rows L2
/-- the built-ins' names are free; the constants -/
structure G0 (K : PySem.W.Frag) (mg : Str → Option Value) (aV aP : Addr) : Prop where
  isinstance : mg "isinstance" = none
  str : mg "str" = none
  int : mg "int" = none
  bool : mg "bool" = none
  list : mg "list" = none
  tuple : mg "tuple" = none
  dict : mg "dict" = none
  len : mg "len" = none
  all : mg "all" = none
  zip : mg "zip" = none
  enumerate : mg "enumerate" = none
  range : mg "range" = none
  sorted : mg "sorted" = none
  repr : mg "repr" = none
  abs : mg "abs" = none
  max : mg "max" = none
  min : mg "min" = none
  divmod : mg "divmod" = none
  mostLetters : ∃ t, mg "MOST_LETTERS" = some (.int 8 t)
  letters : ∃ t, mg "LETTERS" = some (.str letters t)
  mostSteps : ∃ t, mg "MOST_STEPS" = some (.int 30 t)
  mostMains : ∃ t, mg "MOST_MAINS" = some (.int 8 t)
  mostModules : ∃ t, mg "MOST_MODULES" = some (.int 40 t)
  ready : ∃ t, mg "READY" = some (.str "ready" t)
  failed : ∃ t, mg "FAILED" = some (.str "failed" t)
  ended : ∃ t, mg "ENDED" = some (.str "ended" t)
  missing : ∃ t, mg "MISSING" = some (.int (-1) t)
  vars : mg "VARIABLES" = some (.ref aV)
  varsT : ∀ H, SqT K H aV (vrs.map V.str)
  plain : mg "PLAIN" = some (.ref aP)
  plainT : ∀ H, SqT K H aP ([("set" : Str), "add", "skip"].map V.str)
section
variable {P : Program} {w : World} {K : PySem.W.Frag} {mg : Str → Option Value} {base : Heap} {aV aP : Addr} {f : Addr} {fd : FuncData}
abbrev sIsName : Stmt := top 14
abbrev sIsInteger : Stmt := top 15
abbrev sIsVariable : Stmt := top 16
def spIsName : Sp := fun vs H Q _ => ∃ x : Str, vs = [.str x] ∧ IsName x ∧ ∀ H', Same H H' → Q (.bl true) H'
def spIsInteger : Sp := fun vs H Q _ => ∃ n : Int, vs = [.int n] ∧ Q (.bl true) H
def spIsVariable : Sp := fun vs H Q _ => ∃ x : Str, vs = [.str x] ∧ x ∈ vrs ∧ Q (.bl true) H
theorem scIsName : FnScope ["value", "letter"] ["value"] (defScope sIsName) := ⟨rfl, rfl, rfl, by decide +kernel, rfl, by decide +kernel, by decide +kernel⟩
theorem ok_is_name (F : FnF K mg "is_name" sIsName [] [] f fd) (T : G0 K mg aV aP) : Pr P w K mg base "is_name" ["value"] [] 1 spIsName := by
  refine ⟨f, fd, [], F.mg_, F.fn.kp, F.fn.ok0 scIsName (fun vs H Q E h => ?_) (fun cdv A outer s H vs Q E hr h => ?_), .nil, F.fn.bindsN fun _ _ _ _ _ _ us hl => match us, hl with | [_], _ => rfl⟩
  · obtain ⟨x, rfl, _⟩ := h
    rfl
  · obtain ⟨x, rfl, hx, k⟩ := h
    refine ⟨_, pss_cons (ps_if (PW.pt (pw_or (pt_not (pt_val (pe_isi (n := "str") rfl T.isinstance (pv 0) rfl T.str (by decide +kernel))))
        (pw_or1 (pt_not (pt_chain op_le op_le pe_int (pe_callB call_len rfl T.len PySem.boot_len (pa_cons (pv 0) pa_nil)) (pe_gi rfl T.mostLetters))))))
        (pss_one (ps_ret pe_bl)) pss_nil)
      (pss_one (ps_ret (pe_callB (cr_all rfl) rfl T.all (by decide +kernel) (pa_cons
        (pe_lc (own := [("letter", 1)]) (g := gName 1) (tt := tYes) rfl scIsName.nd (pi_str (pv 0)) (blkOk_by (N := ["value", "letter"]) (sc := defScope sIsName) (by decide +kernel))
          (fun _ _ _ _ _ => pg_name (i := 1) scIsName.nd rfl (Or.inl rfl)) (fun _ _ _ _ _ => pts_nil)
          (fun _ _ _ _ _ => pe_cmpR op_in_sign (pv 1) (pe_gs rfl T.letters) (by rfl))) pa_nil)))), ?_⟩
    have hz : x.length ≤ sizeLine := Nat.le_trans hx.hi (by decide)
    refine ⟨_, rfl, _, _, _, _, _, rfl, .ty "str", .base (.str _), kit_ty (b := "str") (r := true) (by decide +kernel), true, rfl, ?_⟩
    refine iteF ?_
    refine ⟨_, rfl, _, _, rfl, ⟨hz, rfl⟩, _, _, rfl, rfl, _, rfl, ?_⟩
    have lo := hx.lo
    have hi := hx.hi
    refine iteA (by rw [decide_eq_true_eq]; omega) ?_
    refine ⟨_, _, rfl, rfl, _, rfl, ?_⟩
    have e2 : decide ((x.length : Int) ≤ 8) = true := by rw [decide_eq_true_eq]; omega
    rw [e2]
    refine iteF ?_
    refine ⟨_, rfl, x, rfl, fun D nD => ?_⟩
    refine lc_it (walk_str (z := x)) (fun i H' => Same H H' ∧ H' D = some (.lst (List.replicate i (V.bl true)))) ⟨Same.new nD _, by rw [upd_same]; rfl⟩ (fun _ _ _ _ => trivial) ?_ ?_
    · rintro i v H1 H2 hi ⟨s1, d1⟩ ⟨rfl, c, hc, rfl⟩
      refine ⟨rfl, ?_⟩
      refine ⟨_, rfl, c, letters, rfl, rfl, List.replicate i (V.bl true), d1, by rw [List.length_replicate]; have : x.cps.size = x.length := rfl; omega, ?_, ?_⟩
      · exact s1.upd nD _
      · rw [upd_same]
        have hm : c ∈ letters.cps.toList := hx.lt c (Array.mem_toList_iff.mpr (Array.mem_of_getElem? hc))
        rw [decide_eq_true hm, List.replicate_succ' (n := i)]
    · rintro H1 ⟨s1, d1⟩
      refine ⟨D, List.replicate x.cps.size true, rfl, SqL.of (by rw [d1, List.map_replicate]), ?_⟩
      have e3 : (List.replicate x.cps.size true).all id = true := by
        rw [List.all_eq_true]
        intro b hb
        exact (List.mem_replicate.mp hb).2
      rw [e3]
      exact k H1 s1
theorem scIsInteger : FnScope ["value"] ["value"] (defScope sIsInteger) := ⟨rfl, rfl, rfl, by decide +kernel, rfl, by decide +kernel, by decide +kernel⟩
theorem ok_is_integer (F : FnF K mg "is_integer" sIsInteger [] [] f fd) (T : G0 K mg aV aP) : Pr P w K mg base "is_integer" ["value"] [] 1 spIsInteger := by
  refine ⟨f, fd, [], F.mg_, F.fn.kp, F.fn.ok0 scIsInteger (fun vs H Q E h => ?_) (fun cdv A outer s H vs Q E hr h => ?_), .nil, F.fn.bindsN fun _ _ _ _ _ _ us hl => match us, hl with | [_], _ => rfl⟩
  · obtain ⟨n, rfl, _⟩ := h
    rfl
  · obtain ⟨n, rfl, k⟩ := h
    refine ⟨_, pss_one (ps_ret (pe_and (pe_isi (n := "int") rfl T.isinstance (pv 0) rfl T.int (by decide +kernel)) (pe_one (pe_not (pe_isi (n := "bool") rfl T.isinstance (pv 0) rfl T.bool (by decide +kernel)))))), ?_⟩
    refine ⟨_, rfl, _, _, _, _, _, rfl, .ty "int", .base (.int _), kit_ty (b := "int") (r := true) (by decide +kernel), true, rfl, ?_⟩
    refine iteT ?_
    refine ⟨_, rfl, _, _, _, _, _, rfl, .ty "bool", .base (.int _), kit_ty (b := "bool") (r := false) (by decide +kernel), false, rfl, ?_⟩
    exact k
theorem scIsVariable : FnScope ["value"] ["value"] (defScope sIsVariable) := ⟨rfl, rfl, rfl, by decide +kernel, rfl, by decide +kernel, by decide +kernel⟩
theorem flat_strs (l : List Str) : (l.map V.str).all flatV = true := by
  rw [List.all_eq_true]
  intro v hv
  obtain ⟨x, _, rfl⟩ := List.mem_map.mp hv
  rfl
theorem inV_strs (x : Str) : ∀ l : List Str, inV (V.str x) (l.map V.str) = decide (x ∈ l)
  | [] => rfl
  | y :: l => by
    have ih := inV_strs x l
    unfold inV at ih ⊢
    rw [List.map_cons, List.any_cons, ih]
    by_cases e : x = y
    · subst e
      simp [eqV]
    · simp [eqV, e, Ne.symm e]
theorem ok_is_variable (F : FnF K mg "is_variable" sIsVariable [] [] f fd) (T : G0 K mg aV aP) : Pr P w K mg base "is_variable" ["value"] [] 1 spIsVariable := by
  refine ⟨f, fd, [], F.mg_, F.fn.kp, F.fn.ok0 scIsVariable (fun vs H Q E h => ?_) (fun cdv A outer s H vs Q E hr h => ?_), .nil, F.fn.bindsN fun _ _ _ _ _ _ us hl => match us, hl with | [_], _ => rfl⟩
  · obtain ⟨n, rfl, _⟩ := h
    rfl
  · obtain ⟨x, rfl, hx, k⟩ := h
    refine ⟨_, pss_one (ps_ret (pe_and (pe_isi (n := "str") rfl T.isinstance (pv 0) rfl T.str (by decide +kernel)) (pe_one (pe_cmpR op_in_seq (pv 0) (pe_gr rfl T.vars) (by rfl))))), ?_⟩
    refine ⟨_, rfl, _, _, _, _, _, rfl, .ty "str", .base (.str _), kit_ty (b := "str") (r := true) (by decide +kernel), true, rfl, ?_⟩
    refine iteT ?_
    refine ⟨_, rfl, aV, vrs.map V.str, rfl, Or.inr (T.varsT H), rfl, flat_strs _, ?_⟩
    rw [if_neg Bool.false_ne_true, inV_strs, decide_eq_true hx]
    exact k
end
end Cy

set_option Elab.async false
set_option linter.all false
set_option maxRecDepth 100000
set_option maxHeartbeats 4000000
/-! A rule for match over texts: cases that are written texts, the last one any. -/
namespace Cy
open PySem PySem.Spec PyProof.Rows L2
structure PMs (X : Cx) (cs : List MatchCase) (r : Str → TS) : Prop where
  run : ∀ (pins : List (Addr × Obj)) (s : Shared) (σ : L2.St) (H : Hp) (D : Ends) (v : Value) (z : Str) (first : Bool), Inv X pins σ H s → RelV (.str z) v → r z D σ H →
    wpAny (model X.prog X.w) X.A (matchCases cs X.env v first) (SP X pins D) X.xe s
section
variable {X : Cx} {body : List Stmt} {rest : List MatchCase} {t : TS} {r : Str → TS} {te : TE} {e : Expr} {p p2 pos : Pos} {j : Nat}
theorem pm_val {x : Str} (hb : PSs X body t) (hr : PMs X rest r) : PMs X (⟨.MatchValue (.Constant (.str x) j p) p2, none, body⟩ :: rest) (fun z D σ H => if z = x then t D σ H else r z D σ H) := by
  refine ⟨fun pins s σ H D v z first I rv h => ?_⟩
  obtain ⟨tk, rfl⟩ := rv
  refine wpAny_matchCases_cons (wpAny_matchPattern_Value (Calls.Constant_str (eq_str (wpAny_truthy_bool ?_))))
  by_cases hz : z = x
  · subst hz
    rw [if_pos rfl] at h
    have e1 : (z == z) = true := beq_self_eq_true z
    simp only [e1, if_true]
    exact wpAny_assignInOrder_none (hb.run pins _ σ H D (I.tok _) h)
  · rw [if_neg hz] at h
    have e1 : (z == x) = false := beq_eq_false_iff_ne.mpr hz
    simp only [e1, Bool.false_eq_true, if_false]
    exact hr.run pins _ σ H D _ z false (I.tok _) ⟨tk, rfl⟩ h
theorem pm_any (hb : PSs X body t) : PMs X [⟨.MatchAs none none p, none, body⟩] (fun _ => t) := by
  refine ⟨fun pins s σ H D v z first I rv h => ?_⟩
  refine wpAny_matchCases_cons (wpAny_matchPattern_Capture ?_)
  exact wpAny_assignInOrder_none (hb.run pins _ σ H D I h)
def tMatchS (te : TE) (r : Str → TS) : TS := fun D σ H => te σ H fun v H1 => ∃ z, v = .str z ∧ r z D σ H1
theorem ps_match {cs : List MatchCase} (he : PE X e te) (hc : PMs X cs r) : PS X (.Match e cs pos) (tMatchS te r) := by
  refine ⟨fun pins s σ H D I h => ?_⟩
  refine wpAny_Match (thn (he.run pins s σ H _ I h) fun v s1 ⟨x, H1, I1, r1, z, ez, q⟩ => ?_)
  subst ez
  exact hc.run pins s1 σ H1 D v z true I1 r1 q
end
end Cy

set_option Elab.async false
set_option linter.all false
set_option maxRecDepth 100000
set_option maxHeartbeats 4000000
/-! programs.py: steps. -/
namespace Cy
open PySem PySem.Spec PyProof.Rows L2
abbrev sIsItem : Stmt := top 21
abbrev sIsStep : Stmt := top 22
abbrev sIsPlain : Stmt := top 23
abbrev sStepModules : Stmt := top 24
/-! ### the items -/
def word : Stp → Str
  | .set _ _ => "set"
  | .add _ _ => "add"
  | .skip _ _ => "skip"
  | .exp _ _ => "export"
  | .read _ _ _ => "read"
  | .need _ => "need"
  | .try_ _ _ => "try"
  | .fail => "fail"
def kinds : Stp → List Str
  | .set _ _ => ["variable", "integer"]
  | .add _ _ => ["variable", "variable"]
  | .skip _ _ => ["variable", "amount"]
  | .exp _ _ => ["name", "variable"]
  | .read _ _ _ => ["variable", "module", "name"]
  | .need _ => ["module"]
  | .try_ _ _ => ["module", "variable"]
  | .fail => []
def its : Stp → List V
  | .set x n => [.str x, .int n]
  | .add x y => [.str x, .str y]
  | .skip x k => [.str x, .int k]
  | .exp l x => [.str l, .str x]
  | .read x m l => [.str x, .str m, .str l]
  | .need m => [.str m]
  | .try_ m x => [.str m, .str x]
  | .fail => []
theorem sv_eq (s : Stp) : sv s = .str (word s) :: its s := by cases s <;> rfl
theorem kinds_le (s : Stp) : (kinds s).length ≤ 3 := by cases s <;> simp [kinds]
theorem its_len (s : Stp) : (its s).length = (kinds s).length := by cases s <;> rfl
theorem sv_len (s : Stp) : (sv s).length = (kinds s).length + 1 := by rw [sv_eq, List.length_cons, its_len]
theorem sv_0 (s : Stp) : (sv s)[0]? = some (.str (word s)) := by rw [sv_eq]; rfl
theorem sv_cut (s : Stp) : cutV (sv s) (some 1) none = its s := by
  rw [sv_eq]
  unfold cutV
  rw [HT.sIx_none, show HT.sIx (V.str (word s) :: its s).length 0 (some 1) = 1 from by
    have h := HT.sIx_nat (V.str (word s) :: its s).length 0 1
    rw [List.length_cons] at h ⊢
    rw [show (some (1 : Int)) = some ((1 : Nat) : Int) from rfl, h]
    omega]
  rw [List.drop_succ_cons, List.drop_zero, List.length_cons, Nat.add_sub_cancel, List.take_length]
theorem sv_part (s : Stp) : ¬ (HT.sIx (sv s).length 0 (some 1) = 0 ∧ HT.sIx (sv s).length (sv s).length none = (sv s).length) := by
  rintro ⟨h, _⟩
  rw [show (some (1 : Int)) = some ((1 : Nat) : Int) from rfl, HT.sIx_nat, sv_len] at h
  omega
/-- what an item of a kind is -/
structure OkI (k : Str) (v : V) : Prop where
  var : k = "variable" → ∃ x, v = .str x ∧ x ∈ vrs
  int : k = "integer" → ∃ n, v = .int n
  amt : k = "amount" → ∃ n : Int, v = .int n ∧ 1 ≤ n
  oth : k ≠ "variable" → k ≠ "integer" → k ≠ "amount" → ∃ x, v = .str x ∧ IsName x
theorem nvi : ¬ ("variable" : Str) = "integer" := by decide +kernel
theorem nva : ¬ ("variable" : Str) = "amount" := by decide +kernel
theorem nia : ¬ ("integer" : Str) = "amount" := by decide +kernel
theorem nnv : ¬ ("name" : Str) = "variable" := by decide +kernel
theorem nni : ¬ ("name" : Str) = "integer" := by decide +kernel
theorem nna : ¬ ("name" : Str) = "amount" := by decide +kernel
theorem nmv : ¬ ("module" : Str) = "variable" := by decide +kernel
theorem nmi : ¬ ("module" : Str) = "integer" := by decide +kernel
theorem nma : ¬ ("module" : Str) = "amount" := by decide +kernel
theorem OkI.v {x : Str} (h : x ∈ vrs) : OkI "variable" (.str x) := ⟨fun _ => ⟨x, rfl, h⟩, fun e => absurd e nvi, fun e => absurd e nva, fun e => absurd rfl e⟩
theorem OkI.i (n : Int) : OkI "integer" (.int n) := ⟨fun e => absurd e.symm nvi, fun _ => ⟨n, rfl⟩, fun e => absurd e nia, fun _ e => absurd rfl e⟩
theorem OkI.a {n : Int} (h : 1 ≤ n) : OkI "amount" (.int n) := ⟨fun e => absurd e.symm nva, fun e => absurd e.symm nia, fun _ => ⟨n, rfl, h⟩, fun _ _ e => absurd rfl e⟩
theorem OkI.n {x : Str} (h : IsName x) : OkI "name" (.str x) := ⟨fun e => absurd e nnv, fun e => absurd e nni, fun e => absurd e nna, fun _ _ _ => ⟨x, rfl, h⟩⟩
theorem OkI.m {x : Str} (h : IsName x) : OkI "module" (.str x) := ⟨fun e => absurd e nmv, fun e => absurd e nmi, fun e => absurd e nma, fun _ _ _ => ⟨x, rfl, h⟩⟩
/-- a step whose items are right -/
def OkS : Stp → Prop
  | .set x _ => x ∈ vrs
  | .add x y => x ∈ vrs ∧ y ∈ vrs
  | .skip x k => x ∈ vrs ∧ 1 ≤ k
  | .exp l x => IsName l ∧ x ∈ vrs
  | .read x m l => x ∈ vrs ∧ IsName m ∧ IsName l
  | .need m => IsName m
  | .try_ m x => IsName m ∧ x ∈ vrs
  | .fail => True
theorem OkS.items {s : Stp} (h : OkS s) : ∀ (i : Nat) (k : Str) (v : V), (kinds s)[i]? = some k → (its s)[i]? = some v → OkI k v := by
  have all : Paired OkI (kinds s) (its s) := by
    cases s with
    | set x n => exact .cons (OkI.v h) (.cons (OkI.i n) .nil)
    | add x y => exact .cons (OkI.v h.1) (.cons (OkI.v h.2) .nil)
    | skip x k => exact .cons (OkI.v h.1) (.cons (OkI.a (by have := h.2; omega)) .nil)
    | exp l x => exact .cons (OkI.n h.1) (.cons (OkI.v h.2) .nil)
    | read x m l => exact .cons (OkI.v h.1) (.cons (OkI.m h.2.1) (.cons (OkI.n h.2.2) .nil))
    | need m => exact .cons (OkI.m h) .nil
    | try_ m x => exact .cons (OkI.m h.1) (.cons (OkI.v h.2) .nil)
    | fail => exact .nil
  intro i k v h1 h2
  revert i
  generalize kinds s = l1 at all
  generalize its s = l2 at all
  induction all with
  | nil => intro i h1; cases i <;> cases h1
  | cons a _ ih =>
    intro i h1 h2
    cases i with
    | zero => cases h1; cases h2; exact a
    | succ i => exact ih i h1 h2
/-- where a step stands -/
def StepAt (H : Hp) (v : V) (s : Stp) : Prop := ∃ a, v = .ref a ∧ H a = some (.tup (sv s))
theorem StepAt.mono {H H' : Hp} {v : V} {s : Stp} (e : ∀ b xs, H b = some (.tup xs) → H' b = some (.tup xs)) (h : StepAt H v s) : StepAt H' v s := by
  obtain ⟨a, e1, e2⟩ := h
  exact ⟨a, e1, e _ _ e2⟩
/-! ### a step as data -/
def pdV : V → PyData
  | .int i => .int i
  | .str x => .str x
  | .bl b => .bool b
  | _ => .none
def simpV : V → Bool
  | .int _ => true
  | .str x => PyData.strOk x
  | _ => false
theorem letters_ok : ∀ c ∈ letters.cps.toList, c < 0x110000 := by decide +kernel
theorem IsName.ok {x : Str} (h : IsName x) : PyData.strOk x = true := by
  unfold PyData.strOk
  rw [Array.all_eq_true']
  intro c hc
  exact decide_eq_true (letters_ok c (h.lt c (Array.mem_toList_iff.mpr hc)))
theorem vrs_ok {x : Str} (h : x ∈ vrs) : PyData.strOk x = true := by
  have all : ∀ y ∈ vrs, PyData.strOk y = true := by decide +kernel
  exact all x h
theorem word_ok (s : Stp) : PyData.strOk (word s) = true := by
  have all : ∀ y ∈ ([("set" : Str), "add", "skip", "export", "read", "need", "try", "fail"] : List Str), PyData.strOk y = true := by decide +kernel
  refine all _ ?_
  cases s <;> simp [word]
theorem dpAll_simp {K : PySem.W.Frag} {H : Hp} : ∀ {vs : List V}, (∀ v ∈ vs, simpV v = true) → DpAll K H vs (vs.map pdV)
  | [], _ => .nil
  | v :: vs, h => by
    refine .cons ?_ (dpAll_simp fun u hu => h u (List.mem_cons_of_mem _ hu))
    have h0 := h v List.mem_cons_self
    cases v with
    | int i => exact .int i
    | str x => exact .str x
    | _ => cases h0
theorem sv_simp {s : Stp} (h : OkS s) : ∀ v ∈ sv s, simpV v = true := by
  intro v hv
  rw [sv_eq] at hv
  rcases List.mem_cons.mp hv with rfl | hv
  · exact word_ok s
  · cases s with
    | set x n => simp only [its, List.mem_cons, List.not_mem_nil, or_false] at hv; rcases hv with rfl | rfl; exact vrs_ok h; rfl
    | add x y => simp only [its, List.mem_cons, List.not_mem_nil, or_false] at hv; rcases hv with rfl | rfl; exact vrs_ok h.1; exact vrs_ok h.2
    | skip x k => simp only [its, List.mem_cons, List.not_mem_nil, or_false] at hv; rcases hv with rfl | rfl; exact vrs_ok h.1; rfl
    | exp l x => simp only [its, List.mem_cons, List.not_mem_nil, or_false] at hv; rcases hv with rfl | rfl; exact h.1.ok; exact vrs_ok h.2
    | read x m l => simp only [its, List.mem_cons, List.not_mem_nil, or_false] at hv; rcases hv with rfl | rfl | rfl; exact vrs_ok h.1; exact h.2.1.ok; exact h.2.2.ok
    | need m => simp only [its, List.mem_cons, List.not_mem_nil, or_false] at hv; rw [hv]; exact IsName.ok h
    | try_ m x => simp only [its, List.mem_cons, List.not_mem_nil, or_false] at hv; rcases hv with rfl | rfl; exact h.1.ok; exact vrs_ok h.2
    | fail => cases hv
theorem canLay_simp : ∀ {vs : List V}, (∀ v ∈ vs, simpV v = true) → PyData.canLayAll0 (vs.map pdV) = true ∧ PyData.depthAll (vs.map pdV) = 0
  | [], _ => ⟨by simp [PyData.canLayAll0], by simp [PyData.depthAll]⟩
  | v :: vs, h => by
    obtain ⟨h1, h2⟩ := canLay_simp fun u hu => h u (List.mem_cons_of_mem _ hu)
    have h0 := h v List.mem_cons_self
    cases v with
    | int i => simp [pdV, PyData.canLayAll0, PyData.canLay0, PyData.depthAll, PyData.depth, h1, h2]
    | str x =>
      have h3 : PyData.strOk x = true := h0
      simp [pdV, PyData.canLayAll0, PyData.canLay0, PyData.depthAll, PyData.depth, h1, h2, h3]
    | _ => cases h0
theorem shaped_sv {s : Stp} (h : OkS s) : SeqAt.shaped (.tuple ((sv s).map pdV)) = true := by
  obtain ⟨h1, h2⟩ := canLay_simp (sv_simp h)
  unfold SeqAt.shaped
  simp [PyData.canLay0, PyData.depth, h1, h2]
theorem eqv_empty (s : Stp) : PyData.eqv (.tuple ((sv s).map pdV)) (.tuple []) = false := by
  rw [sv_eq, List.map_cons]
  simp [PyData.eqv, PyData.eqvAll]
theorem walk_zipT {K : PySem.W.Frag} {a b : Addr} {xs ys : List V} (hl : xs.length = ys.length) : Walk (RZ.ItzT K a b) xs.length (fun H => SqT K H a xs ∧ SqT K H b ys) (YPair (fun i => xs[i]?) (fun i => ys[i]?)) := by
  refine ⟨fun i H hi q => ⟨xs, ys, xs[i], ys[i]'(by omega), q.1, q.2, by simp [hi], by simp [show i < ys.length by omega]⟩, fun H q => ⟨xs, ys, q.1, q.2, by omega⟩, fun i H x H' hi q y => ?_⟩
  obtain ⟨T, u, z, h1, h2, h3, h4, h5⟩ := y
  exact ⟨T, u, z, h1, h2, h3, h4 xs q.1, h5 ys q.2⟩
/-! ### FORMS -/
structure GF (K : PySem.W.Frag) (w : World) (mg : Str → Option Value) (aF : Addr) (fk : Str → Addr) : Prop where
  forms : mg "FORMS" = some (.ref aF)
  kd : ∃ es n, KDict K w aF es n
  at_ : ∀ s : Stp, ∃ u, PySem.W.nsIn K aF (word s) = some (some u) ∧ RelV (.ref (fk (word s))) u ∧ ∀ H, SqT K H (fk (word s)) ((kinds s).map V.str)
section
variable {P : Program} {w : World} {K : PySem.W.Frag} {mg : Str → Option Value} {base : Heap} {aV aP aF : Addr} {fk : Str → Addr} {f : Addr} {fd : FuncData}
def spIsItem : Sp := fun vs H Q _ => ∃ (k : Str) (v : V), vs = [.str k, v] ∧ OkI k v ∧ ∀ H', Same H H' → Q (.bl true) H'
def spIsStep : Sp := fun vs H Q _ => ∃ (a : Addr) (s : Stp), vs = [.ref a] ∧ H a = some (.tup (sv s)) ∧ OkS s ∧ ∀ H', Same H H' → Q (.bl true) H'
def isPl : Stp → Bool
  | .set _ _ => true
  | .add _ _ => true
  | .skip _ _ => true
  | _ => false
def spIsPlain : Sp := fun vs H Q _ => ∃ (a : Addr) (s : Stp), vs = [.ref a] ∧ H a = some (.tup (sv s)) ∧ OkS s ∧ ∀ H', Same H H' → Q (.bl (isPl s)) H'
def spStepModules : Sp := fun vs H Q _ => ∃ (a : Addr) (s : Stp), vs = [.ref a] ∧ H a = some (.tup (sv s)) ∧ ∀ p H', Same H H' → H p = none → H' p = some (.lst ((asks s).map V.str)) → Q (.ref p) H'
theorem scIsItem : FnScope ["kind", "value"] ["kind", "value"] (defScope sIsItem) := ⟨rfl, rfl, rfl, by decide +kernel, rfl, by decide +kernel, by decide +kernel⟩
theorem ok_is_item (F : FnF K mg "is_item" sIsItem [] [] f fd) (h1 : Pr P w K mg base "is_variable" ["value"] [] 1 spIsVariable) (h2 : Pr P w K mg base "is_integer" ["value"] [] 1 spIsInteger)
    (h3 : Pr P w K mg base "is_name" ["value"] [] 1 spIsName) : Pr P w K mg base "is_item" ["kind", "value"] [] 2 spIsItem := by
  refine ⟨f, fd, [], F.mg_, F.fn.kp, F.fn.ok0 scIsItem (fun vs H Q E h => ?_) (fun cdv A outer s H vs Q E hr h => ?_), .nil, F.fn.bindsN fun _ _ _ _ _ _ us hl => match us, hl with | [_, _], _ => rfl⟩
  · obtain ⟨k, v, rfl, _⟩ := h
    rfl
  · obtain ⟨k, v, rfl, hk, q⟩ := h
    refine ⟨_, pss_one (ps_match (pv 0) (pm_val (pss_one (ps_ret (pe_pr h1 hr rfl (pa_cons (pv 1) pa_nil))))
      (pm_val (pss_one (ps_ret (pe_pr h2 hr rfl (pa_cons (pv 1) pa_nil))))
      (pm_val (pss_one (ps_ret (pe_and (pe_pr h2 hr rfl (pa_cons (pv 1) pa_nil)) (pe_one (pe_cmpR op_ge (pv 1) pe_int (nomark _))))))
      (pm_any (pss_one (ps_ret (pe_pr h3 hr rfl (pa_cons (pv 1) pa_nil))))))))), ?_⟩
    refine ⟨_, rfl, k, rfl, ?_⟩
    refine ite2 (fun e => ?_) (fun e1 => ?_)
    · obtain ⟨x, rfl, hx⟩ := hk.var e
      exact ⟨_, rfl, x, rfl, hx, q H (Same.refl H)⟩
    · refine ite2 (fun e => ?_) (fun e2 => ?_)
      · obtain ⟨n, rfl⟩ := hk.int e
        exact ⟨_, rfl, n, rfl, q H (Same.refl H)⟩
      · refine ite2 (fun e => ?_) (fun e3 => ?_)
        · obtain ⟨n, rfl, hn⟩ := hk.amt e
          refine ⟨_, rfl, n, rfl, true, rfl, ?_⟩
          refine iteT ?_
          refine ⟨_, rfl, _, _, rfl, rfl, ?_⟩
          show Q (.bl (decide (1 ≤ n))) H
          rw [decide_eq_true hn]
          exact q H (Same.refl H)
        · obtain ⟨x, rfl, hx⟩ := hk.oth e1 e2 e3
          exact ⟨_, rfl, x, rfl, hx, q⟩
theorem scIsStep : FnScope ["value", "kinds", "kind", "item"] ["value"] (defScope sIsStep) := ⟨rfl, rfl, rfl, by decide +kernel, rfl, by decide +kernel, by decide +kernel⟩
theorem ok_is_step (F : FnF K mg "is_step" sIsStep [] [] f fd) (T : G0 K mg aV aP) (TF : GF K w mg aF fk) (h1 : Pr P w K mg base "is_item" ["kind", "value"] [] 2 spIsItem) : Pr P w K mg base "is_step" ["value"] [] 3 spIsStep := by
  refine ⟨f, fd, [], F.mg_, F.fn.kp, F.fn.ok0 scIsStep (fun vs H Q E h => ?_) (fun cdv A outer s H vs Q E hr h => ?_), .nil, F.fn.bindsN fun _ _ _ _ _ _ us hl => match us, hl with | [_], _ => rfl⟩
  · obtain ⟨a, z, rfl, _⟩ := h
    rfl
  · obtain ⟨a, z, rfl, ha, hz, q⟩ := h
    obtain ⟨es, n, D⟩ := TF.kd
    obtain ⟨u, hu1, hu2, hu3⟩ := TF.at_ z
    refine ⟨_, pss_cons (ps_if (PW.pt (pw_or (pt_not (pt_val (pe_isi (n := "tuple") rfl T.isinstance (pv 0) rfl T.tuple (by decide +kernel))))
        (pw_or (pt_cmpR (op_eqD hr.units) (pv 0) (pe_tup pa_nil) (nomark _))
        (pw_or (pt_not (pt_val (pe_isi (n := "str") rfl T.isinstance (pe_ix ix_tup (pv 0) pe_int (fun _ _ => rfl)) rfl T.str (by decide +kernel))))
        (pw_or1 (pt_cmpR (op_notIn_kd D) (pe_ix ix_tup (pv 0) pe_int (fun _ _ => rfl)) (pe_gr rfl TF.forms) (by rfl)))))))
        (pss_one (ps_ret pe_bl)) pss_nil)
      (pss_cons (ps_set (i := 1) scIsStep.nd rfl (Or.inl rfl) (pe_ix ix_kdict (pe_gr rfl TF.forms) (pe_ix ix_tup (pv 0) pe_int (fun _ _ => rfl)) (fun _ _ => rfl)))
      (pss_cons (ps_if (pt_cmpR op_ne (pe_callB call_len rfl T.len PySem.boot_len (pa_cons (pv 0) pa_nil)) (pe_op op_add (pe_callB call_len rfl T.len PySem.boot_len (pa_cons (pv 1) pa_nil)) pe_int) (nomark _)) (pss_one (ps_ret pe_bl)) pss_nil)
      (pss_one (ps_ret (pe_callB (cr_all rfl) rfl T.all (by decide +kernel) (pa_cons
        (pe_lc (own := [("kind", 2), ("item", 3)]) (g := gTwo K 2 3) (tt := tYes) rfl scIsStep.nd (RZ.pi_zipA rfl T.zip (pa_cons (pv 1) (pa_cons (pe_slice sl_tup (pv 0) (po_some pe_int) po_none) pa_nil))) (blkOk_by (N := ["value", "kinds", "kind", "item"]) (sc := defScope sIsStep) (by decide +kernel))
          (fun _ _ _ _ _ => pg_tup rfl (pgs_cons (pg_name (i := 2) scIsStep.nd rfl (Or.inl rfl)) (pgs_cons (pg_name (i := 3) scIsStep.nd rfl (Or.inl rfl)) pgs_nil))) (fun _ _ _ _ _ => pts_nil)
          (fun _ _ _ _ _ => pe_pr h1 hr rfl (pa_cons (pv 2) (pa_cons (pv 3) pa_nil)))) pa_nil)))))), ?_⟩
    have hT : SqT K H a (sv z) := SqT.of ha
    -- isinstance(value, tuple)
    refine ⟨_, rfl, _, _, _, _, _, rfl, .ty "tuple", .base (.tup ha), kit_ty (b := "tuple") (r := true) (by decide +kernel), true, rfl, ?_⟩
    refine iteF ?_
    -- value == ()
    refine ⟨_, rfl, ⟨by decide, fun p np => ?_⟩⟩
    have s1 : Same H (upd H p (.tup [])) := Same.new np _
    refine ⟨.tuple ((sv z).map pdV), .tuple [], .tup (s1.seqT hT) (dpAll_simp (sv_simp hz)), .tup (SqT.of upd_same) .nil, shaped_sv hz, by decide +kernel, false, by rw [eqv_empty], ?_⟩
    refine iteF ?_
    -- isinstance(value[0], str)
    refine ⟨_, rfl, a, sv z, _, _, rfl, rfl, s1.seqT hT, atI_nat (sv_0 z), _, _, _, _, _, rfl, .ty "str", .base (.str _), kit_ty (b := "str") (r := true) (by decide +kernel), true, rfl, ?_⟩
    refine iteF ?_
    -- value[0] not in FORMS
    refine ⟨_, rfl, a, sv z, _, _, rfl, rfl, s1.seqT hT, atI_nat (sv_0 z), word z, _, rfl, rfl, hu1, false, rfl, ?_⟩
    refine iteF ?_
    -- kinds
    refine ⟨_, rfl, a, sv z, _, _, rfl, rfl, s1.seqT hT, atI_nat (sv_0 z), aF, word z, .ref (fk (word z)), rfl, rfl, ⟨es, n, u, D.at_, D.lit, hu1, hu2⟩, ?_⟩
    -- the lengths
    refine ⟨_, rfl, _, (sv z).length, rfl, Or.inr ⟨sv z, s1.seqT hT, rfl⟩, _, rfl, _, ((kinds z).map V.str).length, rfl, Or.inr ⟨_, hu3 _, rfl⟩, _, _, rfl, rfl, rfl, _, rfl, ?_⟩
    have el : ((sv z).length : Int) = (((kinds z).map V.str).length : Int) + 1 := by rw [sv_len, List.length_map]; omega
    refine iteNS (by rw [el]) ?_
    -- all(..)
    refine ⟨_, rfl, _, rfl, _, rfl, a, sv z, rfl, s1.seqT hT, sv_part z, fun p2 np2 => ?_⟩
    have s2 : Same H (upd (upd H p (.tup [])) p2 (.tup (cutV (sv z) (some 1) none))) := s1.upd (s1.free np2) _
    refine ⟨fk (word z), p2, (kinds z).map V.str, its z, rfl, Or.inr ⟨hu3 _, SqT.of (by rw [sv_cut]; exact upd_same), fun L nL => ?_⟩⟩
    have nL0 : H L = none := s2.free nL
    refine lc_it (walk_zipT (xs := (kinds z).map V.str) (ys := its z) (by rw [List.length_map, its_len])) (fun i H' => Same (upd (upd H p (.tup [])) p2 (.tup (cutV (sv z) (some 1) none))) H' ∧ H' L = some (.lst (List.replicate i (V.bl true)))) ⟨Same.new nL _, by rw [upd_same]; rfl⟩ (fun i H' _ h => ⟨hu3 _, h.1.seqT (SqT.of (by rw [sv_cut]; exact upd_same))⟩) ?_ ?_
    · rintro i v H1 H2 hi ⟨t1, d1⟩ ⟨X, y, it, rfl, nX, rfl, ey, eit⟩
      rw [List.length_map] at hi
      dsimp only at ey eit
      obtain ⟨kd, ekd, rfl⟩ : ∃ kd, (kinds z)[i]? = some kd ∧ V.str kd = y := by
        rw [List.getElem?_map] at ey
        cases e : (kinds z)[i]? with
        | none => rw [e] at ey; cases ey
        | some kd => rw [e] at ey; exact ⟨kd, rfl, Option.some.inj ey⟩
      refine ⟨X, _, rfl, SqT.of upd_same, rfl, _, _, rfl, ?_⟩
      refine ⟨_, _, rfl, rfl, rfl, ?_⟩
      refine ⟨_, rfl, _, rfl, kd, it, rfl, hz.items i kd it ekd eit, fun H3 t3 => ?_⟩
      have LX : L ≠ X := ne_of_none d1 nX
      refine ⟨List.replicate i (V.bl true), t3 _ _ (by rw [upd_ne LX]; exact d1), by rw [List.length_replicate]; exact Nat.lt_of_lt_of_le (Nat.lt_of_lt_of_le hi (kinds_le z)) (by decide), ?_, ?_⟩
      · exact (((t1.upd (t1.free nX) _).trans t3)).upd nL _
      · rw [upd_same, List.replicate_succ' (n := i)]
    · rintro H1 ⟨t1, d1⟩
      refine ⟨L, List.replicate ((kinds z).map V.str).length true, rfl, SqL.of (by rw [d1, List.map_replicate]), ?_⟩
      have e3 : (List.replicate ((kinds z).map V.str).length true).all id = true := by
        rw [List.all_eq_true]
        intro b hb
        exact (List.mem_replicate.mp hb).2
      rw [e3]
      exact q H1 (s2.trans t1)
end
end Cy

set_option Elab.async false
set_option linter.all false
set_option maxRecDepth 100000
set_option maxHeartbeats 4000000
/-! Calls with keywords, by promises. -/
namespace Cy
open PySem PySem.Spec PyProof.Rows L2
/-- a def called by name with n positional values and keywords ks -/
structure PrK (P : Program) (w : World) (K : PySem.W.Frag) (mg : Str → Option Value) (base : Heap) (x : Str) (n : Nat) (ks : List Str) (gV : List V → List V → List V) (k : Nat) (sp : Sp) : Prop where
  ex : ∃ (f : Addr) (fd : FuncData) (ps : List Str) (g : List Value → List Value → List Value), mg x = some (.ref f) ∧ PySem.W.keepIn K (.ref f) = true ∧ FnOk P w K mg base CX0 k f fd ps sp ∧ KBn K fd ps n ks g gV
structure PrMK (P : Program) (w : World) (K : PySem.W.Frag) (mg : Str → Option Value) (base : Heap) (C : Addr) (m : Str) (ks : List Str) (gV : List V → List V → List V) (k : Nat) (sp : Sp) : Prop where
  ex : ∃ (f : Addr) (fd : FuncData) (ps : List Str) (g : List Value → List Value → List Value), Meth K C m f ∧ FnOk P w K mg base CX0 k f fd ps sp ∧ KBn K fd ps 1 ks g gV
def tMethK (C : Addr) (m : Str) (j : Nat) (sp : Sp) (gV : List V → List V → List V) (E : XK) (ta : TE) (t : TA) : TE := fun σ H Q => ta σ H fun x H1 => ∃ a dx fs, x = .ref a ∧ H1 a = some (.ins C dx fs) ∧ fs.lookup m = none ∧
  t σ H1 fun zs H2 => zs.length = j ∧ sp (gV [x] zs) H2 Q E
section
variable {X : Cx} {k n : Nat} {C : Addr} {ks : List Str} {sp : Sp} {x m : Str} {p pos apos : Pos} {e o : Expr} {es : List Expr} {kws : List Keyword} {ta : TE} {t tk : TA} {gV : List V → List V → List V}
theorem pe_prk (h : PrK X.prog X.w X.K X.mg X.base x n ks gV k sp) (hr : Room k X.A) (hg : Gl X x) (ha : PA X (e :: es) t) (hkw : PK X kws tk)
    (hall : (backToKw pos (keywordEach kws X.env)).all (·.1.isSome) = true := by rfl)
    (hks : (backToKw pos (keywordEach kws X.env)).filterMap (·.1) = ks := by rfl)
    (hdb : (x == ("__debug__" : Str)) = false := by decide)
    (he : starEach (e :: es) X.env = (false, eval e X.env) :: starEach es X.env := by rfl)
    (hpl : ((backTo pos (starEach (e :: es) X.env)).any (·.1) || (backToKw pos (keywordEach kws X.env)).any (·.1.isNone)) = false := by rfl) :
    PE X (.Call (.Name x p) (e :: es) kws pos) (tCallN n ks.length sp gV E0 t tk) := by
  obtain ⟨f, fd, ps, g, hm, hk, F, hb⟩ := h.ex
  exact pe_callN F hr hg hm hk hb pass0 ha hkw hall hks hdb he hpl
theorem pe_prmk {pl : Sem Bool} (he : PE X o ta) (c : Cls X.K C) (h : PrMK X.prog X.w X.K X.mg X.base C m ks gV k sp) (hr : Room k X.A) (hkw : PK X kws tk)
    (hall : (backToKw pos (keywordEach kws X.env)).all (·.1.isSome) = true := by rfl)
    (hks : (backToKw pos (keywordEach kws X.env)).filterMap (·.1) = ks := by rfl)
    (hpl : ((backTo pos (starEach [] X.env)).any (·.1) || (backToKw pos (keywordEach kws X.env)).any (·.1.isNone)) = false := by rfl)
    (ht : eval (.Call (.Attribute o m apos) [] kws pos) X.env = (do
      let ov ← eval o X.env
      standAt apos.atName
      let (f, first) ← holding [ov] (getMethod ov m pl)
      callWith pos f first (backTo pos (starEach [] X.env)) (backToKw pos (keywordEach kws X.env))) := by rfl) :
    PE X (.Call (.Attribute o m apos) [] kws pos) (tMethK C m ks.length sp gV E0 ta tk) := by
  obtain ⟨f, fd, ps, g, hm, F, hb⟩ := h.ex
  refine ⟨fun pins s σ H Q I h => ?_⟩
  refine PySem.W.methodCall_KW (pl := pl) (thn (he.run pins s σ H _ I h) fun u s1 ⟨x, H1, I1, rx, a, dx, fs, ex, ea, l, q⟩ => ?_) ht
  subst ex
  obtain rfl : u = Value.ref a := rx
  refine getmeth_ok I1 ea c hm l ?_
  refine PySem.W.callWith_KW0 (first := [.ref a]) (h₀ := X.base) I.ok.mod.kin hm.kp hall ?_ hpl
  refine thn (hkw.run pos pins s1 σ H1 _ I1 q) fun ws s2 ⟨zs, H2, I2, rz, l2, q2⟩ => ⟨I2.kIn, ?_⟩
  rw [hks]
  exact run_fnN (us := [.ref a]) (vs := [.ref a]) F hr hb pass0 I2 (.cons rfl .nil) rz rfl l2 q2
end
end Cy

set_option Elab.async false
set_option linter.all false
set_option maxRecDepth 100000
set_option maxHeartbeats 4000000
/-! programs.py: plain steps, modules of a step, problems. -/
namespace Cy
open PySem PySem.Spec PyProof.Rows L2
abbrev sIsWrong : Stmt := top 25
abbrev sFirst : Stmt := top 26
abbrev sCheckProgram : Stmt := top 27
def isSkip : Stp → Bool
  | .skip _ _ => true
  | _ => false
def isExp : Stp → Bool
  | .exp _ _ => true
  | _ => false
def pick (l : List (Str × V)) : List V := (l.filter fun p => decide (p.1 = ("module" : Str))).map (·.2)
theorem nvm : ¬ ("variable" : Str) = "module" := by decide +kernel
theorem nim : ¬ ("integer" : Str) = "module" := by decide +kernel
theorem nam : ¬ ("amount" : Str) = "module" := by decide +kernel
theorem nnm : ¬ ("name" : Str) = "module" := by decide +kernel
theorem pick_cons (k : Str) (v : V) (l : List (Str × V)) : pick ((k, v) :: l) = if k = ("module" : Str) then v :: pick l else pick l := by
  unfold pick
  by_cases e : k = "module"
  · rw [if_pos e, List.filter_cons_of_pos (by simp [e])]
    rfl
  · rw [if_neg e, List.filter_cons_of_neg (by simp [e])]
theorem pick_all (s : Stp) : pick ((kinds s).zip (its s)) = (asks s).map V.str := by
  cases s with
  | set x n => show pick [("variable", .str x), ("integer", .int n)] = []; rw [pick_cons, if_neg nvm, pick_cons, if_neg nim]; rfl
  | add x y => show pick [("variable", .str x), ("variable", .str y)] = []; rw [pick_cons, if_neg nvm, pick_cons, if_neg nvm]; rfl
  | skip x k => show pick [("variable", .str x), ("amount", .int k)] = []; rw [pick_cons, if_neg nvm, pick_cons, if_neg nam]; rfl
  | exp l x => show pick [("name", .str l), ("variable", .str x)] = []; rw [pick_cons, if_neg nnm, pick_cons, if_neg nvm]; rfl
  | read x m l => show pick [("variable", .str x), ("module", .str m), ("name", .str l)] = [.str m]; rw [pick_cons, if_neg nvm, pick_cons, if_pos rfl, pick_cons, if_neg nnm]; rfl
  | need m => show pick [("module", .str m)] = [.str m]; rw [pick_cons, if_pos rfl]; rfl
  | try_ m x => show pick [("module", .str m), ("variable", .str x)] = [.str m]; rw [pick_cons, if_pos rfl, pick_cons, if_neg nvm]; rfl
  | fail => rfl
theorem pick_snoc (l : List (Str × V)) (k : Str) (v : V) : pick (l ++ [(k, v)]) = if k = ("module" : Str) then pick l ++ [v] else pick l := by
  unfold pick
  rw [List.filter_append, List.map_append]
  by_cases e : k = "module"
  · rw [if_pos e, List.filter_cons_of_pos (by simp [e])]
    rfl
  · rw [if_neg e, List.filter_cons_of_neg (by simp [e])]
    exact List.append_nil _
theorem word_skip {s : Stp} : word s = "skip" ↔ isSkip s = true := by
  have h : ∀ x ∈ ([("set" : Str), "add", "export", "read", "need", "try", "fail"] : List Str), ¬ x = "skip" := by decide +kernel
  cases s with
  | skip _ _ => exact ⟨fun _ => rfl, fun _ => rfl⟩
  | set _ _ => exact ⟨fun e => absurd e (h _ (by simp [word])), fun e => Bool.noConfusion e⟩
  | add _ _ => exact ⟨fun e => absurd e (h _ (by simp [word])), fun e => Bool.noConfusion e⟩
  | exp _ _ => exact ⟨fun e => absurd e (h _ (by simp [word])), fun e => Bool.noConfusion e⟩
  | read _ _ _ => exact ⟨fun e => absurd e (h _ (by simp [word])), fun e => Bool.noConfusion e⟩
  | need _ => exact ⟨fun e => absurd e (h _ (by simp [word])), fun e => Bool.noConfusion e⟩
  | try_ _ _ => exact ⟨fun e => absurd e (h _ (by simp [word])), fun e => Bool.noConfusion e⟩
  | fail => exact ⟨fun e => absurd e (h _ (by simp [word])), fun e => Bool.noConfusion e⟩
theorem word_exp {s : Stp} : word s = "export" ↔ isExp s = true := by
  have h : ∀ x ∈ ([("set" : Str), "add", "skip", "read", "need", "try", "fail"] : List Str), ¬ x = "export" := by decide +kernel
  cases s with
  | exp _ _ => exact ⟨fun _ => rfl, fun _ => rfl⟩
  | set _ _ => exact ⟨fun e => absurd e (h _ (by simp [word])), fun e => Bool.noConfusion e⟩
  | add _ _ => exact ⟨fun e => absurd e (h _ (by simp [word])), fun e => Bool.noConfusion e⟩
  | skip _ _ => exact ⟨fun e => absurd e (h _ (by simp [word])), fun e => Bool.noConfusion e⟩
  | read _ _ _ => exact ⟨fun e => absurd e (h _ (by simp [word])), fun e => Bool.noConfusion e⟩
  | need _ => exact ⟨fun e => absurd e (h _ (by simp [word])), fun e => Bool.noConfusion e⟩
  | try_ _ _ => exact ⟨fun e => absurd e (h _ (by simp [word])), fun e => Bool.noConfusion e⟩
  | fail => exact ⟨fun e => absurd e (h _ (by simp [word])), fun e => Bool.noConfusion e⟩
theorem word_plain (s : Stp) : decide (word s ∈ ([("set" : Str), "add", "skip"] : List Str)) = isPl s := by
  have h : ∀ x ∈ ([("export" : Str), "read", "need", "try", "fail"] : List Str), ¬ x ∈ ([("set" : Str), "add", "skip"] : List Str) := by decide +kernel
  cases s with
  | set _ _ => exact decide_eq_true (by simp [word])
  | add _ _ => exact decide_eq_true (by simp [word])
  | skip _ _ => exact decide_eq_true (by simp [word])
  | exp _ _ => exact decide_eq_false (h _ (by simp [word]))
  | read _ _ _ => exact decide_eq_false (h _ (by simp [word]))
  | need _ => exact decide_eq_false (h _ (by simp [word]))
  | try_ _ _ => exact decide_eq_false (h _ (by simp [word]))
  | fail => exact decide_eq_false (h _ (by simp [word]))
theorem asks_le (s : Stp) : (asks s).length ≤ 1 := by
  cases s <;> first | exact Nat.le_refl 1 | exact Nat.zero_le 1
/-- the modules that may occur: None, or a list -/
def KnOk (H : Hp) (kn : V) (l : List Str) : Prop := kn = .non ∨ ∃ (b : Addr) (names : List Str), kn = .ref b ∧ H b = some (.lst (names.map V.str)) ∧ ∀ m ∈ l, m ∈ names
theorem KnOk.mono {H H' : Hp} {kn : V} {l : List Str} (h : KnOk H kn l) (e : Same H H') : KnOk H' kn l := by
  rcases h with h | ⟨b, names, h1, h2, h3⟩
  · exact .inl h
  · exact .inr ⟨b, names, h1, e _ _ h2, h3⟩
/-- nothing is wrong with a step -/
structure Rt (s : Stp) (after : Int) (main : Bool) : Prop where
  ok : OkS s
  sk : ∀ x k, s = .skip x k → (k : Int) ≤ after
  ex : main = true → isExp s = false
section
variable {P : Program} {w : World} {K : PySem.W.Frag} {mg : Str → Option Value} {base : Heap} {aV aP aF : Addr} {fk : Str → Addr} {f : Addr} {fd : FuncData}
theorem scIsPlain : FnScope ["step"] ["step"] (defScope sIsPlain) := ⟨rfl, rfl, rfl, by decide +kernel, rfl, by decide +kernel, by decide +kernel⟩
theorem ok_is_plain (F : FnF K mg "is_plain" sIsPlain [] [] f fd) (T : G0 K mg aV aP) (h1 : Pr P w K mg base "is_step" ["value"] [] 3 spIsStep) : Pr P w K mg base "is_plain" ["step"] [] 4 spIsPlain := by
  refine ⟨f, fd, [], F.mg_, F.fn.kp, F.fn.ok0 scIsPlain (fun vs H Q E h => ?_) (fun cdv A outer s H vs Q E hr h => ?_), .nil, F.fn.bindsN fun _ _ _ _ _ _ us hl => match us, hl with | [_], _ => rfl⟩
  · obtain ⟨a, z, rfl, _⟩ := h
    rfl
  · obtain ⟨a, z, rfl, ha, hz, q⟩ := h
    refine ⟨_, pss_one (ps_ret (pe_and (pe_pr h1 hr rfl (pa_cons (pv 0) pa_nil)) (pe_one (pe_cmpR op_in_seq (pe_ix ix_tup (pv 0) pe_int (fun _ _ => rfl)) (pe_gr rfl T.plain) (by rfl))))), ?_⟩
    refine ⟨_, rfl, a, z, rfl, ha, hz, fun H' s1 => ?_⟩
    refine ⟨true, rfl, ?_⟩
    refine iteT ?_
    refine ⟨_, rfl, a, sv z, _, _, rfl, rfl, s1.seqT (SqT.of ha), atI_nat (sv_0 z), aP, _, rfl, Or.inr (T.plainT H'), rfl, flat_strs _, ?_⟩
    rw [if_neg Bool.false_ne_true, inV_strs, word_plain]
    exact q H' s1
theorem scStepModules : FnScope ["step", "kind", "item"] ["step"] (defScope sStepModules) := ⟨rfl, rfl, rfl, by decide +kernel, rfl, by decide +kernel, by decide +kernel⟩
theorem ok_step_modules (F : FnF K mg "step_modules" sStepModules [] [] f fd) (T : G0 K mg aV aP) (TF : GF K w mg aF fk) : Pr P w K mg base "step_modules" ["step"] [] 1 spStepModules := by
  refine ⟨f, fd, [], F.mg_, F.fn.kp, F.fn.ok0 scStepModules (fun vs H Q E h => ?_) (fun cdv A outer s H vs Q E hr h => ?_), .nil, F.fn.bindsN fun _ _ _ _ _ _ us hl => match us, hl with | [_], _ => rfl⟩
  · obtain ⟨a, z, rfl, _⟩ := h
    rfl
  · obtain ⟨a, z, rfl, ha, q⟩ := h
    obtain ⟨es, n, D⟩ := TF.kd
    obtain ⟨u, hu1, hu2, hu3⟩ := TF.at_ z
    refine ⟨_, pss_one (ps_ret (pe_lc (own := [("kind", 1), ("item", 2)]) (g := gTwo K 1 2) rfl scStepModules.nd
        (RZ.pi_zipA rfl T.zip (pa_cons (pe_ix ix_kdict (pe_gr rfl TF.forms) (pe_ix ix_tup (pv 0) pe_int (fun _ _ => rfl)) (fun _ _ => rfl)) (pa_cons (pe_slice sl_tup (pv 0) (po_some pe_int) po_none) pa_nil)))
        (blkOk_by (N := ["step", "kind", "item"]) (sc := defScope sStepModules) (by decide +kernel))
        (fun _ _ _ _ _ => pg_tup rfl (pgs_cons (pg_name (i := 1) scStepModules.nd rfl (Or.inl rfl)) (pgs_cons (pg_name (i := 2) scStepModules.nd rfl (Or.inl rfl)) pgs_nil)))
        (fun _ _ _ _ _ => pts_one (pt_cmpR op_eq (pv 1) pe_str (nomark _))) (fun _ _ _ _ _ => pv 2))), ?_⟩
    have hT : SqT K H a (sv z) := SqT.of ha
    refine ⟨_, rfl, a, sv z, _, _, rfl, rfl, hT, atI_nat (sv_0 z), aF, word z, .ref (fk (word z)), rfl, rfl, ⟨es, n, u, D.at_, D.lit, hu1, hu2⟩, ?_⟩
    refine ⟨_, rfl, _, rfl, a, sv z, rfl, hT, sv_part z, fun p2 np2 => ?_⟩
    have s2 : Same H (upd H p2 (.tup (cutV (sv z) (some 1) none))) := Same.new np2 _
    refine ⟨fk (word z), p2, (kinds z).map V.str, its z, rfl, Or.inr ⟨hu3 _, SqT.of (by rw [sv_cut]; exact upd_same), fun L nL => ?_⟩⟩
    have nL0 : H L = none := s2.free nL
    refine lc_it (walk_zipT (xs := (kinds z).map V.str) (ys := its z) (by rw [List.length_map, its_len])) (fun i H' => Same (upd H p2 (.tup (cutV (sv z) (some 1) none))) H' ∧ H' L = some (.lst (pick (((kinds z).zip (its z)).take i)))) ⟨Same.new nL _, by rw [upd_same]; rfl⟩ (fun i H' _ h => ⟨hu3 _, h.1.seqT (SqT.of (by rw [sv_cut]; exact upd_same))⟩) ?_ ?_
    · rintro i v H1 H2 hi ⟨t1, d1⟩ ⟨X, y, it, rfl, nX, rfl, ey, eit⟩
      rw [List.length_map] at hi
      dsimp only at ey eit
      obtain ⟨kd, ekd, rfl⟩ : ∃ kd, (kinds z)[i]? = some kd ∧ V.str kd = y := by
        rw [List.getElem?_map] at ey
        cases e : (kinds z)[i]? with
        | none => rw [e] at ey; cases ey
        | some kd => rw [e] at ey; exact ⟨kd, rfl, Option.some.inj ey⟩
      have ez : ((kinds z).zip (its z))[i]? = some (kd, it) := List.getElem?_zip_eq_some.mpr ⟨ekd, eit⟩
      have et : ((kinds z).zip (its z)).take (i + 1) = ((kinds z).zip (its z)).take i ++ [(kd, it)] := by rw [List.take_add_one, ez]; rfl
      have LX : L ≠ X := ne_of_none d1 nX
      have t2 := t1.upd (t1.free nX) (.tup [V.str kd, it])
      refine ⟨X, _, rfl, SqT.of upd_same, rfl, _, _, rfl, ?_⟩
      refine ⟨_, _, rfl, rfl, rfl, ?_⟩
      refine ⟨_, rfl, rfl, _, rfl, ?_⟩
      have eD : decide (V.str kd = V.str "module") = decide (kd = "module") := by
        by_cases e : kd = "module"
        · rw [e]; simp
        · rw [decide_eq_false e, decide_eq_false (fun q => e (V.str.inj q))]
      refine ite2 (fun e => ?_) (fun e => ?_)
      · have e' : kd = "module" := V.str.inj (of_decide_eq_true e)
        refine ⟨_, rfl, _, by rw [upd_ne LX]; exact d1, ?_, t2.upd nL _, ?_⟩
        · refine Nat.lt_of_le_of_lt (Nat.le_trans ?_ (kinds_le z)) (by decide)
          unfold pick
          rw [List.length_map]
          refine Nat.le_trans (List.length_filter_le _ _) ?_
          rw [List.length_take, List.length_zip]
          omega
        · rw [upd_same, et, pick_snoc, if_pos e']
      · have e' : ¬ kd = "module" := fun q => e (decide_eq_true (congrArg V.str q))
        refine ⟨t2, ?_⟩
        rw [upd_ne LX, et, pick_snoc, if_neg e']
        exact d1
    · rintro H1 ⟨t1, d1⟩
      refine q L H1 (s2.trans t1) nL0 ?_
      rw [d1, List.length_map, ← pick_all, List.take_of_length_le]
      rw [List.length_zip]
      omega
def spIsWrong : Sp := fun vs H Q _ => ∃ (a : Addr) (s : Stp) (after : Int) (main : Bool) (kn : V), vs = [.ref a, .int after, .bl main, kn] ∧ H a = some (.tup (sv s)) ∧ Rt s after main ∧ KnOk H kn (asks s) ∧ ∀ H', Same H H' → Q (.bl false) H'
theorem scIsWrong : FnScope ["step", "after", "is_main", "known", "module"] ["step", "after", "is_main", "known"] (defScope sIsWrong) := ⟨rfl, rfl, rfl, by decide +kernel, rfl, by decide +kernel, by decide +kernel⟩
theorem ok_is_wrong (F : FnF K mg "is_wrong" sIsWrong [] [] f fd) (T : G0 K mg aV aP) (h1 : Pr P w K mg base "is_step" ["value"] [] 3 spIsStep) (h2 : Pr P w K mg base "step_modules" ["step"] [] 1 spStepModules) :
    Pr P w K mg base "is_wrong" ["step", "after", "is_main", "known"] [] 4 spIsWrong := by
  refine ⟨f, fd, [], F.mg_, F.fn.kp, F.fn.ok0 scIsWrong (fun vs H Q E h => ?_) (fun cdv A outer s H vs Q E hr h => ?_), .nil, F.fn.bindsN fun _ _ _ _ _ _ us hl => match us, hl with | [_, _, _, _], _ => rfl⟩
  · obtain ⟨a, z, n, b, kn, rfl, _⟩ := h
    rfl
  · obtain ⟨a, z, af, main, kn, rfl, ha, hz, hk, q⟩ := h
    have hr1 : Room 1 _ := hr.mono (by decide)
    refine ⟨_, pss_mid (ps_if (PW.pt (pw_or (pt_not (pt_val (pe_pr h1 hr rfl (pa_cons (pv 0) pa_nil))))
        (pw_or1 (PW.pt (pw_and (pt_cmpR op_eq (pe_ix ix_tup (pv 0) pe_int (fun _ _ => rfl)) pe_str (nomark _)) (pw_and1 (pt_cmpR op_gt (pe_ix ix_tup (pv 0) pe_int (fun _ _ => rfl)) (pv 1) (nomark _))))))))
        (pss_one (ps_ret pe_bl)) pss_nil)
      (pss_mid (ps_if (PW.pt (pw_and (pt_val (pv 2)) (pw_and1 (pt_cmpR op_eq (pe_ix ix_tup (pv 0) pe_int (fun _ _ => rfl)) pe_str (nomark _))))) (pss_one (ps_ret pe_bl)) pss_nil)
      (pss_one (ps_ret (pe_and (pe_cmp (pc_notN (pv 3))) (pe_one (pe_not (pe_callB (cr_all rfl) rfl T.all (by decide +kernel) (pa_cons
        (pe_lc (own := [("module", 4)]) (g := gName 4) (tt := tYes) (te := tOp (rIn K false) (tVar 4) (tVar 3)) rfl scIsWrong.nd (pi_list (pe_pr h2 hr1 rfl (pa_cons (pv 0) pa_nil)))
          (blkOk_by (N := ["step", "after", "is_main", "known", "module"]) (sc := defScope sIsWrong) (by decide +kernel))
          (fun _ _ _ _ _ => pg_name (i := 4) scIsWrong.nd rfl (Or.inl rfl)) (fun _ _ _ _ _ => pts_nil)
          (fun _ _ _ _ _ => pe_cmpR op_in_seq (pv 4) (pv 3) (by rfl))) pa_nil)))))))), ?_⟩
    have rd : ∀ {H' : Hp}, Same H H' → SqT K H' a (sv z) := fun s => s.seqT (SqT.of ha)
    have e2 : ∀ {c : Bool} {y : Str}, (decide (word z = y) = c) → decide (V.str (word z) = V.str y) = c := fun {c y} h => by
      rw [← h]
      by_cases e : word z = y
      · rw [e]; simp
      · rw [decide_eq_false e, decide_eq_false (fun q => e (V.str.inj q))]
    refine ⟨fun σ' H' => σ' = start ["step", "after", "is_main", "known", "module"] [.ref a, .int af, .bl main, kn] ∧ Same H H', ?_, ?_⟩
    · -- is_step; a skip of too many
      refine ⟨_, rfl, a, z, rfl, ha, hz.ok, fun H1 s1 => ⟨true, rfl, ?_⟩⟩
      refine iteF ?_
      refine ⟨_, rfl, a, sv z, _, _, rfl, rfl, rd s1, atI_nat (sv_0 z), rfl, decide (word z = "skip"), congrArg V.bl (e2 rfl), ?_⟩
      refine ite2 (fun e => ?_) (fun e => iteF ⟨rfl, s1⟩)
      have hs : isSkip z = true := word_skip.mp (of_decide_eq_true e)
      obtain ⟨x, k, rfl⟩ : ∃ x k, z = .skip x k := by
        cases z with
        | skip x k => exact ⟨x, k, rfl⟩
        | _ => exact Bool.noConfusion hs
      have hk2 := hz.sk x k rfl
      refine ⟨_, rfl, a, _, 2, .int k, rfl, rfl, rd s1, atI_nat (j := 2) rfl, _, rfl, _, _, rfl, rfl, false, ?_, iteF ⟨rfl, s1⟩⟩
      show V.bl (decide (af < (k : Int))) = V.bl false
      rw [decide_eq_false (by omega)]
    · rintro σ' H1 ⟨rfl, s1⟩
      refine ⟨fun σ' H' => σ' = start ["step", "after", "is_main", "known", "module"] [.ref a, .int af, .bl main, kn] ∧ Same H H', ?_, ?_⟩
      · refine ⟨_, rfl, main, rfl, ?_⟩
        refine ite2 (fun e => ?_) (fun e => iteF ⟨rfl, s1⟩)
        have hx := hz.ex e
        have ne : decide (word z = "export") = false := decide_eq_false fun q => by rw [word_exp.mp q] at hx; cases hx
        exact ⟨_, rfl, a, sv z, _, _, rfl, rfl, rd s1, atI_nat (sv_0 z), rfl, false, congrArg V.bl (e2 ne), iteF ⟨rfl, s1⟩⟩
      · rintro σ' H2 ⟨rfl, s2⟩
        refine ⟨_, rfl, _, rfl, ?_⟩
        rcases hk with rfl | ⟨b, names, rfl, hb, hm⟩
        · refine iteF ?_
          exact q H2 s2
        · refine iteT ?_
          refine ⟨_, rfl, a, z, rfl, s2 _ _ ha, fun p H3 s3 np hp => ?_⟩
          refine ⟨p, rfl, ⟨_, SqL.of hp⟩, fun D nD => ?_⟩
          have sb : SqL K H3 b (names.map V.str) := SqL.of (s3 _ _ (s2 _ _ hb))
          refine lc_it (walk_list (xs := (asks z).map V.str)) (fun i H' => Same H3 H' ∧ H' D = some (.lst (List.replicate i (V.bl true)))) ⟨Same.new nD _, by rw [upd_same]; rfl⟩ (fun i H' _ h => SqL.of (h.1 _ _ hp)) ?_ ?_
          · rintro i v H4 H5 hi ⟨t1, d1⟩ ⟨rfl, ei⟩
            rw [List.getElem?_map] at ei
            obtain ⟨m, em, rfl⟩ := Option.map_eq_some_iff.mp ei
            refine ⟨rfl, ?_⟩
            have hmem : m ∈ names := hm m (List.mem_of_getElem? em)
            refine ⟨_, rfl, _, rfl, b, names.map V.str, rfl, Or.inl (t1.seq sb), rfl, flat_strs _, ?_⟩
            rw [if_neg Bool.false_ne_true, inV_strs, decide_eq_true hmem]
            refine ⟨_, d1, ?_, t1.upd nD _, ?_⟩
            · rw [List.length_replicate]
              rw [List.length_map] at hi
              exact Nat.lt_of_lt_of_le (Nat.lt_of_lt_of_le hi (asks_le z)) (by decide)
            · rw [upd_same, List.replicate_succ' (n := i)]
          · rintro H4 ⟨t1, d1⟩
            refine ⟨D, List.replicate ((asks z).map V.str).length true, rfl, SqL.of (by rw [d1, List.map_replicate]), true, ?_, ?_⟩
            · congr 1
              rw [List.all_eq_true]
              intro b hb
              exact (List.mem_replicate.mp hb).2
            · exact q H4 ((s2.trans s3).trans t1)
end
end Cy

set_option Elab.async false
set_option linter.all false
set_option maxRecDepth 100000
set_option maxHeartbeats 4000000
/-! programs.py: first_problem, check_program. -/
namespace Cy
open PySem PySem.Spec PyProof.Rows L2
/-- a list of steps -/
abbrev Steps (H : Hp) : List V → List Stp → Prop := Paired (StepAt H)
theorem Paired.at {α β : Type} {R : α → β → Prop} : ∀ {l : List α} {m : List β}, Paired R l m → ∀ (i : Nat) (a : α), l[i]? = some a → ∃ b, m[i]? = some b ∧ R a b
  | _, _, .nil, i, a, h => by cases i <;> cases h
  | _, _, .cons r _, 0, a, h => by cases h; exact ⟨_, rfl, r⟩
  | _, _, .cons _ t, i + 1, a, h => Paired.at t i a h
theorem Paired.at2 {α β : Type} {R : α → β → Prop} : ∀ {l : List α} {m : List β}, Paired R l m → ∀ (i : Nat) (b : β), m[i]? = some b → ∃ a, l[i]? = some a ∧ R a b
  | _, _, .nil, i, a, h => by cases i <;> cases h
  | _, _, .cons r _, 0, a, h => by cases h; exact ⟨_, rfl, r⟩
  | _, _, .cons _ t, i + 1, a, h => Paired.at2 t i a h
theorem Paired.len {α β : Type} {R : α → β → Prop} : ∀ {l : List α} {m : List β}, Paired R l m → l.length = m.length
  | _, _, .nil => rfl
  | _, _, .cons _ t => by rw [List.length_cons, List.length_cons, Paired.len t]
theorem Paired.imp {α β : Type} {R R' : α → β → Prop} (f : ∀ a b, R a b → R' a b) : ∀ {l : List α} {m : List β}, Paired R l m → Paired R' l m
  | _, _, .nil => .nil
  | _, _, .cons r t => .cons (f _ _ r) (Paired.imp f t)
theorem Steps.mono {H H' : Hp} (e : Same H H') {l : List V} {p : List Stp} (h : Steps H l p) : Steps H' l p := Paired.imp (fun _ _ r => r.mono fun b xs => e b _) h
/-- a program without a problem -/
structure RtP (H : Hp) (p : List Stp) (main : Bool) (kn : V) : Prop where
  len : p.length ≤ 30
  at_ : ∀ (i : Nat) (s : Stp), p[i]? = some s → Rt s ((p.length : Int) - 1 - i) main ∧ KnOk H kn (asks s)
section
variable {P : Program} {w : World} {K : PySem.W.Frag} {mg : Str → Option Value} {base : Heap} {aV aP aF : Addr} {fk : Str → Addr} {f : Addr} {fd : FuncData}
def spFirst : Sp := fun vs H Q _ => ∃ (a : Addr) (xs : List V) (p : List Stp) (main : Bool) (kn : V), vs = [.ref a, .bl main, kn] ∧ H a = some (.lst xs) ∧ Steps H xs p ∧ RtP H p main kn ∧ ∀ H', Same H H' → Q .non H'
theorem scFirst : FnScope ["value", "is_main", "known", "position", "step"] ["value", "is_main", "known"] (defScope sFirst) := ⟨rfl, rfl, rfl, by decide +kernel, rfl, by decide +kernel, by decide +kernel⟩
theorem fn_first (F : FnF K mg "first_problem" sFirst [] [("is_main", .bl false), ("known", .non)] f fd) (T : G0 K mg aV aP) (h1 : Pr P w K mg base "is_wrong" ["step", "after", "is_main", "known"] [] 4 spIsWrong) :
    FnOk P w K mg base CX0 5 f fd ["value", "is_main", "known"] spFirst := by
  refine F.fn.ok0 scFirst (fun vs H Q E h => ?_) (fun cdv A outer s H vs Q E hr h => ?_)
  · obtain ⟨a, xs, p, b, kn, rfl, _⟩ := h
    rfl
  · obtain ⟨a, xs, p, main, kn, rfl, ha, hp, hk, q⟩ := h
    refine ⟨_, pss_cons (ps_if (PW.pt (pw_or (pt_not (pt_val (pe_isi (n := "list") rfl T.isinstance (pv 0) rfl T.list (by decide +kernel))))
        (pw_or1 (pt_cmpR op_gt (pe_callB call_len rfl T.len PySem.boot_len (pa_cons (pv 0) pa_nil)) (pe_gi rfl T.mostSteps) (nomark _)))))
        (pss_one (ps_ret (pe_un un_neg pe_int))) pss_nil)
      (pss_cons (ps_for PassesOwn.never rfl (pi_enum rfl T.enumerate (pa_cons (pv 0) pa_nil)) (pg_tup rfl (pgs_cons (pg_name (i := 3) scFirst.nd rfl (Or.inl rfl)) (pgs_cons (pg_name (i := 4) scFirst.nd rfl (Or.inl rfl)) pgs_nil)))
        (pss_one (ps_if (pt_val (pe_pr h1 hr rfl (pa_cons (pv 4) (pa_cons (pe_op op_sub (pe_op op_sub (pe_callB call_len rfl T.len PySem.boot_len (pa_cons (pv 0) pa_nil)) pe_int) (pv 3)) (pa_cons (pv 1) (pa_cons (pv 2) pa_nil))))))
          (pss_one (ps_ret (pv 3))) pss_nil)))
      (pss_one (ps_ret pe_non))), ?_⟩
    have el : xs.length = p.length := Paired.len hp
    have hl := hk.len
    refine ⟨_, rfl, _, _, _, _, _, rfl, .ty "list", .base (.lst ha), kit_ty (b := "list") (r := true) (by decide +kernel), true, rfl, ?_⟩
    refine iteF ?_
    refine ⟨_, rfl, _, xs.length, rfl, Or.inl ⟨xs, SqL.of ha, rfl⟩, _, _, rfl, rfl, false, ?_, ?_⟩
    · show V.bl (decide ((30 : Int) < xs.length)) = V.bl false
      rw [decide_eq_false (by omega)]
    refine iteF ?_
    refine ⟨_, rfl, a, xs, rfl, SqL.of ha, ?_⟩
    refine for_it (walk_enum (K := K) (a := a) (xs := xs)) (fun i σ H' => Same H H' ∧ ∃ u v, σ = [some (.ref a), some (.bl main), some kn, u, v]) ⟨Same.refl H, none, none, rfl⟩ (fun i σ H' _ h => SqL.of (h.1 _ _ ha)) ?_ ?_
    · rintro i v σ H1 H2 hi ⟨s1, u1, v1, rfl⟩ ⟨X, y, z, rfl, nX, rfl, ey, ez⟩
      dsimp only at ey ez
      cases ey
      obtain ⟨st, est, b, rfl, hb⟩ := Paired.at hp i z ez
      have s2 : Same H (upd H1 X (.tup [.int (i : Nat), .ref b])) := s1.upd (s1.free nX) _
      obtain ⟨r1, r2⟩ := hk.at_ i st est
      refine ⟨X, _, rfl, SqT.of upd_same, rfl, _, _, rfl, ?_⟩
      refine ⟨_, _, rfl, rfl, ?_⟩
      refine ⟨_, rfl, _, rfl, _, xs.length, rfl, Or.inl ⟨xs, SqL.of (s2 _ _ ha), rfl⟩, _, _, rfl, rfl, _, rfl, _, _, rfl, rfl, _, rfl, _, rfl, b, st, _, main, kn, rfl, s2 _ _ hb, by rw [el]; exact r1, r2.mono s2, fun H3 s3 => ?_⟩
      exact ⟨false, rfl, iteF ⟨s2.trans s3, _, _, rfl⟩⟩
    · rintro σ H1 ⟨s1, u1, v1, rfl⟩
      exact q H1 s1
theorem kb_main : ∀ {vs mz zs : List V} {us mv ws : List Value}, Vals vs us → Vals mz mv → Vals zs ws → Vals (vs ++ (zs ++ mz)) (us ++ (ws ++ mv)) := fun a b c => a.append (c.append b)
/-- first_problem(value, is_main = b) -/
theorem ok_first_m (F : FnF K mg "first_problem" sFirst [] [("is_main", .bl false), ("known", .non)] f fd) (G : FnOk P w K mg base CX0 5 f fd ["value", "is_main", "known"] spFirst) :
    PrK P w K mg base "first_problem" 1 ["is_main"] (fun vs zs => vs ++ (zs ++ [.non])) 5 spFirst := by
  obtain ⟨mv, hb⟩ := F.fn.kbinds0 (ps := ["value", "is_main", "known"]) 1 ["is_main"] [("known", .non)] (fun us mv ws => us ++ (ws ++ mv)) (by simp) (by simp) (fun a b c => a.append (c.append b))
    (fun D doc pm an cdv ct us mv ws l1 l2 l3 => match us, mv, ws, l1, l2, l3 with | [_], [_], [_], _, _, _ => ⟨_, _, _, _, _, _, rfl, rfl, rfl⟩)
  exact ⟨f, fd, _, _, F.mg_, F.fn.kp, G, hb⟩
/-- first_problem(value, known = l) -/
theorem ok_first_k (F : FnF K mg "first_problem" sFirst [] [("is_main", .bl false), ("known", .non)] f fd) (G : FnOk P w K mg base CX0 5 f fd ["value", "is_main", "known"] spFirst) :
    PrK P w K mg base "first_problem" 1 ["known"] (fun vs zs => vs ++ ([.bl false] ++ zs)) 5 spFirst := by
  obtain ⟨mv, hb⟩ := F.fn.kbinds0 (ps := ["value", "is_main", "known"]) 1 ["known"] [("is_main", .bl false)] (fun us mv ws => us ++ (mv ++ ws)) (by simp) (by simp) (fun a b c => a.append (b.append c))
    (fun D doc pm an cdv ct us mv ws l1 l2 l3 => match us, mv, ws, l1, l2, l3 with | [_], [_], [_], _, _, _ => ⟨_, _, _, _, _, _, rfl, rfl, rfl⟩)
  exact ⟨f, fd, _, _, F.mg_, F.fn.kp, G, hb⟩
/-- first_problem(value, is_main = b, known = l) -/
theorem ok_first_mk (F : FnF K mg "first_problem" sFirst [] [("is_main", .bl false), ("known", .non)] f fd) (G : FnOk P w K mg base CX0 5 f fd ["value", "is_main", "known"] spFirst) :
    PrK P w K mg base "first_problem" 1 ["is_main", "known"] (fun vs zs => vs ++ zs) 5 spFirst := by
  obtain ⟨mv, hb⟩ := F.fn.kbinds0 (ps := ["value", "is_main", "known"]) 1 ["is_main", "known"] [] (fun us mv ws => us ++ ws) (by simp) (by simp) (fun a b c => a.append c)
    (fun D doc pm an cdv ct us mv ws l1 l2 l3 => match us, mv, ws, l1, l2, l3 with | [_], [], [_, _], _, _, _ => rfl)
  exact ⟨f, fd, _, _, F.mg_, F.fn.kp, G, hb⟩
def spCheckProgram : Sp := fun vs H Q _ => ∃ (a : Addr) (xs : List V) (p : List Stp) (main : Bool), vs = [.ref a, .bl main] ∧ H a = some (.lst xs) ∧ Steps H xs p ∧ RtP H p main .non ∧ ∀ H', Same H H' → Q .non H'
theorem scCheckProgram : FnScope ["value", "is_main", "problem"] ["value", "is_main"] (defScope sCheckProgram) := ⟨rfl, rfl, rfl, by decide +kernel, rfl, by decide +kernel, by decide +kernel⟩
theorem ok_check_program (F : FnF K mg "check_program" sCheckProgram [] [("is_main", .bl false)] f fd) (h1 : PrK P w K mg base "first_problem" 1 ["is_main"] (fun vs zs => vs ++ (zs ++ [.non])) 5 spFirst) :
    Pr P w K mg base "check_program" ["value", "is_main"] [.bl false] 6 spCheckProgram := by
  have hb : ∃ ds, Vals [V.bl false] ds ∧ Binds K fd ["value", "is_main"] ds := F.fn.binds0 1 (by simp) rfl (fun D doc pm an cdv ct us ks l1 l2 => match us, ks, l1, l2 with | [_], [_], _, _ => ⟨_, _, _, _, _, _, rfl, rfl, rfl⟩)
  obtain ⟨ds, hd, hb⟩ := hb
  refine ⟨f, fd, ds, F.mg_, F.fn.kp, F.fn.ok0 scCheckProgram (fun vs H Q E h => ?_) (fun cdv A outer s H vs Q E hr h => ?_), hd, hb⟩
  · obtain ⟨a, xs, p, b, rfl, _⟩ := h
    rfl
  · obtain ⟨a, xs, p, main, rfl, ha, hp, hk, q⟩ := h
    refine ⟨_, pss_cons (ps_set (i := 2) scCheckProgram.nd rfl (Or.inl rfl) (pe_prk h1 hr rfl (pa_cons (pv 0) pa_nil) (pk_cons (pv 1) pk_nil)))
      (pss_one (ps_if (pt_cmp (pc_notN (pv 2))) (pss_one ps_never) pss_nil)), ?_⟩
    refine ⟨_, rfl, _, rfl, rfl, rfl, a, xs, p, main, .non, rfl, ha, hp, hk, fun H1 s1 => ?_⟩
    refine ⟨_, rfl, _, rfl, ?_⟩
    exact iteF (q H1 s1)
end
end Cy

set_option Elab.async false
set_option linter.all false
set_option maxRecDepth 100000
set_option maxHeartbeats 4000000
/-! frames.py -/
namespace Cy
open PySem PySem.Spec PyProof.Rows L2
abbrev sFrInit : Stmt := inClass (top 29) 0
abbrev sIsOver : Stmt := inClass (top 29) 5
abbrev sNextStep : Stmt := inClass (top 29) 6
abbrev sVariables : Stmt := inClass (top 29) 8
abbrev sMove : Stmt := inClass (top 29) 9
abbrev sRunPlain : Stmt := inClass (top 29) 10
abbrev sPassStep : Stmt := inClass (top 29) 11
theorem Steps.monoK {S : Addr → Prop} {H H' : Hp} (e : Kp S H H') {l : List V} {p : List Stp} (h : Steps H l p) : Steps H' l p := Paired.imp (fun _ _ r => r.mono fun b xs q => e.tup q) h
/-! ### the fields -/
theorem k_si : ¬ ("own_steps" : Str) = "own_index" := by decide +kernel
theorem k_sv : ¬ ("own_steps" : Str) = "own_values" := by decide +kernel
theorem k_se : ¬ ("own_steps" : Str) = "own_executed" := by decide +kernel
theorem k_iv : ¬ ("own_index" : Str) = "own_values" := by decide +kernel
theorem k_ie : ¬ ("own_index" : Str) = "own_executed" := by decide +kernel
theorem k_ve : ¬ ("own_values" : Str) = "own_executed" := by decide +kernel
def frF (st : Addr) (i : Int) (vl ex : Addr) : List (Str × V) := [("own_steps", .ref st), ("own_index", .int i), ("own_values", .ref vl), ("own_executed", .ref ex)]
theorem frF_make (st : Addr) (i : Int) (vl ex : Addr) : putF "own_executed" (.ref ex) (putF "own_values" (.ref vl) (putF "own_index" (.int i) (putF "own_steps" (.ref st) []))) = frF st i vl ex := by
  unfold frF
  simp only [putF, k_si, k_sv, k_se, k_iv, k_ie, k_ve, if_false]
theorem frF_put (st : Addr) (i j : Int) (vl ex : Addr) : putF "own_index" (.int j) (frF st i vl ex) = frF st j vl ex := by
  unfold frF
  simp only [putF, k_si, if_false, if_true]
theorem look_ne {f g : Str} (h : ¬ f = g) (v : V) (r : List (Str × V)) : List.lookup f ((g, v) :: r) = List.lookup f r := by
  have hb : (f == g) = false := beq_eq_false_iff_ne.mpr h
  simp only [List.lookup, hb]
theorem look_eq (f : Str) (v : V) (r : List (Str × V)) : List.lookup f ((f, v) :: r) = some v := by
  have hb : (f == f) = true := beq_self_eq_true f
  simp only [List.lookup, hb]
theorem frF_s (st : Addr) (i : Int) (vl ex : Addr) : (frF st i vl ex).lookup ("own_steps" : Str) = some (V.ref st) := look_eq _ _ _
theorem frF_i (st : Addr) (i : Int) (vl ex : Addr) : (frF st i vl ex).lookup ("own_index" : Str) = some (V.int i) := by
  unfold frF; rw [look_ne (Ne.symm k_si), look_eq]
theorem frF_v (st : Addr) (i : Int) (vl ex : Addr) : (frF st i vl ex).lookup ("own_values" : Str) = some (V.ref vl) := by
  unfold frF; rw [look_ne (Ne.symm k_sv), look_ne (Ne.symm k_iv), look_eq]
theorem frF_e (st : Addr) (i : Int) (vl ex : Addr) : (frF st i vl ex).lookup ("own_executed" : Str) = some (V.ref ex) := by
  unfold frF; rw [look_ne (Ne.symm k_se), look_ne (Ne.symm k_ie), look_ne (Ne.symm k_ve), look_eq]
theorem frF_no {m : Str} (h1 : ¬ m = "own_steps") (h2 : ¬ m = "own_index") (h3 : ¬ m = "own_values") (h4 : ¬ m = "own_executed") (st : Addr) (i : Int) (vl ex : Addr) : (frF st i vl ex).lookup m = none := by
  unfold frF; rw [look_ne h1, look_ne h2, look_ne h3, look_ne h4]; rfl
/-- the class -/
structure GFr (K : PySem.W.Frag) (mg : Str → Option Value) (CF : Addr) : Prop where
  cl : Cls K CF
  mgC : mg "Frame" = some (.ref CF)
  nS : NoAttr K CF "own_steps"
  nI : NoAttr K CF "own_index"
  nV : NoAttr K CF "own_values"
  nE : NoAttr K CF "own_executed"
/-- a frame at f: its steps at st, values at vl, executed ones at ex -/
structure FrAt (CF : Addr) (H : Hp) (f st vl ex : Addr) (p : List Stp) (i : Nat) (g : Str → Int) : Prop where
  ob : ∃ dx, H f = some (.ins CF dx (frF st i vl ex))
  sts : ∃ xs, H st = some (.lst xs) ∧ Steps H xs p
  vls : H vl = some (.dK (vDict g))
  exs : ∃ xs, H ex = some (.lst xs) ∧ xs.length ≤ i
  ne : st ≠ ex
  hi : i ≤ p.length
  le : p.length ≤ 30
section
variable {CF : Addr} {H H' : Hp} {f st vl ex : Addr} {p : List Stp} {i : Nat} {g : Str → Int}
theorem FrAt.mono {S : Addr → Prop} (h : FrAt CF H f st vl ex p i g) (e : Kp S H H') (h1 : ¬ S f) (h2 : ¬ S st) (h3 : ¬ S vl) (h4 : ¬ S ex) : FrAt CF H' f st vl ex p i g := by
  obtain ⟨⟨dx, a⟩, ⟨xs, b1, b2⟩, c, ⟨ys, d1, d2⟩, n, hi, le⟩ := h
  exact ⟨⟨dx, e.at a h1⟩, ⟨xs, e.at b1 h2, b2.monoK e⟩, e.at c h3, ⟨ys, e.at d1 h4, d2⟩, n, hi, le⟩
theorem FrAt.same (h : FrAt CF H f st vl ex p i g) (e : Same H H') : FrAt CF H' f st vl ex p i g := h.mono (S := fun _ => False) (Kp.of e) id id id id
theorem FrAt.f_vl (h : FrAt CF H f st vl ex p i g) : f ≠ vl := by
  obtain ⟨dx, a⟩ := h.ob
  exact ne_of a h.vls (by intro z; cases z)
theorem FrAt.f_ex (h : FrAt CF H f st vl ex p i g) : f ≠ ex := by
  obtain ⟨dx, a⟩ := h.ob
  obtain ⟨xs, b, _⟩ := h.exs
  exact ne_of a b (by intro z; cases z)
theorem FrAt.f_st (h : FrAt CF H f st vl ex p i g) : f ≠ st := by
  obtain ⟨dx, a⟩ := h.ob
  obtain ⟨xs, b, _⟩ := h.sts
  exact ne_of a b (by intro z; cases z)
theorem FrAt.st_vl (h : FrAt CF H f st vl ex p i g) : st ≠ vl := by
  obtain ⟨xs, b, _⟩ := h.sts
  exact ne_of b h.vls (by intro z; cases z)
theorem FrAt.ex_vl (h : FrAt CF H f st vl ex p i g) : ex ≠ vl := by
  obtain ⟨xs, b, _⟩ := h.exs
  exact ne_of b h.vls (by intro z; cases z)
/-- the values are stored -/
theorem FrAt.put (h : FrAt CF H f st vl ex p i g) (g' : Str → Int) : FrAt CF (upd H vl (.dK (vDict g'))) f st vl ex p i g' ∧ Kp (fun b => b = vl) H (upd H vl (.dK (vDict g'))) := by
  have k : Kp (fun b => b = vl) H (upd H vl (.dK (vDict g'))) := (Kp.refl H).upd (S := fun b => b = vl) (fun _ h => h) (.inl rfl) (nt_dK h.vls) _
  obtain ⟨dx, a⟩ := h.ob
  obtain ⟨xs, b1, b2⟩ := h.sts
  obtain ⟨ys, d1, d2⟩ := h.exs
  exact ⟨⟨⟨dx, k.at a h.f_vl⟩, ⟨xs, k.at b1 h.st_vl, b2.monoK k⟩, upd_same, ⟨ys, k.at d1 h.ex_vl, d2⟩, h.ne, h.hi, h.le⟩, k⟩
end
section
variable {P : Program} {w : World} {K : PySem.W.Frag} {mg : Str → Option Value} {base : Heap} {aV aP aF CF : Addr} {fk : Str → Addr} {fa : Addr} {fd : FuncData}
def spFrInit (CF : Addr) : Sp := fun vs H Q _ => ∃ (f dx a : Addr) (xs : List V) (p : List Stp), vs = [.ref f, .ref a] ∧ H f = some (.ins CF dx []) ∧ H a = some (.lst xs) ∧ Steps H xs p ∧ RtP H p false .non ∧
  ∀ st vl ex H', FrAt CF H' f st vl ex p 0 f0 → Kp (fun b => b = f) H H' → H st = none → H vl = none → H ex = none → Q .non H'
def spIsOver (CF : Addr) : Sp := fun vs H Q _ => ∃ (f st vl ex : Addr) (p : List Stp) (i : Nat) (g : Str → Int), vs = [.ref f] ∧ FrAt CF H f st vl ex p i g ∧ Q (.bl (decide (i = p.length))) H
def spNextStep (CF : Addr) : Sp := fun vs H Q _ => ∃ (f st vl ex : Addr) (p : List Stp) (i : Nat) (g : Str → Int), vs = [.ref f] ∧ FrAt CF H f st vl ex p i g ∧
  (i = p.length → Q .non H) ∧ (∀ a s, p[i]? = some s → H a = some (.tup (sv s)) → Q (.ref a) H)
def spVariables (CF : Addr) : Sp := fun vs H Q _ => ∃ (f st vl ex : Addr) (p : List Stp) (i : Nat) (g : Str → Int), vs = [.ref f] ∧ FrAt CF H f st vl ex p i g ∧
  ∀ d, H d = none → Q (.ref d) (upd H d (.dK (vDict g)))
def spMove (CF : Addr) : Sp := fun vs H Q _ => ∃ (f st vl ex : Addr) (p : List Stp) (i n : Nat) (g : Str → Int), vs = [.ref f, .int n] ∧ FrAt CF H f st vl ex p i g ∧ 1 ≤ n ∧ i + n ≤ p.length ∧
  ∀ H', FrAt CF H' f st vl ex p (i + n) g → Kp (fun b => b = f ∨ b = ex) H H' → Q .non H'
theorem scFrInit : FnScope ["self", "program", "variable"] ["self", "program"] (defScope sFrInit) := ⟨rfl, rfl, rfl, by decide +kernel, rfl, by decide +kernel, by decide +kernel⟩
theorem dc_it {J : It} {n : Nat} {G : Hp → Prop} {Y : Nat → Hp → V → Hp → Prop} (wk : Walk J n G Y) {g : TG} {tt : TT} {tk tv : TE} {vs : List Nat} {σ : L2.St} {H1 : Hp} {D : Addr} {Qd : Hp → Prop} (Pv : Nat → Hp → Prop)
    (h0 : Pv 0 (upd H1 D (.dK []))) (hG : ∀ i H, i ≤ n → Pv i H → G H)
    (hs : ∀ i x H H', i < n → Pv i H → Y i H x H' → g x (wipe σ vs) H' fun σ2 H2 => wipe σ2 vs = wipe σ vs ∧ tt σ2 H2 fun b H3 =>
      if b = true then tk σ2 H3 fun y H4 => tv σ2 H4 fun z H5 => ∃ kvs k, y = kV k ∧ H5 D = some (.dK kvs) ∧ kvs.length < sizeLine ∧ Pv (i + 1) (upd H5 D (.dK (putK kvs k z))) else Pv (i + 1) H3)
    (hd : ∀ H, Pv n H → Qd H) :
    ∃ W : Nat → Nat → Hp → Prop, (∃ m, W 0 m (upd H1 D (.dK []))) ∧ ∀ i m H, W i m H →
      (J.stop i H ∧ Qd H) ∨ (J.go i H ∧ ∃ Nx : Hp → Prop, (∀ H', Nx H' → ∃ m', m' < m ∧ W (i + 1) m' H') ∧ ∀ x H', J.yld i H x H' → g x (wipe σ vs) H' fun σ2 H2 => wipe σ2 vs = wipe σ vs ∧ tt σ2 H2 fun b H3 =>
        if b = true then tk σ2 H3 fun y H4 => tv σ2 H4 fun z H5 => ∃ kvs k, y = kV k ∧ H5 D = some (.dK kvs) ∧ kvs.length < sizeLine ∧ Nx (upd H5 D (.dK (putK kvs k z))) else Nx H3) := by
  refine ⟨fun i m H => m = n - i ∧ i ≤ n ∧ Pv i H, ⟨n, by simp, Nat.zero_le _, h0⟩, ?_⟩
  rintro i m H ⟨rfl, hi, q⟩
  have q1 := hG i H hi q
  by_cases lt : i < n
  · exact .inr ⟨wk.goes i H lt q1, Pv (i + 1), fun H' q' => ⟨n - (i + 1), by omega, rfl, lt, q'⟩, fun x H' y => hs i x H H' lt q (wk.yields i H x H' lt q1 y)⟩
  · obtain rfl : i = n := by omega
    exact .inl ⟨wk.stops H q1, hd H q⟩
theorem vDict_make : ∀ l : List Str, l.Nodup → ∀ i, i ≤ l.length → (∀ x, l[i]? = some x → putK ((l.take i).map fun y => ((Sum.inr y : Key), V.int 0)) (Sum.inr x) (V.int 0) = (l.take (i + 1)).map fun y => ((Sum.inr y : Key), V.int 0)) := by
  intro l nd i hi x hx
  have hn : valV ((l.take i).map fun y => ((Sum.inr y : Key), V.int 0)) (Sum.inr x) = none := by
    have gen : ∀ m : List Str, x ∉ m → valV (m.map fun y => ((Sum.inr y : Key), V.int 0)) (Sum.inr x) = none := by
      intro m
      induction m with
      | nil => intro _; rfl
      | cons y r ih =>
        intro h
        rw [List.mem_cons, not_or] at h
        rw [List.map_cons, valV_neg (fun q => h.1 (Sum.inr.inj q).symm)]
        exact ih h.2
    refine gen _ fun hm => ?_
    obtain ⟨j, ej⟩ := List.mem_iff_getElem?.mp hm
    have hj := (List.getElem?_eq_some_iff.mp ej).1
    rw [List.length_take] at hj
    rw [List.getElem?_take_of_lt (by omega)] at ej
    have hij : i < l.length := (List.getElem?_eq_some_iff.mp hx).1
    have := (List.getElem?_inj (by omega : j < l.length) nd).mp (ej.trans hx.symm)
    omega
  rw [putK_new _ hn, List.take_add_one, hx]
  simp
theorem ok_fr_init (F : FnM K CF "__init__" "Frame.__init__" sFrInit [] [] fa fd) (T : G0 K mg aV aP) (GC : GFr K mg CF) (h1 : Pr P w K mg base "check_program" ["value", "is_main"] [.bl false] 6 spCheckProgram) :
    PrM P w K mg base CF "__init__" ["self", "program"] [] 7 (spFrInit CF) := by
  refine ⟨fa, fd, [], F.meth, F.fn.ok0 scFrInit (fun vs H Q E h => ?_) (fun cdv A outer s H vs Q E hr h => ?_), .nil, F.fn.bindsN fun _ _ _ _ _ _ us hl => match us, hl with | [_, _], _ => rfl⟩
  · obtain ⟨f, dx, a, xs, p, rfl, _⟩ := h
    rfl
  · obtain ⟨f, dx, a, xs, p, rfl, hf, ha, hp, hk, q⟩ := h
    refine ⟨_, pss_cons (ps_expr (pe_pr h1 hr rfl (pa_cons (pv 1) pa_nil)))
      (pss_cons (ps_fld (pv 0) (pe_callTy call_list_of rfl T.list (by decide +kernel) (pa_cons (pv 1) pa_nil)) rfl)
      (pss_cons (ps_fld (pv 0) pe_int rfl)
      (pss_cons (ps_fld (pv 0) (pe_dc (own := [("variable", 2)]) (g := gName 2) (tt := tYes) (tk := tVar 2) (tv := tC (.int 0)) rfl scFrInit.nd (pi_tup (pe_gr rfl T.vars))
          (blkOk_by (N := ["self", "program", "variable"]) (sc := defScope sFrInit) (by decide +kernel))
          (fun _ _ _ _ _ => pg_name (i := 2) scFrInit.nd rfl (Or.inl rfl)) (fun _ _ _ _ _ => pts_nil) (fun _ _ _ _ _ => pv 2) (fun _ _ _ _ _ => pe_int)) rfl)
      (pss_one (ps_fld (pv 0) (pe_lst pa_nil) rfl))))), ?_⟩
    refine ⟨_, rfl, a, xs, p, false, rfl, ha, hp, hk, fun H1 s1 => ?_⟩
    refine ⟨_, rfl, a, xs, rfl, .inl (SqL.of (s1 _ _ ha)), fun st nst => ?_⟩
    have f_st : f ≠ st := ne_of_none (s1 _ _ hf) nst
    have s2 : Same H1 (upd H1 st (.lst xs)) := Same.new nst _
    refine ⟨_, rfl, f, CF, dx, [], rfl, s2 _ _ (s1 _ _ hf), GC.cl, GC.nS, (by show 0 < 1000; decide), ?_⟩
    refine ⟨_, rfl, f, CF, dx, _, rfl, upd_same, GC.cl, GC.nI, (by show 1 < 1000; decide), ?_⟩
    have k3 : Kp (fun b => b = f) H (upd (upd (upd H1 st (.lst xs)) f (.ins CF dx (putF "own_steps" (.ref st) []))) f (.ins CF dx (putF "own_index" (.int 0) (putF "own_steps" (.ref st) [])))) := by
      rw [upd_upd]
      exact ((Kp.of (s1.trans s2)) : Kp (fun b => b = f) _ _).upd (S := fun b => b = f) (fun _ h => h) (.inl rfl) (nt_ins (s2 _ _ (s1 _ _ hf))) _
    have e3 : (upd (upd (upd H1 st (.lst xs)) f (.ins CF dx (putF "own_steps" (.ref st) []))) f (.ins CF dx (putF "own_index" (.int 0) (putF "own_steps" (.ref st) [])))) f = some (.ins CF dx (putF "own_index" (.int 0) (putF "own_steps" (.ref st) []))) := upd_same
    have e4 : (upd (upd (upd H1 st (.lst xs)) f (.ins CF dx (putF "own_steps" (.ref st) []))) f (.ins CF dx (putF "own_index" (.int 0) (putF "own_steps" (.ref st) [])))) st = some (.lst xs) := by
      rw [upd_ne f_st.symm, upd_ne f_st.symm, upd_same]
    generalize (upd (upd (upd H1 st (.lst xs)) f (.ins CF dx (putF "own_steps" (.ref st) []))) f (.ins CF dx (putF "own_index" (.int 0) (putF "own_steps" (.ref st) [])))) = H3 at k3 e3 e4
    have nst0 : H st = none := s1.free nst
    -- the values
    refine ⟨aV, rfl, ⟨_, T.varsT _⟩, fun D nD => ?_⟩
    have f_D : f ≠ D := ne_of_none e3 nD
    have st_D : st ≠ D := ne_of_none e4 nD
    refine dc_it (walk_tup (xs := vrs.map V.str)) (fun i H' => Same H3 H' ∧ H' D = some (.dK ((vrs.take i).map fun y => ((Sum.inr y : Key), V.int 0)))) ⟨Same.new nD _, by rw [upd_same]; rfl⟩ (fun i H' _ _ => T.varsT H') ?_ ?_
    · rintro i v H4 H5 hi ⟨t1, d1⟩ ⟨rfl, ei⟩
      rw [List.getElem?_map] at ei
      obtain ⟨x, ex, rfl⟩ := Option.map_eq_some_iff.mp ei
      refine ⟨rfl, ?_⟩
      refine ⟨_, rfl, _, Sum.inr x, rfl, d1, ?_, t1.upd nD _, ?_⟩
      · rw [List.length_map]
        exact Nat.lt_of_le_of_lt (List.length_take_le' _ _) (by decide)
      · rw [upd_same, vDict_make vrs (by decide +kernel) i (Nat.le_of_lt hi) x ex]
    · rintro H4 ⟨t1, d1⟩
      have d2 : H4 D = some (.dK (vDict f0)) := by rw [d1]; rfl
      refine ⟨_, rfl, f, CF, dx, _, rfl, t1 _ _ e3, GC.cl, GC.nV, (by show 2 < 1000; decide), ?_⟩
      refine ⟨by decide, fun ex nex => ?_⟩
      have D_f : D ≠ f := f_D.symm
      have nex4 : H4 ex = none := by
        by_cases e : ex = f
        · subst e; rw [upd_same] at nex; cases nex
        · rw [upd_ne e] at nex; exact nex
      have ex_f : f ≠ ex := ne_of_none (t1 _ _ e3) nex4
      have ex_D : D ≠ ex := ne_of_none d2 nex4
      have ex_st : st ≠ ex := ne_of_none (t1 _ _ e4) nex4
      refine ⟨_, rfl, f, CF, dx, _, rfl, by rw [upd_ne ex_f, upd_same], GC.cl, GC.nE, (by show 3 < 1000; decide), ?_⟩
      have k4 : Kp (fun b => b = f) H H4 := k3.same t1
      have nD0 : H D = none := k3.free nD (fun q => f_D q.symm)
      have nex0 : H ex = none := k4.free nex4 (fun q => ex_f q.symm)
      have k5 : Kp (fun b => b = f) H (upd H4 f (.ins CF dx (putF "own_values" (.ref D) (putF "own_index" (.int 0) (putF "own_steps" (.ref st) []))))) := k4.upd (fun _ h => h) (.inl rfl) (nt_ins (t1 _ _ e3)) _
      have k6 := k5.upd (T := fun b => b = f) (fun _ h => h) (.inr nex0) (nt_none nex) (.lst [])
      have k7 := k6.upd (T := fun b => b = f) (fun _ h => h) (l := f) (.inl rfl) (by rw [upd_ne ex_f, upd_same]; intro ys z; cases z) (.ins CF dx (putF "own_executed" (.ref ex) (putF "own_values" (.ref D) (putF "own_index" (.int 0) (putF "own_steps" (.ref st) [])))))
      refine q st D ex _ ⟨⟨dx, ?_⟩, ⟨xs, ?_, hp.monoK k7⟩, ?_, ⟨[], ?_, Nat.le_refl _⟩, ex_st, Nat.zero_le _, hk.len⟩ k7 nst0 nD0 nex0
      · rw [upd_same, frF_make]
        rfl
      · rw [upd_ne f_st.symm, upd_ne ex_st, upd_ne f_st.symm]; exact t1 _ _ e4
      · rw [upd_ne D_f, upd_ne ex_D, upd_ne D_f]; exact d2
      · rw [upd_ne ex_f.symm, upd_same]
theorem scIsOver : FnScope ["self"] ["self"] (defScope sIsOver) := ⟨rfl, rfl, rfl, by decide +kernel, rfl, by decide +kernel, by decide +kernel⟩
theorem ok_is_over (F : FnM K CF "is_over" "Frame.is_over" sIsOver [] [] fa fd) (T : G0 K mg aV aP) (GC : GFr K mg CF) : PrM P w K mg base CF "is_over" ["self"] [] 1 (spIsOver CF) := by
  refine ⟨fa, fd, [], F.meth, F.fn.ok0 scIsOver (fun vs H Q E h => ?_) (fun cdv A outer s H vs Q E hr h => ?_), .nil, F.fn.bindsN fun _ _ _ _ _ _ us hl => match us, hl with | [_], _ => rfl⟩
  · obtain ⟨f, st, vl, ex, p, i, g, rfl, _⟩ := h
    rfl
  · obtain ⟨f, st, vl, ex, p, i, g, rfl, h, q⟩ := h
    refine ⟨_, pss_one (ps_ret (pe_cmpR op_eq (pe_fld (pv 0) rfl) (pe_callB call_len rfl T.len PySem.boot_len (pa_cons (pe_fld (pv 0) rfl) pa_nil)) (nomark _))), ?_⟩
    obtain ⟨dx, ob⟩ := h.ob
    obtain ⟨xs, hs, hp⟩ := h.sts
    refine ⟨_, rfl, f, CF, dx, _, _, rfl, ob, GC.cl, GC.nI, frF_i _ _ _ _, ?_⟩
    refine ⟨_, rfl, f, CF, dx, _, _, rfl, ob, GC.cl, GC.nS, frF_s _ _ _ _, ?_⟩
    refine ⟨_, xs.length, rfl, Or.inl ⟨xs, SqL.of hs, rfl⟩, rfl, ?_⟩
    show Q (.bl (decide (V.int (i : Int) = V.int (xs.length : Int)))) H
    rw [Paired.len hp]
    have e : decide (V.int (i : Int) = V.int (p.length : Int)) = decide (i = p.length) := by
      by_cases z : i = p.length
      · rw [z]; simp
      · rw [decide_eq_false z, decide_eq_false (fun y => z (by injection y with y; omega))]
    rw [e]
    exact q
theorem scNextStep : FnScope ["self"] ["self"] (defScope sNextStep) := ⟨rfl, rfl, rfl, by decide +kernel, rfl, by decide +kernel, by decide +kernel⟩
theorem ok_next_step (F : FnM K CF "next_step" "Frame.next_step" sNextStep [] [] fa fd) (GC : GFr K mg CF) (h1 : PrM P w K mg base CF "is_over" ["self"] [] 1 (spIsOver CF)) : PrM P w K mg base CF "next_step" ["self"] [] 2 (spNextStep CF) := by
  refine ⟨fa, fd, [], F.meth, F.fn.ok0 scNextStep (fun vs H Q E h => ?_) (fun cdv A outer s H vs Q E hr h => ?_), .nil, F.fn.bindsN fun _ _ _ _ _ _ us hl => match us, hl with | [_], _ => rfl⟩
  · obtain ⟨f, st, vl, ex, p, i, g, rfl, _⟩ := h
    rfl
  · obtain ⟨f, st, vl, ex, p, i, g, rfl, h, q1, q2⟩ := h
    refine ⟨_, pss_one (ps_ret (pe_ifExp (pt_val (pe_prm0 (pv 0) GC.cl h1 hr)) pe_non (pe_ix ix_list (pe_fld (pv 0) rfl) (pe_fld (pv 0) rfl) (fun _ _ => rfl)))), ?_⟩
    obtain ⟨dx, ob⟩ := h.ob
    obtain ⟨xs, hs, hp⟩ := h.sts
    refine ⟨_, rfl, f, dx, _, rfl, ob, frF_no (by decide +kernel) (by decide +kernel) (by decide +kernel) (by decide +kernel) _ _ _ _, f, st, vl, ex, p, i, g, rfl, h, _, rfl, ?_⟩
    refine ite2 (fun e => q1 (of_decide_eq_true e)) (fun e => ?_)
    have hi : i < p.length := by
      have := h.hi
      have : ¬ i = p.length := fun z => e (decide_eq_true z)
      omega
    obtain ⟨v, ev, a, rfl, ha⟩ := Paired.at2 hp i p[i] (List.getElem?_eq_getElem hi)
    refine ⟨_, rfl, f, CF, dx, _, _, rfl, ob, GC.cl, GC.nS, frF_s _ _ _ _, _, rfl, f, CF, dx, _, _, rfl, ob, GC.cl, GC.nI, frF_i _ _ _ _, ?_⟩
    exact ⟨st, xs, _, _, rfl, rfl, SqL.of hs, atI_nat ev, q2 a p[i] (List.getElem?_eq_getElem hi) ha⟩
theorem scVariables : FnScope ["self"] ["self"] (defScope sVariables) := ⟨rfl, rfl, rfl, by decide +kernel, rfl, by decide +kernel, by decide +kernel⟩
theorem ok_variables (F : FnM K CF "variables" "Frame.variables" sVariables [] [] fa fd) (T : G0 K mg aV aP) (GC : GFr K mg CF) : PrM P w K mg base CF "variables" ["self"] [] 1 (spVariables CF) := by
  refine ⟨fa, fd, [], F.meth, F.fn.ok0 scVariables (fun vs H Q E h => ?_) (fun cdv A outer s H vs Q E hr h => ?_), .nil, F.fn.bindsN fun _ _ _ _ _ _ us hl => match us, hl with | [_], _ => rfl⟩
  · obtain ⟨f, st, vl, ex, p, i, g, rfl, _⟩ := h
    rfl
  · obtain ⟨f, st, vl, ex, p, i, g, rfl, h, q⟩ := h
    refine ⟨_, pss_one (ps_ret (pe_callTy call_dictD rfl T.dict (by decide +kernel) (pa_cons (pe_fld (pv 0) rfl) pa_nil))), ?_⟩
    obtain ⟨dx, ob⟩ := h.ob
    refine ⟨_, rfl, f, CF, dx, _, _, rfl, ob, GC.cl, GC.nV, frF_v _ _ _ _, vl, _, rfl, Rd.of h.vls, q⟩
theorem scMove : FnScope ["self", "distance"] ["self", "distance"] (defScope sMove) := ⟨rfl, rfl, rfl, by decide +kernel, rfl, by decide +kernel, by decide +kernel⟩
theorem ok_move (F : FnM K CF "move" "Frame.move" sMove [] [] fa fd) (GC : GFr K mg CF) : PrM P w K mg base CF "move" ["self", "distance"] [] 1 (spMove CF) := by
  refine ⟨fa, fd, [], F.meth, F.fn.ok0 scMove (fun vs H Q E h => ?_) (fun cdv A outer s H vs Q E hr h => ?_), .nil, F.fn.bindsN fun _ _ _ _ _ _ us hl => match us, hl with | [_, _], _ => rfl⟩
  · obtain ⟨f, st, vl, ex, p, i, n, g, rfl, _⟩ := h
    rfl
  · obtain ⟨f, st, vl, ex, p, i, n, g, rfl, h, hn, hi, q⟩ := h
    refine ⟨_, pss_cons (ps_expr (pe_bm PySem.F.plainAttrs_list PySem.F.slot_list_append PySem.F.type_list_append mt_append (pe_fld (pv 0) rfl) (pa_cons (pe_fld (pv 0) rfl) pa_nil)))
      (pss_one (ps_fldaug (pv 0) (pv 1) in_add)), ?_⟩
    obtain ⟨dx, ob⟩ := h.ob
    obtain ⟨xs, hs, hp⟩ := h.sts
    obtain ⟨ys, hy, hl⟩ := h.exs
    have h1 := h.hi
    have h2 := h.le
    refine ⟨_, rfl, f, CF, dx, _, _, rfl, ob, GC.cl, GC.nE, frF_e _ _ _ _, Or.inl ⟨rfl, _, SqL.of hy⟩, ?_⟩
    refine ⟨_, rfl, f, CF, dx, _, _, rfl, ob, GC.cl, GC.nI, frF_i _ _ _ _, ex, _, _, rfl, rfl, hy, Nat.lt_of_le_of_lt (Nat.le_trans hl (Nat.le_trans h1 h2)) (by decide), ?_⟩
    have k1 : Kp (fun b => b = f ∨ b = ex) H (upd H ex (.lst (ys ++ [.int i]))) := (Kp.refl H).upd (S := fun b => b = f ∨ b = ex) (fun _ h => h) (.inl (.inr rfl)) (nt_lst hy) _
    have ob1 : (upd H ex (.lst (ys ++ [.int i]))) f = some (.ins CF dx (frF st i vl ex)) := by rw [upd_ne h.f_ex]; exact ob
    refine ⟨_, rfl, f, CF, dx, _, _, rfl, ob1, GC.cl, GC.nI, frF_i _ _ _ _, ?_⟩
    refine ⟨_, rfl, i, n, rfl, rfl, dx, _, ob1, by show 4 < 1000; decide, ?_⟩
    have k2 := k1.upd (T := fun b => b = f ∨ b = ex) (fun _ h => h) (l := f) (.inl (.inl rfl)) (nt_ins ob1) (.ins CF dx (putF "own_index" (.int ((i : Int) + n)) (frF st i vl ex)))
    refine q _ ⟨⟨dx, ?_⟩, ⟨xs, ?_, hp.monoK k2⟩, ?_, ⟨ys ++ [.int i], ?_, ?_⟩, h.ne, hi, h2⟩ k2
    · rw [upd_same, frF_put]
      congr 3
    · rw [upd_ne h.f_st.symm, upd_ne h.ne]; exact hs
    · rw [upd_ne h.f_vl.symm, upd_ne h.ex_vl.symm]; exact h.vls
    · rw [upd_ne h.f_ex.symm, upd_same]
    · rw [List.length_append]
      show ys.length + 1 ≤ i + n
      omega
/-! ### a plain step; a passed step -/
def plainG (g : Str → Int) : Stp → (Str → Int)
  | .set x n => updF g x n
  | .add x y => updF g x (g x + g y)
  | _ => g
def adv (g : Str → Int) : Stp → Nat
  | .skip x k => 1 + (if g x > 0 then k else 0)
  | _ => 1
def spRunPlain (CF : Addr) : Sp := fun vs H Q _ => ∃ (f st vl ex : Addr) (p : List Stp) (i : Nat) (g : Str → Int) (s : Stp), vs = [.ref f] ∧ FrAt CF H f st vl ex p i g ∧ p[i]? = some s ∧ isPl s = true ∧ OkS s ∧ (∀ x k, s = .skip x k → i + 1 + k ≤ p.length) ∧
  ∀ H', FrAt CF H' f st vl ex p (i + adv g s) (plainG g s) → Kp (fun b => b = f ∨ b = vl ∨ b = ex) H H' → Q .non H'
/-- the value that a passed step gets -/
def tgt : Stp → Option Str
  | .read x _ _ => some x
  | .try_ _ x => some x
  | _ => none
def passG (g : Str → Int) (s : Stp) (n : Int) : Str → Int := match tgt s with
  | some x => updF g x n
  | none => g
def spPassStep (CF : Addr) : Sp := fun vs H Q _ => ∃ (f st vl ex : Addr) (p : List Stp) (i : Nat) (g : Str → Int) (s : Stp) (v : V) (n : Int), vs = [.ref f, v] ∧ FrAt CF H f st vl ex p i g ∧ p[i]? = some s ∧ isPl s = false ∧ OkS s ∧
  (tgt s = none → v = .non) ∧ (∀ x, tgt s = some x → v = .int n) ∧
  ∀ H', FrAt CF H' f st vl ex p (i + 1) (passG g s n) → Kp (fun b => b = f ∨ b = vl ∨ b = ex) H H' → Q .non H'
theorem scRunPlain : FnScope ["self", "step", "word", "variable", "operand"] ["self"] (defScope sRunPlain) := ⟨rfl, rfl, rfl, by decide +kernel, rfl, by decide +kernel, by decide +kernel⟩
theorem str_dec (a b : Str) : decide (V.str a = V.str b) = decide (a = b) := by
  by_cases e : a = b
  · rw [e]; simp
  · rw [decide_eq_false e, decide_eq_false (fun q => e (V.str.inj q))]
theorem strB_t {a b : Str} (h : a = b) : V.bl (decide (V.str a = V.str b)) = V.bl true := by rw [h]; simp
theorem strB_f {a b : Str} (h : ¬ a = b) : V.bl (decide (V.str a = V.str b)) = V.bl false := by rw [decide_eq_false (fun q => h (V.str.inj q))]
theorem strN_t {a b : Str} (h : ¬ a = b) : V.bl (!decide (V.str a = V.str b)) = V.bl true := by rw [decide_eq_false (fun q => h (V.str.inj q))]; rfl
theorem strN_f {a b : Str} (h : a = b) : V.bl (!decide (V.str a = V.str b)) = V.bl false := by rw [h]; simp
theorem dgetS {H : Hp} {a : Addr} {kvs : List (Key × V)} {x : Str} {v : V} (e : H a = some (.dK kvs)) (hv : valV kvs (Sum.inr x) = some v) : DGet H a (.str x) (some v) := by
  rw [← hv]
  exact DGet.k (k := Sum.inr x) e
theorem dgetSF {H : Hp} {a : Addr} {o : Obj} {kvs : List (Key × V)} {x : Str} {v : V} (e : H a = some (.frz o (.dK kvs))) (hv : valV kvs (Sum.inr x) = some v) : DGet H a (.str x) (some v) :=
  .inl ⟨kvs, Sum.inr x, .inr ⟨o, e⟩, rfl, hv.symm⟩
theorem dgetN {H : Hp} {a : Addr} {kvs : List (Key × V)} {x : Str} (e : H a = some (.dK kvs)) (hv : valV kvs (Sum.inr x) = none) : DGet H a (.str x) none := by
  rw [← hv]
  exact DGet.k (k := Sum.inr x) e
theorem dputS {H : Hp} {a : Addr} {kvs kvs' : List (Key × V)} {x : Str} {v : V} (e : H a = some (.dK kvs)) (hl : kvs.length < sizeLine) (hv : putK kvs (Sum.inr x) v = kvs') : DPut H a (.str x) v (upd H a (.dK kvs')) := by
  rw [← hv]
  exact DPut.k (k := Sum.inr x) e hl
theorem ok_run_plain (F : FnM K CF "run_plain" "Frame.run_plain" sRunPlain [] [] fa fd) (GC : GFr K mg CF) (h1 : PrM P w K mg base CF "next_step" ["self"] [] 2 (spNextStep CF)) (h2 : Pr P w K mg base "is_plain" ["step"] [] 4 spIsPlain)
    (h3 : PrM P w K mg base CF "move" ["self", "distance"] [] 1 (spMove CF)) : PrM P w K mg base CF "run_plain" ["self"] [] 5 (spRunPlain CF) := by
  refine ⟨fa, fd, [], F.meth, F.fn.ok0 scRunPlain (fun vs H Q E h => ?_) (fun cdv A outer s H vs Q E hr h => ?_), .nil, F.fn.bindsN fun _ _ _ _ _ _ us hl => match us, hl with | [_], _ => rfl⟩
  · obtain ⟨f, st, vl, ex, p, i, g, z, rfl, _⟩ := h
    rfl
  · obtain ⟨f, st, vl, ex, p, i, g, z, rfl, h, hz, hpl, hok, hsk, q⟩ := h
    have hu := hu_of hr
    have hr2 : Room 2 _ := hr.mono (by decide)
    have hr1 : Room 1 _ := hr.mono (by decide)
    refine ⟨_, pss_cons (ps_set (i := 1) scRunPlain.nd rfl (Or.inl rfl) (pe_prm0 (pv 0) GC.cl h1 hr2))
      (pss_cons (ps_if (pt_not (pt_val (pe_pr h2 hr rfl (pa_cons (pv 1) pa_nil)))) (pss_one ps_never) pss_nil)
      (pss_cons (ps_asg (g := gTup K 3 (gCons (gName 2) (gCons (gName 3) (gCons (gName 4) gNil)))) (pv 1) (pg_tup rfl (pgs_cons (pg_name (i := 2) scRunPlain.nd rfl (Or.inl rfl)) (pgs_cons (pg_name (i := 3) scRunPlain.nd rfl (Or.inl rfl)) (pgs_cons (pg_name (i := 4) scRunPlain.nd rfl (Or.inl rfl)) pgs_nil)))))
      (pss_mid (ps_if (pt_cmpR op_eq (pv 2) pe_str (nomark _)) (pss_one (ps_dput hu (pe_fld (pv 0) rfl) (pv 3) (pv 4) rfl))
        (pss_one (ps_if (pt_cmpR op_eq (pv 2) pe_str (nomark _)) (pss_one (ps_daug hu (pe_fld (pv 0) rfl) (pv 3) (pe_dget hu (pe_fld (pv 0) rfl) (pv 4) (fun _ _ => rfl)) in_add (fun _ _ _ => rfl))) pss_nil)))
      (pss_one (ps_expr (pe_prm (pv 0) GC.cl h3 hr1 (pa_cons (pe_ifExp (PW.pt (pw_and (pt_cmpR op_eq (pv 2) pe_str (nomark _)) (pw_and1 (pt_cmpR op_gt (pe_dget hu (pe_fld (pv 0) rfl) (pv 3) (fun _ _ => rfl)) pe_int (nomark _))))) (pe_op op_add pe_int (pv 4)) pe_int) pa_nil))))))), ?_⟩
    obtain ⟨dx, ob⟩ := h.ob
    have nm : ∀ m : Str, m ∉ ([("own_steps" : Str), "own_index", "own_values", "own_executed"] : List Str) → (frF st i vl ex).lookup m = none := fun m hm => by
      simp only [List.mem_cons, List.not_mem_nil, or_false, not_or] at hm
      exact frF_no hm.1 hm.2.1 hm.2.2.1 hm.2.2.2 _ _ _ _
    have hi : i < p.length := (List.getElem?_eq_some_iff.mp hz).1
    refine ⟨_, rfl, f, dx, _, rfl, ob, nm _ (by decide +kernel), f, st, vl, ex, p, i, g, rfl, h, fun e => by omega, fun a s' es ha => ?_⟩
    rw [hz] at es
    cases es
    refine ⟨_, rfl, a, z, rfl, ha, hok, fun H1 s1 => ⟨_, rfl, ?_⟩⟩
    rw [hpl]
    refine iteF ?_
    have h' := h.same s1
    have ob1 := s1 _ _ ob
    have ha1 := s1 _ _ ha
    -- word, variable, operand
    have kx : ∃ x o, sv z = [.str (word z), .str x, o] ∧ x ∈ vrs := by
      cases z with
      | set x n => exact ⟨x, _, rfl, hok⟩
      | add x y => exact ⟨x, _, rfl, hok.1⟩
      | skip x k => exact ⟨x, _, rfl, hok.1⟩
      | _ => cases hpl
    obtain ⟨x, o, esv, hx⟩ := kx
    refine ⟨_, rfl, a, sv z, rfl, SqT.of ha1, by rw [esv]; rfl, ?_⟩
    rw [esv]
    refine ⟨_, _, rfl, _, _, rfl, _, _, rfl, rfl, ?_⟩
    refine ⟨fun σ' H' => σ' = [some (.ref f), some (.ref a), some (.str (word z)), some (.str x), some o] ∧ FrAt CF H' f st vl ex p i (plainG g z) ∧ Kp (fun b => b = f ∨ b = vl ∨ b = ex) H H', ?_, ?_⟩
    · have kh : Kp (fun b => b = f ∨ b = vl ∨ b = ex) H H1 := Kp.of s1
      have nsa : ¬ ("set" : Str) = "add" := by decide +kernel
      have nks : ¬ ("skip" : Str) = "set" := by decide +kernel
      have nka : ¬ ("skip" : Str) = "add" := by decide +kernel
      cases z with
      | set x' n =>
        cases esv
        refine ⟨_, rfl, rfl, true, strB_t rfl, ?_⟩
        refine iteT ?_
        refine ⟨_, rfl, _, rfl, f, CF, dx, _, _, rfl, ob1, GC.cl, GC.nV, frF_v _ _ _ _, _, rfl, vl, _, rfl, dputS h'.vls (by rw [vDict_len]; decide) (vDict_put g n hx), ?_⟩
        obtain ⟨a1, a2⟩ := h'.put (updF g x n)
        exact ⟨rfl, a1, kh.trans a2 (fun _ h => h) (fun c e => .inl (.inr (.inl e)))⟩
      | add x' y =>
        cases esv
        refine ⟨_, rfl, rfl, false, strB_f (Ne.symm nsa), ?_⟩
        refine iteF ?_
        refine ⟨_, rfl, rfl, true, strB_t rfl, ?_⟩
        refine iteT ?_
        refine ⟨_, rfl, f, CF, dx, _, _, rfl, ob1, GC.cl, GC.nV, frF_v _ _ _ _, _, rfl, vl, _, rfl, dgetS h'.vls (vDict_get g hx), ?_⟩
        refine ⟨_, rfl, f, CF, dx, _, _, rfl, ob1, GC.cl, GC.nV, frF_v _ _ _ _, _, rfl, vl, _, rfl, dgetS h'.vls (vDict_get g hok.2), ?_⟩
        refine ⟨_, _, rfl, rfl, _, dputS h'.vls (by rw [vDict_len]; decide) (vDict_put g (g x + g y) hx), ?_⟩
        obtain ⟨a1, a2⟩ := h'.put (updF g x (g x + g y))
        exact ⟨rfl, a1, kh.trans a2 (fun _ h => h) (fun c e => .inl (.inr (.inl e)))⟩
      | skip x' k =>
        cases esv
        refine ⟨_, rfl, rfl, false, strB_f nks, ?_⟩
        refine iteF ?_
        refine ⟨_, rfl, rfl, false, strB_f nka, ?_⟩
        refine iteF ?_
        exact ⟨rfl, h', kh⟩
      | _ => cases hpl
    · rintro σ' H2 ⟨rfl, h2', k2⟩
      obtain ⟨dx2, ob2⟩ := h2'.ob
      have fin : ∀ n : Nat, n = adv g z → 1 ≤ n → i + n ≤ p.length → spMove CF [.ref f, .int n] H2 (fun _ H1 => Q .non H1) E0 := fun n en h1 h3 => by
        refine ⟨f, st, vl, ex, p, i, n, plainG g z, rfl, h2', h1, h3, fun H3 h3' k3 => ?_⟩
        rw [en] at h3'
        exact q H3 h3' (k2.trans k3 (fun _ h => h) (fun c e => .inl (e.imp id .inr)))
      have nm2 : (frF st i vl ex).lookup ("move" : Str) = none := nm _ (by decide +kernel)
      refine ⟨_, rfl, f, dx2, _, rfl, ob2, nm2, ?_⟩
      cases hsz : isSkip z with
      | false =>
        have nw : ¬ word z = "skip" := fun e => by rw [word_skip.mp e] at hsz; cases hsz
        have e1 : adv g z = 1 := by cases z <;> first | rfl | exact Bool.noConfusion hsz
        refine ⟨_, rfl, rfl, false, strB_f nw, ?_⟩
        refine iteF ?_
        refine iteF ?_
        exact fin 1 e1.symm (Nat.le_refl _) hi
      | true =>
        obtain ⟨y, k, rfl⟩ : ∃ y k, z = .skip y k := by
          cases z with
          | skip y k => exact ⟨y, k, rfl⟩
          | _ => exact Bool.noConfusion hsz
        cases esv
        have hk2 := hsk x k rfl
        refine ⟨_, rfl, rfl, true, strB_t rfl, ?_⟩
        refine iteT ?_
        refine ⟨_, rfl, f, CF, dx2, _, _, rfl, ob2, GC.cl, GC.nV, frF_v _ _ _ _, _, rfl, vl, _, rfl, dgetS h2'.vls (vDict_get _ hx), ?_⟩
        refine ⟨_, _, rfl, rfl, _, rfl, ?_⟩
        refine ite2 (fun e => ?_) (fun e => ?_)
        · have e' : (0 : Int) < g x := of_decide_eq_true e
          refine ⟨_, rfl, 1, k, rfl, rfl, ?_⟩
          have e3 : (1 : Int) + (k : Int) = ((1 + k : Nat) : Int) := by omega
          show spMove CF [.ref f, .int ((1 : Int) + (k : Int))] H2 (fun _ H1 => Q .non H1) E0
          rw [e3]
          refine fin (1 + k) ?_ (by omega) (by omega)
          show 1 + k = 1 + (if g x > 0 then k else 0)
          rw [if_pos e']
        · have e' : ¬ (0 : Int) < g x := fun z => e (decide_eq_true z)
          refine fin 1 ?_ (Nat.le_refl _) hi
          show 1 = 1 + (if g x > 0 then k else 0)
          rw [if_neg e']
theorem scPassStep : FnScope ["self", "value", "step"] ["self", "value"] (defScope sPassStep) := ⟨rfl, rfl, rfl, by decide +kernel, rfl, by decide +kernel, by decide +kernel⟩
theorem tgt_some {s : Stp} {x : Str} (h : tgt s = some x) (hok : OkS s) : x ∈ vrs ∧ isPl s = false ∧ ((word s = "read" ∧ (sv s)[1]? = some (.str x)) ∨ (word s = "try" ∧ (sv s)[2]? = some (.str x))) := by
  cases s with
  | read y m l => cases h; exact ⟨hok.1, rfl, .inl ⟨rfl, rfl⟩⟩
  | try_ m y => cases h; exact ⟨hok.2, rfl, .inr ⟨rfl, rfl⟩⟩
  | _ => cases h
theorem tgt_none {s : Stp} (h : tgt s = none) : ¬ word s ∈ ([("read" : Str), "try"] : List Str) := by
  have all : ∀ x ∈ ([("set" : Str), "add", "skip", "export", "need", "fail"] : List Str), ¬ x ∈ ([("read" : Str), "try"] : List Str) := by decide +kernel
  cases s with
  | read _ _ _ => cases h
  | try_ _ _ => cases h
  | set _ _ => exact all _ (by simp [word])
  | add _ _ => exact all _ (by simp [word])
  | skip _ _ => exact all _ (by simp [word])
  | exp _ _ => exact all _ (by simp [word])
  | need _ => exact all _ (by simp [word])
  | fail => exact all _ (by simp [word])
theorem fn_pass_step (F : FnM K CF "pass_step" "Frame.pass_step" sPassStep [] [("value", .non)] fa fd) (GC : GFr K mg CF) (h1 : PrM P w K mg base CF "next_step" ["self"] [] 2 (spNextStep CF)) (h2 : Pr P w K mg base "is_plain" ["step"] [] 4 spIsPlain)
    (h3 : PrM P w K mg base CF "move" ["self", "distance"] [] 1 (spMove CF)) (h4 : Pr P w K mg base "is_integer" ["value"] [] 1 spIsInteger) : FnOk P w K mg base CX0 5 fa fd ["self", "value"] (spPassStep CF) := by
  refine F.fn.ok0 scPassStep (fun vs H Q E h => ?_) (fun cdv A outer s H vs Q E hr h => ?_)
  · obtain ⟨f, st, vl, ex, p, i, g, z, v, n, rfl, _⟩ := h
    rfl
  · obtain ⟨f, st, vl, ex, p, i, g, z, v, n, rfl, h, hz, hpl, hok, hv1, hv2, q⟩ := h
    have hu := hu_of hr
    have hr2 : Room 2 _ := hr.mono (by decide)
    have hr1 : Room 1 _ := hr.mono (by decide)
    refine ⟨_, pss_cons (ps_set (i := 2) scPassStep.nd rfl (Or.inl rfl) (pe_prm0 (pv 0) GC.cl h1 hr2))
      (pss_cons (ps_if (PW.pt (pw_or (pt_cmp (pc_isN (pv 2))) (pw_or1 (pt_val (pe_pr h2 hr rfl (pa_cons (pv 2) pa_nil)))))) (pss_one ps_never) pss_nil)
      (pss_mid (ps_if (pt_cmpR op_notIn_seq (pe_ix ix_tup (pv 2) pe_int (fun _ _ => rfl)) (pe_tup (pa_cons pe_str (pa_cons pe_str pa_nil))) (by rfl)) (pss_one (ps_if (pt_cmp (pc_notN (pv 1))) (pss_one ps_never) pss_nil))
        (pss_one (ps_if (pt_not (pt_val (pe_pr h4 hr1 rfl (pa_cons (pv 1) pa_nil)))) (pss_one ps_never)
          (pss_one (ps_dput hu (pe_fld (pv 0) rfl) (pe_ifExp (pt_cmpR op_eq (pe_ix ix_tup (pv 2) pe_int (fun _ _ => rfl)) pe_str (nomark _)) (pe_ix ix_tup (pv 2) pe_int (fun _ _ => rfl)) (pe_ix ix_tup (pv 2) pe_int (fun _ _ => rfl))) (pv 1) rfl)))))
      (pss_one (ps_expr (pe_prm (pv 0) GC.cl h3 hr1 (pa_cons pe_int pa_nil)))))), ?_⟩
    obtain ⟨dx, ob⟩ := h.ob
    have nm : ∀ m : Str, m ∉ ([("own_steps" : Str), "own_index", "own_values", "own_executed"] : List Str) → (frF st i vl ex).lookup m = none := fun m hm => by
      simp only [List.mem_cons, List.not_mem_nil, or_false, not_or] at hm
      exact frF_no hm.1 hm.2.1 hm.2.2.1 hm.2.2.2 _ _ _ _
    have hi : i < p.length := (List.getElem?_eq_some_iff.mp hz).1
    refine ⟨_, rfl, f, dx, _, rfl, ob, nm _ (by decide +kernel), f, st, vl, ex, p, i, g, rfl, h, fun e => by omega, fun a s' es ha => ?_⟩
    rw [hz] at es
    cases es
    refine ⟨_, rfl, false, rfl, ?_⟩
    refine iteF ?_
    refine ⟨_, rfl, a, z, rfl, ha, hok, fun H1 s1 => ⟨_, rfl, ?_⟩⟩
    rw [hpl]
    refine iteF ?_
    have h' := h.same s1
    have ob1 := s1 _ _ ob
    have ha1 := s1 _ _ ha
    refine ⟨fun σ' H' => σ' = [some (.ref f), some v, some (.ref a)] ∧ FrAt CF H' f st vl ex p i (passG g z n) ∧ Kp (fun b => b = f ∨ b = vl ∨ b = ex) H H', ?_, ?_⟩
    · have kh : Kp (fun b => b = f ∨ b = vl ∨ b = ex) H H1 := Kp.of s1
      refine ⟨_, rfl, a, sv z, _, _, rfl, rfl, SqT.of ha1, atI_nat (sv_0 z), ?_⟩
      refine ⟨by show 2 ≤ sizeLine; decide, fun t nt => ?_⟩
      have s2 : Same H1 (upd H1 t (.tup [.str "read", .str "try"])) := Same.new nt _
      refine ⟨t, [.str "read", .str "try"], rfl, Or.inr (SqT.of upd_same), rfl, by decide, decide (¬ word z ∈ ([("read" : Str), "try"] : List Str)), ?_, ?_⟩
      · show V.bl (if true = true then !inV (V.str (word z)) (([("read" : Str), "try"] : List Str).map V.str) else _) = _
        rw [if_pos rfl, inV_strs]
        simp
      have h2' := h'.same s2
      have ob2 := s2 _ _ ob1
      have ha2 := s2 _ _ ha1
      have kh2 := kh.same s2
      generalize upd H1 t (.tup [.str "read", .str "try"]) = H2 at s2 h2' ob2 ha2 kh2
      cases et : tgt z with
      | none =>
        rw [decide_eq_true (tgt_none et)]
        refine iteT ?_
        have ev := hv1 et
        subst ev
        refine ⟨_, rfl, false, rfl, ?_⟩
        refine iteF ?_
        have e : passG g z n = g := by unfold passG; rw [et]
        rw [e]
        exact ⟨rfl, h2', kh2⟩
      | some x =>
        obtain ⟨hx, _, hw⟩ := tgt_some et hok
        have ev := hv2 x et
        subst ev
        have e1 : word z ∈ ([("read" : Str), "try"] : List Str) := by
          rcases hw with ⟨hw, _⟩ | ⟨hw, _⟩ <;> rw [hw] <;> simp
        rw [decide_eq_false (fun q => q e1)]
        refine iteF ?_
        refine ⟨_, rfl, n, rfl, true, rfl, ?_⟩
        refine iteF ?_
        have e : passG g z n = updF g x n := by unfold passG; rw [et]
        refine ⟨_, rfl, _, rfl, f, CF, dx, _, _, rfl, ob2, GC.cl, GC.nV, frF_v _ _ _ _, ?_⟩
        refine ⟨_, rfl, a, sv z, _, _, rfl, rfl, SqT.of ha2, atI_nat (sv_0 z), rfl, decide (word z = "read"), congrArg V.bl (str_dec _ _), ?_⟩
        obtain ⟨a1, a2⟩ := h2'.put (updF g x n)
        have fin : FrAt CF (upd H2 vl (.dK (vDict (updF g x n)))) f st vl ex p i (passG g z n) ∧ Kp (fun b => b = f ∨ b = vl ∨ b = ex) H (upd H2 vl (.dK (vDict (updF g x n)))) := by
          rw [e]
          exact ⟨a1, kh2.trans a2 (fun _ h => h) (fun c e => .inl (.inr (.inl e)))⟩
        have ntr : ¬ ("try" : Str) = "read" := by decide +kernel
        rcases hw with ⟨hw, ei⟩ | ⟨hw, ei⟩
        · rw [decide_eq_true hw]
          refine iteT ?_
          exact ⟨_, rfl, a, sv z, 1, _, rfl, rfl, SqT.of ha2, atI_nat (j := 1) ei, vl, _, rfl, dputS h2'.vls (by rw [vDict_len]; decide) (vDict_put g n hx), rfl, fin.1, fin.2⟩
        · rw [decide_eq_false (by rw [hw]; exact ntr)]
          refine iteF ?_
          exact ⟨_, rfl, a, sv z, 2, _, rfl, rfl, SqT.of ha2, atI_nat (j := 2) ei, vl, _, rfl, dputS h2'.vls (by rw [vDict_len]; decide) (vDict_put g n hx), rfl, fin.1, fin.2⟩
    · rintro σ' H2 ⟨rfl, h2', k2⟩
      obtain ⟨dx2, ob2⟩ := h2'.ob
      refine ⟨_, rfl, f, dx2, _, rfl, ob2, nm _ (by decide +kernel), f, st, vl, ex, p, i, 1, passG g z n, rfl, h2', Nat.le_refl _, hi, fun H3 h3' k3 => ?_⟩
      exact q H3 h3' (k2.trans k3 (fun _ h => h) (fun c e => .inl (e.imp id .inr)))
/-- frame.pass_step() -/
theorem ok_pass0 (F : FnM K CF "pass_step" "Frame.pass_step" sPassStep [] [("value", .non)] fa fd) (G : FnOk P w K mg base CX0 5 fa fd ["self", "value"] (spPassStep CF)) : PrM P w K mg base CF "pass_step" ["self", "value"] [.non] 5 (spPassStep CF) := by
  obtain ⟨ds, hd, hb⟩ : ∃ ds, Vals [V.non] ds ∧ Binds K fd ["self", "value"] ds := F.fn.binds0 1 (by simp) rfl (fun D doc pm an cdv ct us ks l1 l2 => match us, ks, l1, l2 with | [_], [_], _, _ => ⟨_, _, _, _, _, _, rfl, rfl, rfl⟩)
  exact ⟨fa, fd, ds, F.meth, G, hd, hb⟩
/-- frame.pass_step(value = v) -/
theorem ok_pass1 (F : FnM K CF "pass_step" "Frame.pass_step" sPassStep [] [("value", .non)] fa fd) (G : FnOk P w K mg base CX0 5 fa fd ["self", "value"] (spPassStep CF)) : PrMK P w K mg base CF "pass_step" ["value"] (fun vs zs => vs ++ zs) 5 (spPassStep CF) := by
  obtain ⟨mv, hb⟩ := F.fn.kbinds0 (ps := ["self", "value"]) 1 ["value"] [] (fun us mv ws => us ++ ws) (by simp) (by simp) (fun a b c => a.append c)
    (fun D doc pm an cdv ct us mv ws l1 l2 l3 => match us, mv, ws, l1, l2, l3 with | [_], [], [_], _, _, _ => rfl)
  exact ⟨fa, fd, _, _, F.meth, G, hb⟩
end
end Cy

set_option Elab.async false
set_option linter.all false
set_option maxRecDepth 100000
set_option maxHeartbeats 4000000
/-! Sorted names. -/
namespace Cy
open PySem PySem.Spec PyProof.Rows L2
def leS (x y : Str) : Prop := ¬ (y.cps.toList < x.cps.toList)
instance (x y : Str) : Decidable (leS x y) := inferInstanceAs (Decidable (¬ _))
theorem cps_inj {x y : Str} (h : x.cps.toList = y.cps.toList) : x = y := by
  cases x; cases y
  simpa using h
theorem leS_refl (x : Str) : leS x x := List.lt_irrefl _
theorem leS_total (x y : Str) : leS x y ∨ leS y x := by
  unfold leS
  by_cases h : y.cps.toList < x.cps.toList
  · exact .inr (List.lt_asymm h)
  · exact .inl h
theorem leS_trans {x y z : Str} (h1 : leS x y) (h2 : leS y z) : leS x z := by
  have a : x.cps.toList ≤ y.cps.toList := h1
  have b : y.cps.toList ≤ z.cps.toList := h2
  exact List.le_trans a b
theorem leS_anti {x y : Str} (h1 : leS x y) (h2 : leS y x) : x = y := by
  have a : x.cps.toList ≤ y.cps.toList := h1
  have b : y.cps.toList ≤ x.cps.toList := h2
  exact cps_inj (List.le_antisymm a b)
theorem leS_lt {x y : Str} (h1 : leS x y) (h2 : x ≠ y) : x.cps.toList < y.cps.toList := by
  by_cases h : x.cps.toList < y.cps.toList
  · exact h
  · exact absurd (leS_anti h1 h) h2
theorem rising_pw : ∀ (l : List Str) (p : Str), risingS p l = true → (p :: l).Pairwise leS
  | [], p, _ => List.pairwise_singleton _ _
  | x :: r, p, h => by
    have h' : (!ltCps x.cps.toList p.cps.toList && risingS x r) = true := h
    rw [Bool.and_eq_true, ltCps_eq] at h'
    have ih := rising_pw r x h'.2
    have hp : leS p x := by
      intro q
      rw [decide_eq_true q] at h'
      cases h'.1
    refine List.pairwise_cons.mpr ⟨fun y hy => ?_, ih⟩
    rcases List.mem_cons.mp hy with rfl | hy
    · exact hp
    · exact leS_trans hp ((List.pairwise_cons.mp ih).1 y hy)
theorem sortedS_pw {l : List Str} (h : sortedS l = true) : l.Pairwise leS := by
  cases l with
  | nil => exact .nil
  | cons x r => exact rising_pw r x h
def srt (l : List Str) : List Str := l.mergeSort fun a b => decide (leS a b)
theorem srt_perm (l : List Str) : (srt l).Perm l := List.mergeSort_perm _ _
theorem srt_pw (l : List Str) : (srt l).Pairwise leS := by
  have h := List.pairwise_mergeSort (le := fun a b => decide (leS a b)) (fun a b c h1 h2 => decide_eq_true (leS_trans (of_decide_eq_true h1) (of_decide_eq_true h2))) (fun a b => by
    rcases leS_total a b with h | h
    · rw [decide_eq_true h]; rfl
    · rw [decide_eq_true h, Bool.or_true]) l
  exact h.imp fun h => of_decide_eq_true h
theorem srt_eq {xs ys : List Str} (h : ys.Perm xs) (hp : ys.Pairwise leS) : ys = srt xs :=
  List.Perm.eq_of_pairwise (le := leS) (fun a b _ _ h1 h2 => leS_anti h1 h2) hp (srt_pw xs) (h.trans (srt_perm xs).symm)
theorem srt_congr {xs ys : List Str} (h : xs.Perm ys) : srt xs = srt ys := srt_eq ((srt_perm xs).trans h) (srt_pw xs)
theorem srt_set {xs ys : List Str} (h1 : xs.Nodup) (h2 : ys.Nodup) (h : ∀ x, x ∈ xs ↔ x ∈ ys) : srt xs = srt ys := srt_congr ((List.perm_ext_iff_of_nodup h1 h2).mpr h)
theorem srt_nodup {l : List Str} (h : l.Nodup) : (srt l).Nodup := (srt_perm l).nodup_iff.mpr h
theorem srt_mem {l : List Str} {x : Str} : x ∈ srt l ↔ x ∈ l := (srt_perm l).mem_iff
theorem srt_len (l : List Str) : (srt l).length = l.length := (srt_perm l).length_eq
/-- the library with its names in order -/
def sortL (L : Lib) : Lib := (srt (L.map (·.1))).map fun m => (m, prg L m)
theorem sortL_names (L : Lib) : (sortL L).map (·.1) = srt (L.map (·.1)) := by
  unfold sortL
  rw [List.map_map]
  exact List.map_id _
theorem lookup_map {f : Str → List Stp} : ∀ (l : List Str) (m : Str), m ∈ l → (l.map fun x => (x, f x)).lookup m = some (f m)
  | [], m, h => by cases h
  | x :: r, m, h => by
    rw [List.map_cons]
    by_cases e : m = x
    · subst e
      have hb : (m == m) = true := beq_self_eq_true m
      simp only [List.lookup, hb]
    · have hb : (m == x) = false := beq_eq_false_iff_ne.mpr e
      simp only [List.lookup, hb]
      exact lookup_map r m ((List.mem_cons.mp h).resolve_left e)
theorem lookup_none {β : Type} : ∀ (l : List (Str × β)) (m : Str), m ∉ l.map (·.1) → l.lookup m = none
  | [], _, _ => rfl
  | (x, b) :: r, m, h => by
    rw [List.map_cons, List.mem_cons, not_or] at h
    have hb : (m == x) = false := beq_eq_false_iff_ne.mpr h.1
    simp only [List.lookup, hb]
    exact lookup_none r m h.2
theorem prg_sort (L : Lib) : prg (sortL L) = prg L := by
  funext m
  by_cases h : m ∈ L.map (·.1)
  · unfold sortL
    show (List.lookup m _).getD [] = _
    rw [lookup_map _ m (srt_mem.mpr h)]
    rfl
  · unfold prg
    rw [lookup_none _ m h, lookup_none _ m (by rw [sortL_names]; exact fun q => h (srt_mem.mp q))]
theorem resN_prg {L L' : Lib} (h : prg L = prg L') : ∀ n, resN L n = resN L' n
  | 0 => rfl
  | n + 1 => by
    funext m
    show resO _ = resO _
    rw [resN_prg h n, h]
theorem res_prg {L L' : Lib} (h : prg L = prg L') (rk : Str → Nat) : res L rk = res L' rk := by
  funext m
  exact congrFun (resN_prg h _) m
theorem runP_prg {L L' : Lib} (h : prg L = prg L') (rk : Str → Nat) (own : Option Str) (p : List Stp) : runP L rk own p = runP L' rk own p := by
  unfold runP
  rw [res_prg h]
theorem Rch_prg {L L' : Lib} (h : prg L = prg L') {rk : Str → Nat} {m x : Str} (r : Rch L rk m x) : Rch L' rk m x := by
  induction r with
  | self m => exact .self m
  | step h1 _ ih => exact .step (by rw [← h, ← runP_prg h]; exact h1) ih
theorem RchP_prg {L L' : Lib} (h : prg L = prg L') {rk : Str → Nat} {own : Option Str} {p : List Stp} {x : Str} (r : RchP L rk own p x) : RchP L' rk own p x := by
  obtain ⟨a, h1, h2⟩ := r
  exact ⟨a, by rw [← runP_prg h]; exact h1, Rch_prg h h2⟩
theorem WfS.names {names names' : List Str} (h : ∀ m, m ∈ names → m ∈ names') {rk : Str → Nat} {r : Nat} {main : Bool} {n : Nat} {s : Stp} (w : WfS names rk r main n s) : WfS names' rk r main n s := by
  cases s with
  | read x m l => exact ⟨w.1, ⟨h _ w.2.1.1, w.2.1.2⟩, w.2.2⟩
  | need m => exact ⟨h _ w.1, w.2⟩
  | try_ m x => exact ⟨⟨h _ w.1.1, w.1.2⟩, w.2⟩
  | set x n => exact w
  | add x y => exact w
  | skip x k => exact w
  | exp l x => exact w
  | fail => exact w
theorem WfP.names {names names' : List Str} (h : ∀ m, m ∈ names → m ∈ names') {rk : Str → Nat} {r : Nat} {main : Bool} {p : List Stp} (w : WfP names rk r main p) : WfP names' rk r main p := ⟨w.len, fun i s e => (w.at_ i s e).names h⟩
theorem WfL.sort {L : Lib} {rk : Str → Nat} (W : WfL L rk) : WfL (sortL L) rk := by
  have e := sortL_names L
  refine ⟨by rw [e]; exact srt_nodup W.nd, ?_, ?_, fun m hm => ?_, fun m hm => ?_, fun m p hp => ?_⟩
  · unfold sortL
    rw [List.length_map, srt_len, List.length_map]
    exact W.lo
  · unfold sortL
    rw [List.length_map, srt_len, List.length_map]
    exact W.hi
  · rw [e] at hm; exact W.nm m (srt_mem.mp hm)
  · rw [e] at hm; exact W.rk9 m (srt_mem.mp hm)
  · have hm : m ∈ (sortL L).map (·.1) := List.mem_map.mpr ⟨_, hp, rfl⟩
    rw [e] at hm ⊢
    have hm' := srt_mem.mp hm
    have ep : p = prg L m := by
      obtain ⟨y, _, ey⟩ := List.mem_map.mp hp
      cases ey
      rfl
    rw [ep]
    exact (W.wf m _ (prg_mem hm' W.nd)).names fun x hx => srt_mem.mpr hx
end Cy

set_option Elab.async false
set_option linter.all false
set_option maxRecDepth 100000
set_option maxHeartbeats 4000000
/-! library.py -/
namespace Cy
open PySem PySem.Spec PyProof.Rows L2
abbrev sCheckLib : Stmt := top 42
abbrev sLibInit : Stmt := inClass (top 43) 0
abbrev sModules : Stmt := inClass (top 43) 2
abbrev sHasModule : Stmt := inClass (top 43) 3
abbrev sInitializer : Stmt := inClass (top 43) 4
/-! ### programs and dicts of programs in the heap -/
def ProgL (H : Hp) (v : V) (p : List Stp) : Prop := ∃ a xs, v = .ref a ∧ H a = some (.lst xs) ∧ Steps H xs p
def ProgT (H : Hp) (v : V) (p : List Stp) : Prop := ∃ a xs, v = .ref a ∧ H a = some (.tup xs) ∧ Steps H xs p
theorem ProgL.same {H H' : Hp} (e : Same H H') {v : V} {p : List Stp} (h : ProgL H v p) : ProgL H' v p := by
  obtain ⟨a, xs, e1, e2, e3⟩ := h
  exact ⟨a, xs, e1, e _ _ e2, e3.mono e⟩
theorem ProgT.kp {S : Addr → Prop} {H H' : Hp} (e : Kp S H H') {v : V} {p : List Stp} (h : ProgT H v p) : ProgT H' v p := by
  obtain ⟨a, xs, e1, e2, e3⟩ := h
  exact ⟨a, xs, e1, e.tup e2, e3.monoK e⟩
abbrev KvP (R : V → List Stp → Prop) : List (Key × V) → Lib → Prop := Paired fun kv mp => kv.1 = Sum.inr mp.1 ∧ R kv.2 mp.2
theorem KvP.get {R : V → List Stp → Prop} : ∀ {kvs : List (Key × V)} {L : Lib}, KvP R kvs L → (L.map (·.1)).Nodup → ∀ {m : Str} {p : List Stp}, (m, p) ∈ L → ∃ v, valV kvs (Sum.inr m) = some v ∧ R v p
  | _, _, .nil, _, _, _, h => by cases h
  | kv :: kvs, (m0, p0) :: L, .cons ⟨e1, e2⟩ t, nd, m, p, h => by
    rw [List.map_cons, List.nodup_cons] at nd
    by_cases e : m0 = m
    · rcases List.mem_cons.mp h with q | q
      · cases q
        exact ⟨kv.2, valV_pos e1, e2⟩
      · exact absurd (List.mem_map.mpr ⟨(m, p), q, e.symm⟩) nd.1
    · rw [valV_neg (by rw [e1]; exact fun q => e (Sum.inr.inj q))]
      exact KvP.get t nd.2 ((List.mem_cons.mp h).resolve_left fun q => e (by cases q; rfl))
theorem KvP.keys {R : V → List Stp → Prop} : ∀ {kvs : List (Key × V)} {L : Lib}, KvP R kvs L → kvs.map (·.1) = (L.map (·.1)).map Sum.inr
  | _, _, .nil => rfl
  | kv :: kvs, (m0, p0) :: L, .cons ⟨e1, e2⟩ t => by
    rw [List.map_cons, List.map_cons, List.map_cons, KvP.keys t, e1]
theorem KvP.none {R : V → List Stp → Prop} : ∀ {kvs : List (Key × V)} {L : Lib}, KvP R kvs L → ∀ {m : Str}, m ∉ L.map (·.1) → valV kvs (Sum.inr m) = none
  | _, _, .nil, m, _ => rfl
  | kv :: kvs, (m0, p0) :: L, .cons ⟨e1, e2⟩ t, m, h => by
    rw [List.map_cons, List.mem_cons, not_or] at h
    rw [valV_neg (by rw [e1]; exact fun q => h.1 (Sum.inr.inj q).symm)]
    exact KvP.none t h.2
/-! ### what is well said has no problem -/
theorem WfS.ok {names : List Str} {rk : Str → Nat} {r : Nat} {main : Bool} {n : Nat} {s : Stp} (w : WfS names rk r main n s) : OkS s := by
  cases s with
  | set x n => exact w.1
  | add x y => exact w
  | skip x k => exact ⟨w.1, w.2.1⟩
  | exp l x => exact ⟨w.2.1, w.2.2⟩
  | read x m l => exact ⟨w.1, w.2.1.2.1, w.2.2⟩
  | need m => exact w.2.1
  | try_ m x => exact ⟨w.1.2.1, w.2⟩
  | fail => exact trivial
theorem WfP.rt {names : List Str} {rk : Str → Nat} {r : Nat} {main : Bool} {p : List Stp} (w : WfP names rk r main p) {i : Nat} {s : Stp} (h : p[i]? = some s) : Rt s ((p.length : Int) - 1 - i) main := by
  have q := w.at_ i s h
  have hi : i < p.length := (List.getElem?_eq_some_iff.mp h).1
  refine ⟨q.ok, fun x k e => ?_, fun e => ?_⟩
  · subst e
    have := q.2.2
    omega
  · cases s with
    | exp l x => rw [q.1] at e; cases e
    | _ => rfl
theorem WfP.rtP {names : List Str} {rk : Str → Nat} {r : Nat} {main : Bool} {p : List Stp} (w : WfP names rk r main p) {H : Hp} {b : Addr} (hb : H b = some (.lst (names.map V.str))) : RtP H p main (.ref b) := by
  refine ⟨Nat.le_trans w.len (by decide), fun i s e => ⟨w.rt e, .inr ⟨b, names, rfl, hb, fun m hm => (w.asks (List.mem_of_getElem? e) hm).1⟩⟩⟩
theorem Rt.weak {s : Stp} {n : Int} {main : Bool} (h : Rt s n main) : Rt s n false := ⟨h.ok, h.sk, fun e => by cases e⟩
theorem WfP.rtN {names : List Str} {rk : Str → Nat} {r : Nat} {main : Bool} {p : List Stp} (w : WfP names rk r main p) {H : Hp} : RtP H p false .non :=
  ⟨Nat.le_trans w.len (by decide), fun i s e => ⟨(w.rt e).weak, .inl rfl⟩⟩
/-! ### a lock and its end -/
theorem unlock {H H' : Hp} {d : Addr} {u x : HO} (h : Same (upd H d x) H') (e : H d = some u) : Same H (upd H' d u) := fun b o q => by
  by_cases z : b = d
  · subst z
    rw [e] at q
    rw [upd_same, q]
  · rw [upd_ne z]
    exact h b o (by rw [upd_ne z]; exact q)
/-- the class -/
structure GLib (K : PySem.W.Frag) (mg : Str → Option Value) (CL : Addr) : Prop where
  cl : Cls K CL
  mgC : mg "Library" = some (.ref CL)
  nP : NoAttr K CL "own_programs"
structure LibAt (CL : Addr) (H : Hp) (lb d : Addr) (LS : Lib) : Prop where
  ob : ∃ dx, H lb = some (.ins CL dx [("own_programs", .ref d)])
  dc : ∃ kvs, H d = some (.dK kvs) ∧ KvP (ProgT H) kvs LS
theorem LibAt.mono {CL : Addr} {H H' : Hp} {lb d : Addr} {LS : Lib} {S : Addr → Prop} (h : LibAt CL H lb d LS) (e : Kp S H H') (h1 : ¬ S lb) (h2 : ¬ S d) : LibAt CL H' lb d LS := by
  obtain ⟨⟨dx, a⟩, ⟨kvs, b, c⟩⟩ := h
  exact ⟨⟨dx, e.at a h1⟩, ⟨kvs, e.at b h2, Paired.imp (fun _ _ r => ⟨r.1, r.2.kp e⟩) c⟩⟩
theorem LibAt.same {CL : Addr} {H H' : Hp} {lb d : Addr} {LS : Lib} (h : LibAt CL H lb d LS) (e : Same H H') : LibAt CL H' lb d LS := h.mono (S := fun _ => False) (Kp.of e) id id
theorem LibAt.lb_d {CL : Addr} {H : Hp} {lb d : Addr} {LS : Lib} (h : LibAt CL H lb d LS) : lb ≠ d := by
  obtain ⟨⟨dx, a⟩, ⟨kvs, b, c⟩⟩ := h
  exact ne_of a b (by intro z; cases z)
theorem libF_p (d : Addr) : List.lookup ("own_programs" : Str) [(("own_programs" : Str), V.ref d)] = some (V.ref d) := look_eq _ _ _
theorem libF_no {m : Str} (h : ¬ m = "own_programs") (d : Addr) : List.lookup m [(("own_programs" : Str), V.ref d)] = none := by rw [look_ne h]; rfl
section
variable {P : Program} {w : World} {K : PySem.W.Frag} {mg : Str → Option Value} {base : Heap} {aV aP aF CL : Addr} {fk : Str → Addr} {fa : Addr} {fd : FuncData}
def spCheckLib : Sp := fun vs H Q _ => ∃ (dm : Addr) (kvs : List (Key × V)) (L : Lib) (rk : Str → Nat), vs = [.ref dm] ∧ H dm = some (.dK kvs) ∧ KvP (ProgL H) kvs L ∧ WfL L rk ∧ ∀ H', Same H H' → Q .non H'
theorem scCheckLib : FnScope ["value", "known", "module", "program", "problem"] ["value"] (defScope sCheckLib) := ⟨rfl, rfl, rfl, by decide +kernel, rfl, by decide +kernel, by decide +kernel⟩
theorem ok_check_library (F : FnF K mg "check_library" sCheckLib [] [] fa fd) (T : G0 K mg aV aP) (h1 : Pr P w K mg base "is_name" ["value"] [] 1 spIsName) (h2 : PrK P w K mg base "first_problem" 1 ["known"] (fun vs zs => vs ++ ([.bl false] ++ zs)) 5 spFirst) :
    Pr P w K mg base "check_library" ["value"] [] 6 spCheckLib := by
  refine ⟨fa, fd, [], F.mg_, F.fn.kp, F.fn.ok0 scCheckLib (fun vs H Q E h => ?_) (fun cdv A outer s H vs Q E hr h => ?_), .nil, F.fn.bindsN fun _ _ _ _ _ _ us hl => match us, hl with | [_], _ => rfl⟩
  · obtain ⟨dm, kvs, L, rk, rfl, _⟩ := h
    rfl
  · obtain ⟨dm, kvs, L, rk, rfl, hd, hk, W, q⟩ := h
    have hr1 : Room 1 _ := hr.mono (by decide)
    refine ⟨_, pss_cons (ps_if (PW.pt (pw_or (pt_not (pt_val (pe_isi (n := "dict") rfl T.isinstance (pv 0) rfl T.dict (by decide +kernel))))
        (pw_or1 (pt_not (pt_chain op_le op_le pe_int (pe_callB call_lenD rfl T.len PySem.boot_len (pa_cons (pv 0) pa_nil)) (pe_gi rfl T.mostModules))))))
        (pss_one ps_never) pss_nil)
      (pss_cons (ps_set (i := 1) scCheckLib.nd rfl (Or.inl rfl) (pe_callTy (call_listD rfl) rfl T.list (by decide +kernel) (pa_cons (pv 0) pa_nil)))
      (pss_one (ps_lock (ps_for (g := gTwo K 2 3) PassesOwn.never rfl (pi_items (pv 0)) (pg_tup rfl (pgs_cons (pg_name (i := 2) scCheckLib.nd rfl (Or.inl rfl)) (pgs_cons (pg_name (i := 3) scCheckLib.nd rfl (Or.inl rfl)) pgs_nil)))
        (pss_cons (ps_set (i := 4) scCheckLib.nd rfl (Or.inl rfl) (pe_ifExp (pt_val (pe_pr h1 hr1 rfl (pa_cons (pv 2) pa_nil))) (pe_prk h2 hr rfl (pa_cons (pv 3) pa_nil) (pk_cons (pv 1) pk_nil)) (pe_un un_neg pe_int)))
        (pss_one (ps_if (pt_cmp (pc_notN (pv 4))) (pss_one ps_never) pss_nil))))))), ?_⟩
    have el : kvs.length = L.length := Paired.len hk
    have lo := W.lo
    have hi := W.hi
    refine ⟨_, rfl, _, _, _, _, _, rfl, .ty "dict", .base (.dK hd), kit_ty (b := "dict") (r := true) (by decide +kernel), true, rfl, ?_⟩
    refine iteF ?_
    refine ⟨_, rfl, dm, kvs, rfl, hd, _, _, rfl, rfl, true, ?_, ?_⟩
    · show V.bl (decide ((1 : Int) ≤ kvs.length)) = V.bl true
      rw [decide_eq_true (by omega)]
    refine iteT ?_
    refine ⟨_, _, rfl, rfl, true, ?_, ?_⟩
    · show V.bl (decide ((kvs.length : Int) ≤ 40)) = V.bl true
      rw [decide_eq_true (by omega)]
    refine iteF ?_
    -- known
    refine ⟨_, rfl, dm, kvs, rfl, Rd.of hd, fun kn nkn => ?_⟩
    have s1 : Same H (upd H kn (.lst (kvs.map fun kv => kV kv.1))) := Same.new nkn _
    have ek : (kvs.map fun kv => kV kv.1) = (L.map (·.1)).map V.str := by
      have e : (kvs.map fun kv => kV kv.1) = (kvs.map (·.1)).map kV := by rw [List.map_map]; rfl
      rw [e, hk.keys, List.map_map]
      rfl
    have hkn : (upd H kn (.lst (kvs.map fun kv => kV kv.1))) kn = some (.lst ((L.map (·.1)).map V.str)) := by rw [upd_same, ek]
    generalize upd H kn (.lst (kvs.map fun kv => kV kv.1)) = H1 at s1 hkn
    have hd1 := s1 _ _ hd
    have kn_dm : kn ≠ dm := (ne_of_none hd nkn).symm
    refine ⟨dm, .dK kvs, hd1, trivial, fun od => ?_⟩
    have hlk : ∀ {H' : Hp}, Same (upd H1 dm (.frz od (.dK kvs))) H' → H' dm = some (.frz od (.dK kvs)) := fun s => s _ _ upd_same
    have kn1 : (upd H1 dm (.frz od (.dK kvs))) kn = some (.lst ((L.map (·.1)).map V.str)) := by rw [upd_ne kn_dm]; exact hkn
    have prog1 : ∀ {v : V} {p : List Stp}, ProgL H v p → ProgL (upd H1 dm (.frz od (.dK kvs))) v p := by
      rintro v p ⟨a, xs, rfl, e2, e3⟩
      have k1 : Kp (fun b => b = dm) H (upd H1 dm (.frz od (.dK kvs))) := (Kp.of s1 : Kp (fun b => b = dm) H H1).upd (fun _ h => h) (.inl rfl) (nt_dK hd1) _
      exact ⟨a, xs, rfl, k1.at e2 (fun q => by rw [q, hd] at e2; cases e2), e3.monoK k1⟩
    refine ⟨_, rfl, dm, od, kvs, rfl, upd_same, ?_⟩
    refine for_it (walk_items (d := dm) (o := od) (kvs := kvs)) (fun i σ H' => Same (upd H1 dm (.frz od (.dK kvs))) H' ∧ ∃ u v z, σ = [some (.ref dm), some (.ref kn), u, v, z]) ⟨Same.refl _, none, none, none, rfl⟩ (fun i σ H' _ h => hlk h.1) ?_ ?_
    · rintro i v σ H2 H3 hi ⟨t1, u1, v1, z1, rfl⟩ ⟨X, y, z, rfl, nX, rfl, ey, ez⟩
      dsimp only at ey ez
      obtain ⟨kv, ekv, rfl⟩ := Option.map_eq_some_iff.mp ey
      rw [ekv] at ez
      cases ez
      obtain ⟨⟨m, p⟩, emp, e1, e2⟩ := Paired.at hk i kv ekv
      have hmem : (m, p) ∈ L := List.mem_of_getElem? emp
      have t2 : Same (upd H1 dm (.frz od (.dK kvs))) (upd H2 X (.tup [kV kv.1, kv.2])) := t1.upd (t1.free nX) _
      refine ⟨X, _, rfl, SqT.of upd_same, rfl, _, _, rfl, ?_⟩
      refine ⟨_, _, rfl, rfl, ?_⟩
      have e1' : kv.1 = Sum.inr m := e1
      rw [e1']
      refine ⟨_, rfl, m, rfl, W.nm m (List.mem_map.mpr ⟨_, hmem, rfl⟩), fun H4 t3 => ⟨true, rfl, ?_⟩⟩
      rw [e1'] at t2
      refine iteT ?_
      have t4 := t2.trans t3
      obtain ⟨a, xs, ea, ha, hp⟩ := (prog1 e2).same t4
      refine ⟨_, rfl, _, rfl, rfl, rfl, a, xs, p, false, .ref kn, ?_, ha, hp, (W.wf m p hmem).rtP (t4 _ _ kn1), fun H5 t5 => ?_⟩
      · show [kv.2, V.bl false, V.ref kn] = _
        have ea' : kv.2 = V.ref a := ea
        rw [ea']
      refine ⟨_, rfl, _, rfl, ?_⟩
      exact iteF ⟨t4.trans t5, _, _, _, rfl⟩
    · rintro σ H2 ⟨t1, u1, v1, z1, rfl⟩
      exact ⟨hlk t1, q _ (s1.trans (unlock t1 hd1))⟩
end
end Cy

set_option Elab.async false
set_option linter.all false
set_option maxRecDepth 100000
set_option maxHeartbeats 4000000
/-! library.py: the methods -/
namespace Cy
open PySem PySem.Spec PyProof.Rows L2
section
variable {P : Program} {w : World} {K : PySem.W.Frag} {mg : Str → Option Value} {base : Heap} {aV aP aF CL : Addr} {fk : Str → Addr} {fa : Addr} {fd : FuncData}
def spLibInit (CL : Addr) : Sp := fun vs H Q _ => ∃ (lb dx dm : Addr) (kvs : List (Key × V)) (L : Lib) (rk : Str → Nat), vs = [.ref lb, .ref dm] ∧ H lb = some (.ins CL dx []) ∧ H dm = some (.dK kvs) ∧ KvP (ProgL H) kvs L ∧ WfL L rk ∧
  ∀ d H', LibAt CL H' lb d (sortL L) → Kp (fun b => b = lb) H H' → H d = none → Q .non H'
theorem scLibInit : FnScope ["self", "modules", "module"] ["self", "modules"] (defScope sLibInit) := ⟨rfl, rfl, rfl, by decide +kernel, rfl, by decide +kernel, by decide +kernel⟩
theorem KvP.imp {R R' : V → List Stp → Prop} (f : ∀ v p, R v p → R' v p) {kvs : List (Key × V)} {L : Lib} (h : KvP R kvs L) : KvP R' kvs L := Paired.imp (fun _ _ r => ⟨r.1, f _ _ r.2⟩) h
theorem Paired.snoc {α β : Type} {R : α → β → Prop} : ∀ {l : List α} {m : List β} {a : α} {b : β}, Paired R l m → R a b → Paired R (l ++ [a]) (m ++ [b])
  | _, _, _, _, .nil, r => .cons r .nil
  | _, _, _, _, .cons q t, r => .cons q (Paired.snoc t r)
def rTupOf (K : PySem.W.Frag) : List V → Hp → VK → Prop := fun xs H Q => ∃ p ys, xs = [.ref p] ∧ ((SqL K H p ys ∧ ∀ l, H l = none → Q (.ref l) (upd H l (.tup ys))) ∨ (SqT K H p ys ∧ Q (.ref p) H))
theorem ok_lib_init (F : FnM K CL "__init__" "Library.__init__" sLibInit [] [] fa fd) (T : G0 K mg aV aP) (GL : GLib K mg CL) (h1 : Pr P w K mg base "check_library" ["value"] [] 6 spCheckLib) :
    PrM P w K mg base CL "__init__" ["self", "modules"] [] 7 (spLibInit CL) := by
  refine ⟨fa, fd, [], F.meth, F.fn.ok0 scLibInit (fun vs H Q E h => ?_) (fun cdv A outer s H vs Q E hr h => ?_), .nil, F.fn.bindsN fun _ _ _ _ _ _ us hl => match us, hl with | [_, _], _ => rfl⟩
  · obtain ⟨lb, dx, dm, kvs, L, rk, rfl, _⟩ := h
    rfl
  · obtain ⟨lb, dx, dm, kvs, L, rk, rfl, hlb, hd, hk, W, q⟩ := h
    have hu := hu_of hr
    refine ⟨_, pss_cons (ps_expr (pe_pr h1 hr rfl (pa_cons (pv 1) pa_nil)))
      (pss_one (ps_fld (pv 0) (pe_dc (own := [("module", 2)]) (g := gName 2) (tt := tYes) (tk := tVar 2) (tv := tCB (rTupOf K) (tCons (tDGet (tVar 1) (tVar 2)) tNil)) rfl scLibInit.nd
          (pi_list (pe_callB (call_sortedD rfl) rfl T.sorted (by decide +kernel) (pa_cons (pv 1) pa_nil)))
          (blkOk_by (N := ["self", "modules", "module"]) (sc := defScope sLibInit) (by decide +kernel))
          (fun _ _ _ _ _ => pg_name (i := 2) scLibInit.nd rfl (Or.inl rfl)) (fun _ _ _ _ _ => pts_nil) (fun _ _ _ _ _ => pv 2)
          (fun _ _ _ _ _ => pe_callTy call_tuple_of rfl T.tuple (by decide +kernel) (pa_cons (pe_dget hu (pv 1) (pv 2) (fun _ _ => rfl)) pa_nil))) rfl)), ?_⟩
    refine ⟨_, rfl, dm, kvs, L, rk, rfl, hd, hk, W, fun H1 s1 => ?_⟩
    refine ⟨_, rfl, dm, kvs, L.map (·.1), rfl, Rd.of (s1 _ _ hd), hk.keys, by rw [List.length_map]; have := W.hi; omega, fun ys p hp hs np => ?_⟩
    obtain rfl := srt_eq hp (sortedS_pw hs)
    have s2 : Same H1 (upd H1 p (.lst ((srt (L.map (·.1))).map V.str))) := Same.new np _
    refine ⟨p, rfl, ⟨_, SqL.of upd_same⟩, fun D nD => ?_⟩
    have s12 := s1.trans s2
    generalize eH2 : upd H1 p (.lst ((srt (L.map (·.1))).map V.str)) = H2 at s2 nD s12
    have hp2 : H2 p = some (.lst ((srt (L.map (·.1))).map V.str)) := by rw [← eH2, upd_same]
    have hd2 := s12 _ _ hd
    have hk2 : KvP (ProgL H2) kvs L := hk.imp fun _ _ r => r.same s12
    have hnd : ((sortL L).map (·.1)).Nodup := W.sort.nd
    have hlen : (sortL L).length = L.length := by unfold sortL; rw [List.length_map, srt_len, List.length_map]
    have hi := W.hi
    refine dc_it (walk_list (xs := (srt (L.map (·.1))).map V.str)) (fun i H' => Same H2 H' ∧ ∃ ks, H' D = some (.dK ks) ∧ KvP (ProgT H') ks ((sortL L).take i)) ⟨Same.new nD _, [], upd_same, .nil⟩ (fun i H' _ h => SqL.of (h.1 _ _ hp2)) ?_ ?_
    · rintro i v H5 H4 hi' ⟨t1, ks, d1, kp⟩ ⟨rfl, ei⟩
      rw [List.getElem?_map] at ei
      obtain ⟨m, em, rfl⟩ := Option.map_eq_some_iff.mp ei
      have hm : m ∈ L.map (·.1) := srt_mem.mp (List.mem_of_getElem? em)
      have eL : (sortL L)[i]? = some (m, prg L m) := by unfold sortL; rw [List.getElem?_map, em]; rfl
      obtain ⟨u, eu, hu1⟩ := KvP.get hk2 W.nd (prg_mem hm W.nd)
      obtain ⟨a, xs, rfl, ha, hx⟩ := hu1.same t1
      refine ⟨rfl, ?_⟩
      refine ⟨_, rfl, _, rfl, _, rfl, dm, _, rfl, dgetS (t1 _ _ hd2) eu, ?_⟩
      refine ⟨a, xs, rfl, .inl ⟨SqL.of ha, fun l nl => ?_⟩⟩
      have lD : D ≠ l := ne_of_none d1 nl
      have t2 : Same H4 (upd H4 l (.tup xs)) := Same.new nl _
      have hm' : m ∉ ((sortL L).take i).map (·.1) := by
        intro hm2
        rw [List.map_take] at hm2
        obtain ⟨j, ej⟩ := List.mem_iff_getElem?.mp hm2
        have hj := (List.getElem?_eq_some_iff.mp ej).1
        rw [List.length_take] at hj
        rw [List.getElem?_take_of_lt (by omega)] at ej
        have ei2 : ((sortL L).map (·.1))[i]? = some m := by rw [List.getElem?_map, eL]; rfl
        have hij : i < ((sortL L).map (·.1)).length := (List.getElem?_eq_some_iff.mp ei2).1
        have := (List.getElem?_inj (by omega : j < ((sortL L).map (·.1)).length) hnd).mp (ej.trans ei2.symm)
        omega
      refine ⟨ks, Sum.inr m, rfl, by rw [upd_ne lD]; exact d1, ?_, (t1.trans t2).upd nD _, ks ++ [(Sum.inr m, .ref l)], ?_, ?_⟩
      · have e1 : ks.length = ((sortL L).take i).length := Paired.len kp
        rw [e1, List.length_take]
        have : sizeLine = 2 ^ 24 := by rfl
        omega
      · rw [upd_same, putK_new _ (KvP.none kp hm')]
      · have k5 : Kp (fun b => b = D) H4 (upd (upd H4 l (.tup xs)) D (.dK (putK ks (Sum.inr m) (.ref l)))) := (Kp.of t2 : Kp (fun b => b = D) _ _).upd (fun _ h => h) (.inl rfl) (nt_dK (by rw [upd_ne lD]; exact d1)) _
        have et : (sortL L).take (i + 1) = (sortL L).take i ++ [(m, prg L m)] := by rw [List.take_add_one, eL]; rfl
        rw [et]
        refine Paired.snoc (kp.imp fun _ _ r => r.kp k5) ⟨rfl, l, xs, rfl, ?_, hx.monoK k5⟩
        rw [upd_ne lD.symm, upd_same]
    · rintro H4 ⟨t1, ks, d1, kp⟩
      have e9 : ((srt (L.map (·.1))).map V.str).length = (sortL L).length := by unfold sortL; rw [List.length_map, List.length_map]
      rw [e9, List.take_of_length_le (Nat.le_refl _)] at kp
      have lb2 := s12 _ _ hlb
      have lb4 := t1 _ _ lb2
      have lbD : lb ≠ D := ne_of_none lb2 nD
      refine ⟨_, rfl, lb, CL, dx, _, rfl, lb4, GL.cl, GL.nP, (by show 0 < 1000; decide), ?_⟩
      have k5 : Kp (fun b => b = lb) H (upd H4 lb (.ins CL dx (putF "own_programs" (.ref D) []))) := (Kp.of (s12.trans t1) : Kp (fun b => b = lb) _ _).upd (fun _ h => h) (.inl rfl) (nt_ins lb4) _
      have k6 : Kp (fun b => b = lb) H4 (upd H4 lb (.ins CL dx (putF "own_programs" (.ref D) []))) := (Kp.refl H4 : Kp (fun b => b = lb) _ _).upd (fun _ h => h) (.inl rfl) (nt_ins lb4) _
      refine q D _ ⟨⟨dx, ?_⟩, ⟨ks, ?_, kp.imp fun _ _ r => r.kp k6⟩⟩ k5 (s12.free nD)
      · rw [upd_same]; rfl
      · rw [upd_ne lbD.symm]; exact d1
/-- library.modules() -/
def spModules (CL : Addr) : Sp := fun vs H Q _ => ∃ (lb d : Addr) (LS : Lib), vs = [.ref lb] ∧ LibAt CL H lb d LS ∧
  ∀ p, H p = none → Q (.ref p) (upd H p (.lst ((LS.map (·.1)).map V.str)))
theorem scModules : FnScope ["self"] ["self"] (defScope sModules) := ⟨rfl, rfl, rfl, by decide +kernel, rfl, by decide +kernel, by decide +kernel⟩
theorem ok_modules (F : FnM K CL "modules" "Library.modules" sModules [] [] fa fd) (T : G0 K mg aV aP) (GL : GLib K mg CL) : PrM P w K mg base CL "modules" ["self"] [] 1 (spModules CL) := by
  refine ⟨fa, fd, [], F.meth, F.fn.ok0 scModules (fun vs H Q E h => ?_) (fun cdv A outer s H vs Q E hr h => ?_), .nil, F.fn.bindsN fun _ _ _ _ _ _ us hl => match us, hl with | [_], _ => rfl⟩
  · obtain ⟨lb, d, LS, rfl, _⟩ := h
    rfl
  · obtain ⟨lb, d, LS, rfl, h, q⟩ := h
    refine ⟨_, pss_one (ps_ret (pe_callTy (call_listD rfl) rfl T.list (by decide +kernel) (pa_cons (pe_fld (pv 0) rfl) pa_nil))), ?_⟩
    obtain ⟨dx, ob⟩ := h.ob
    obtain ⟨kvs, hd, hk⟩ := h.dc
    refine ⟨_, rfl, lb, CL, dx, _, _, rfl, ob, GL.cl, GL.nP, libF_p d, d, kvs, rfl, Rd.of hd, fun p np => ?_⟩
    have ek : (kvs.map fun kv => kV kv.1) = (LS.map (·.1)).map V.str := by
      have e : (kvs.map fun kv => kV kv.1) = (kvs.map (·.1)).map kV := by rw [List.map_map]; rfl
      rw [e, hk.keys, List.map_map]
      rfl
    rw [ek]
    exact q p np
/-- library.has_module(m) -/
def spHasModule (CL : Addr) : Sp := fun vs H Q _ => ∃ (lb d : Addr) (LS : Lib) (m : Str), vs = [.ref lb, .str m] ∧ LibAt CL H lb d LS ∧ (LS.map (·.1)).Nodup ∧ m ∈ LS.map (·.1) ∧ Q (.bl true) H
theorem scHasModule : FnScope ["self", "value"] ["self", "value"] (defScope sHasModule) := ⟨rfl, rfl, rfl, by decide +kernel, rfl, by decide +kernel, by decide +kernel⟩
theorem ok_has_module (F : FnM K CL "has_module" "Library.has_module" sHasModule [] [] fa fd) (T : G0 K mg aV aP) (GL : GLib K mg CL) : PrM P w K mg base CL "has_module" ["self", "value"] [] 1 (spHasModule CL) := by
  refine ⟨fa, fd, [], F.meth, F.fn.ok0 scHasModule (fun vs H Q E h => ?_) (fun cdv A outer s H vs Q E hr h => ?_), .nil, F.fn.bindsN fun _ _ _ _ _ _ us hl => match us, hl with | [_, _], _ => rfl⟩
  · obtain ⟨lb, d, LS, m, rfl, _⟩ := h
    rfl
  · obtain ⟨lb, d, LS, m, rfl, h, hn, hm, q⟩ := h
    have hu := hu_of hr
    refine ⟨_, pss_one (ps_ret (pe_and (pe_isi (n := "str") rfl T.isinstance (pv 1) rfl T.str (by decide +kernel)) (pe_one (pe_cmp (pc_din hu (pv 1) (pe_fld (pv 0) rfl)))))), ?_⟩
    obtain ⟨dx, ob⟩ := h.ob
    obtain ⟨kvs, hd, hk⟩ := h.dc
    obtain ⟨u, eu, _⟩ := KvP.get hk hn (prg_mem hm hn)
    refine ⟨_, rfl, _, _, _, _, _, rfl, .ty "str", .base (.str _), kit_ty (b := "str") (r := true) (by decide +kernel), true, rfl, ?_⟩
    refine iteT ?_
    exact ⟨_, rfl, _, rfl, lb, CL, dx, _, _, rfl, ob, GL.cl, GL.nP, libF_p d, d, some u, rfl, dgetS hd eu, q⟩
/-- library.initializer(m) -/
def spInitializer (CL : Addr) : Sp := fun vs H Q _ => ∃ (lb d : Addr) (LS : Lib) (m : Str), vs = [.ref lb, .str m] ∧ LibAt CL H lb d LS ∧ (LS.map (·.1)).Nodup ∧ m ∈ LS.map (·.1) ∧
  ∀ l xs, H l = none → Steps (upd H l (.lst xs)) xs (prg LS m) → Q (.ref l) (upd H l (.lst xs))
theorem scInitializer : FnScope ["self", "module"] ["self", "module"] (defScope sInitializer) := ⟨rfl, rfl, rfl, by decide +kernel, rfl, by decide +kernel, by decide +kernel⟩
theorem ok_initializer (F : FnM K CL "initializer" "Library.initializer" sInitializer [] [] fa fd) (T : G0 K mg aV aP) (GL : GLib K mg CL) (h1 : PrM P w K mg base CL "has_module" ["self", "value"] [] 1 (spHasModule CL)) : PrM P w K mg base CL "initializer" ["self", "module"] [] 2 (spInitializer CL) := by
  refine ⟨fa, fd, [], F.meth, F.fn.ok0 scInitializer (fun vs H Q E h => ?_) (fun cdv A outer s H vs Q E hr h => ?_), .nil, F.fn.bindsN fun _ _ _ _ _ _ us hl => match us, hl with | [_, _], _ => rfl⟩
  · obtain ⟨lb, d, LS, m, rfl, _⟩ := h
    rfl
  · obtain ⟨lb, d, LS, m, rfl, h, hn, hm, q⟩ := h
    have hu := hu_of hr
    refine ⟨_, pss_cons (ps_if (pt_not (pt_val (pe_prm (pv 0) GL.cl h1 hr (pa_cons (pv 1) pa_nil)))) (pss_one ps_never) pss_nil)
      (pss_one (ps_ret (pe_callTy call_list_of rfl T.list (by decide +kernel) (pa_cons (pe_dget hu (pe_fld (pv 0) rfl) (pv 1) (fun _ _ => rfl)) pa_nil)))), ?_⟩
    obtain ⟨dx, ob⟩ := h.ob
    obtain ⟨kvs, hd, hk⟩ := h.dc
    obtain ⟨u, eu, a, xs, rfl, ha, hx⟩ := KvP.get hk hn (prg_mem hm hn)
    refine ⟨_, rfl, lb, dx, _, rfl, ob, libF_no (by decide +kernel) d, _, rfl, lb, d, LS, m, rfl, h, hn, hm, true, rfl, ?_⟩
    refine iteF ?_
    refine ⟨_, rfl, lb, CL, dx, _, _, rfl, ob, GL.cl, GL.nP, libF_p d, _, rfl, d, _, rfl, dgetS hd eu, a, xs, rfl, .inr (SqT.of ha), fun l nl => ?_⟩
    exact q l xs nl (hx.mono (Same.new nl _))
end
end Cy

set_option Elab.async false
set_option linter.all false
set_option maxRecDepth 100000
set_option maxHeartbeats 4000000
/-! A run in the heap. -/
namespace Cy
open PySem PySem.Spec PyProof.Rows L2
theorem k_ls : ¬ ("own_library" : Str) = "own_states" := by decide +kernel
theorem k_le : ¬ ("own_library" : Str) = "own_exports" := by decide +kernel
theorem k_lt : ¬ ("own_library" : Str) = "own_started" := by decide +kernel
theorem k_se2 : ¬ ("own_states" : Str) = "own_exports" := by decide +kernel
theorem k_st : ¬ ("own_states" : Str) = "own_started" := by decide +kernel
theorem k_et : ¬ ("own_exports" : Str) = "own_started" := by decide +kernel
/-- the addresses of a run: itself, its library, the library's programs, states, exports, started ones -/
structure RA where
  r : Addr
  lb : Addr
  d : Addr
  ds : Addr
  dx : Addr
  ls : Addr
def plF (R : RA) : List (Str × V) := [("own_library", .ref R.lb), ("own_states", .ref R.ds), ("own_exports", .ref R.dx), ("own_started", .ref R.ls)]
theorem plF_l (R : RA) : (plF R).lookup ("own_library" : Str) = some (V.ref R.lb) := look_eq _ _ _
theorem plF_s (R : RA) : (plF R).lookup ("own_states" : Str) = some (V.ref R.ds) := by unfold plF; rw [look_ne (Ne.symm k_ls), look_eq]
theorem plF_e (R : RA) : (plF R).lookup ("own_exports" : Str) = some (V.ref R.dx) := by unfold plF; rw [look_ne (Ne.symm k_le), look_ne (Ne.symm k_se2), look_eq]
theorem plF_t (R : RA) : (plF R).lookup ("own_started" : Str) = some (V.ref R.ls) := by unfold plF; rw [look_ne (Ne.symm k_lt), look_ne (Ne.symm k_st), look_ne (Ne.symm k_et), look_eq]
theorem plF_no {m : Str} (h : m ∉ ([("own_library" : Str), "own_states", "own_exports", "own_started"] : List Str)) (R : RA) : (plF R).lookup m = none := by
  simp only [List.mem_cons, List.not_mem_nil, or_false, not_or] at h
  unfold plF; rw [look_ne h.1, look_ne h.2.1, look_ne h.2.2.1, look_ne h.2.2.2]; rfl
theorem plF_make (R : RA) : putF "own_started" (.ref R.ls) (putF "own_exports" (.ref R.dx) (putF "own_states" (.ref R.ds) (putF "own_library" (.ref R.lb) []))) = plF R := by
  unfold plF
  simp only [putF, k_ls, k_le, k_lt, k_se2, k_st, k_et, if_false]
structure GPl (K : PySem.W.Frag) (mg : Str → Option Value) (CP : Addr) : Prop where
  cl : Cls K CP
  mgC : mg "PlainRun" = some (.ref CP)
  nL : NoAttr K CP "own_library"
  nS : NoAttr K CP "own_states"
  nE : NoAttr K CP "own_exports"
  nT : NoAttr K CP "own_started"
abbrev keysD (D : List (Str × Bool)) : List Str := D.map (·.1)
abbrev names (L : Lib) : List Str := L.map (·.1)
/-- what a run mutates -/
def M3 (R : RA) (c : Addr) : Prop := c = R.ds ∨ c = R.dx ∨ c = R.ls
structure RunAt (CP CL : Addr) (Av : Addr → Prop) (H : Hp) (R : RA) (LS : Lib) (rk : Str → Nat) (D : List (Str × Bool)) (E : List (Key × V)) (S : List Str) : Prop where
  ob : ∃ z, H R.r = some (.ins CP z (plF R))
  lib : LibAt CL H R.lb R.d LS
  sts : H R.ds = some (.dK (sDict D))
  exd : H R.dx = some (.dK E)
  std : H R.ls = some (.lst (S.map V.str))
  dne : R.d ≠ R.ds ∧ R.d ≠ R.dx ∧ R.ds ≠ R.dx
  av : ¬ Av R.r ∧ ¬ Av R.lb ∧ ¬ Av R.d ∧ ¬ Av R.ds ∧ ¬ Av R.dx ∧ ¬ Av R.ls
  nd : (keysD D).Nodup
  good : ∀ m b, (m, b) ∈ D → m ∈ names LS ∧ b = (res LS rk m).ready
  cl : ∀ m ∈ keysD D, ∀ x, Rch LS rk m x → x ∈ keysD D
  exps : ∀ m ∈ keysD D, ∃ a, valV E (Sum.inr m) = some (.ref a) ∧ H a = some (.dK (xDict (res LS rk m).exps)) ∧ a ≠ R.ds ∧ a ≠ R.dx ∧ ¬ Av a
  end1 : (E.map (·.1)).Nodup
  ek : ∀ k ∈ E.map (·.1), k ∈ (names LS).map Sum.inr
theorem keyC_mem {kvs : List (Key × V)} {k : Key} : (kvs.any fun kv => decide (kv.1 = k)) = true ↔ k ∈ kvs.map (·.1) := by
  rw [List.any_eq_true, List.mem_map]
  constructor
  · rintro ⟨x, h1, h2⟩
    exact ⟨x, h1, of_decide_eq_true h2⟩
  · rintro ⟨x, h1, h2⟩
    exact ⟨x, h1, decide_eq_true h2⟩
theorem putK_keysT {kvs : List (Key × V)} {k : Key} (h : k ∈ kvs.map (·.1)) (v : V) : (putK kvs k v).map (·.1) = kvs.map (·.1) := by
  unfold putK
  rw [if_pos (keyC_mem.mpr h), List.map_map]
  refine List.map_congr_left fun x _ => ?_
  show (if x.1 = k then (x.1, v) else x).1 = x.1
  split <;> rfl
theorem putK_keysF {kvs : List (Key × V)} {k : Key} (h : ¬ k ∈ kvs.map (·.1)) (v : V) : (putK kvs k v).map (·.1) = kvs.map (·.1) ++ [k] := by
  unfold putK
  rw [if_neg (fun q => h (keyC_mem.mp q)), List.map_append]
  rfl
theorem putK_nd {kvs : List (Key × V)} (h : (kvs.map (·.1)).Nodup) (k : Key) (v : V) : ((putK kvs k v).map (·.1)).Nodup := by
  by_cases hk : k ∈ kvs.map (·.1)
  · rw [putK_keysT hk]; exact h
  · rw [putK_keysF hk, List.nodup_append]
    exact ⟨h, List.pairwise_singleton _ _, fun a ha b hb => by rw [List.mem_singleton.mp hb]; exact fun q => hk (q ▸ ha)⟩
theorem putK_sub {kvs : List (Key × V)} {T : Key → Prop} (h : ∀ k ∈ kvs.map (·.1), T k) {k : Key} (hk : T k) (v : V) : ∀ j ∈ (putK kvs k v).map (·.1), T j := by
  intro j hj
  by_cases hm : k ∈ kvs.map (·.1)
  · rw [putK_keysT hm] at hj
    exact h j hj
  · rw [putK_keysF hm] at hj
    rcases List.mem_append.mp hj with q | q
    · exact h j q
    · rw [List.mem_singleton.mp q]; exact hk
theorem Kp.fresh {S : Addr → Prop} {H H' : Hp} (a : Kp S H H') (h : ∀ c, S c → H c = none) : Same H H' := fun b o e => a b o e (.inl fun q => by rw [h b q] at e; cases e)
section
variable {CP CL CF : Addr} {Av Av' : Addr → Prop} {H H' : Hp} {R : RA} {LS : Lib} {rk : Str → Nat} {D : List (Str × Bool)} {E : List (Key × V)} {S : List Str}
theorem RunAt.mono {T : Addr → Prop} (h : RunAt CP CL Av H R LS rk D E S) (e : Kp T H H') (hs : ∀ c, T c → Av c) : RunAt CP CL Av H' R LS rk D E S := by
  obtain ⟨v1, v2, v3, v4, v5, v6⟩ := h.av
  obtain ⟨z, ob⟩ := h.ob
  refine ⟨⟨z, e.at ob fun q => v1 (hs _ q)⟩, h.lib.mono e (fun q => v2 (hs _ q)) (fun q => v3 (hs _ q)), e.at h.sts fun q => v4 (hs _ q), e.at h.exd fun q => v5 (hs _ q), e.at h.std fun q => v6 (hs _ q), h.dne, h.av, h.nd, h.good, h.cl, fun m hm => ?_, h.end1, h.ek⟩
  obtain ⟨a, a1, a2, a3, a4, a5⟩ := h.exps m hm
  exact ⟨a, a1, e.at a2 fun q => a5 (hs _ q), a3, a4, a5⟩
theorem RunAt.same (h : RunAt CP CL Av H R LS rk D E S) (e : Same H H') : RunAt CP CL Av H' R LS rk D E S := h.mono (T := fun _ => False) (Kp.of e) fun _ q => q.elim
theorem RunAt.more (h : RunAt CP CL Av H R LS rk D E S) (e : ∀ c, Av' c → Av c ∨ H c = none) : RunAt CP CL Av' H R LS rk D E S := by
  obtain ⟨v1, v2, v3, v4, v5, v6⟩ := h.av
  obtain ⟨z, ob⟩ := h.ob
  obtain ⟨⟨z2, lb⟩, ⟨kvs, dd, _⟩⟩ := h.lib
  have go : ∀ {c : Addr} {o : HO}, H c = some o → ¬ Av c → ¬ Av' c := fun e1 n q => (e _ q).elim n fun y => by rw [y] at e1; cases e1
  refine ⟨h.ob, h.lib, h.sts, h.exd, h.std, h.dne, ⟨go ob v1, go lb v2, go dd v3, go h.sts v4, go h.exd v5, go h.std v6⟩, h.nd, h.good, h.cl, fun m hm => ?_, h.end1, h.ek⟩
  obtain ⟨a, a1, a2, a3, a4, a5⟩ := h.exps m hm
  exact ⟨a, a1, a2, a3, a4, go a2 a5⟩
theorem RunAt.less (h : RunAt CP CL Av H R LS rk D E S) (e : ∀ c, Av' c → Av c) : RunAt CP CL Av' H R LS rk D E S := h.more fun c q => .inl (e c q)
/-- a module is pushed, popped -/
theorem RunAt.push (h : RunAt CP CL Av H R LS rk D E S) (S' : List Str) : RunAt CP CL Av (upd H R.ls (.lst (S'.map V.str))) R LS rk D E S' ∧ Kp (M3 R) H (upd H R.ls (.lst (S'.map V.str))) := by
  obtain ⟨z, ob⟩ := h.ob
  obtain ⟨⟨z2, lb⟩, ⟨kvs, dd, ks⟩⟩ := h.lib
  have k : Kp (fun b => b = R.ls) H (upd H R.ls (.lst (S'.map V.str))) := (Kp.refl H : Kp (fun b => b = R.ls) H H).upd (fun _ h => h) (.inl rfl) (nt_lst h.std) _
  have nl : ∀ {c : Addr} {o : HO}, H c = some o → (∀ xs, o ≠ .lst xs) → ¬ c = R.ls := fun e1 n q => by
    rw [q, h.std] at e1
    exact n _ (Option.some.inj e1).symm
  refine ⟨⟨⟨z, k.at ob (nl ob fun _ q => by cases q)⟩, h.lib.mono k (nl lb fun _ q => by cases q) (nl dd fun _ q => by cases q), k.at h.sts (nl h.sts fun _ q => by cases q), k.at h.exd (nl h.exd fun _ q => by cases q), upd_same, h.dne, h.av, h.nd, h.good, h.cl, fun m hm => ?_, h.end1, h.ek⟩,
    k.sub fun c q => .inr (.inr q)⟩
  obtain ⟨a, a1, a2, a3, a4, a5⟩ := h.exps m hm
  exact ⟨a, a1, k.at a2 (nl a2 fun _ q => by cases q), a3, a4, a5⟩
/-- the exports of a module that is not done -/
theorem RunAt.putE (h : RunAt CP CL Av H R LS rk D E S) {m : Str} (hm : m ∈ names LS) (hn : m ∉ keysD D) (v : V) : RunAt CP CL Av (upd H R.dx (.dK (putK E (Sum.inr m) v))) R LS rk D (putK E (Sum.inr m) v) S ∧ Kp (M3 R) H (upd H R.dx (.dK (putK E (Sum.inr m) v))) := by
  obtain ⟨z, ob⟩ := h.ob
  obtain ⟨⟨z2, lb⟩, ⟨kvs, dd, ks⟩⟩ := h.lib
  have k : Kp (fun b => b = R.dx) H (upd H R.dx (.dK (putK E (Sum.inr m) v))) := (Kp.refl H : Kp (fun b => b = R.dx) H H).upd (fun _ h => h) (.inl rfl) (nt_dK h.exd) _
  have nl : ∀ {c : Addr} {o : HO}, H c = some o → (∀ xs, o ≠ .dK xs) → ¬ c = R.dx := fun e1 n q => by
    rw [q, h.exd] at e1
    exact n _ (Option.some.inj e1).symm
  refine ⟨⟨⟨z, k.at ob (nl ob fun _ q => by cases q)⟩, h.lib.mono k (nl lb fun _ q => by cases q) h.dne.2.1, k.at h.sts h.dne.2.2, upd_same, k.at h.std (nl h.std fun _ q => by cases q), h.dne, h.av, h.nd, h.good, h.cl, fun x hx => ?_, putK_nd h.end1 _ _, putK_sub h.ek (List.mem_map.mpr ⟨m, hm, rfl⟩) _⟩,
    k.sub fun c q => .inr (.inl q)⟩
  obtain ⟨a, a1, a2, a3, a4, a5⟩ := h.exps x hx
  refine ⟨a, ?_, k.at a2 a4, a3, a4, a5⟩
  rw [valV_put, if_neg (fun q => hn (by rw [← Sum.inr.inj q]; exact hx))]
  exact a1
/-- a module is done -/
theorem RunAt.add (h : RunAt CP CL Av H R LS rk D E S) {m : Str} {a : Addr} {E' : List (Key × V)} (hm : m ∈ names LS) (hn : m ∉ keysD D) (hc : ∀ x, Rch LS rk m x → x = m ∨ x ∈ keysD D)
    (e : Kp (fun c => c = R.ds ∨ c = R.dx) H H') (h1 : H' R.ds = some (.dK (sDict (D ++ [(m, (res LS rk m).ready)])))) (h2 : H' R.dx = some (.dK E')) (h3 : ∀ x, x ≠ m → valV E' (Sum.inr x) = valV E (Sum.inr x))
    (h4 : valV E' (Sum.inr m) = some (.ref a)) (h5 : H' a = some (.dK (xDict (res LS rk m).exps))) (h6 : a ≠ R.ds ∧ a ≠ R.dx ∧ ¬ Av a) (h7 : (E'.map (·.1)).Nodup) (h8 : ∀ k ∈ E'.map (·.1), k ∈ (names LS).map Sum.inr) :
    RunAt CP CL Av H' R LS rk (D ++ [(m, (res LS rk m).ready)]) E' S := by
  obtain ⟨z, ob⟩ := h.ob
  obtain ⟨⟨z2, lb⟩, ⟨kvs, dd, ks⟩⟩ := h.lib
  have nl : ∀ {c : Addr} {o : HO}, H c = some o → (∀ xs, o ≠ .dK xs) → ¬ (c = R.ds ∨ c = R.dx) := fun e1 n q => by
    rcases q with q | q
    · rw [q, h.sts] at e1
      exact n _ (Option.some.inj e1).symm
    · rw [q, h.exd] at e1
      exact n _ (Option.some.inj e1).symm
  have ek : keysD (D ++ [(m, (res LS rk m).ready)]) = keysD D ++ [m] := by unfold keysD; rw [List.map_append]; rfl
  refine ⟨⟨z, e.at ob (nl ob fun _ q => by cases q)⟩, h.lib.mono e (nl lb fun _ q => by cases q) (fun q => q.elim h.dne.1 h.dne.2.1), h1, h2, e.at h.std (nl h.std fun _ q => by cases q), h.dne, h.av, ?_, fun x b hx => ?_, fun x hx y hy => ?_, fun x hx => ?_, h7, h8⟩
  · rw [ek, List.nodup_append]
    exact ⟨h.nd, List.pairwise_singleton _ _, fun a ha b hb => by rw [List.mem_singleton.mp hb]; exact fun q => hn (q ▸ ha)⟩
  · rcases List.mem_append.mp hx with q | q
    · exact h.good x b q
    · cases List.mem_singleton.mp q
      exact ⟨hm, rfl⟩
  · rw [ek, List.mem_append] at hx ⊢
    rcases hx with q | q
    · exact .inl (h.cl x q y hy)
    · rw [List.mem_singleton.mp q] at hy
      rcases hc y hy with rfl | q2
      · exact .inr (List.mem_singleton.mpr rfl)
      · exact .inl q2
  · rw [ek, List.mem_append] at hx
    by_cases exm : x = m
    · subst exm
      exact ⟨a, h4, h5, h6.1, h6.2.1, h6.2.2⟩
    · have hx' : x ∈ keysD D := hx.resolve_right fun q => exm (List.mem_singleton.mp q)
      obtain ⟨b, a1, a2, a3, a4, a5⟩ := h.exps x hx'
      refine ⟨b, ?_, e.at a2 (fun q => q.elim a3 a4), a3, a4, a5⟩
      rw [h3 x exm]
      exact a1
theorem RunAt.lenE (h : RunAt CP CL Av H R LS rk D E S) (W : WfL LS rk) : E.length ≤ 9 := by
  have := List.Nodup.length_le_of_subset h.end1 (fun k hk => h.ek k hk)
  rw [List.length_map, List.length_map, List.length_map] at this
  exact Nat.le_trans this W.hi
theorem RunAt.lenD (h : RunAt CP CL Av H R LS rk D E S) (W : WfL LS rk) : D.length ≤ 9 := by
  have sub : keysD D ⊆ names LS := fun m hm => by
    obtain ⟨⟨m', b⟩, hb, rfl⟩ := List.mem_map.mp hm
    exact (h.good m' b hb).1
  have := List.Nodup.length_le_of_subset h.nd sub
  rw [List.length_map, List.length_map] at this
  exact Nat.le_trans this W.hi
theorem RunAt.flag (h : RunAt CP CL Av H R LS rk D E S) {m : Str} (hm : m ∈ keysD D) : valV (sDict D) (Sum.inr m) = some (V.str (stT (res LS rk m).ready)) := by
  obtain ⟨⟨m', b⟩, hb, rfl⟩ := List.mem_map.mp hm
  have := (h.good m' b hb).2
  subst this
  exact sDict_get h.nd hb
/-- the running program's own exports -/
def OwnAt (H : Hp) (E : List (Key × V)) (S : List Str) (ax vl : Addr) (X : List (Str × Int)) : Option Str → Prop
  | none => X = []
  | some m => m ∈ S ∧ valV E (Sum.inr m) = some (.ref ax) ∧ H ax = some (.dK (xDict X)) ∧ ax ≠ vl
/-- the value that names the running program -/
def ownV : Option Str → V
  | none => .non
  | some m => .str m
def AccAt (H : Hp) (aa : Addr) (acc : List Str) (n : Nat) : Prop := ∃ kvs, H aa = some (.dK kvs) ∧ kvs.length ≤ n ∧ ∀ m, valV kvs (Sum.inr m) = if m ∈ acc then some (V.bl true) else none
theorem AccAt.mono {T : Addr → Prop} {aa : Addr} {acc : List Str} {n k : Nat} (h : AccAt H aa acc n) (e : Kp T H H') (hn : ¬ T aa) (hk : n ≤ k) : AccAt H' aa acc k := by
  obtain ⟨kvs, a, b, c⟩ := h
  exact ⟨kvs, e.at a hn, Nat.le_trans b hk, c⟩
theorem OwnAt.mono {T : Addr → Prop} {E' : List (Key × V)} {ax vl : Addr} {X : List (Str × Int)} {o : Option Str} (h : OwnAt H E S ax vl X o) (e : Kp T H H') (hn : o ≠ none → ¬ T ax) (hv : ∀ m ∈ S, valV E' (Sum.inr m) = valV E (Sum.inr m)) : OwnAt H' E' S ax vl X o := by
  cases o with
  | none => exact h
  | some m =>
    obtain ⟨a, b, c, d⟩ := h
    exact ⟨a, by rw [hv m a]; exact b, e.at c (hn (by simp)), d⟩
end
end Cy

set_option Elab.async false
set_option linter.all false
set_option maxRecDepth 100000
set_option maxHeartbeats 4000000
/-! plain.py: a new run, value_for, pass_request -/
namespace Cy
open PySem PySem.Spec PyProof.Rows L2
abbrev sPlInit : Stmt := inClass (top 37) 0
abbrev sReadyAfter : Stmt := inClass (top 37) 1
abbrev sInitialize : Stmt := inClass (top 37) 2
abbrev sValueFor : Stmt := inClass (top 37) 3
abbrev sPassReq : Stmt := inClass (top 37) 4
abbrev sExecute : Stmt := inClass (top 37) 5
/-- what stands after modules were started -/
structure After (CP CL : Addr) (Av : Addr → Prop) (H : Hp) (R : RA) (LS : Lib) (rk : Str → Nat) (D : List (Str × Bool)) (E : List (Key × V)) (S : List Str) (T : Str → Prop) (M : Addr → Prop) (H' : Hp) (D' : List (Str × Bool)) (E' : List (Key × V)) : Prop where
  run : RunAt CP CL Av H' R LS rk D' E' S
  keys : ∀ x, x ∈ keysD D' ↔ x ∈ keysD D ∨ T x
  same : ∀ x ∈ S, valV E' (Sum.inr x) = valV E (Sum.inr x)
  kp : Kp M H H'
def pqR : Stp → Bool → Bool
  | .need _, b => b
  | _, _ => true
def pqG (g : Str → Int) : Stp → Bool → (Str → Int)
  | .try_ _ x, b => updF g x (if b = true then 1 else 0)
  | _, _ => g
def frM (R : RA) (f vl ex ax : Addr) (c : Addr) : Prop := M3 R c ∨ c = f ∨ c = vl ∨ c = ex ∨ c = ax
section
variable {P : Program} {w : World} {K : PySem.W.Frag} {mg : Str → Option Value} {base : Heap} {aV aP aF CL CF CP : Addr} {fk : Str → Addr} {fa : Addr} {fd : FuncData}
def spPlInit (CP CL : Addr) : Sp := fun vs H Q _ => ∃ (r z lb d : Addr) (LS : Lib) (rk : Str → Nat), vs = [.ref r, .ref lb] ∧ H r = some (.ins CP z []) ∧ LibAt CL H lb d LS ∧
  ∀ R H', R.r = r → R.lb = lb → R.d = d → RunAt CP CL (fun _ => False) H' R LS rk [] [] [] → Kp (fun b => b = r) H H' → H R.ds = none → H R.dx = none → H R.ls = none → Q .non H'
theorem scPlInit : FnScope ["self", "library"] ["self", "library"] (defScope sPlInit) := ⟨rfl, rfl, rfl, by decide +kernel, rfl, by decide +kernel, by decide +kernel⟩
theorem ok_pl_init (F : FnM K CP "__init__" "PlainRun.__init__" sPlInit [] [] fa fd) (GP : GPl K mg CP) : PrM P w K mg base CP "__init__" ["self", "library"] [] 1 (spPlInit CP CL) := by
  refine ⟨fa, fd, [], F.meth, F.fn.ok0 scPlInit (fun vs H Q E h => ?_) (fun cdv A outer s H vs Q E hr h => ?_), .nil, F.fn.bindsN fun _ _ _ _ _ _ us hl => match us, hl with | [_, _], _ => rfl⟩
  · obtain ⟨r, z, lb, d, LS, rk, rfl, _⟩ := h
    rfl
  · obtain ⟨r, z, lb, d, LS, rk, rfl, ho, hl, q⟩ := h
    refine ⟨_, pss_cons (ps_fld (pv 0) (pv 1) rfl) (pss_cons (ps_fld (pv 0) pe_dnewK rfl) (pss_cons (ps_fld (pv 0) pe_dnewK rfl) (pss_one (ps_fld (pv 0) (pe_lst pa_nil) rfl)))), ?_⟩
    obtain ⟨⟨zl, lbo⟩, kvs, dd, kv⟩ := hl
    have r_lb : lb ≠ r := by
      rintro rfl
      rw [lbo] at ho
      cases ho
    have r_d : d ≠ r := by
      rintro rfl
      rw [dd] at ho
      cases ho
    refine ⟨_, rfl, _, rfl, r, CP, z, _, rfl, ho, GP.cl, GP.nL, (by show 0 < 1000; decide), fun ds nds => ?_⟩
    generalize e1 : putF "own_library" (.ref lb) [] = F1
    rw [e1] at nds
    have ds_r : r ≠ ds := ne_of_none (show (upd H r (.ins CP z F1)) r = _ from upd_same) nds
    have nds0 : H ds = none := by rw [upd_ne ds_r.symm] at nds; exact nds
    refine ⟨_, rfl, r, CP, z, F1, rfl, by rw [upd_ne ds_r, upd_same], GP.cl, GP.nS, (by rw [← e1]; show 1 < 1000; decide), fun dx ndx => ?_⟩
    have dx_r : r ≠ dx := fun e => by subst e; rw [upd_same] at ndx; cases ndx
    rw [upd_ne dx_r.symm] at ndx
    have ds_dx : ds ≠ dx := fun e => by subst e; rw [upd_same] at ndx; cases ndx
    rw [upd_ne ds_dx.symm, upd_ne dx_r.symm] at ndx
    generalize e2 : putF "own_states" (.ref ds) F1 = F2
    refine ⟨_, rfl, r, CP, z, F2, rfl, by rw [upd_ne dx_r, upd_same], GP.cl, GP.nE, (by rw [← e2, ← e1]; show 2 < 1000; decide), ?_⟩
    generalize e3 : putF "own_exports" (.ref dx) F2 = F3
    refine ⟨by decide, fun ls nls => ?_⟩
    have ls_r : r ≠ ls := fun e => by subst e; rw [upd_same] at nls; cases nls
    rw [upd_ne ls_r.symm] at nls
    have ls_dx : dx ≠ ls := fun e => by subst e; rw [upd_same] at nls; cases nls
    rw [upd_ne ls_dx.symm, upd_ne ls_r.symm] at nls
    have ls_ds : ds ≠ ls := fun e => by subst e; rw [upd_same] at nls; cases nls
    rw [upd_ne ls_ds.symm, upd_ne ls_r.symm] at nls
    refine ⟨_, rfl, r, CP, z, F3, rfl, by rw [upd_ne ls_r, upd_same], GP.cl, GP.nT, (by rw [← e3, ← e2, ← e1]; show 3 < 1000; decide), ?_⟩
    have d_ds : d ≠ ds := ne_of_none dd nds0
    have d_dx : d ≠ dx := ne_of_none dd ndx
    let T : Addr → Prop := fun b => b = r
    have k1 : Kp T H (upd H r (.ins CP z F1)) := (Kp.refl H : Kp T H H).upd (fun _ h => h) (.inl rfl) (nt_ins ho) _
    have k2 := k1.upd (T := T) (fun _ h => h) (l := ds) (.inr nds0) (nt_none (by rw [upd_ne ds_r.symm]; exact nds0)) (.dK [])
    have k3 := k2.upd (T := T) (fun _ h => h) (l := r) (.inl rfl) (nt_ins (by rw [upd_ne ds_r, upd_same])) (.ins CP z F2)
    have k4 := k3.upd (T := T) (fun _ h => h) (l := dx) (.inr ndx) (nt_none (by rw [upd_ne dx_r.symm, upd_ne ds_dx.symm, upd_ne dx_r.symm]; exact ndx)) (.dK [])
    have k5 := k4.upd (T := T) (fun _ h => h) (l := r) (.inl rfl) (nt_ins (by rw [upd_ne dx_r, upd_same])) (.ins CP z F3)
    have k6 := k5.upd (T := T) (fun _ h => h) (l := ls) (.inr nls) (nt_none (by rw [upd_ne ls_r.symm, upd_ne ls_dx.symm, upd_ne ls_r.symm, upd_ne ls_ds.symm, upd_ne ls_r.symm]; exact nls)) (.lst [])
    have k7 := k6.upd (T := T) (fun _ h => h) (l := r) (.inl rfl) (nt_ins (by rw [upd_ne ls_r, upd_same])) (.ins CP z (putF "own_started" (.ref ls) F3))
    have hlib : LibAt CL H lb d LS := ⟨⟨zl, lbo⟩, kvs, dd, kv⟩
    refine q ⟨r, lb, d, ds, dx, ls⟩ _ rfl rfl rfl ⟨⟨z, ?_⟩, hlib.mono k7 r_lb r_d, ?_, ?_, ?_, ⟨d_ds, d_dx, ds_dx⟩, ⟨id, id, id, id, id, id⟩, List.nodup_nil, fun _ _ h => (by cases h), fun _ h => (by cases h), fun _ h => (by cases h), List.nodup_nil, fun _ h => (by cases h)⟩ k7 nds0 ndx nls
    · rw [upd_same, ← e3, ← e2, ← e1, ← plF_make]
    · show (upd _ _ _) ds = _
      rw [upd_ne ds_r.symm, upd_ne ls_ds, upd_ne ds_r.symm, upd_ne ds_dx, upd_ne ds_r.symm, upd_same]; rfl
    · show (upd _ _ _) dx = _
      rw [upd_ne dx_r.symm, upd_ne ls_dx, upd_ne dx_r.symm, upd_same]
    · show (upd _ _ _) ls = _
      rw [upd_ne ls_r.symm, upd_same]; rfl
def spValueFor (CP CL : Addr) : Sp := fun vs H Q _ => ∃ (Av : Addr → Prop) (R : RA) (LS : Lib) (rk : Str → Nat) (D : List (Str × Bool)) (E : List (Key × V)) (S : List Str) (own : Option Str) (ax vl aa a : Addr) (X : List (Str × Int)) (acc : List Str) (n : Nat) (x m l : Str),
  vs = [.ref R.r, ownV own, .ref aa, .ref a] ∧ RunAt CP CL Av H R LS rk D E S ∧ OwnAt H E S ax vl X own ∧ AccAt H aa acc n ∧ (∀ m ∈ acc, m ∈ keysD D) ∧ H a = some (.tup (sv (.read x m l))) ∧ Q (.int (readV (res LS rk) own acc X m l)) H
theorem scValueFor : FnScope ["self", "module", "accessed", "step"] ["self", "module", "accessed", "step"] (defScope sValueFor) := ⟨rfl, rfl, rfl, by decide +kernel, rfl, by decide +kernel, by decide +kernel⟩
theorem ok_value_for (F : FnM K CP "value_for" "PlainRun.value_for" sValueFor [] [] fa fd) (T : G0 K mg aV aP) (GP : GPl K mg CP) : PrM P w K mg base CP "value_for" ["self", "module", "accessed", "step"] [] 1 (spValueFor CP CL) := by
  refine ⟨fa, fd, [], F.meth, F.fn.ok0 scValueFor (fun vs H Q E h => ?_) (fun cdv A outer s H vs Q E hr h => ?_), .nil, F.fn.bindsN fun _ _ _ _ _ _ us hl => match us, hl with | [_, _, _, _], _ => rfl⟩
  · obtain ⟨Av, R, LS, rk, D, E', S, own, ax, vl, aa, a, X, acc, n, x, m, l, rfl, _⟩ := h
    rfl
  · obtain ⟨Av, R, LS, rk, D, E', S, own, ax, vl, aa, a, X, acc, n, x, m, l, rfl, h, ho, hacc, hsub, ha, q⟩ := h
    have hu := hu_of hr
    refine ⟨_, pss_mid (ps_if (PW.pt (pw_and (pt_cmpR op_ne (pe_ix ix_tup (pv 3) pe_int (fun _ _ => rfl)) (pv 1) (nomark _)) (pw_and1 (pt_cmp (pc_dnotin hu (pe_ix ix_tup (pv 3) pe_int (fun _ _ => rfl)) (pv 2))))))
        (pss_one (ps_ret (pe_gi rfl T.missing))) pss_nil)
      (pss_one (ps_ret (pe_dget2 hu (pe_dget hu (pe_fld (pv 0) rfl) (pe_ix ix_tup (pv 3) pe_int (fun _ _ => rfl)) (fun _ _ => rfl)) (pe_ix ix_tup (pv 3) pe_int (fun _ _ => rfl)) (pe_gi rfl T.missing) ⟨rfl, rfl, rfl, rfl⟩))), ?_⟩
    have rd : SqT K H a (sv (.read x m l)) := SqT.of ha
    obtain ⟨z, ob⟩ := h.ob
    -- the exports asked
    have fin : ∀ (b : Addr) (Y : List (Str × Int)), valV E' (Sum.inr m) = some (.ref b) → H b = some (.dK (xDict Y)) → readV (res LS rk) own acc X m l = getX Y l →
        tDGet2 (tDGet (tFld K (tVar 0) "own_exports") (tOp (rIxT K) (tVar 3) (tC (.int 2)))) (tOp (rIxT K) (tVar 3) (tC (.int 3))) (tC (.int (-1))) (start ["self", "module", "accessed", "step"] [.ref R.r, ownV own, .ref aa, .ref a]) H Q := fun b Y e1 e2 e3 => by
      refine ⟨_, rfl, R.r, CP, z, _, _, rfl, ob, GP.cl, GP.nE, plF_e R, ?_⟩
      refine ⟨_, rfl, a, _, 2, .str m, rfl, rfl, rd, atI_nat (j := 2) rfl, R.dx, _, rfl, dgetS h.exd e1, b, rfl, .inl ⟨_, Rd.of e2⟩, ?_⟩
      refine ⟨_, rfl, a, _, 3, .str l, rfl, rfl, rd, atI_nat (j := 3) rfl, valV (xDict Y) (Sum.inr l), DGet.k (k := Sum.inr l) e2, ?_⟩
      rw [getX_dict, ← e3]
      exact q
    refine ⟨fun σ' H' => σ' = start ["self", "module", "accessed", "step"] [.ref R.r, ownV own, .ref aa, .ref a] ∧ H' = H ∧ (own = some m ∨ own ≠ some m ∧ m ∈ acc), ?_, ?_⟩
    · refine ⟨_, rfl, a, _, 2, .str m, rfl, rfl, rd, atI_nat (j := 2) rfl, ?_⟩
      refine ⟨_, rfl, by cases own <;> rfl, decide (¬ own = some m), ?_, ?_⟩
      · cases own with
        | none => show V.bl (!decide (V.str m = V.non)) = _; simp
        | some y =>
          show V.bl (!decide (V.str m = V.str y)) = _
          rw [str_dec]
          by_cases e : m = y
          · subst e; simp
          · have : ¬ (some y = some m) := fun q => e (Option.some.inj q).symm
            simp [e, this]
      refine ite2 (fun e => ?_) (fun e => iteF ⟨rfl, rfl, .inl (Classical.byContradiction fun q => e (decide_eq_true q))⟩)
      have e' : ¬ own = some m := of_decide_eq_true e
      obtain ⟨kvs, k1, k2, k3⟩ := hacc
      refine ⟨_, rfl, a, _, 2, .str m, rfl, rfl, rd, atI_nat (j := 2) rfl, _, rfl, aa, valV kvs (Sum.inr m), rfl, DGet.k (k := Sum.inr m) k1, ?_⟩
      rw [k3 m]
      by_cases hm : m ∈ acc
      · rw [if_pos hm]
        exact ⟨false, rfl, iteF ⟨rfl, rfl, .inr ⟨e', hm⟩⟩⟩
      · rw [if_neg hm]
        refine ⟨true, rfl, iteT ?_⟩
        have ev : readV (res LS rk) own acc X m l = -1 := by unfold readV; rw [if_neg e', if_neg hm]
        rw [ev] at q
        exact q
    · rintro σ' H' ⟨rfl, rfl, hc⟩
      rcases hc with e | ⟨e, hm⟩
      · subst e
        obtain ⟨o1, o2, o3, o4⟩ := ho
        exact fin ax X o2 o3 (by unfold readV; rw [if_pos rfl])
      · obtain ⟨b, b1, b2, _⟩ := h.exps m (hsub m hm)
        exact fin b _ b1 b2 (by unfold readV; rw [if_neg e, if_pos hm])
end
end Cy

set_option Elab.async false
set_option linter.all false
set_option maxRecDepth 100000
set_option maxHeartbeats 4000000
/-! plain.py: pass_request -/
namespace Cy
open PySem PySem.Spec PyProof.Rows L2
/-- a module may be asked: it is one, below those that run -/
structure AskAt (CP CL : Addr) (Av : Addr → Prop) (H : Hp) (R : RA) (LS : Lib) (rk : Str → Nat) (D : List (Str × Bool)) (E : List (Key × V)) (S : List Str) (m : Str) (n : Nat) : Prop where
  run : RunAt CP CL Av H R LS rk D E S
  wf : WfL LS rk
  al : ∀ c, Av c → H c ≠ none
  mem : m ∈ names LS
  lt : rk m < n
  up : ∀ x ∈ S, rk m < rk x
  len : S.length + rk m ≤ 9
section
variable {P : Program} {w : World} {K : PySem.W.Frag} {mg : Str → Option Value} {base : Heap} {aV aP aF CL CF CP : Addr} {fk : Str → Addr} {fa : Addr} {fd : FuncData}
def spReady (CP CL : Addr) (n : Nat) : Sp := fun vs H Q _ => ∃ (Av : Addr → Prop) (R : RA) (LS : Lib) (rk : Str → Nat) (D : List (Str × Bool)) (E : List (Key × V)) (S : List Str) (m : Str),
  vs = [.ref R.r, .str m] ∧ AskAt CP CL Av H R LS rk D E S m n ∧ ∀ H' D' E', After CP CL Av H R LS rk D E S (Rch LS rk m) (M3 R) H' D' E' → Q (.bl (res LS rk m).ready) H'
def spPassReq (CP CL CF : Addr) (n : Nat) : Sp := fun vs H Q _ => ∃ (Av : Addr → Prop) (R : RA) (LS : Lib) (rk : Str → Nat) (D : List (Str × Bool)) (E : List (Key × V)) (S : List Str) (m : Str) (f st vl ex aa : Addr) (p : List Stp) (i : Nat) (g : Str → Int) (s : Stp) (acc : List Str),
  vs = [.ref R.r, .ref f, .ref aa] ∧ AskAt CP CL Av H R LS rk D E S m n ∧ FrAt CF H f st vl ex p i g ∧ Av f ∧ Av st ∧ Av vl ∧ Av ex ∧ Av aa ∧ aa ≠ vl ∧ p[i]? = some s ∧ (s = .need m ∨ ∃ x, s = .try_ m x) ∧ OkS s ∧ AccAt H aa acc i ∧
  ∀ H' D' E', After CP CL Av H R LS rk D E S (Rch LS rk m) (frM R f vl ex aa) H' D' E' → FrAt CF H' f st vl ex p (i + if pqR s (res LS rk m).ready = true then 1 else 0) (pqG g s (res LS rk m).ready) → AccAt H' aa (if (res LS rk m).ready = true then m :: acc else acc) (i + 1) →
    Q (.bl (pqR s (res LS rk m).ready)) H'
theorem scPassReq : FnScope ["self", "frame", "accessed", "step", "is_ready"] ["self", "frame", "accessed"] (defScope sPassReq) := ⟨rfl, rfl, rfl, by decide +kernel, rfl, by decide +kernel, by decide +kernel⟩
theorem word_try {s : Stp} : decide (word s = "try") = (match s with | .try_ _ _ => true | _ => false) := by
  have h : ∀ x ∈ ([("set" : Str), "add", "skip", "export", "read", "need", "fail"] : List Str), ¬ x = "try" := by decide +kernel
  cases s with
  | try_ _ _ => exact decide_eq_true rfl
  | set _ _ => exact decide_eq_false (h _ (by simp [word]))
  | add _ _ => exact decide_eq_false (h _ (by simp [word]))
  | skip _ _ => exact decide_eq_false (h _ (by simp [word]))
  | exp _ _ => exact decide_eq_false (h _ (by simp [word]))
  | read _ _ _ => exact decide_eq_false (h _ (by simp [word]))
  | need _ => exact decide_eq_false (h _ (by simp [word]))
  | fail => exact decide_eq_false (h _ (by simp [word]))
theorem AccAt.put {H : Hp} {aa : Addr} {acc : List Str} {n : Nat} (h : AccAt H aa acc n) (m : Str) (hn : n ≤ 10) : ∃ kvs, H aa = some (.dK kvs) ∧ kvs.length < sizeLine ∧ AccAt (upd H aa (.dK (putK kvs (Sum.inr m) (.bl true)))) aa (m :: acc) (n + 1) := by
  obtain ⟨kvs, a, b, c⟩ := h
  have : sizeLine = 2 ^ 24 := by rfl
  refine ⟨kvs, a, by omega, _, upd_same, Nat.le_trans (length_putK _ _ _) (by omega), fun x => ?_⟩
  rw [valV_put]
  by_cases e : x = m
  · subst e
    rw [if_pos rfl, if_pos List.mem_cons_self]
  · rw [if_neg (fun q => e (Sum.inr.inj q)), c x]
    by_cases hx : x ∈ acc
    · rw [if_pos hx, if_pos (List.mem_cons_of_mem _ hx)]
    · rw [if_neg hx, if_neg (fun q => (List.mem_cons.mp q).elim e hx)]
theorem ok_pass_request (n : Nat) {k : Nat} (hk : 5 ≤ k) (F : FnM K CP "pass_request" "PlainRun.pass_request" sPassReq [] [] fa fd) (T : G0 K mg aV aP) (GP : GPl K mg CP) (GC : GFr K mg CF)
    (h1 : PrM P w K mg base CF "next_step" ["self"] [] 2 (spNextStep CF)) (h2 : PrM P w K mg base CP "is_ready_after" ["self", "target"] [] k (spReady CP CL n))
    (h3 : PrM P w K mg base CF "pass_step" ["self", "value"] [.non] 5 (spPassStep CF)) (h4 : PrMK P w K mg base CF "pass_step" ["value"] (fun vs zs => vs ++ zs) 5 (spPassStep CF)) :
    PrM P w K mg base CP "pass_request" ["self", "frame", "accessed"] [] (k + 1) (spPassReq CP CL CF n) := by
  refine ⟨fa, fd, [], F.meth, F.fn.ok0 scPassReq (fun vs H Q E h => ?_) (fun cdv A outer s H vs Q E hr h => ?_), .nil, F.fn.bindsN fun _ _ _ _ _ _ us hl => match us, hl with | [_, _, _], _ => rfl⟩
  · obtain ⟨Av, R, LS, rk, D, E', S, m, f, st, vl, ex, aa, p, i, g, z, acc, rfl, _⟩ := h
    rfl
  · obtain ⟨Av, R, LS, rk, D, E', S, m, f, st, vl, ex, aa, p, i, g, z, acc, rfl, ask, fr, af, ast, avl, aex, aaa, navl, hz, hs, hok, hacc, q⟩ := h
    have hu := hu_of hr
    have hr2 : Room 2 _ := hr.mono (Nat.le_trans (by decide) hk)
    have hr5 : Room 5 _ := hr.mono hk
    refine ⟨_, pss_cons (ps_set (i := 3) scPassReq.nd rfl (Or.inl rfl) (pe_prm0 (pv 1) GC.cl h1 hr2))
      (pss_cons (ps_set (i := 4) scPassReq.nd rfl (Or.inl rfl) (pe_prm (pv 0) GP.cl h2 hr (pa_cons (pe_ix ix_tup (pv 3) pe_int (fun _ _ => rfl)) pa_nil)))
      (pss_mid (ps_if (pt_val (pv 4)) (pss_one (ps_dput hu (pv 2) (pe_ix ix_tup (pv 3) pe_int (fun _ _ => rfl)) pe_bl rfl)) pss_nil)
      (pss_cons (ps_if (pt_cmpR op_eq (pe_ix ix_tup (pv 3) pe_int (fun _ _ => rfl)) pe_str (nomark _))
          (pss_cons (ps_expr (pe_prmk (pv 1) GC.cl h4 hr5 (pk_cons (pe_callTy call_int1 rfl T.int (by decide +kernel) (pa_cons (pv 4) pa_nil)) pk_nil))) (pss_one (ps_ret pe_bl))) pss_nil)
      (pss_cons (ps_if (pt_val (pv 4)) (pss_one (ps_expr (pe_prm0 (pv 1) GC.cl h3 hr5))) pss_nil)
      (pss_one (ps_ret (pv 4))))))), ?_⟩
    obtain ⟨dx, ob⟩ := fr.ob
    obtain ⟨zr, obr⟩ := ask.run.ob
    have hi : i < p.length := (List.getElem?_eq_some_iff.mp hz).1
    have nmf : ∀ m : Str, m ∉ ([("own_steps" : Str), "own_index", "own_values", "own_executed"] : List Str) → ∀ j, (frF st j vl ex).lookup m = none := fun m hm j => by
      simp only [List.mem_cons, List.not_mem_nil, or_false, not_or] at hm
      exact frF_no hm.1 hm.2.1 hm.2.2.1 hm.2.2.2 _ _ _ _
    refine ⟨_, rfl, f, dx, _, rfl, ob, nmf _ (by decide +kernel) _, f, st, vl, ex, p, i, g, rfl, fr, fun e => by omega, fun a s' es ha => ?_⟩
    rw [hz] at es
    cases es
    have e1 : (sv z)[1]? = some (.str m) := by rcases hs with rfl | ⟨x, rfl⟩ <;> rfl
    refine ⟨_, rfl, R.r, zr, _, rfl, obr, plF_no (by decide +kernel) R, ?_⟩
    refine ⟨_, rfl, a, sv z, 1, .str m, rfl, rfl, SqT.of ha, atI_nat (j := 1) e1, Av, R, LS, rk, D, E', S, m, rfl, ask, fun H1 D1 E1 aft => ?_⟩
    -- after is_ready_after
    have m3av : ∀ c, M3 R c → ¬ Av c := fun c hc => by
      obtain ⟨v1, v2, v3, v4, v5, v6⟩ := ask.run.av
      rcases hc with rfl | rfl | rfl <;> assumption
    have nM : ∀ {c : Addr}, Av c → ¬ M3 R c := fun hc q => m3av _ q hc
    have fr1 : FrAt CF H1 f st vl ex p i g := fr.mono aft.kp (nM af) (nM ast) (nM avl) (nM aex)
    have ha1 := aft.kp.tup ha
    have acc1 : AccAt H1 aa acc i := hacc.mono aft.kp (nM aaa) (Nat.le_refl _)
    generalize er : (res LS rk m).ready = rd at q
    refine ⟨fun σ' H' => σ' = [some (.ref R.r), some (.ref f), some (.ref aa), some (.ref a), some (.bl rd)] ∧ Kp (frM R f vl ex aa) H H' ∧ RunAt CP CL Av H' R LS rk D1 E1 S ∧ FrAt CF H' f st vl ex p i g ∧ AccAt H' aa (if rd = true then m :: acc else acc) (i + 1), ?_, ?_⟩
    · have kp0 : Kp (frM R f vl ex aa) H H1 := aft.kp.sub fun c h => .inl h
      refine ⟨_, rfl, rd, rfl, ?_⟩
      refine ite2 (fun e => ?_) (fun e => ⟨rfl, kp0, aft.run, fr1, ?_⟩)
      · subst e
        have i10 : i ≤ 30 := Nat.le_trans (Nat.le_of_lt hi) fr.le
        obtain ⟨kvs, a1, a2, a3⟩ : ∃ kvs, H1 aa = some (.dK kvs) ∧ kvs.length < sizeLine ∧ AccAt (upd H1 aa (.dK (putK kvs (Sum.inr m) (.bl true)))) aa (m :: acc) (i + 1) := by
          obtain ⟨kvs, a, b, c⟩ := acc1
          have : sizeLine = 2 ^ 24 := by rfl
          refine ⟨kvs, a, by omega, _, upd_same, Nat.le_trans (length_putK _ _ _) (by omega), fun x => ?_⟩
          rw [valV_put]
          by_cases e : x = m
          · subst e
            rw [if_pos rfl, if_pos List.mem_cons_self]
          · rw [if_neg (fun q => e (Sum.inr.inj q)), c x]
            by_cases hx : x ∈ acc
            · rw [if_pos hx, if_pos (List.mem_cons_of_mem _ hx)]
            · rw [if_neg hx, if_neg (fun q => (List.mem_cons.mp q).elim e hx)]
        have kk : Kp (fun b => b = aa) H1 (upd H1 aa (.dK (putK kvs (Sum.inr m) (.bl true)))) := (Kp.refl H1 : Kp (fun b => b = aa) H1 H1).upd (fun _ h => h) (.inl rfl) (nt_dK a1) _
        have nf : ¬ f = aa := fun e => by
          obtain ⟨dx1, ob1⟩ := fr1.ob
          rw [e, a1] at ob1; cases ob1
        have nst : ¬ st = aa := fun e => by
          obtain ⟨xs, ob1, _⟩ := fr1.sts
          rw [e, a1] at ob1; cases ob1
        have nex : ¬ ex = aa := fun e => by
          obtain ⟨xs, ob1, _⟩ := fr1.exs
          rw [e, a1] at ob1; cases ob1
        refine ⟨_, rfl, _, rfl, a, sv z, 1, .str m, rfl, rfl, SqT.of ha1, atI_nat (j := 1) e1, aa, _, rfl, dputS a1 a2 rfl, ?_⟩
        exact ⟨rfl, kp0.trans kk (fun _ h => h) (fun c e => .inl (.inr (.inr (.inr (.inr e))))), aft.run.mono kk (fun c e => by rw [e]; exact aaa), fr1.mono kk nf nst (fun e => navl e.symm) nex, a3⟩
      · rw [if_neg e]
        exact acc1.mono (Kp.refl H1 : Kp (fun _ => False) _ _) id (Nat.le_succ _)
    · rintro σ' H2 ⟨rfl, k2, run2, fr2, acc2⟩
      obtain ⟨dx2, ob2⟩ := fr2.ob
      have ha2 := k2.tup ha
      -- a passed step
      have pas : ∀ {H3 : Hp} {g' : Str → Int}, FrAt CF H3 f st vl ex p (i + 1) g' → Kp (fun b => b = f ∨ b = vl ∨ b = ex) H2 H3 → After CP CL Av H R LS rk D E' S (Rch LS rk m) (frM R f vl ex aa) H3 D1 E1 ∧ AccAt H3 aa (if rd = true then m :: acc else acc) (i + 1) := fun {H3 g'} fr3 k3 => by
        refine ⟨⟨run2.mono k3 (fun c e => ?_), aft.keys, aft.same, k2.trans k3 (fun _ h => h) (fun c e => .inl (.inr ?_))⟩, acc2.mono k3 (fun e => ?_) (Nat.le_refl _)⟩
        · rcases e with rfl | rfl | rfl <;> assumption
        · rcases e with rfl | rfl | rfl
          · exact .inl rfl
          · exact .inr (.inl rfl)
          · exact .inr (.inr (.inl rfl))
        · obtain ⟨kvs, b1, _⟩ := acc2
          rcases e with e | e | e
          · rw [← e, b1] at ob2; cases ob2
          · exact navl e
          · obtain ⟨xs, b2, _⟩ := fr2.exs
            rw [← e, b1] at b2; cases b2
      refine ⟨_, rfl, a, sv z, _, _, rfl, rfl, SqT.of ha2, atI_nat (sv_0 z), rfl, decide (word z = "try"), congrArg V.bl (str_dec _ _), ?_⟩
      rw [word_try]
      rcases hs with rfl | ⟨x, rfl⟩
      · -- need
        refine iteF ?_
        refine ⟨_, rfl, rd, rfl, ?_⟩
        have e0 : pqR (.need m) rd = rd := rfl
        rw [e0] at q
        refine ite2 (fun e => ?_) (fun e => ?_)
        · subst e
          refine ⟨_, rfl, f, dx2, _, rfl, ob2, nmf _ (by decide +kernel) _, f, st, vl, ex, p, i, g, .need m, .non, 0, rfl, fr2, hz, rfl, hok, fun _ => rfl, (fun x e => by cases e), fun H3 fr3 k3 => ?_⟩
          obtain ⟨a1, a2⟩ := pas fr3 k3
          exact ⟨_, rfl, q H3 D1 E1 a1 fr3 a2⟩
        · have erd : rd = false := by cases rd <;> first | rfl | exact absurd rfl e
          subst erd
          exact ⟨_, rfl, q H2 D1 E1 ⟨run2, aft.keys, aft.same, k2⟩ fr2 acc2⟩
      · -- try
        refine iteT ?_
        refine ⟨_, rfl, f, dx2, _, rfl, ob2, nmf _ (by decide +kernel) _, _, rfl, .inr ⟨rd, rfl, ?_⟩⟩
        refine ⟨rfl, f, st, vl, ex, p, i, g, .try_ m x, .int (if rd = true then 1 else 0), if rd = true then 1 else 0, rfl, fr2, hz, rfl, hok, (fun e => by cases e), (fun _ _ => rfl), fun H3 fr3 k3 => ?_⟩
        obtain ⟨a1, a2⟩ := pas fr3 k3
        exact q H3 D1 E1 a1 fr3 a2
end
end Cy

set_option Elab.async false
set_option linter.all false
set_option maxRecDepth 100000
set_option maxHeartbeats 4000000
/-! plain.py: is_ready_after, initialize -/
namespace Cy
open PySem PySem.Spec PyProof.Rows L2
/-- the maker of a class -/
structure PrO (P : Program) (w : World) (K : PySem.W.Frag) (mg : Str → Option Value) (base : Heap) (x : Str) (C : Addr) (ps : List Str) (dvs : List V) (k : Nat) (sp : Sp) : Prop where
  ex : ∃ (f : Addr) (fd : FuncData) (ds : List Value), mg x = some (.ref C) ∧ Mk K C f ∧ FnOk P w K mg base CX0 k f fd ps sp ∧ Vals dvs ds ∧ Binds K fd ps ds
theorem pe_pro {X : Cx} {k : Nat} {C : Addr} {ps : List Str} {sp : Sp} {dvs : List V} {x : Str} {p pos : Pos} {e : Expr} {es : List Expr} {t : TA} (h : PrO X.prog X.w X.K X.mg X.base x C ps dvs k sp) (hr : Room (k + 1) X.A) (hg : Gl X x) (ha : PA X (e :: es) t)
    (hdb : (x == ("__debug__" : Str)) = false := by decide) (he : starEach (e :: es) X.env = (false, eval e X.env) :: starEach es X.env := by rfl) (hpl : (backTo pos (starEach es X.env)).any (·.1) = false := by rfl) :
    PE X (.Call (.Name x p) (e :: es) [] pos) (tMake C sp dvs E0 t) := by
  obtain ⟨f, fd, ds, hm, M, F, hd, hb⟩ := h.ex
  exact pe_make M F hr hg hm hb hd pass0 ha hdb he hpl
theorem PrM.pro {P : Program} {w : World} {K : PySem.W.Frag} {mg : Str → Option Value} {base : Heap} {x : Str} {C : Addr} {ps : List Str} {dvs : List V} {k : Nat} {sp : Sp} (h : PrM P w K mg base C "__init__" ps dvs k sp) (hm : mg x = some (.ref C)) (h1 : PySem.W.makesIn K C = true) (h2 : PySem.W.keepIn K (.ref C) = true) : PrO P w K mg base x C ps dvs k sp := by
  obtain ⟨f, fd, ds, M, F, hd, hb⟩ := h.ex
  exact ⟨f, fd, ds, hm, ⟨h1, M.at_, M.fn, h2⟩, F, hd, hb⟩
theorem made_same {H : Hp} {x dx C : Addr} (h1 : H x = none) (h2 : H dx = none) (h3 : dx ≠ x) : Same H (upd (upd H dx (.own x)) x (.ins C dx [])) :=
  (Same.new h2 _).upd h1 _
/-- Frame(l), made of a list of steps -/
theorem frame_made {CF : Addr} {H : Hp} {a : Addr} {xs : List V} {p : List Stp} {Q : Addr → Hp → Prop} (ha : H a = some (.lst xs)) (hx : Steps H xs p) (hp : RtP H p false .non)
    (q : ∀ f st vl ex H', FrAt CF H' f st vl ex p 0 f0 → Same H H' → H f = none → H st = none → H vl = none → H ex = none → Q f H') :
    ∀ x dx, H x = none → H dx = none → dx ≠ x → spFrInit CF (.ref x :: ([.ref a] ++ [])) (upd (upd H dx (.own x)) x (.ins CF dx [])) (fun v H2 => v = .non ∧ Q x H2) E0 := by
  intro x dx h1 h2 h3
  have s1 := made_same (C := CF) h1 h2 h3
  have kn : ∀ {kn : V} {l : List Str}, KnOk H kn l → KnOk (upd (upd H dx (.own x)) x (.ins CF dx [])) kn l := fun h => h.mono s1
  refine ⟨x, dx, a, xs, p, rfl, upd_same, s1 _ _ ha, hx.mono s1, ⟨hp.len, fun i s e => ⟨(hp.at_ i s e).1, kn (hp.at_ i s e).2⟩⟩, fun st vl ex H' fr kp g1 g2 g3 => ⟨rfl, ?_⟩⟩
  have k0 : Kp (fun b => b = x) H H' := (Kp.of s1 : Kp (fun b => b = x) _ _).trans kp (fun _ h => h) (fun c e => .inl e)
  exact q x st vl ex H' fr (k0.fresh fun c e => by rw [e]; exact h1) h1 (s1.free g1) (s1.free g2) (s1.free g3)
theorem RunAt.nM3 {CP CL : Addr} {Av : Addr → Prop} {H : Hp} {R : RA} {LS : Lib} {rk : Str → Nat} {D : List (Str × Bool)} {E : List (Key × V)} {S : List Str} (h : RunAt CP CL Av H R LS rk D E S) {c : Addr} (hc : H c = none) : ¬ M3 R c := by
  rintro (e | e | e)
  · rw [e, h.sts] at hc; cases hc
  · rw [e, h.exd] at hc; cases hc
  · rw [e, h.std] at hc; cases hc
theorem Kp.al {T : Addr → Prop} {H H' : Hp} (k : Kp T H H') {c : Addr} (h : H c ≠ none) (n : ¬ T c) : H' c ≠ none := by
  cases e : H c with
  | none => exact absurd e h
  | some o => rw [k.at e n]; simp
def frX (R : RA) (own : Option Str) (f vl ex ax : Addr) (c : Addr) : Prop := M3 R c ∨ c = f ∨ c = vl ∨ c = ex ∨ (own ≠ none ∧ c = ax)
section
variable {P : Program} {w : World} {K : PySem.W.Frag} {mg : Str → Option Value} {base : Heap} {aV aP aF CL CF CP : Addr} {fk : Str → Addr} {fa : Addr} {fd : FuncData}
def spExec (CP CL CF : Addr) (n : Nat) : Sp := fun vs H Q _ => ∃ (Av : Addr → Prop) (R : RA) (LS : Lib) (rk : Str → Nat) (D : List (Str × Bool)) (E : List (Key × V)) (S : List Str) (own : Option Str) (ax f st vl ex : Addr) (p : List Stp) (rr : Nat) (main : Bool),
  vs = [.ref R.r, ownV own, .ref f] ∧ WfL LS rk ∧ RunAt CP CL Av H R LS rk D E S ∧ (∀ c, Av c → H c ≠ none) ∧ WfP (names LS) rk rr main p ∧ rr ≤ n ∧ (∀ x ∈ S, rr ≤ rk x) ∧ S.length + rr ≤ 10 ∧ (own = none → main = true) ∧
  FrAt CF H f st vl ex p 0 f0 ∧ Av f ∧ Av st ∧ Av vl ∧ Av ex ∧ (own ≠ none → Av ax) ∧ OwnAt H E S ax vl [] own ∧
  ∀ H' D' E' j, After CP CL Av H R LS rk D E S (RchP LS rk own p) (frX R own f vl ex ax) H' D' E' → FrAt CF H' f st vl ex p j (runP LS rk own p).vars → OwnAt H' E' S ax vl (runP LS rk own p).exps own → Q (.bl (runP LS rk own p).ended) H'
def spInitM (CP CL : Addr) (n : Nat) : Sp := fun vs H Q _ => ∃ (Av : Addr → Prop) (R : RA) (LS : Lib) (rk : Str → Nat) (D : List (Str × Bool)) (E : List (Key × V)) (S : List Str) (m : Str),
  vs = [.ref R.r, .str m] ∧ AskAt CP CL Av H R LS rk D E S m n ∧ m ∉ keysD D ∧ ∀ H' D' E', After CP CL Av H R LS rk D E S (Rch LS rk m) (M3 R) H' D' E' → Q .non H'
theorem scReadyAfter : FnScope ["self", "target"] ["self", "target"] (defScope sReadyAfter) := ⟨rfl, rfl, rfl, by decide +kernel, rfl, by decide +kernel, by decide +kernel⟩
theorem stT_ready (b : Bool) : decide (V.str (stT b) = V.str "ready") = b := by
  have h : ¬ ("failed" : Str) = "ready" := by decide +kernel
  rw [str_dec]
  cases b
  · exact decide_eq_false h
  · exact decide_eq_true rfl
theorem ok_ready_after (n : Nat) {k : Nat} (F : FnM K CP "is_ready_after" "PlainRun.is_ready_after" sReadyAfter [] [] fa fd) (T : G0 K mg aV aP) (GP : GPl K mg CP)
    (h1 : PrM P w K mg base CP "initialize" ["self", "module"] [] k (spInitM CP CL n)) :
    PrM P w K mg base CP "is_ready_after" ["self", "target"] [] (k + 1) (spReady CP CL n) := by
  refine ⟨fa, fd, [], F.meth, F.fn.ok0 scReadyAfter (fun vs H Q E h => ?_) (fun cdv A outer s H vs Q E hr h => ?_), .nil, F.fn.bindsN fun _ _ _ _ _ _ us hl => match us, hl with | [_, _], _ => rfl⟩
  · obtain ⟨Av, R, LS, rk, D, E', S, m, rfl, _⟩ := h
    rfl
  · obtain ⟨Av, R, LS, rk, D, E', S, m, rfl, ask, q⟩ := h
    have hu := hu_of hr
    refine ⟨_, pss_cons (ps_if (pt_cmpR op_in_seq (pv 1) (pe_fld (pv 0) rfl) (by rfl)) (pss_one ps_never) pss_nil)
      (pss_mid (ps_if (pt_cmp (pc_dnotin hu (pv 1) (pe_fld (pv 0) rfl))) (pss_one (ps_expr (pe_prm (pv 0) GP.cl h1 hr (pa_cons (pv 1) pa_nil)))) pss_nil)
      (pss_one (ps_ret (pe_cmpR op_eq (pe_dget hu (pe_fld (pv 0) rfl) (pv 1) (fun _ _ => rfl)) (pe_gs rfl T.ready) (nomark _))))), ?_⟩
    obtain ⟨zr, obr⟩ := ask.run.ob
    refine ⟨_, rfl, _, rfl, R.r, CP, zr, _, _, rfl, obr, GP.cl, GP.nT, plF_t R, R.ls, S.map V.str, rfl, Or.inl (SqL.of ask.run.std), rfl, flat_strs _, ?_⟩
    rw [if_neg Bool.false_ne_true, inV_strs, decide_eq_false (fun hm => Nat.lt_irrefl _ (ask.up m hm))]
    refine ⟨false, rfl, iteF ?_⟩
    refine ⟨fun σ' H' => σ' = start ["self", "target"] [.ref R.r, .str m] ∧ ∃ D' E2, After CP CL Av H R LS rk D E' S (Rch LS rk m) (M3 R) H' D' E2, ?_, ?_⟩
    · refine ⟨_, rfl, _, rfl, R.r, CP, zr, _, _, rfl, obr, GP.cl, GP.nS, plF_s R, R.ds, valV (sDict D) (Sum.inr m), rfl, DGet.k (k := Sum.inr m) ask.run.sts, ?_⟩
      by_cases hm : m ∈ keysD D
      · rw [ask.run.flag hm]
        refine ⟨false, rfl, iteF ⟨rfl, D, E', ask.run, fun x => ?_, fun _ _ => rfl, Kp.refl H⟩⟩
        exact ⟨fun h => .inl h, fun h => h.elim id fun h => ask.run.cl m hm x h⟩
      · rw [sDict_none hm]
        refine ⟨true, rfl, iteT ?_⟩
        refine ⟨_, rfl, R.r, zr, _, rfl, obr, plF_no (by decide +kernel) R, _, rfl, Av, R, LS, rk, D, E', S, m, rfl, ask, hm, fun H' D' E2 aft => ?_⟩
        exact ⟨rfl, D', E2, aft⟩
    · rintro σ' H' ⟨rfl, D', E2, aft⟩
      obtain ⟨zr2, obr2⟩ := aft.run.ob
      have hm : m ∈ keysD D' := (aft.keys m).mpr (.inr (.self m))
      refine ⟨_, rfl, R.r, CP, zr2, _, _, rfl, obr2, GP.cl, GP.nS, plF_s R, _, rfl, R.ds, _, rfl, dgetS aft.run.sts (aft.run.flag hm), rfl, ?_⟩
      show Q (.bl (decide (V.str (stT (res LS rk m).ready) = V.str "ready"))) H'
      rw [stT_ready]
      exact q H' D' E2 aft
theorem scInitialize : FnScope ["self", "module", "has_ended"] ["self", "module"] (defScope sInitialize) := ⟨rfl, rfl, rfl, by decide +kernel, rfl, by decide +kernel, by decide +kernel⟩
theorem ok_initialize (n : Nat) {k : Nat} (hk : 8 ≤ k) (F : FnM K CP "initialize" "PlainRun.initialize" sInitialize [] [] fa fd) (T : G0 K mg aV aP) (GP : GPl K mg CP) (GC : GFr K mg CF) (GL : GLib K mg CL)
    (h1 : PrM P w K mg base CL "initializer" ["self", "module"] [] 2 (spInitializer CL)) (h2 : PrO P w K mg base "Frame" CF ["self", "program"] [] 7 (spFrInit CF)) (h3 : PrM P w K mg base CP "execute" ["self", "module", "frame"] [] k (spExec CP CL CF n)) :
    PrM P w K mg base CP "initialize" ["self", "module"] [] (k + 1) (spInitM CP CL (n + 1)) := by
  refine ⟨fa, fd, [], F.meth, F.fn.ok0 scInitialize (fun vs H Q E h => ?_) (fun cdv A outer s H vs Q E hr h => ?_), .nil, F.fn.bindsN fun _ _ _ _ _ _ us hl => match us, hl with | [_, _], _ => rfl⟩
  · obtain ⟨Av, R, LS, rk, D, E', S, m, rfl, _⟩ := h
    rfl
  · obtain ⟨Av, R, LS, rk, D, E', S, m, rfl, ask, hnot, q⟩ := h
    have hu := hu_of hr
    have hr2 : Room 2 _ := hr.mono (Nat.le_trans (by decide) hk)
    have hr8 : Room 8 _ := hr.mono hk
    refine ⟨_, pss_cons (ps_expr (pe_bm PySem.F.plainAttrs_list PySem.F.slot_list_append PySem.F.type_list_append mt_append (pe_fld (pv 0) rfl) (pa_cons (pv 1) pa_nil)))
      (pss_cons (ps_dput hu (pe_fld (pv 0) rfl) (pv 1) pe_dnewK rfl)
      (pss_cons (ps_set (i := 2) scInitialize.nd rfl (Or.inl rfl) (pe_prm (pv 0) GP.cl h3 hr (pa_cons (pv 1) (pa_cons (pe_pro h2 hr8 rfl (pa_cons (pe_prm (pe_fld (pv 0) rfl) GL.cl h1 hr2 (pa_cons (pv 1) pa_nil)) pa_nil)) pa_nil))))
      (pss_cons (ps_expr (pe_bm0 PySem.F.plainAttrs_list PySem.F.slot_list_pop PySem.F.type_list_pop mt_pop (pe_fld (pv 0) rfl)))
      (pss_cons (ps_dput hu (pe_fld (pv 0) rfl) (pv 1) (pe_ifExp (pt_val (pv 2)) (pe_gs rfl T.ready) (pe_gs rfl T.failed)) rfl)
      (pss_one (ps_if (pt_not (pt_val (pv 2))) (pss_one (ps_dput hu (pe_fld (pv 0) rfl) (pv 1) pe_dnewK rfl)) pss_nil)))))), ?_⟩
    have W := ask.wf
    have run := ask.run
    obtain ⟨zr, obr⟩ := run.ob
    have hSl : S.length ≤ 9 := Nat.le_trans (Nat.le_add_right _ _) ask.len
    have hsz : sizeLine = 2 ^ 24 := by rfl
    -- push
    refine ⟨_, rfl, R.r, CP, zr, _, _, rfl, obr, GP.cl, GP.nT, plF_t R, Or.inl ⟨rfl, _, SqL.of run.std⟩, ?_⟩
    refine ⟨_, rfl, R.ls, _, _, rfl, rfl, run.std, by rw [List.length_map]; omega, ?_⟩
    have eS : S.map V.str ++ [V.str m] = (S ++ [m]).map V.str := by rw [List.map_append]; rfl
    rw [eS]
    obtain ⟨run1, k1⟩ := run.push (S ++ [m])
    generalize upd H R.ls (.lst ((S ++ [m]).map V.str)) = H1 at run1 k1
    -- new exports
    intro ax nax
    have nax0 : H ax = none := k1.free nax (run1.nM3 nax)
    have avax : ¬ Av ax := fun h => ask.al ax h nax0
    have run1' : RunAt CP CL (fun c => Av c ∨ c = ax) H1 R LS rk D E' (S ++ [m]) := run1.more fun c h => h.elim .inl fun e => .inr (by rw [e]; exact nax)
    have s2 : Same H1 (upd H1 ax (.dK [])) := Same.new nax _
    have run2 := run1'.same s2
    have ax2 : (upd H1 ax (.dK [])) ax = some (.dK []) := upd_same
    generalize upd H1 ax (.dK []) = H2 at s2 run2 ax2
    obtain ⟨zr2, obr2⟩ := run2.ob
    have lE := run.lenE W
    refine ⟨_, rfl, R.r, CP, zr2, _, _, rfl, obr2, GP.cl, GP.nE, plF_e R, _, rfl, R.dx, _, rfl, dputS run2.exd (by omega) rfl, ?_⟩
    obtain ⟨run3, k3⟩ := run2.putE ask.mem hnot (.ref ax)
    have ax_dx : ax ≠ R.dx := fun e => run3.av.2.2.2.2.1 (.inr e.symm)
    have ax_ds : ax ≠ R.ds := fun e => run3.av.2.2.2.1 (.inr e.symm)
    have ax3 : (upd H2 R.dx (.dK (putK E' (Sum.inr m) (.ref ax)))) ax = some (.dK []) := by rw [upd_ne ax_dx]; exact ax2
    generalize upd H2 R.dx (.dK (putK E' (Sum.inr m) (.ref ax))) = H3 at run3 k3 ax3
    have k03 : Kp (M3 R) H H3 := (k1.same s2).trans' k3
    obtain ⟨zr3, obr3⟩ := run3.ob
    obtain ⟨dl, lbo⟩ := run3.lib.ob
    refine ⟨_, rfl, R.r, zr3, _, rfl, obr3, plF_no (by decide +kernel) R, _, rfl, _, rfl, R.r, CP, zr3, _, _, rfl, obr3, GP.cl, GP.nL, plF_l R, R.lb, dl, _, rfl, lbo, libF_no (by decide +kernel) R.d, _, rfl, R.lb, R.d, LS, m, rfl, run3.lib, W.nd, ask.mem, fun l xs nl hx => ?_⟩
    have s4 : Same H3 (upd H3 l (.lst xs)) := Same.new nl _
    have hl4 : (upd H3 l (.lst xs)) l = some (.lst xs) := upd_same
    generalize upd H3 l (.lst xs) = H4 at s4 hx hl4
    have wp := W.wf m _ (prg_mem ask.mem W.nd)
    refine frame_made hl4 hx wp.rtN (fun f st vl ex H5 fr s5 nf nst nvl nex => ?_)
    have run4 := run3.same s4
    have run5 : RunAt CP CL (fun c => Av c ∨ c = ax ∨ c = f ∨ c = st ∨ c = vl ∨ c = ex) H5 R LS rk D (putK E' (Sum.inr m) (.ref ax)) (S ++ [m]) := (run4.more fun c h => by
      rcases h with h | h | h | h | h | h
      · exact .inl (.inl h)
      · exact .inl (.inr h)
      · exact .inr (by rw [h]; exact nf)
      · exact .inr (by rw [h]; exact nst)
      · exact .inr (by rw [h]; exact nvl)
      · exact .inr (by rw [h]; exact nex)).same s5
    have k05 : Kp (M3 R) H H5 := (k03.same s4).same s5
    have ax4 := s4 _ _ ax3
    have ax5 := s5 _ _ ax4
    refine ⟨_, R, LS, rk, D, _, S ++ [m], some m, ax, f, st, vl, ex, prg LS m, rk m, false, rfl, W, run5, ?_, wp, Nat.le_of_lt_succ ask.lt, ?_, ?_, (fun e => by cases e), fr, .inr (.inr (.inl rfl)), .inr (.inr (.inr (.inl rfl))), .inr (.inr (.inr (.inr (.inl rfl)))), .inr (.inr (.inr (.inr (.inr rfl)))), fun _ => .inr (.inl rfl), ?_, ?_⟩
    · intro c h
      rcases h with h | h | h | h | h | h
      · exact k05.al (ask.al c h) (fun q => by
          obtain ⟨v1, v2, v3, v4, v5, v6⟩ := run.av
          rcases q with rfl | rfl | rfl <;> contradiction)
      · rw [h, ax5]; simp
      · obtain ⟨_, e⟩ := fr.ob
        rw [h, e]; simp
      · obtain ⟨_, e, _⟩ := fr.sts
        rw [h, e]; simp
      · rw [h, fr.vls]; simp
      · obtain ⟨_, e, _⟩ := fr.exs
        rw [h, e]; simp
    · intro x hx
      rcases List.mem_append.mp hx with h | h
      · exact Nat.le_of_lt (ask.up x h)
      · rw [List.mem_singleton.mp h]; exact Nat.le_refl _
    · rw [List.length_append]
      have := ask.len
      show S.length + 1 + rk m ≤ 10
      omega
    · exact ⟨List.mem_append.mpr (.inr (List.mem_singleton.mpr rfl)), by rw [valV_put, if_pos rfl], ax5, ne_of_none ax4 nvl⟩
    · intro H6 D6 E6 j aft fr6 own6
      obtain ⟨zr6, obr6⟩ := aft.run.ob
      obtain ⟨_, o2, o3, o4⟩ := own6
      refine ⟨_, rfl, R.r, CP, zr6, _, _, rfl, obr6, GP.cl, GP.nT, plF_t R, Or.inl ⟨rfl, _, SqL.of aft.run.std⟩, ?_⟩
      refine ⟨R.ls, _, .str m, rfl, rfl, aft.run.std, by simp, ?_⟩
      have eS2 : ((S ++ [m]).map V.str).dropLast = S.map V.str := by rw [List.map_append]; exact List.dropLast_concat
      rw [eS2]
      obtain ⟨run7, k7⟩ := aft.run.push S
      have o7 : (upd H6 R.ls (.lst (S.map V.str))) ax = some (.dK (xDict (runP LS rk (some m) (prg LS m)).exps)) := by
        rw [upd_ne (fun e => by rw [e, aft.run.std] at o3; cases o3)]
        exact o3
      generalize upd H6 R.ls (.lst (S.map V.str)) = H7 at run7 k7 o7
      have k57 : Kp (frX R (some m) f vl ex ax) H5 H7 := aft.kp.trans k7 (fun _ h => h) (fun c h => .inl (.inl h))
      have k07 : Kp (M3 R) H H7 := k05.trans k57 (fun _ h => h) (fun c h => by
        have fre : ∀ {c}, H4 c = none → H c = none := fun h => (k03.same s4).free h (run4.nM3 h)
        rcases h with h | h | h | h | ⟨_, h⟩
        · exact .inl h
        · exact .inr (by rw [h]; exact fre nf)
        · exact .inr (by rw [h]; exact fre nvl)
        · exact .inr (by rw [h]; exact fre nex)
        · exact .inr (by rw [h]; exact nax0))
      have run8 : RunAt CP CL Av H7 R LS rk D6 E6 S := run7.less fun c h => .inl h
      have hn6 : m ∉ keysD D6 := fun h => by
        rcases (aft.keys m).mp h with h | h
        · exact hnot h
        · have := (RchP.names W wp h).2
          omega
      have er := res_eq W ask.mem
      have lD := run8.lenD W
      have lE6 := run8.lenE W
      have eE : ∀ x ∈ S, valV E6 (Sum.inr x) = valV E' (Sum.inr x) := fun x hx => by
        rw [aft.same x (List.mem_append.mpr (.inl hx)), valV_put, if_neg]
        intro e
        have := ask.up x hx
        rw [Sum.inr.inj e] at this
        omega
      have hcl : ∀ x, Rch LS rk m x → x = m ∨ x ∈ keysD D6 := fun x h => (Rch.iff.mp h).imp id fun h => (aft.keys x).mpr (.inr h)
      have hkey : ∀ b : Bool, ∀ x, x ∈ keysD (D6 ++ [(m, b)]) ↔ x ∈ keysD D ∨ Rch LS rk m x := fun b x => by
        have ek : keysD (D6 ++ [(m, b)]) = keysD D6 ++ [m] := by unfold keysD; rw [List.map_append]; rfl
        rw [ek, List.mem_append, aft.keys x, Rch.iff, List.mem_singleton]
        constructor
        · rintro ((h | h) | h)
          · exact .inl h
          · exact .inr (.inr h)
          · exact .inr (.inl h)
        · rintro (h | h | h)
          · exact .inl (.inl h)
          · exact .inr h
          · exact .inl (.inr h)
      obtain ⟨zr7, obr7⟩ := run8.ob
      have r_ds : R.r ≠ R.ds := ne_of obr7 run8.sts (by intro z; cases z)
      have r_dx : R.r ≠ R.dx := ne_of obr7 run8.exd (by intro z; cases z)
      have k8 : ∀ o, Kp (fun c => c = R.ds ∨ c = R.dx) H7 (upd H7 R.ds o) := fun o => (Kp.refl H7 : Kp (fun c => c = R.ds ∨ c = R.dx) _ _).upd (fun _ h => h) (.inl (.inl rfl)) (nt_dK run8.sts) o
      have sub : ∀ c, (c = R.ds ∨ c = R.dx) → M3 R c ∨ H c = none := fun c h => .inl (h.elim .inl fun h => .inr (.inl h))
      cases eb : (runP LS rk (some m) (prg LS m)).ended with
      | true =>
        have e1 : (res LS rk m).ready = true := by rw [er]; exact eb
        have e2 : (res LS rk m).exps = (runP LS rk (some m) (prg LS m)).exps := by rw [er]; show (if _ then _ else _) = _; rw [eb]; rfl
        refine ⟨_, rfl, true, rfl, iteT ?_⟩
        refine ⟨_, rfl, R.r, CP, zr7, _, _, rfl, obr7, GP.cl, GP.nS, plF_s R, _, rfl, R.ds, _, rfl, dputS run8.sts (by rw [sDict_len]; omega) (sDict_put true hn6), ?_⟩
        refine ⟨_, rfl, true, rfl, iteF ?_⟩
        have ra := RunAt.add run8 (E' := E6) (a := ax) ask.mem hn6 hcl (k8 (.dK (sDict (D6 ++ [(m, true)])))) (by rw [upd_same, e1]) (by rw [upd_ne run8.dne.2.2.symm]; exact run8.exd) (fun _ _ => rfl)
          (by rw [aft.same m (List.mem_append.mpr (.inr (List.mem_singleton.mpr rfl))), valV_put, if_pos rfl]) (by rw [upd_ne ax_ds, e2]; exact o7) ⟨ax_ds, ax_dx, avax⟩ run8.end1 run8.ek
        rw [e1] at ra
        exact q _ _ E6 ⟨ra, hkey true, eE, k07.trans (k8 _) (fun _ h => h) sub⟩
      | false =>
        have e1 : (res LS rk m).ready = false := by rw [er]; exact eb
        have e2 : (res LS rk m).exps = [] := by rw [er]; show (if _ then _ else _) = _; rw [eb]; rfl
        refine ⟨_, rfl, false, rfl, iteF ?_⟩
        refine ⟨_, rfl, R.r, CP, zr7, _, _, rfl, obr7, GP.cl, GP.nS, plF_s R, _, rfl, R.ds, _, rfl, dputS run8.sts (by rw [sDict_len]; omega) (sDict_put false hn6), ?_⟩
        refine ⟨_, rfl, false, rfl, iteT ?_⟩
        intro a2 na2
        have na27 : H7 a2 = none := (k8 _).free na2 (fun h => by
          rcases h with h | h
          · rw [h, upd_same] at na2; cases na2
          · rw [h, upd_ne run8.dne.2.2.symm, run8.exd] at na2; cases na2)
        have a2_ds : a2 ≠ R.ds := fun e => by rw [e, run8.sts] at na27; cases na27
        have a2_dx : a2 ≠ R.dx := fun e => by rw [e, run8.exd] at na27; cases na27
        have a2_r : R.r ≠ a2 := ne_of_none obr7 na27
        have na20 : H a2 = none := k07.free na27 (run8.nM3 na27)
        have ka := (k8 (.dK (sDict (D6 ++ [(m, false)])))).upd (T := fun c => c = R.ds ∨ c = R.dx) (fun _ h => h) (l := a2) (.inr na27) (nt_none na2) (.dK [])
        have dx9 : (upd (upd H7 R.ds (.dK (sDict (D6 ++ [(m, false)])))) a2 (.dK [])) R.dx = some (.dK E6) := by rw [upd_ne a2_dx.symm, upd_ne run8.dne.2.2.symm]; exact run8.exd
        refine ⟨_, rfl, R.r, CP, zr7, _, _, rfl, by rw [upd_ne a2_r, upd_ne r_ds]; exact obr7, GP.cl, GP.nE, plF_e R, _, rfl, R.dx, _, rfl, dputS dx9 (by omega) rfl, ?_⟩
        have kb := ka.upd (T := fun c => c = R.ds ∨ c = R.dx) (fun _ h => h) (l := R.dx) (.inl (.inr rfl)) (nt_dK dx9) (.dK (putK E6 (Sum.inr m) (.ref a2)))
        have ra := RunAt.add run8 (E' := putK E6 (Sum.inr m) (.ref a2)) (a := a2) ask.mem hn6 hcl kb (by rw [upd_ne run8.dne.2.2, upd_ne a2_ds.symm, upd_same, e1]) upd_same
          (fun x hx => by rw [valV_put, if_neg (fun e => hx (Sum.inr.inj e))]) (by rw [valV_put, if_pos rfl]) (by rw [upd_ne a2_dx, upd_same, e2]; rfl) ⟨a2_ds, a2_dx, fun h => ask.al a2 h na20⟩ (putK_nd run8.end1 _ _) (putK_sub run8.ek (List.mem_map.mpr ⟨m, ask.mem, rfl⟩) _)
        rw [e1] at ra
        refine q _ _ _ ⟨ra, hkey false, fun x hx => ?_, k07.trans kb (fun _ h => h) sub⟩
        rw [valV_put, if_neg]
        · exact eE x hx
        · intro e
          have := ask.up x hx
          rw [Sum.inr.inj e] at this
          omega
end
end Cy

set_option Elab.async false
set_option linter.all false
set_option maxRecDepth 100000
set_option maxHeartbeats 4000000
/-! plain.py: execute, and the four together by rank -/
namespace Cy
open PySem PySem.Spec PyProof.Rows L2
def isRd : Stp → Bool
  | .read _ _ _ => true
  | _ => false
def isFail : Stp → Bool
  | .fail => true
  | _ => false
theorem word_read {s : Stp} : decide (word s = "read") = isRd s := by
  have h : ∀ x ∈ ([("set" : Str), "add", "skip", "export", "try", "need", "fail"] : List Str), ¬ x = "read" := by decide +kernel
  cases s with
  | read _ _ _ => exact decide_eq_true rfl
  | set _ _ => exact decide_eq_false (h _ (by simp [word]))
  | add _ _ => exact decide_eq_false (h _ (by simp [word]))
  | skip _ _ => exact decide_eq_false (h _ (by simp [word]))
  | exp _ _ => exact decide_eq_false (h _ (by simp [word]))
  | try_ _ _ => exact decide_eq_false (h _ (by simp [word]))
  | need _ => exact decide_eq_false (h _ (by simp [word]))
  | fail => exact decide_eq_false (h _ (by simp [word]))
theorem word_fail {s : Stp} : decide (word s = "fail") = isFail s := by
  have h : ∀ x ∈ ([("set" : Str), "add", "skip", "export", "try", "need", "read"] : List Str), ¬ x = "fail" := by decide +kernel
  cases s with
  | fail => exact decide_eq_true rfl
  | set _ _ => exact decide_eq_false (h _ (by simp [word]))
  | add _ _ => exact decide_eq_false (h _ (by simp [word]))
  | skip _ _ => exact decide_eq_false (h _ (by simp [word]))
  | exp _ _ => exact decide_eq_false (h _ (by simp [word]))
  | try_ _ _ => exact decide_eq_false (h _ (by simp [word]))
  | need _ => exact decide_eq_false (h _ (by simp [word]))
  | read _ _ _ => exact decide_eq_false (h _ (by simp [word]))
theorem word_expd {s : Stp} : decide (word s = "export") = isExp s := by
  by_cases h : word s = "export"
  · rw [decide_eq_true h, word_exp.mp h]
  · rw [decide_eq_false h]
    cases e : isExp s with
    | false => rfl
    | true => exact absurd (word_exp.mpr e) h
theorem drop_at {α : Type} {p : List α} {i : Nat} {s : α} (h : p[i]? = some s) : p.drop i = s :: p.drop (i + 1) := by
  obtain ⟨hi, e⟩ := List.getElem?_eq_some_iff.mp h
  rw [List.drop_eq_getElem_cons hi, e]
/-- a plain step in the model -/
theorem exec_plain {Rm : Str → Res} {own : Option Str} {p : List Stp} {i : Nat} {s : Stp} (h : p[i]? = some s) (hp : isPl s = true) (g : Str → Int) (acc : List Str) (X : List (Str × Int)) :
    exec Rm own 0 (p.drop i) g acc X = exec Rm own 0 (p.drop (i + adv g s)) (plainG g s) acc X := by
  rw [drop_at h]
  cases s with
  | set x n => rfl
  | add x y => rfl
  | skip x k =>
    show exec Rm own (if g x > 0 then k else 0) (p.drop (i + 1)) g acc X = _
    rw [exec_skip, List.drop_drop, Nat.add_assoc]
    rfl
  | _ => cases hp
/-- where a run of a program stands: its rest gives what the whole gives -/
structure Rest (LS : Lib) (rk : Str → Nat) (own : Option Str) (p : List Stp) (i : Nat) (g : Str → Int) (acc : List Str) (X : List (Str × Int)) (done : List Str) : Prop where
  e1 : (runP LS rk own p).ended = (exec (res LS rk) own 0 (p.drop i) g acc X).ended
  e2 : (runP LS rk own p).vars = (exec (res LS rk) own 0 (p.drop i) g acc X).vars
  e3 : (runP LS rk own p).exps = (exec (res LS rk) own 0 (p.drop i) g acc X).exps
  e4 : ∀ x, x ∈ (runP LS rk own p).hit ↔ x ∈ done ∨ x ∈ (exec (res LS rk) own 0 (p.drop i) g acc X).hit
theorem Rest.next {LS : Lib} {rk : Str → Nat} {own : Option Str} {p : List Stp} {i j : Nat} {g g' : Str → Int} {acc acc' : List Str} {X X' : List (Str × Int)} {done : List Str} (r : Rest LS rk own p i g acc X done)
    (e : exec (res LS rk) own 0 (p.drop i) g acc X = exec (res LS rk) own 0 (p.drop j) g' acc' X') : Rest LS rk own p j g' acc' X' done := by
  obtain ⟨a, b, c, d⟩ := r
  rw [e] at a b c d
  exact ⟨a, b, c, d⟩
theorem Rest.hit {LS : Lib} {rk : Str → Nat} {own : Option Str} {p : List Stp} {i j : Nat} {g g' : Str → Int} {acc acc' : List Str} {X X' : List (Str × Int)} {done : List Str} {m : Str} (r : Rest LS rk own p i g acc X done)
    (e : exec (res LS rk) own 0 (p.drop i) g acc X = hitC m (exec (res LS rk) own 0 (p.drop j) g' acc' X')) : Rest LS rk own p j g' acc' X' (m :: done) := by
  obtain ⟨a, b, c, d⟩ := r
  rw [e] at a b c d
  refine ⟨a, b, c, fun x => (d x).trans ?_⟩
  show x ∈ done ∨ x ∈ m :: _ ↔ _
  simp only [List.mem_cons]
  constructor
  · rintro (h | h | h)
    · exact .inl (.inr h)
    · exact .inl (.inl h)
    · exact .inr h
  · rintro ((h | h) | h)
    · exact .inr (.inl h)
    · exact .inl h
    · exact .inr (.inr h)
section
variable {P : Program} {w : World} {K : PySem.W.Frag} {mg : Str → Option Value} {base : Heap} {aV aP aF CL CF CP : Addr} {fk : Str → Addr} {fa : Addr} {fd : FuncData}
/-- what execute's loop keeps -/
structure Loop (CP CL CF : Addr) (Av : Addr → Prop) (H : Hp) (R : RA) (LS : Lib) (rk : Str → Nat) (D : List (Str × Bool)) (E : List (Key × V)) (S : List Str) (own : Option Str) (ax f st vl ex aa : Addr) (p : List Stp) (H1 : Hp) (i : Nat) (g : Str → Int) (acc : List Str) (X : List (Str × Int)) (done : List Str) (D1 : List (Str × Bool)) (E1 : List (Key × V)) : Prop where
  run : RunAt CP CL (fun c => Av c ∨ c = aa) H1 R LS rk D1 E1 S
  keys : ∀ x, x ∈ keysD D1 ↔ x ∈ keysD D ∨ ∃ a ∈ done, Rch LS rk a x
  same : ∀ x ∈ S, valV E1 (Sum.inr x) = valV E (Sum.inr x)
  kp : Kp (frX R own f vl ex ax) H H1
  fr : FrAt CF H1 f st vl ex p i g
  own_ : OwnAt H1 E1 S ax vl X own
  acc_ : AccAt H1 aa acc i
  sub : ∀ m ∈ acc, m ∈ keysD D1
  rest : Rest LS rk own p i g acc X done
  xl : X.length ≤ i
section
variable {CP CL CF : Addr} {Av : Addr → Prop} {H : Hp} {R : RA} {LS : Lib} {rk : Str → Nat} {D : List (Str × Bool)} {E : List (Key × V)} {S : List Str} {own : Option Str} {ax f st vl ex aa : Addr} {p : List Stp} {H1 H2 : Hp} {i j : Nat} {g g' : Str → Int} {acc : List Str} {X : List (Str × Int)} {done : List Str} {D1 : List (Str × Bool)} {E1 : List (Key × V)}
theorem Loop.same_ (L : Loop CP CL CF Av H R LS rk D E S own ax f st vl ex aa p H1 i g acc X done D1 E1) (e : Same H1 H2) : Loop CP CL CF Av H R LS rk D E S own ax f st vl ex aa p H2 i g acc X done D1 E1 :=
  ⟨L.run.same e, L.keys, L.same, L.kp.same e, L.fr.same e, L.own_.mono (T := fun _ => False) (Kp.of e) (fun _ => id) fun _ _ => rfl, L.acc_.mono (T := fun _ => False) (Kp.of e) id (Nat.le_refl _), L.sub, L.rest, L.xl⟩
theorem Loop.aa_ne (L : Loop CP CL CF Av H R LS rk D E S own ax f st vl ex aa p H1 i g acc X done D1 E1) (n : aa ≠ vl) : ¬ (aa = f ∨ aa = vl ∨ aa = ex) := by
  obtain ⟨kvs, b1, _⟩ := L.acc_
  rintro (e | e | e)
  · obtain ⟨dx, ob⟩ := L.fr.ob
    rw [← e, b1] at ob; cases ob
  · exact n e
  · obtain ⟨xs, b2, _⟩ := L.fr.exs
    rw [← e, b1] at b2; cases b2
theorem Loop.ax_ne (L : Loop CP CL CF Av H R LS rk D E S own ax f st vl ex aa p H1 i g acc X done D1 E1) (n : own ≠ none) : ¬ (ax = f ∨ ax = vl ∨ ax = ex) := by
  cases own with
  | none => exact absurd rfl n
  | some m =>
    obtain ⟨_, _, b1, b2⟩ := L.own_
    rintro (e | e | e)
    · obtain ⟨dx, ob⟩ := L.fr.ob
      rw [← e, b1] at ob; cases ob
    · exact b2 e
    · obtain ⟨xs, b2, _⟩ := L.fr.exs
      rw [← e, b1] at b2; cases b2
theorem Loop.move (L : Loop CP CL CF Av H R LS rk D E S own ax f st vl ex aa p H1 i g acc X done D1 E1) (af : Av f) (avl : Av vl) (aex : Av ex) (n : aa ≠ vl) (fr : FrAt CF H2 f st vl ex p j g') (k : Kp (fun b => b = f ∨ b = vl ∨ b = ex) H1 H2)
    (r : Rest LS rk own p j g' acc X done) (hij : i ≤ j) : Loop CP CL CF Av H R LS rk D E S own ax f st vl ex aa p H2 j g' acc X done D1 E1 := by
  refine ⟨L.run.mono k (fun c e => ?_), L.keys, L.same, L.kp.trans k (fun _ h => h) (fun c e => .inl ?_), fr, L.own_.mono k L.ax_ne fun _ _ => rfl, L.acc_.mono k (L.aa_ne n) hij, L.sub, r, Nat.le_trans L.xl hij⟩
  · rcases e with rfl | rfl | rfl
    · exact .inl af
    · exact .inl avl
    · exact .inl aex
  · rcases e with rfl | rfl | rfl
    · exact .inr (.inl rfl)
    · exact .inr (.inr (.inl rfl))
    · exact .inr (.inr (.inr (.inl rfl)))
end
theorem adv_pos (g : Str → Int) (s : Stp) : 1 ≤ adv g s := by
  cases s with
  | skip x k => exact Nat.le_add_right _ _
  | _ => exact Nat.le_refl 1
theorem scExecute : FnScope ["self", "module", "frame", "accessed", "step"] ["self", "module", "frame"] (defScope sExecute) := ⟨rfl, rfl, rfl, by decide +kernel, rfl, by decide +kernel, by decide +kernel⟩
theorem ok_execute (n : Nat) {k : Nat} (hk : 5 ≤ k) (F : FnM K CP "execute" "PlainRun.execute" sExecute [] [] fa fd) (T : G0 K mg aV aP) (GP : GPl K mg CP) (GC : GFr K mg CF)
    (h1 : PrM P w K mg base CF "is_over" ["self"] [] 1 (spIsOver CF)) (h2 : PrM P w K mg base CF "next_step" ["self"] [] 2 (spNextStep CF)) (h3 : Pr P w K mg base "is_plain" ["step"] [] 4 spIsPlain) (h4 : PrM P w K mg base CF "run_plain" ["self"] [] 5 (spRunPlain CF))
    (h5 : PrM P w K mg base CF "variables" ["self"] [] 1 (spVariables CF)) (h6 : PrM P w K mg base CF "pass_step" ["self", "value"] [.non] 5 (spPassStep CF)) (h7 : PrMK P w K mg base CF "pass_step" ["value"] (fun vs zs => vs ++ zs) 5 (spPassStep CF))
    (h8 : PrM P w K mg base CP "value_for" ["self", "module", "accessed", "step"] [] 1 (spValueFor CP CL)) (h9 : PrM P w K mg base CP "pass_request" ["self", "frame", "accessed"] [] k (spPassReq CP CL CF n)) :
    PrM P w K mg base CP "execute" ["self", "module", "frame"] [] (k + 1) (spExec CP CL CF n) := by
  refine ⟨fa, fd, [], F.meth, F.fn.ok0 scExecute (fun vs H Q E h => ?_) (fun cdv A outer s H vs Q E hr h => ?_), .nil, F.fn.bindsN fun _ _ _ _ _ _ us hl => match us, hl with | [_, _, _], _ => rfl⟩
  · obtain ⟨Av, R, LS, rk, D, E', S, own, ax, f, st, vl, ex, p, rr, main, rfl, _⟩ := h
    rfl
  · obtain ⟨Av, R, LS, rk, D, E', S, own, ax, f, st, vl, ex, p, rr, main, rfl, W, run, al, wp, hrn, hS, hSl, hmain, fr, af, ast, avl, aex, aax, ho, q⟩ := h
    have hu := hu_of hr
    have hr1 : Room 1 _ := hr.mono (Nat.le_trans (by decide) hk)
    have hr2 : Room 2 _ := hr.mono (Nat.le_trans (by decide) hk)
    have hr4 : Room 4 _ := hr.mono (Nat.le_trans (by decide) hk)
    have hr5 : Room 5 _ := hr.mono hk
    refine ⟨_, pss_cons (ps_set (i := 3) scExecute.nd rfl (Or.inl rfl) pe_dnewK)
      (pss_cons (ps_while PassesOwn.never (pt_not (pt_val (pe_prm0 (pv 2) GC.cl h1 hr1)))
        (pss_cons (ps_set (i := 4) scExecute.nd rfl (Or.inl rfl) (pe_prm0 (pv 2) GC.cl h2 hr2))
        (pss_one (ps_if (pt_val (pe_pr h3 hr4 rfl (pa_cons (pv 4) pa_nil))) (pss_one (ps_expr (pe_prm0 (pv 2) GC.cl h4 hr5)))
        (pss_one (ps_if (pt_cmpR op_eq (pe_ix ix_tup (pv 4) pe_int (fun _ _ => rfl)) pe_str (nomark _))
          (pss_cons (ps_dput hu (pe_dget hu (pe_fld (pv 0) rfl) (pv 1) (fun _ _ => rfl)) (pe_ix ix_tup (pv 4) pe_int (fun _ _ => rfl)) (pe_dget hu (pe_prm0 (pv 2) GC.cl h5 hr1) (pe_ix ix_tup (pv 4) pe_int (fun _ _ => rfl)) (fun _ _ => rfl)) rfl)
            (pss_one (ps_expr (pe_prm0 (pv 2) GC.cl h6 hr5))))
        (pss_one (ps_if (pt_cmpR op_eq (pe_ix ix_tup (pv 4) pe_int (fun _ _ => rfl)) pe_str (nomark _))
          (pss_one (ps_expr (pe_prmk (pv 2) GC.cl h7 hr5 (pk_cons (pe_prm (pv 0) GP.cl h8 hr1 (pa_cons (pv 1) (pa_cons (pv 3) (pa_cons (pv 4) pa_nil)))) pk_nil))))
        (pss_one (ps_if (PW.pt (pw_or (pt_cmpR op_eq (pe_ix ix_tup (pv 4) pe_int (fun _ _ => rfl)) pe_str (nomark _)) (pw_or1 (pt_not (pt_val (pe_prm (pv 0) GP.cl h9 hr (pa_cons (pv 2) (pa_cons (pv 3) pa_nil))))))))
          (pss_one (ps_ret pe_bl)) pss_nil))))))))))
      (pss_one (ps_ret pe_bl))), ?_⟩
    have hsz : sizeLine = 2 ^ 24 := by rfl
    have hp10 := wp.len
    intro aa naa
    have k0 : Same H (upd H aa (.dK [])) := Same.new naa _
    have aav : ¬ Av aa := fun h => al aa h naa
    have m3 : ∀ {c : Addr}, M3 R c → ¬ Av c := fun hc h => by
      obtain ⟨v1, v2, v3, v4, v5, v6⟩ := run.av
      rcases hc with rfl | rfl | rfl <;> contradiction
    have vl_aa : vl ≠ aa := fun e => aav (e ▸ avl)
    have L0 : Loop CP CL CF Av H R LS rk D E' S own ax f st vl ex aa p (upd H aa (.dK [])) 0 f0 [] [] [] D E' := by
      refine ⟨(run.more fun c h => h.imp id fun e => by rw [e]; exact naa).same k0, fun x => ?_, fun _ _ => rfl, Kp.of k0, fr.same k0, ?_, ⟨[], upd_same, Nat.le_refl _, fun m => rfl⟩, fun _ h => (by cases h), ⟨rfl, rfl, rfl, fun x => ?_⟩, Nat.le_refl _⟩
      · simp
      · exact ho.mono (T := fun _ => False) (Kp.of k0) (fun _ => id) fun _ _ => rfl
      · simp [runP]
    refine ⟨fun m σ H1 => ∃ i g acc X done D1 E1 u, m = p.length - i ∧ σ = [some (.ref R.r), some (ownV own), some (.ref f), some (.ref aa), u] ∧ Loop CP CL CF Av H R LS rk D E' S own ax f st vl ex aa p H1 i g acc X done D1 E1, ⟨_, 0, f0, [], [], [], D, E', none, rfl, rfl, L0⟩, ?_⟩
    rintro mm σ H1 ⟨i, g, acc, X, done, D1, E1, u, rfl, rfl, L⟩
    have nmf : ∀ m : Str, m ∉ ([("own_steps" : Str), "own_index", "own_values", "own_executed"] : List Str) → ∀ j, (frF st j vl ex).lookup m = none := fun m hm j => by
      simp only [List.mem_cons, List.not_mem_nil, or_false, not_or] at hm
      exact frF_no hm.1 hm.2.1 hm.2.2.1 hm.2.2.2 _ _ _ _
    -- the end
    have fin : ∀ {H2 : Hp} {i : Nat} {g : Str → Int} {acc : List Str} {X : List (Str × Int)} {done : List Str} {D1 : List (Str × Bool)} {E1 : List (Key × V)} (b : Bool), Loop CP CL CF Av H R LS rk D E' S own ax f st vl ex aa p H2 i g acc X done D1 E1 →
        (exec (res LS rk) own 0 (p.drop i) g acc X).ended = b → (exec (res LS rk) own 0 (p.drop i) g acc X).vars = g → (exec (res LS rk) own 0 (p.drop i) g acc X).exps = X → (∀ x ∈ (exec (res LS rk) own 0 (p.drop i) g acc X).hit, x ∈ done) → Q (.bl b) H2 := fun {H2 i g acc X done D1 E1} b L z1 z2 z3 z4 => by
      have y1 := L.rest.e1.trans z1
      rw [← y1]
      refine q H2 D1 E1 i ⟨L.run.less fun c h => .inl h, fun x => (L.keys x).trans ?_, L.same, L.kp⟩ ?_ ?_
      · refine or_congr Iff.rfl ⟨fun ⟨a, h1, h2⟩ => ⟨a, (L.rest.e4 a).mpr (.inl h1), h2⟩, fun ⟨a, h1, h2⟩ => ⟨a, ((L.rest.e4 a).mp h1).elim id (z4 a), h2⟩⟩
      · rw [L.rest.e2, z2]; exact L.fr
      · rw [L.rest.e3, z3]; exact L.own_
    obtain ⟨dx, ob⟩ := L.fr.ob
    refine ⟨_, rfl, f, dx, _, rfl, ob, nmf _ (by decide +kernel) _, f, st, vl, ex, p, i, g, rfl, L.fr, _, rfl, ?_⟩
    by_cases hi : i = p.length
    · rw [decide_eq_true hi]
      refine iteF ?_
      have en : exec (res LS rk) own 0 (p.drop i) g acc X = ⟨true, g, X, []⟩ := by rw [hi, List.drop_length, exec_nil]
      exact fin true L (by rw [en]) (by rw [en]) (by rw [en]) (by rw [en]; intro x h; cases h)
    rw [decide_eq_false hi]
    refine iteT ?_
    have hi' : i < p.length := by have := L.fr.hi; omega
    obtain ⟨s, hz⟩ : ∃ s, p[i]? = some s := ⟨p[i], List.getElem?_eq_getElem hi'⟩
    have ws := wp.at_ i s hz
    have hok : OkS s := ws.ok
    refine ⟨fun σ' H' => ∃ j g acc X done D1 E1 u, i < j ∧ σ' = [some (.ref R.r), some (ownV own), some (.ref f), some (.ref aa), u] ∧ Loop CP CL CF Av H R LS rk D E' S own ax f st vl ex aa p H' j g acc X done D1 E1, ?_, ?_⟩
    · rintro σ' H' ⟨j, g, acc, X, done, D1, E1, u, hj, rfl, L'⟩
      exact ⟨p.length - j, by omega, j, g, acc, X, done, D1, E1, u, rfl, rfl, L'⟩
    refine ⟨_, rfl, f, dx, _, rfl, ob, nmf _ (by decide +kernel) _, f, st, vl, ex, p, i, g, rfl, L.fr, fun e => absurd e hi, fun a s' es ha => ?_⟩
    rw [hz] at es
    cases es
    refine ⟨_, rfl, a, s, rfl, ha, hok, fun H2 s2 => ⟨_, rfl, ?_⟩⟩
    have L := L.same_ s2
    have ha2 := s2 _ _ ha
    have ob2 := s2 _ _ ob
    obtain ⟨zr, obr⟩ := L.run.ob
    have rd : ∀ {H' : Hp}, Same H2 H' → SqT K H' a (sv s) := fun e => e.seqT (SqT.of ha2)
    cases hpl : isPl s with
    | true =>
      refine iteT ?_
      refine ⟨_, rfl, f, dx, _, rfl, ob2, nmf _ (by decide +kernel) _, f, st, vl, ex, p, i, g, s, rfl, L.fr, hz, hpl, hok, fun x kk e => ?_, fun H3 fr3 k3 => ?_⟩
      · subst e
        have := ws.2.2
        omega
      · have := adv_pos g s
        exact ⟨i + adv g s, plainG g s, acc, X, done, D1, E1, _, by omega, rfl, L.move af avl aex (Ne.symm vl_aa) fr3 k3 (L.rest.next (exec_plain hz hpl g acc X)) (by omega)⟩
    | false =>
      refine iteF ?_
      refine ⟨_, rfl, a, sv s, _, _, rfl, rfl, rd (Same.refl _), atI_nat (sv_0 s), rfl, decide (word s = "export"), congrArg V.bl (str_dec _ _), ?_⟩
      rw [word_expd]
      cases hex : isExp s with
      | true =>
        refine iteT ?_
        obtain ⟨l, x, rfl⟩ : ∃ l x, s = .exp l x := by
          cases s with
          | exp l x => exact ⟨l, x, rfl⟩
          | _ => cases hex
        obtain ⟨m, rfl⟩ : ∃ m, own = some m := by
          cases own with
          | some m => exact ⟨m, rfl⟩
          | none => have := ws.1; rw [hmain rfl] at this; cases this
        obtain ⟨o1, o2, o3, o4⟩ := L.own_
        refine ⟨_, rfl, f, dx, _, rfl, ob2, nmf _ (by decide +kernel) _, f, st, vl, ex, p, i, g, rfl, L.fr, fun d nd => ?_⟩
        have s3 : Same H2 (upd H2 d (.dK (vDict g))) := Same.new nd _
        have hd3 : (upd H2 d (.dK (vDict g))) d = some (.dK (vDict g)) := upd_same
        generalize upd H2 d (.dK (vDict g)) = H3 at s3 hd3
        have L3 := L.same_ s3
        obtain ⟨o1, o2, o3, o4⟩ := L3.own_
        obtain ⟨zr3, obr3⟩ := L3.run.ob
        refine ⟨_, rfl, a, _, 2, .str x, rfl, rfl, rd s3, atI_nat (j := 2) rfl, d, _, rfl, dgetS hd3 (vDict_get g hok.2), ?_⟩
        refine ⟨_, rfl, R.r, CP, zr3, _, _, rfl, obr3, GP.cl, GP.nE, plF_e R, _, rfl, R.dx, _, rfl, dgetS L3.run.exd o2, ?_⟩
        have xl := L3.xl
        refine ⟨_, rfl, a, _, 1, .str l, rfl, rfl, rd s3, atI_nat (j := 1) rfl, ax, _, rfl, dputS o3 (by rw [xDict_len]; omega) (putX_dict X l (g x)), ?_⟩
        have k4 : Kp (fun b => b = ax) H3 (upd H3 ax (.dK (xDict (putX X l (g x))))) := (Kp.refl H3 : Kp (fun b => b = ax) H3 H3).upd (fun _ h => h) (.inl rfl) (nt_dK o3) _
        have axne := L3.ax_ne (by simp)
        have ax_aa : ¬ aa = ax := fun e => aav (e ▸ aax (by simp))
        have ax_st : ¬ st = ax := fun e => by
          obtain ⟨xs, b, _⟩ := L3.fr.sts
          rw [e, o3] at b; cases b
        have L4 : Loop CP CL CF Av H R LS rk D E' S (some m) ax f st vl ex aa p (upd H3 ax (.dK (xDict (putX X l (g x))))) i g acc X done D1 E1 → True := fun _ => trivial
        have fr4 := L3.fr.mono k4 (fun e => axne (.inl e.symm)) ax_st (fun e => axne (.inr (.inl e.symm))) (fun e => axne (.inr (.inr e.symm)))
        obtain ⟨dx4, ob4⟩ := fr4.ob
        have k04 : Kp (frX R (some m) f vl ex ax) H (upd H3 ax (.dK (xDict (putX X l (g x))))) := L3.kp.trans k4 (fun _ h => h) (fun c e => .inl (.inr (.inr (.inr (.inr ⟨by simp, e⟩)))))
        have run4 := L3.run.mono k4 (fun c e => by rw [e]; exact .inl (aax (by simp)))
        have acc4 := L3.acc_.mono k4 ax_aa (Nat.le_refl _)
        have own4 : (upd H3 ax (.dK (xDict (putX X l (g x))))) ax = some (.dK (xDict (putX X l (g x)))) := upd_same
        generalize upd H3 ax (.dK (xDict (putX X l (g x)))) = H4 at k4 fr4 ob4 k04 run4 acc4 own4
        have er : exec (res LS rk) (some m) 0 (p.drop i) g acc X = exec (res LS rk) (some m) 0 (p.drop (i + 1)) g acc (putX X l (g x)) := by rw [drop_at hz]; rfl
        refine ⟨_, rfl, f, dx4, _, rfl, ob4, nmf _ (by decide +kernel) _, f, st, vl, ex, p, i, g, .exp l x, .non, 0, rfl, fr4, hz, rfl, hok, fun _ => rfl, (fun x e => by cases e), fun H5 fr5 k5 => ?_⟩
        refine ⟨i + 1, g, acc, putX X l (g x), done, D1, E1, _, Nat.lt_succ_self _, rfl, run4.mono k5 (fun c e => ?_), L3.keys, L3.same, k04.trans k5 (fun _ h => h) (fun c e => .inl ?_), fr5, ⟨o1, o2, k5.at own4 axne, o4⟩, acc4.mono k5 (L3.aa_ne (Ne.symm vl_aa)) (Nat.le_succ _), L3.sub, L3.rest.next er, Nat.le_trans (putX_len X l (g x)) (Nat.succ_le_succ xl)⟩
        · rcases e with rfl | rfl | rfl
          · exact .inl af
          · exact .inl avl
          · exact .inl aex
        · rcases e with rfl | rfl | rfl
          · exact .inr (.inl rfl)
          · exact .inr (.inr (.inl rfl))
          · exact .inr (.inr (.inr (.inl rfl)))
      | false =>
        refine iteF ?_
        refine ⟨_, rfl, a, sv s, _, _, rfl, rfl, rd (Same.refl _), atI_nat (sv_0 s), rfl, decide (word s = "read"), congrArg V.bl (str_dec _ _), ?_⟩
        rw [word_read]
        by_cases hrd : ∃ x m l, s = .read x m l
        · obtain ⟨x, m, l, rfl⟩ := hrd
          refine iteT ?_
          refine ⟨_, rfl, f, dx, _, rfl, ob2, nmf _ (by decide +kernel) _, ?_⟩
          refine ⟨_, rfl, R.r, zr, _, rfl, obr, plF_no (by decide +kernel) R, _, rfl, _, rfl, _, rfl, ?_⟩
          refine ⟨_, R, LS, rk, D1, E1, S, own, ax, vl, aa, a, X, acc, i, x, m, l, rfl, L.run, L.own_, L.acc_, L.sub, ha2, ?_⟩
          refine ⟨rfl, f, st, vl, ex, p, i, g, .read x m l, .int (readV (res LS rk) own acc X m l), readV (res LS rk) own acc X m l, rfl, L.fr, hz, rfl, hok, (fun e => by cases e), (fun _ _ => rfl), fun H3 fr3 k3 => ?_⟩
          have er : exec (res LS rk) own 0 (p.drop i) g acc X = exec (res LS rk) own 0 (p.drop (i + 1)) (updF g x (readV (res LS rk) own acc X m l)) acc X := by rw [drop_at hz]; rfl
          exact ⟨i + 1, _, acc, X, done, D1, E1, _, Nat.lt_succ_self _, rfl, L.move af avl aex (Ne.symm vl_aa) fr3 k3 (L.rest.next er) (Nat.le_succ _)⟩
        · have e0 : isRd s = false := by
            cases s with
            | read x m l => exact absurd ⟨x, m, l, rfl⟩ hrd
            | _ => rfl
          rw [e0]
          refine iteF ?_
          refine ⟨_, rfl, a, sv s, _, _, rfl, rfl, rd (Same.refl _), atI_nat (sv_0 s), rfl, decide (word s = "fail"), congrArg V.bl (str_dec _ _), ?_⟩
          rw [word_fail]
          by_cases hfl : s = .fail
          · subst hfl
            refine iteT ?_
            refine iteT ?_
            have er : exec (res LS rk) own 0 (p.drop i) g acc X = ⟨false, g, X, []⟩ := by rw [drop_at hz]; rfl
            exact fin false L (by rw [er]) (by rw [er]) (by rw [er]) (by rw [er]; intro x h; cases h)
          · have e1 : isFail s = false := by
              cases s with
              | fail => exact absurd rfl hfl
              | _ => rfl
            rw [e1]
            refine iteF ?_
            obtain ⟨m, hs⟩ : ∃ m, s = .need m ∨ ∃ x, s = .try_ m x := by
              cases s with
              | need m => exact ⟨m, .inl rfl⟩
              | try_ m x => exact ⟨m, .inr ⟨x, rfl⟩⟩
              | fail => exact absurd rfl hfl
              | read x m l => exact absurd ⟨x, m, l, rfl⟩ hrd
              | exp l x => cases hex
              | set x n => cases hpl
              | add x n => cases hpl
              | skip x n => cases hpl
            have hm : m ∈ names LS ∧ IsName m ∧ rk m < rr := wp.asks (List.mem_of_getElem? hz) (by rcases hs with rfl | ⟨x, rfl⟩ <;> exact List.mem_singleton.mpr rfl)
            refine ⟨_, rfl, R.r, zr, _, rfl, obr, plF_no (by decide +kernel) R, _, rfl, _, rfl, ?_⟩
            refine ⟨_, R, LS, rk, D1, E1, S, m, f, st, vl, ex, aa, p, i, g, s, acc, rfl, ⟨L.run, W, ?_, hm.1, by omega, fun x hx => Nat.lt_of_lt_of_le hm.2.2 (hS x hx), by omega⟩, L.fr, .inl af, .inl ast, .inl avl, .inl aex, .inr rfl, Ne.symm vl_aa, hz, hs, hok, L.acc_, fun H3 D3 E3 aft fr3 acc3 => ?_⟩
            · intro c h
              rcases h with h | h
              · by_cases hc : frX R own f vl ex ax c
                · rcases hc with hc | hc | hc | hc | ⟨hc, hc2⟩
                  · exact absurd h (m3 hc)
                  · rw [hc, ob2]; simp
                  · rw [hc, L.fr.vls]; simp
                  · obtain ⟨_, e, _⟩ := L.fr.exs
                    rw [hc, e]; simp
                  · rw [hc2]
                    cases own with
                    | none => exact absurd rfl hc
                    | some y => rw [L.own_.2.2.1]; simp
                · exact L.kp.al (al c h) hc
              · obtain ⟨kvs, e, _⟩ := L.acc_
                rw [h, e]; simp
            · -- after the request
              have kp3 : Kp (frX R own f vl ex ax) H H3 := L.kp.trans aft.kp (fun _ h => h) (fun c h => by
                rcases h with h | h | h | h | h
                · exact .inl (.inl h)
                · exact .inl (.inr (.inl h))
                · exact .inl (.inr (.inr (.inl h)))
                · exact .inl (.inr (.inr (.inr (.inl h))))
                · exact .inr (by rw [h]; exact naa))
              have key3 : ∀ x, x ∈ keysD D3 ↔ x ∈ keysD D ∨ ∃ a ∈ m :: done, Rch LS rk a x := fun x => by
                rw [aft.keys, L.keys]
                constructor
                · rintro ((h | ⟨a, h1, h2⟩) | h)
                  · exact .inl h
                  · exact .inr ⟨a, List.mem_cons_of_mem _ h1, h2⟩
                  · exact .inr ⟨m, List.mem_cons_self, h⟩
                · rintro (h | ⟨a, h1, h2⟩)
                  · exact .inl (.inl h)
                  · rcases List.mem_cons.mp h1 with rfl | h1
                    · exact .inr h2
                    · exact .inl (.inr ⟨a, h1, h2⟩)
              have same3 : ∀ x ∈ S, valV E3 (Sum.inr x) = valV E' (Sum.inr x) := fun x hx => (aft.same x hx).trans (L.same x hx)
              have own3 : OwnAt H3 E3 S ax vl X own := L.own_.mono aft.kp (fun hn h => by
                rcases h with h | h | h | h | h
                · exact m3 h (aax hn)
                · exact L.ax_ne hn (.inl h)
                · exact L.ax_ne hn (.inr (.inl h))
                · exact L.ax_ne hn (.inr (.inr h))
                · exact aav (h ▸ aax hn)) aft.same
              have sub3 : ∀ y ∈ (if (res LS rk m).ready = true then m :: acc else acc), y ∈ keysD D3 := fun y hy => by
                have old : y ∈ acc → y ∈ keysD D3 := fun h => (aft.keys y).mpr (.inl (L.sub y h))
                split at hy
                · rcases List.mem_cons.mp hy with rfl | h
                  · exact (aft.keys _).mpr (.inr (.self _))
                  · exact old h
                · exact old hy
              refine ⟨_, rfl, ?_⟩
              rcases hs with rfl | ⟨x, rfl⟩
              · -- need
                have er : exec (res LS rk) own 0 (p.drop i) g acc X = if (res LS rk m).ready = true then hitC m (exec (res LS rk) own 0 (p.drop (i + 1)) g (m :: acc) X) else ⟨false, g, X, [m]⟩ := by rw [drop_at hz]; rfl
                have e5 : pqR (.need m) (res LS rk m).ready = (res LS rk m).ready := rfl
                rw [e5] at fr3 ⊢
                cases erd : (res LS rk m).ready with
                | true =>
                  rw [erd, if_pos rfl] at fr3 acc3 sub3 er
                  refine iteF ?_
                  exact ⟨i + 1, g, m :: acc, X, m :: done, D3, E3, _, Nat.lt_succ_self _, rfl, aft.run, key3, same3, kp3, fr3, own3, acc3, sub3, L.rest.hit er, Nat.le_trans L.xl (Nat.le_succ _)⟩
                | false =>
                  rw [erd, if_neg Bool.false_ne_true] at fr3 acc3 sub3 er
                  refine iteT ?_
                  have rst : Rest LS rk own p i g acc X (m :: done) := by
                    refine ⟨L.rest.e1, L.rest.e2, L.rest.e3, fun x => (L.rest.e4 x).trans ?_⟩
                    rw [er]
                    show x ∈ done ∨ x ∈ [m] ↔ x ∈ m :: done ∨ x ∈ [m]
                    simp only [List.mem_cons, List.not_mem_nil, or_false]
                    constructor
                    · rintro (h | h)
                      · exact .inl (.inr h)
                      · exact .inr h
                    · rintro ((h | h) | h)
                      · exact .inr h
                      · exact .inl h
                      · exact .inr h
                  have xl3 := L.xl
                  have acc4 : AccAt H3 aa acc (i + 1) := acc3
                  -- the loop's last state, its index counted up for the record of accesses
                  have y1 := rst.e1
                  rw [er] at y1
                  refine (show Q (.bl false) H3 from ?_)
                  have y1' : (runP LS rk own p).ended = false := y1
                  rw [← y1']
                  refine q H3 D3 E3 i ⟨aft.run.less fun c h => .inl h, fun x => (key3 x).trans ?_, same3, kp3⟩ ?_ ?_
                  · refine or_congr Iff.rfl ⟨fun ⟨a, h1, h2⟩ => ⟨a, (rst.e4 a).mpr (.inl h1), h2⟩, fun ⟨a, h1, h2⟩ => ⟨a, ((rst.e4 a).mp h1).elim id (fun h => by rw [er] at h; exact List.mem_cons.mpr (.inl (List.mem_singleton.mp h))), h2⟩⟩
                  · rw [rst.e2, er]; exact fr3
                  · rw [rst.e3, er]; exact own3
              · -- try
                have er : exec (res LS rk) own 0 (p.drop i) g acc X = hitC m (exec (res LS rk) own 0 (p.drop (i + 1)) (updF g x (if (res LS rk m).ready = true then 1 else 0)) (if (res LS rk m).ready = true then m :: acc else acc) X) := by rw [drop_at hz]; rfl
                refine iteF ?_
                exact ⟨i + 1, _, _, X, m :: done, D3, E3, _, Nat.lt_succ_self _, rfl, aft.run, key3, same3, kp3, fr3, own3, acc3, sub3, L.rest.hit er, Nat.le_trans L.xl (Nat.le_succ _)⟩
end
end Cy

set_option Elab.async false
set_option linter.all false
set_option maxRecDepth 100000
set_option maxHeartbeats 4000000
/-! plain.py: the four together, by rank; a main program -/
namespace Cy
open PySem PySem.Spec PyProof.Rows L2
section
variable {P : Program} {w : World} {K : PySem.W.Frag} {mg : Str → Option Value} {base : Heap} {aV aP aF CL CF CP : Addr} {fk : Str → Addr} {fa fb fc fe : Addr} {fda fdb fdc fde : FuncData}
theorem exec_all (Fr : FnM K CP "is_ready_after" "PlainRun.is_ready_after" sReadyAfter [] [] fa fda) (Fi : FnM K CP "initialize" "PlainRun.initialize" sInitialize [] [] fb fdb) (Fp : FnM K CP "pass_request" "PlainRun.pass_request" sPassReq [] [] fc fdc) (Fe : FnM K CP "execute" "PlainRun.execute" sExecute [] [] fe fde)
    (T : G0 K mg aV aP) (GP : GPl K mg CP) (GC : GFr K mg CF) (GL : GLib K mg CL)
    (h1 : PrM P w K mg base CF "is_over" ["self"] [] 1 (spIsOver CF)) (h2 : PrM P w K mg base CF "next_step" ["self"] [] 2 (spNextStep CF)) (h3 : Pr P w K mg base "is_plain" ["step"] [] 4 spIsPlain) (h4 : PrM P w K mg base CF "run_plain" ["self"] [] 5 (spRunPlain CF))
    (h5 : PrM P w K mg base CF "variables" ["self"] [] 1 (spVariables CF)) (h6 : PrM P w K mg base CF "pass_step" ["self", "value"] [.non] 5 (spPassStep CF)) (h7 : PrMK P w K mg base CF "pass_step" ["value"] (fun vs zs => vs ++ zs) 5 (spPassStep CF))
    (h8 : PrM P w K mg base CP "value_for" ["self", "module", "accessed", "step"] [] 1 (spValueFor CP CL)) (h9 : PrM P w K mg base CL "initializer" ["self", "module"] [] 2 (spInitializer CL)) (h10 : PrO P w K mg base "Frame" CF ["self", "program"] [] 7 (spFrInit CF)) :
    ∀ n, PrM P w K mg base CP "execute" ["self", "module", "frame"] [] (10 + 4 * n) (spExec CP CL CF n) := by
  have step : ∀ n k, 7 ≤ k → PrM P w K mg base CP "initialize" ["self", "module"] [] k (spInitM CP CL n) → PrM P w K mg base CP "execute" ["self", "module", "frame"] [] (k + 3) (spExec CP CL CF n) := fun n k hk h =>
    ok_execute n (by omega) Fe T GP GC h1 h2 h3 h4 h5 h6 h7 h8 (ok_pass_request n (by omega) Fp T GP GC h2 (ok_ready_after n Fr T GP h) h6 h7)
  have ini : ∀ n, PrM P w K mg base CP "initialize" ["self", "module"] [] (7 + 4 * n) (spInitM CP CL n) := by
    intro n
    induction n with
    | zero =>
      have no : ∀ {vs H Q E}, ¬ spInitM CP CL 0 vs H Q E := fun h => by
        obtain ⟨Av, R, LS, rk, D, E', S, m, _, ask, _⟩ := h
        exact Nat.not_lt_zero _ ask.lt
      refine ⟨fb, fdb, [], Fi.meth, (Fi.fn.ok0 (k := 0) scInitialize (fun vs H Q E h => absurd h no) (fun cdv A outer s H vs Q E hr h => absurd h no)).mono (by decide), .nil, Fi.fn.bindsN fun _ _ _ _ _ _ us hl => match us, hl with | [_, _], _ => rfl⟩
    | succ n ih =>
      exact (ok_initialize (k := 7 + 4 * n + 3) n (by omega) Fi T GP GC GL h9 h10 (step n (7 + 4 * n) (by omega) ih)).mono (by omega)
  intro n
  have := step n _ (by omega) (ini n)
  exact this.mono (by omega)
end
end Cy

set_option Elab.async false
set_option linter.all false
set_option maxRecDepth 100000
set_option maxHeartbeats 4000000
/-! Values that stand for data; sorted of them. -/
namespace Cy
open PySem PySem.Spec PyProof.Rows L2
open PySem.W (EachIs AllAlike Sortable dataLe dataLt alike alikeAll)
mutual
/-- the value stands for the datum: numbers, texts, tuples of these -/
inductive Dp (H : Hp) : V → PyData → Prop
  | int (n : Int) : Dp H (.int n) (.int n)
  | str (x : Str) : Dp H (.str x) (.str x)
  | tup {a : Addr} {vs : List V} {ds : List PyData} : H a = some (.tup vs) → DpA H vs ds → Dp H (.ref a) (.tuple ds)
inductive DpA (H : Hp) : List V → List PyData → Prop
  | nil : DpA H [] []
  | cons {v : V} {d : PyData} {vs : List V} {ds : List PyData} : Dp H v d → DpA H vs ds → DpA H (v :: vs) (d :: ds)
end
theorem DpA.len {H : Hp} : ∀ {vs : List V} {ds : List PyData}, DpA H vs ds → vs.length = ds.length
  | _, _, .nil => rfl
  | _, _, .cons _ t => by rw [List.length_cons, List.length_cons, DpA.len t]
mutual
theorem Dp.kp {S : Addr → Prop} {H H' : Hp} (e : Kp S H H') : ∀ {v : V} {d : PyData}, Dp H v d → Dp H' v d
  | _, _, .int n => .int n
  | _, _, .str x => .str x
  | _, _, .tup h t => .tup (e.tup h) (DpA.kp e t)
theorem DpA.kp {S : Addr → Prop} {H H' : Hp} (e : Kp S H H') : ∀ {vs : List V} {ds : List PyData}, DpA H vs ds → DpA H' vs ds
  | _, _, .nil => .nil
  | _, _, .cons h t => .cons (Dp.kp e h) (DpA.kp e t)
end
theorem Dp.same {H H' : Hp} (e : Same H H') {v : V} {d : PyData} (h : Dp H v d) : Dp H' v d := h.kp (S := fun _ => False) (Kp.of e)
theorem DpA.same {H H' : Hp} (e : Same H H') {v : List V} {d : List PyData} (h : DpA H v d) : DpA H' v d := h.kp (S := fun _ => False) (Kp.of e)
theorem DpA.snoc {H : Hp} : ∀ {vs : List V} {ds : List PyData} {v : V} {d : PyData}, DpA H vs ds → Dp H v d → DpA H (vs ++ [v]) (ds ++ [d])
  | _, _, _, _, .nil, h => .cons h .nil
  | _, _, _, _, .cons a t, h => .cons a (DpA.snoc t h)
theorem DpA.at {H : Hp} : ∀ {vs : List V} {ds : List PyData}, DpA H vs ds → ∀ (i : Nat) (v : V), vs[i]? = some v → ∃ d, ds[i]? = some d ∧ Dp H v d
  | _, _, .nil, i, v, h => by cases i <;> cases h
  | _, _, .cons r _, 0, v, h => by cases h; exact ⟨_, rfl, r⟩
  | _, _, .cons _ t, i + 1, v, h => DpA.at t i v h
theorem DpA.at2 {H : Hp} : ∀ {vs : List V} {ds : List PyData}, DpA H vs ds → ∀ (i : Nat) (d : PyData), ds[i]? = some d → ∃ v, vs[i]? = some v ∧ Dp H v d
  | _, _, .nil, i, v, h => by cases i <;> cases h
  | _, _, .cons r _, 0, v, h => by cases h; exact ⟨_, rfl, r⟩
  | _, _, .cons _ t, i + 1, v, h => DpA.at2 t i v h
section
variable {P : Program} {w : World} {H : Hp} {h : Heap}
mutual
theorem Dp.reads (ok : HOk P w H h) : ∀ {v : V} {d : PyData} {u : Value}, Dp H v d → RelV v u → Reads h u d []
  | _, _, u, .int n, r => by
    obtain ⟨t, rfl⟩ : ∃ t, u = Value.int n t := r
    exact .int n t
  | _, _, u, .str x, r => by
    obtain ⟨t, rfl⟩ : ∃ t, u = Value.str x t := r
    exact .str x t
  | _, _, u, .tup (a := a) (vs := vs) e t, r => by
    obtain rfl : u = Value.ref a := r
    obtain ⟨_, its, rv, o, ho, hc, n, hd⟩ := (show ObjOk P w H h a (.tup vs) from ok a _ e)
    exact .tuple ho hc hd (DpA.reads ok t rv)
theorem DpA.reads (ok : HOk P w H h) : ∀ {vs : List V} {ds : List PyData} {us : List Value}, DpA H vs ds → Vals vs us → ReadsAll h us ds []
  | _, _, _, .nil, r => by cases r; exact .nil
  | _, _, _, .cons a t, r => by
    cases r with
    | cons r1 r2 => exact .cons (Dp.reads ok a r1) (DpA.reads ok t r2)
end
end
/-! ### sorted(list) -/
def dsort (ds : List PyData) : List PyData := ds.mergeSort (dataLe false id)
theorem each_rel : ∀ {xs : List V} {ds : List PyData} {its : List Value}, xs.length = ds.length → Vals xs its → EachIs (fun v (b : V × PyData) => RelV b.1 v) its (xs.zip ds)
  | [], [], _, _, r => by cases r; exact .nil
  | x :: xs, d :: ds, _, l, r => by
    cases r with
    | cons r1 r2 => exact .cons r1 (each_rel (by simpa using l) r2)
theorem each_reads {P : Program} {w : World} {H : Hp} {h : Heap} (ok : HOk P w H h) : ∀ {xs : List V} {ds : List PyData} {its : List Value}, DpA H xs ds → Vals xs its → EachIs (fun v (b : V × PyData) => ∃ as, Reads h v b.2 as) its (xs.zip ds)
  | [], [], _, _, r => by cases r; exact .nil
  | x :: xs, d :: ds, _, .cons a t, r => by
    cases r with
    | cons r1 r2 => exact .cons ⟨[], a.reads ok r1⟩ (each_reads ok t r2)
theorem each_vals : ∀ {out : List Value} {zs : List (V × PyData)}, EachIs (fun v (b : V × PyData) => RelV b.1 v) out zs → Vals (zs.map (·.1)) out
  | _, _, .nil => .nil
  | _, _, .cons a t => .cons a (each_vals t)
theorem DpA.zip_mem {H : Hp} : ∀ {xs : List V} {ds : List PyData}, DpA H xs ds → ∀ b ∈ xs.zip ds, Dp H b.1 b.2
  | _, _, .nil, b, h => by cases h
  | _, _, .cons a t, b, h => by
    rcases List.mem_cons.mp h with rfl | h
    · exact a
    · exact DpA.zip_mem t b h
theorem DpA.of_all {H : Hp} : ∀ {zs : List (V × PyData)}, (∀ b ∈ zs, Dp H b.1 b.2) → DpA H (zs.map (·.1)) (zs.map (·.2))
  | [], _ => .nil
  | b :: zs, h => .cons (h b List.mem_cons_self) (DpA.of_all fun c hc => h c (List.mem_cons_of_mem _ hc))
theorem zip_snd {α β : Type} : ∀ {xs : List α} {ds : List β}, xs.length = ds.length → (xs.zip ds).map (·.2) = ds
  | [], [], _ => rfl
  | _ :: xs, _ :: ds, l => by
    rw [List.zip_cons_cons, List.map_cons, zip_snd (by simpa using l)]
section
variable {X : Cx}
/-- data that can be sorted here -/
structure SortOk (ds : List PyData) : Prop where
  al : AllAlike ds
  tp : Sortable ds
  dp : ∀ d ∈ ds, d.depth ≤ 16
  ln : ds.length ≤ 1000
def rSortL (K : PySem.W.Frag) : List V → Hp → VK → Prop := fun vs H Q => ∃ (p : Addr) (xs : List V) (ds : List PyData), vs = [.ref p] ∧ SqL K H p xs ∧ DpA H xs ds ∧ SortOk ds ∧
  ∀ l ys, DpA H ys (dsort ds) → H l = none → Q (.ref l) (upd H l (.lst ys))
theorem call_sortL (hu : X.A.units + 64 < cLine) : CallR X (.builtin "sorted") (rSortL X.K) := by
  intro pins s σ H xs0 us Q I r h
  obtain ⟨p, xs, ds, rfl, hq, hd, ok, q⟩ := h
  obtain ⟨u, rfl, rx⟩ := vals1 r
  cases rx
  obtain ⟨its, r', pl, hz⟩ := I.list hq
  have hlen := hd.len
  have em : (xs.zip ds).map (·.2) = ds := zip_snd hlen
  have hl16 : (xs.zip ds).length ≤ sizeLine := by
    rw [List.length_zip, hlen, Nat.min_self]
    exact Nat.le_trans ok.ln (by decide)
  refine PySem.W.sorted_data (vs := its) (bs := xs.zip ds) (enc := (·.2)) (R := fun v b => RelV b.1 v) pl.isList (each_rel hlen r') (each_reads I.hok hd r') (by rw [em]; exact ok.al) (by rw [em]; exact ok.tp) hl16 (fun b hb => ?_) fun out ho he => ?_
  · have := ok.dp b.2 (by rw [← em]; exact List.mem_map.mpr ⟨b, hb, rfl⟩)
    omega
  · have hv := each_vals he
    obtain ⟨ee, hat⟩ := sortedAll_at s.heap its out.toArray
    have hn : H (s.heap.objs.size + 1) = none := I.hok.fresh (Nat.le_succ _)
    have hln : (((xs.zip ds).mergeSort (dataLe false (·.2))).map (·.1)).length ≤ sizeLine := by
      rw [List.length_map, List.length_mergeSort]
      exact hl16
    refine ⟨.ref (s.heap.objs.size + 1), upd H (s.heap.objs.size + 1) (.lst (((xs.zip ds).mergeSort (dataLe false (·.2))).map (·.1))), I.laid (t' := s.toks) (fun b o e => sortedAll_old e) (Nat.le_succ _)
      (show ObjOk X.prog X.w _ _ _ (.lst _) from ⟨hln, out, ee, hv, hat⟩), rfl, q _ _ ?_ hn⟩
    have em2 : ((xs.zip ds).mergeSort (dataLe false (·.2))).map (·.2) = dsort ds := by
      unfold dsort
      have e3 := List.map_mergeSort (r := dataLe false (fun b : V × PyData => b.2)) (s := dataLe false id) (f := fun b : V × PyData => b.2) (l := xs.zip ds) (fun a _ b _ => rfl)
      rw [e3, em]
    rw [← em2]
    exact DpA.of_all fun b hb => hd.zip_mem b (List.mem_mergeSort.mp hb)
end
end Cy

set_option Elab.async false
set_option linter.all false
set_option maxRecDepth 100000
set_option maxHeartbeats 4000000
/-! sorted(d.items()) of a dict with text keys. -/
namespace Cy
open PySem PySem.Spec PyProof.Rows L2
open L2.DX (itemsO itemsO_ok takeT)
open PySem.W (EachIs AllAlike Sortable dataLe dataLt alike alikeAll)
def pairD (e : Str × V × PyData) : PyData := .tuple [.str e.1, e.2.2]
def entK (e : Str × V × PyData) : Key × V := (Sum.inr e.1, e.2.1)
def refV : Value → V
  | .ref a => .ref a
  | _ => .non
theorem refs_vals {R : Value → Str × V × PyData → Prop} (hR : ∀ v b, R v b → ∃ a, v = .ref a) : ∀ {out : List Value} {bs : List (Str × V × PyData)}, EachIs R out bs → Vals (out.map refV) out
  | _, _, .nil => .nil
  | _, _, .cons r t => by
    obtain ⟨a, rfl⟩ := hR _ _ r
    exact .cons rfl (refs_vals hR t)
theorem refs_data {H : Hp} {R : Value → Str × V × PyData → Prop} (hR : ∀ v b, R v b → ∃ a, v = .ref a ∧ H a = some (.tup [.str b.1, b.2.1]) ∧ Dp H b.2.1 b.2.2) : ∀ {out : List Value} {bs : List (Str × V × PyData)}, EachIs R out bs → DpA H (out.map refV) (bs.map pairD)
  | _, _, .nil => .nil
  | _, _, .cons r t => by
    obtain ⟨a, rfl, h1, h2⟩ := hR _ _ r
    exact .cons (.tup h1 (.cons (.str _) (.cons h2 .nil))) (refs_data hR t)
theorem pairs_at {P : Program} {w : World} : ∀ {es : List DictEntry} {vs : List (Key × Value)}, Pairs (mixKind P w) es vs → ∀ (j : Nat) (e : DictEntry), es[j]? = some e → ∃ kv, vs[j]? = some kv ∧ (mixKind P w).is kv.1 e.key = true ∧ e.val = kv.2
  | _, _, .nil, j, e, h => by cases j <;> cases h
  | _, _, .cons a b t, 0, e, h => by cases h; exact ⟨_, rfl, a, b⟩
  | _, _, .cons a b t, j + 1, e, h => pairs_at t j e h
section
variable {X : Cx}
def rItemsK : V → List V → Hp → VK → Prop := fun x xs H Q => ∃ (a : Addr) (kvs : List (Key × V)), x = .ref a ∧ xs = [] ∧ H a = some (.dK kvs) ∧ ∀ p, H p = none → Q (.ref p) (upd H p (itemsO p a))
theorem mt_itemsK : MtR X "dict.items" rItemsK := by
  intro pins s σ H x xs v us Q I rx rxs h
  obtain ⟨a, kvs, rfl, rfl, ha, q⟩ := h
  cases rx
  cases rxs
  obtain ⟨z, hd, vs, rel, o, es, ep, ho, hx, hdat, _⟩ := dk_of I.hok ha
  refine DT.callItems (es := es) (ep := ep) hd ⟨o, ho, hx, hdat⟩ ?_
  have hf : H s.heap.objs.size = none := I.hok.fresh (Nat.le_refl _)
  exact ⟨.ref s.heap.objs.size, upd H s.heap.objs.size (itemsO s.heap.objs.size a), I.laid (t' := s.toks) (fun b u e => Heap.get?_push_of_some _ e) (Nat.le_refl _) (itemsO_ok (Heap.get?_push_size _ rfl)), rfl, q _ hf⟩
def rSortIt : List V → Hp → VK → Prop := fun vs H Q => ∃ (p a : Addr) (ks : List (Str × V × PyData)), vs = [.ref p] ∧ H p = some (itemsO p a) ∧ H a = some (.dK (ks.map entK)) ∧ (∀ e ∈ ks, Dp H e.2.1 e.2.2) ∧ SortOk (ks.map pairD) ∧
  ∀ H' l ys, Same H H' → DpA H' ys (dsort (ks.map pairD)) → H' l = some (.lst ys) → H l = none → Q (.ref l) H'
theorem call_sortIt (hc : X.calm = true) (hu : X.A.units + 64 < cLine) : CallR X (.builtin "sorted") rSortIt := by
  intro pins s σ H xs us Q I r h
  obtain ⟨p, a, ks, rfl, hp, ha, hv, ok, q⟩ := h
  obtain rfl := Vals.ref1 r
  have view : s.heap.IsItemsView p a := (show ObjOk X.prog X.w H s.heap p (itemsO p a) from I.hok p _ hp).1
  obtain ⟨z, hd, vs, rel, o, es, ep, ho, hx, hdat, hko, hpr, hn⟩ := dk_of I.hok ha
  have l1 : (ks.map entK).length = vs.length := Paired.length rel
  rw [List.length_map] at l1
  have l2 : es.size = vs.length := by rw [← Array.length_toList]; exact hpr.length
  have lk : ks.length ≤ 1000 := by have := ok.ln; rw [List.length_map] at this; exact this
  have hh : X.A.handled = none := I.ok.hd hc
  refine DT.sortedI (es := es) (ep := ep) hh view ⟨o, ho, hx, hdat⟩ (by rw [sizeLine_eq]; omega) fun h' tk as hk hlt hl hG => ?_
  have lak : as.length = ks.length := by omega
  have nd : as.Nodup := List.Pairwise.imp (fun h => Nat.ne_of_lt h) hG.rise
  have pr : ∀ (j : Nat) (b : Addr), as[j]? = some b → ∃ (e : Str × V × PyData) (u1 u2 : Value), ks[j]? = some e ∧ h'.get? b = some { cls := .type "tuple", data := .seq #[u1, u2] } ∧ RelV (.str e.1) u1 ∧ RelV e.2.1 u2 := by
    intro j b hj
    obtain ⟨en, he, hg⟩ := hG.pairs j b hj
    rw [← Array.getElem?_toList] at he
    obtain ⟨kv, k1, k2, k3⟩ := pairs_at hpr j en he
    obtain ⟨e0, he0, r1, r2⟩ := L2.DX.pget rel k1
    rw [List.getElem?_map] at he0
    cases hkj : ks[j]? with
    | none => rw [hkj] at he0; cases he0
    | some e =>
      rw [hkj] at he0
      have ee : entK e = e0 := Option.some.inj he0
      rw [← ee] at r1 r2
      refine ⟨e, en.key, en.val, rfl, hg, ?_, ?_⟩
      · have r1' : Sum.inr e.1 = kv.1 := r1
        rw [← r1'] at k2
        rw [L2.mixKind_is] at k2
        rcases L2.keyIs_shape k2 with ⟨i, t, e1, e2⟩ | ⟨x, t, e1, e2⟩
        · exact nomatch e1
        · have ex : e.1 = x := Sum.inr.inj e1
          rw [ex]
          exact ⟨t, e2⟩
      · rw [k3]
        exact r2
  have hob : (h'.push { cls := .type "list", data := .seq (as.map Value.ref).toArray }).get? h'.objs.size = some (seqObj "list" (as.map Value.ref).toArray 0) := Heap.get?_push_size _ rfl
  have kb : ∀ b o, s.heap.get? b = some o → (h'.push { cls := .type "list", data := .seq (as.map Value.ref).toArray }).get? b = some o := fun b o e => Heap.get?_push_of_some _ (hk b o e)
  have ne0 : ∀ b o, h'.get? b = some o → b ≠ h'.objs.size := fun b o e => Nat.ne_of_lt (Heap.lt_size e)
  generalize hh2 : h'.push { cls := .type "list", data := .seq (as.map Value.ref).toArray } = h2 at hob kb ⊢
  have ka : ∀ b o, h'.get? b = some o → h2.get? b = some o := fun b o e => by rw [← hh2]; exact Heap.get?_push_of_some _ e
  have zmem : ∀ p ∈ (as.map Value.ref).zip ks, ∃ (j : Nat) (a : Addr), p.1 = .ref a ∧ as[j]? = some a ∧ ks[j]? = some p.2 := by
    intro p hp
    obtain ⟨j, hj⟩ := List.mem_iff_getElem?.mp hp
    obtain ⟨h1, h2⟩ := List.getElem?_zip_eq_some.mp hj
    rw [List.getElem?_map] at h1
    obtain ⟨a, ea, eb⟩ := Option.map_eq_some_iff.mp h1
    exact ⟨j, a, eb.symm, ea, h2⟩
  have lz : (as.map Value.ref).length = ks.length := by rw [List.length_map, lak]
  refine PySem.W.list_sort_data (s := { s with heap := h2, toks := tk }) (bs := ks) (enc := pairD) (R := fun v b => ∃ (j : Nat) (a : Addr), v = .ref a ∧ as[j]? = some a ∧ ks[j]? = some b) hob
    (EachIs.of_zip lz zmem) (EachIs.of_zip lz fun p hp => ?_) ok.al ok.tp (by rw [sizeLine_eq]; omega) (fun b hb => ?_) fun out ho1 he1 => ?_
  · obtain ⟨j, b, e1, e2, e3⟩ := zmem p hp
    obtain ⟨e, u1, u2, f1, f2, f3, f4⟩ := pr j b e2
    have ee : e = p.2 := Option.some.inj (f1.symm.trans e3)
    subst ee
    obtain ⟨t, rfl⟩ := (show ∃ t, u1 = Value.str p.2.1 t from f3)
    have rd : Reads h2 u2 p.2.2.2 [] := PyProof.Rows.Reads.keeps kb (Dp.reads I.hok (hv p.2 (List.mem_of_getElem? e3)) f4)
    refine ⟨[], ?_, fun h => by cases h⟩
    rw [e1]
    exact .tuple (ka _ _ f2) rfl rfl (.cons (.str _ _) (.cons rd .nil))
  · have := ok.dp (pairD b) (List.mem_map.mpr ⟨b, hb, rfl⟩)
    show X.A.units + 1 + 1 + (pairD b).depth < cLine
    omega
  · show EP X pins σ Q (.ref h'.objs.size) { s with heap := sortedHeap h2 h'.objs.size (as.map Value.ref) out.toArray, toks := tk }
    have kF : ∀ b o, b ≠ h'.objs.size → h2.get? b = some o → (sortedHeap h2 h'.objs.size (as.map Value.ref) out.toArray).get? b = some o := fun b o hb e => (PyProof.Rows.sortedHeap_old hb (Heap.lt_size e)).trans e
    have kS : ∀ b o, s.heap.get? b = some o → (sortedHeap h2 h'.objs.size (as.map Value.ref) out.toArray).get? b = some o := fun b o e => kF b o (ne0 _ _ (hk b o e)) (kb b o e)
    obtain ⟨eF, heF⟩ := PyProof.Rows.sortedHeap_at (vs := as.map Value.ref) (out := out.toArray) hob
    have I1 : Inv X pins σ H { s with heap := sortedHeap h2 h'.objs.size (as.map Value.ref) out.toArray, toks := tk } := I.kept (t' := tk) kS
    have hn0 : H h'.objs.size = none := I.hok.fresh (Nat.le_of_lt hlt)
    have hlen : (out.map refV).length ≤ sizeLine := by
      rw [List.length_map, ho1, sizeLine_eq]
      omega
    have rv : Vals (out.map refV) out := refs_vals (fun v b ⟨j, a, e, _⟩ => ⟨a, e⟩) he1
    have I2 : Inv X pins σ (upd H h'.objs.size (.lst (out.map refV))) { s with heap := sortedHeap h2 h'.objs.size (as.map Value.ref) out.toArray, toks := tk } :=
      I1.take (h' := sortedHeap h2 h'.objs.size (as.map Value.ref) out.toArray) (t' := tk) (fun b ob _ e => e) (I.fpOk (Nat.le_of_lt hlt) hn0) ⟨hlen, out, eF, rv, heF⟩
    obtain ⟨H2, I3, g, qt⟩ := takeT (P := fun b vs => ∃ (j : Nat) (e : Str × V × PyData), as[j]? = some b ∧ ks[j]? = some e ∧ vs = [.str e.1, e.2.1]) I as _ I2 nd fun b hb => by
      obtain ⟨j, hj⟩ := List.mem_iff_getElem?.mp hb
      obtain ⟨e, u1, u2, he, hg, f3, f4⟩ := pr j b hj
      have hbl : s.heap.objs.size ≤ b := Nat.le_of_lt (hG.above b hb)
      refine ⟨hbl, ?_, [.str e.1, e.2.1], ⟨j, e, hj, he, rfl⟩, fun H3 => ⟨(by rw [sizeLine_eq]; show 2 ≤ 16777216; omega), [u1, u2], .cons f3 (.cons f4 .nil), ⟨_, kF _ _ (ne0 _ _ hg) (ka _ _ hg), rfl, 0, rfl⟩⟩⟩
      rw [upd_ne (ne0 _ _ hg)]
      exact I.hok.fresh hbl
    have gr : Same H H2 := fun b o e => g b o (by rw [upd_ne (ne_of_none e hn0)]; exact e)
    refine ⟨.ref h'.objs.size, H2, I3, rfl, q H2 h'.objs.size _ gr ?_ (g _ _ upd_same) hn0⟩
    have em2 : (ks.mergeSort (dataLe false pairD)).map pairD = dsort (ks.map pairD) := by
      unfold dsort
      exact List.map_mergeSort (r := dataLe false pairD) (s := dataLe false id) (f := pairD) (l := ks) (fun a _ b _ => rfl)
    rw [← em2]
    refine refs_data (fun v b hR => ?_) he1
    obtain ⟨j, b', rfl, j1, j2⟩ := hR
    obtain ⟨vs', ⟨j', e, i1, i2, ev⟩, hH⟩ := qt b' (List.mem_of_getElem? j1)
    have eij : j = j' := (List.getElem?_inj (List.getElem?_eq_some_iff.mp j1).1 nd).mp (j1.trans i1.symm)
    subst eij
    have ee : e = b := Option.some.inj (i2.symm.trans j2)
    subst ee
    rw [ev] at hH
    exact ⟨b', rfl, hH, (hv e (List.mem_of_getElem? j2)).same gr⟩
end
end Cy

set_option Elab.async false
set_option linter.all false
set_option maxRecDepth 100000
set_option maxHeartbeats 4000000
/-! Rows as data, sorted by their first texts. -/
namespace Cy
open PySem PySem.Spec PyProof.Rows L2
open PySem.W (EachIs AllAlike Sortable dataLe dataLt alike alikeAll dataLt_tuple dataLt_str dataLt_cons dataLe_eq)
theorem dsort_rows {F : Str → PyData} {rest : Str → List PyData} (hF : ∀ m, F m = .tuple (.str m :: rest m)) (l : List Str) : dsort (l.map F) = (srt l).map F := by
  unfold dsort srt
  refine (List.map_mergeSort (r := fun a b => decide (leS a b)) (s := dataLe false id) (f := F) (l := l) fun a _ b _ => ?_).symm
  show decide (leS a b) = !dataLt (F b) (F a)
  rw [hF a, hF b, dataLt_tuple, dataLt_cons (by simp [alike])]
  by_cases e : a = b
  · subst e
    have h1 : PyData.eqv (.str a) (.str a) = true := by simp [PyData.eqv]
    rw [if_pos h1, PyProof.Rows.lex_irrefl, decide_eq_true (leS_refl a)]
    rfl
  · have h1 : ¬ PyData.eqv (.str b) (.str a) = true := by
      intro h
      simp [PyData.eqv] at h
      exact e h.symm
    rw [if_neg h1, dataLt_str]
    by_cases h : b.cps.toList < a.cps.toList
    · rw [decide_eq_true h, decide_eq_false (fun q : leS a b => q h)]
      rfl
    · rw [decide_eq_false h, decide_eq_true (show leS a b from h)]
      rfl
theorem depthAll_map {α : Type} (F : α → PyData) (k : Nat) : ∀ l : List α, (∀ m ∈ l, (F m).depth ≤ k) → PyData.depthAll (l.map F) ≤ k
  | [], _ => Nat.zero_le _
  | m :: r, h => by
    rw [List.map_cons]
    simp only [PyData.depthAll]
    exact Nat.max_le.mpr ⟨h m List.mem_cons_self, depthAll_map F k r fun x hx => h x (List.mem_cons_of_mem _ hx)⟩
theorem alikeAll_map {α : Type} {F : α → PyData} (h : ∀ a b, alike (F a) (F b) = true) : ∀ l l' : List α, alikeAll (l.map F) (l'.map F) = true
  | [], l' => by simp [alikeAll]
  | a :: l, [] => by simp [alikeAll]
  | a :: l, b :: l' => by
    simp only [List.map_cons, alikeAll, h a b, Bool.true_and]
    exact alikeAll_map h l l'
theorem rows_sortOk {F : Str → PyData} {rest : Str → List PyData} (hF : ∀ m, F m = .tuple (.str m :: rest m)) (ha : ∀ a b, alikeAll (rest a) (rest b) = true) (hd : ∀ m, PyData.depthAll (rest m) ≤ 8) (l : List Str) (hl : l.length ≤ 1000) : SortOk (l.map F) := by
  refine ⟨fun d h d' h' => ?_, .inl fun d h => ?_, fun d h => ?_, by rw [List.length_map]; exact hl⟩
  · obtain ⟨a, _, rfl⟩ := List.mem_map.mp h
    obtain ⟨b, _, rfl⟩ := List.mem_map.mp h'
    rw [hF, hF]
    simp [alike, alikeAll, ha]
  · obtain ⟨a, _, rfl⟩ := List.mem_map.mp h
    exact ⟨_, _, hF a⟩
  · obtain ⟨a, _, rfl⟩ := List.mem_map.mp h
    rw [hF]
    simp only [PyData.depth, PyData.depthAll]
    have := hd a
    omega
/-! ### exports -/
theorem putX_keys (X : List (Str × Int)) (l : Str) (n : Int) : (X.map (·.1)).Nodup → ((putX X l n).map (·.1)).Nodup := by
  intro h
  unfold putX
  split
  · rw [List.map_map]
    have e : X.map ((fun x => x.1) ∘ fun p => if p.1 = l then (p.1, n) else p) = X.map (·.1) := List.map_congr_left fun p _ => by
      show (if p.1 = l then (p.1, n) else p).1 = p.1
      split <;> rfl
    rw [e]
    exact h
  · rename_i hk
    rw [List.map_append, List.nodup_append]
    refine ⟨h, List.pairwise_singleton _ _, fun a ha b hb => ?_⟩
    rw [List.mem_singleton.mp hb]
    rintro rfl
    obtain ⟨p, hp, e⟩ := List.mem_map.mp ha
    exact hk (List.any_eq_true.mpr ⟨p, hp, decide_eq_true e⟩)
theorem exec_keys {Rm : Str → Res} {own : Option Str} : ∀ (p : List Stp) (k : Nat) (f : Str → Int) (acc : List Str) (X : List (Str × Int)), (X.map (·.1)).Nodup → ((exec Rm own k p f acc X).exps.map (·.1)).Nodup
  | [], k, f, acc, X, h => by rw [exec_nil]; exact h
  | s :: r, k + 1, f, acc, X, h => exec_keys r k f acc X h
  | s :: r, 0, f, acc, X, h => by
    cases s with
    | set x n => exact exec_keys r 0 _ acc X h
    | add x y => exact exec_keys r 0 _ acc X h
    | skip x n => exact exec_keys r _ f acc X h
    | exp l x => exact exec_keys r 0 f acc _ (putX_keys X l _ h)
    | read x m l => exact exec_keys r 0 _ acc X h
    | need m =>
      show ((if (Rm m).ready = true then hitC m (exec Rm own 0 r f (m :: acc) X) else ⟨false, f, X, [m]⟩ : Out).exps.map (·.1)).Nodup
      split
      · exact exec_keys r 0 f _ X h
      · exact h
    | try_ m x => exact exec_keys r 0 _ _ X h
    | fail => exact h
theorem res_keys {L : Lib} {rk : Str → Nat} (W : WfL L rk) {m : Str} (hm : m ∈ names L) : ((res L rk m).exps.map (·.1)).Nodup := by
  rw [res_eq W hm]
  unfold resO
  show ((if (runP L rk (some m) (prg L m)).ended = true then (runP L rk (some m) (prg L m)).exps else []).map (·.1)).Nodup
  split
  · exact exec_keys _ _ _ _ _ List.nodup_nil
  · exact List.nodup_nil
theorem exec_lenX {Rm : Str → Res} {own : Option Str} : ∀ (p : List Stp) (k : Nat) (f : Str → Int) (acc : List Str) (X : List (Str × Int)), (exec Rm own k p f acc X).exps.length ≤ X.length + p.length
  | [], k, f, acc, X => by rw [exec_nil]; exact Nat.le_refl _
  | s :: r, k + 1, f, acc, X => by
    have := exec_lenX (Rm := Rm) (own := own) r k f acc X
    show (exec Rm own k r f acc X).exps.length ≤ _
    rw [List.length_cons]
    omega
  | s :: r, 0, f, acc, X => by
    have go := fun k f acc X => exec_lenX (Rm := Rm) (own := own) r k f acc X
    rw [List.length_cons]
    cases s with
    | set x n => exact Nat.le_trans (go 0 _ acc X) (by omega)
    | add x y => exact Nat.le_trans (go 0 _ acc X) (by omega)
    | skip x n => exact Nat.le_trans (go _ f acc X) (by omega)
    | exp l x =>
      have := putX_len X l (f x)
      exact Nat.le_trans (go 0 f acc _) (by omega)
    | read x m l => exact Nat.le_trans (go 0 _ acc X) (by omega)
    | need m =>
      show (if (Rm m).ready = true then hitC m (exec Rm own 0 r f (m :: acc) X) else ⟨false, f, X, [m]⟩ : Out).exps.length ≤ _
      split
      · exact Nat.le_trans (go 0 f _ X) (by omega)
      · exact Nat.le_add_right _ _
    | try_ m x => exact Nat.le_trans (go 0 _ _ X) (by omega)
    | fail => exact Nat.le_add_right _ _
theorem res_len {L : Lib} {rk : Str → Nat} (W : WfL L rk) {m : Str} (hm : m ∈ names L) : (res L rk m).exps.length ≤ 10 := by
  rw [res_eq W hm]
  unfold resO
  show (if (runP L rk (some m) (prg L m)).ended = true then (runP L rk (some m) (prg L m)).exps else []).length ≤ 10
  split
  · have h1 := exec_lenX (Rm := res L rk) (own := some m) (prg L m) 0 f0 [] []
    have h2 := (W.wf m _ (prg_mem hm W.nd)).len
    exact Nat.le_trans h1 (by rw [List.length_nil]; omega)
  · exact Nat.zero_le _
theorem getX_mem {X : List (Str × Int)} (h : (X.map (·.1)).Nodup) {l : Str} {n : Int} (hm : (l, n) ∈ X) : getX X l = n := by
  induction X with
  | nil => cases hm
  | cons p r ih =>
    rw [List.map_cons, List.nodup_cons] at h
    unfold getX
    rcases List.mem_cons.mp hm with e | e
    · subst e
      rw [List.find?_cons, decide_eq_true rfl]
      rfl
    · have : ¬ p.1 = l := fun q => h.1 (q ▸ List.mem_map.mpr ⟨_, e, rfl⟩)
      rw [List.find?_cons, decide_eq_false this]
      exact ih h.2 e
/-- what is exported, as a datum -/
def exF (X : List (Str × Int)) (l : Str) : PyData := .tuple [.str l, .int (getX X l)]
def expD (X : List (Str × Int)) : PyData := .tuple ((srt (X.map (·.1))).map (exF X))
def exK (X : List (Str × Int)) : List (Str × V × PyData) := X.map fun p => (p.1, .int p.2, .int p.2)
theorem exK_ent (X : List (Str × Int)) : (exK X).map entK = xDict X := by
  unfold exK xDict
  rw [List.map_map]
  rfl
theorem exK_pair {X : List (Str × Int)} (h : (X.map (·.1)).Nodup) : (exK X).map pairD = (X.map (·.1)).map (exF X) := by
  unfold exK
  rw [List.map_map, List.map_map]
  refine List.map_congr_left fun p hp => ?_
  show PyData.tuple [.str p.1, .int p.2] = PyData.tuple [.str p.1, .int (getX X p.1)]
  rw [getX_mem h hp]
theorem exK_sort {X : List (Str × Int)} (h : (X.map (·.1)).Nodup) : PyData.tuple (dsort ((exK X).map pairD)) = expD X := by
  rw [exK_pair h, dsort_rows (F := exF X) (rest := fun l => [.int (getX X l)]) (fun _ => rfl)]
  rfl
theorem exK_ok {X : List (Str × Int)} (h : (X.map (·.1)).Nodup) (hl : X.length ≤ 1000) : SortOk ((exK X).map pairD) := by
  rw [exK_pair h]
  refine rows_sortOk (F := exF X) (rest := fun l => [.int (getX X l)]) (fun _ => rfl) (fun _ _ => by simp [alikeAll, alike]) (fun _ => by simp [PyData.depthAll, PyData.depth]) _ (by rw [List.length_map]; exact hl)
theorem expD_depth (X : List (Str × Int)) : (expD X).depth ≤ 2 := by
  unfold expD
  simp only [PyData.depth]
  have := depthAll_map (exF X) 1 (srt (X.map (·.1))) fun m _ => by simp [exF, PyData.depthAll, PyData.depth]
  omega
theorem expD_alike (X Y : List (Str × Int)) : alike (expD X) (expD Y) = true := by
  unfold expD
  simp only [alike]
  have gen : ∀ l l' : List Str, alikeAll (l.map (exF X)) (l'.map (exF Y)) = true := by
    intro l
    induction l with
    | nil => intro l'; simp [alikeAll]
    | cons a l ih =>
      intro l'
      cases l' with
      | nil => simp [alikeAll]
      | cons b l' =>
        simp only [List.map_cons, alikeAll, ih l', Bool.and_true]
        simp [exF, alike, alikeAll]
  exact gen _ _
/-! ### rows of modules -/
def mRest (LS : Lib) (rk : Str → Nat) (m : Str) : List PyData := [.str (stT (res LS rk m).ready), expD (res LS rk m).exps]
def mRow (LS : Lib) (rk : Str → Nat) (m : Str) : PyData := .tuple (.str m :: mRest LS rk m)
def rowsD (LS : Lib) (rk : Str → Nat) (K : List Str) : PyData := .tuple ((srt K).map (mRow LS rk))
theorem mRest_alike (LS : Lib) (rk : Str → Nat) (a b : Str) : alikeAll (mRest LS rk a) (mRest LS rk b) = true := by
  unfold mRest
  simp [alikeAll, alike, expD_alike]
theorem mRest_depth (LS : Lib) (rk : Str → Nat) (m : Str) : PyData.depthAll (mRest LS rk m) ≤ 8 := by
  unfold mRest
  have := expD_depth (res LS rk m).exps
  simp only [PyData.depthAll, PyData.depth]
  omega
theorem mRow_sortOk (LS : Lib) (rk : Str → Nat) (l : List Str) (hl : l.length ≤ 1000) : SortOk (l.map (mRow LS rk)) := rows_sortOk (fun _ => rfl) (mRest_alike LS rk) (mRest_depth LS rk) l hl
theorem mRow_sort (LS : Lib) (rk : Str → Nat) (l : List Str) : dsort (l.map (mRow LS rk)) = (srt l).map (mRow LS rk) := dsort_rows (fun _ => rfl) l
/-- the states' items -/
def stF (LS : Lib) (rk : Str → Nat) (m : Str) : PyData := .tuple [.str m, .str (stT (res LS rk m).ready)]
def stK (LS : Lib) (rk : Str → Nat) (K : List Str) : List (Str × V × PyData) := K.map fun m => (m, .str (stT (res LS rk m).ready), .str (stT (res LS rk m).ready))
theorem stK_pair (LS : Lib) (rk : Str → Nat) (K : List Str) : (stK LS rk K).map pairD = K.map (stF LS rk) := by
  unfold stK
  rw [List.map_map]
  rfl
theorem stK_sort (LS : Lib) (rk : Str → Nat) (K : List Str) : dsort ((stK LS rk K).map pairD) = (srt K).map (stF LS rk) := by
  rw [stK_pair]
  exact dsort_rows (rest := fun m => [.str (stT (res LS rk m).ready)]) (fun _ => rfl) K
theorem stK_ok (LS : Lib) (rk : Str → Nat) (K : List Str) (hl : K.length ≤ 1000) : SortOk ((stK LS rk K).map pairD) := by
  rw [stK_pair]
  exact rows_sortOk (rest := fun m => [.str (stT (res LS rk m).ready)]) (fun _ => rfl) (fun _ _ => by simp [alikeAll, alike]) (fun _ => by simp [PyData.depthAll, PyData.depth]) K hl
theorem stK_ent {LS : Lib} {rk : Str → Nat} {D : List (Str × Bool)} (h : ∀ m b, (m, b) ∈ D → b = (res LS rk m).ready) : (stK LS rk (keysD D)).map entK = sDict D := by
  unfold stK sDict keysD
  rw [List.map_map, List.map_map]
  refine List.map_congr_left fun p hp => ?_
  show ((Sum.inr p.1 : Key), V.str (stT (res LS rk p.1).ready)) = _
  rw [← h p.1 p.2 hp]
/-! ### rows of main programs -/
abbrev Mains := List (Str × List Stp)
def endT (b : Bool) : Str := if b then "ended" else "failed"
def varsD (g : Str → Int) : PyData := .tuple (vrs.map fun x => .int (g x))
def pRest (LS : Lib) (rk : Str → Nat) (p : List Stp) : List PyData := [.str (endT (runP LS rk none p).ended), varsD (runP LS rk none p).vars]
def pRow (LS : Lib) (rk : Str → Nat) (M : Mains) (x : Str) : PyData := .tuple (.str x :: pRest LS rk (prg M x))
def mainsD (LS : Lib) (rk : Str → Nat) (M : Mains) : PyData := .tuple ((srt (names M)).map (pRow LS rk M))
theorem pRest_alike (LS : Lib) (rk : Str → Nat) (p q : List Stp) : alikeAll (pRest LS rk p) (pRest LS rk q) = true := by
  simp [pRest, varsD, alikeAll, alike]
theorem pRest_depth (LS : Lib) (rk : Str → Nat) (p : List Stp) : PyData.depthAll (pRest LS rk p) ≤ 8 := by
  simp [pRest, varsD, PyData.depthAll, PyData.depth]
theorem pRow_sortOk (LS : Lib) (rk : Str → Nat) (M : Mains) (l : List Str) (hl : l.length ≤ 1000) : SortOk (l.map (pRow LS rk M)) := rows_sortOk (fun _ => rfl) (fun _ _ => pRest_alike LS rk _ _) (fun _ => pRest_depth LS rk _) l hl
theorem pRow_sort (LS : Lib) (rk : Str → Nat) (M : Mains) (l : List Str) : dsort (l.map (pRow LS rk M)) = (srt l).map (pRow LS rk M) := dsort_rows (fun _ => rfl) l
end Cy

set_option Elab.async false
set_option linter.all false
set_option maxRecDepth 100000
set_option maxHeartbeats 4000000
/-! plain.py: check_mains, execute_main, rows -/
namespace Cy
open PySem PySem.Spec PyProof.Rows L2
abbrev sCheckMains : Stmt := top 36
abbrev sExecMain : Stmt := inClass (top 37) 6
abbrev sRowsM : Stmt := inClass (top 37) 7
/-- main programs over a library -/
structure WfM (LS : Lib) (rk : Str → Nat) (M : Mains) : Prop where
  nd : (names M).Nodup
  len : M.length ≤ 8
  nm : ∀ x ∈ names M, IsName x
  wf : ∀ x p, (x, p) ∈ M → WfP (names LS) rk 9 true p
theorem unlockK {S : Addr → Prop} {H H' : Hp} {d : Addr} {u x : HO} (h : Kp S (upd H d x) H') (e : H d = some u) (hs : ¬ S d) : Kp S H (upd H' d u) := fun b o q n => by
  by_cases z : b = d
  · subst z
    rw [e] at q
    rw [upd_same, q]
  · rw [upd_ne z]
    exact h b o (by rw [upd_ne z]; exact q) n
section
variable {P : Program} {w : World} {K : PySem.W.Frag} {mg : Str → Option Value} {base : Heap} {aV aP aF CL CF CP : Addr} {fk : Str → Addr} {fa : Addr} {fd : FuncData}
def spCheckMains (CL : Addr) : Sp := fun vs H Q _ => ∃ (lb d dm : Addr) (LS : Lib) (rk : Str → Nat) (kvs : List (Key × V)) (M : Mains), vs = [.ref lb, .ref dm] ∧ LibAt CL H lb d LS ∧ d ≠ dm ∧ H dm = some (.dK kvs) ∧ KvP (ProgL H) kvs M ∧ WfM LS rk M ∧ ∀ H', Same H H' → Q .non H'
theorem scCheckMains : FnScope ["library", "mains", "name", "program", "problem"] ["library", "mains"] (defScope sCheckMains) := ⟨rfl, rfl, rfl, by decide +kernel, rfl, by decide +kernel, by decide +kernel⟩
theorem ok_check_mains (F : FnF K mg "check_mains" sCheckMains [] [] fa fd) (T : G0 K mg aV aP) (GL : GLib K mg CL) (h1 : Pr P w K mg base "is_name" ["value"] [] 1 spIsName) (h2 : PrK P w K mg base "first_problem" 1 ["is_main", "known"] (fun vs zs => vs ++ zs) 5 spFirst)
    (h3 : PrM P w K mg base CL "modules" ["self"] [] 1 (spModules CL)) :
    Pr P w K mg base "check_mains" ["library", "mains"] [] 6 (spCheckMains CL) := by
  refine ⟨fa, fd, [], F.mg_, F.fn.kp, F.fn.ok0 scCheckMains (fun vs H Q E h => ?_) (fun cdv A outer s H vs Q E hr h => ?_), .nil, F.fn.bindsN fun _ _ _ _ _ _ us hl => match us, hl with | [_, _], _ => rfl⟩
  · obtain ⟨lb, d, dm, LS, rk, kvs, M, rfl, _⟩ := h
    rfl
  · obtain ⟨lb, d, dm, LS, rk, kvs, M, rfl, lib, ddm, hd, hk, W, q⟩ := h
    have hr1 : Room 1 _ := hr.mono (by decide)
    refine ⟨_, pss_cons (ps_if (PW.pt (pw_or (pt_not (pt_val (pe_isi (n := "dict") rfl T.isinstance (pv 1) rfl T.dict (by decide +kernel))))
        (pw_or1 (pt_cmpR op_gt (pe_callB call_lenD rfl T.len PySem.boot_len (pa_cons (pv 1) pa_nil)) (pe_gi rfl T.mostMains) (nomark _)))))
        (pss_one ps_never) pss_nil)
      (pss_one (ps_lock (ps_for (g := gTwo K 2 3) PassesOwn.never rfl (pi_items (pv 1)) (pg_tup rfl (pgs_cons (pg_name (i := 2) scCheckMains.nd rfl (Or.inl rfl)) (pgs_cons (pg_name (i := 3) scCheckMains.nd rfl (Or.inl rfl)) pgs_nil)))
        (pss_cons (ps_if (pt_not (pt_val (pe_pr h1 hr1 rfl (pa_cons (pv 2) pa_nil)))) (pss_one ps_never) pss_nil)
        (pss_cons (ps_set (i := 4) scCheckMains.nd rfl (Or.inl rfl) (pe_prk h2 hr rfl (pa_cons (pv 3) pa_nil) (pk_cons pe_bl (pk_cons (pe_prm0 (pv 0) GL.cl h3 hr1) pk_nil))))
        (pss_one (ps_if (pt_cmp (pc_notN (pv 4))) (pss_one ps_never) pss_nil))))))), ?_⟩
    have el : kvs.length = M.length := Paired.len hk
    have lo := W.len
    refine ⟨_, rfl, _, _, _, _, _, rfl, .ty "dict", .base (.dK hd), kit_ty (b := "dict") (r := true) (by decide +kernel), true, rfl, ?_⟩
    refine iteF ?_
    refine ⟨_, rfl, dm, kvs, rfl, hd, _, _, rfl, rfl, false, ?_, ?_⟩
    · show V.bl (decide ((8 : Int) < kvs.length)) = V.bl false
      rw [decide_eq_false (by omega)]
    refine iteF ?_
    refine ⟨dm, .dK kvs, hd, trivial, fun od => ?_⟩
    have hlk : ∀ {H' : Hp}, Same (upd H dm (.frz od (.dK kvs))) H' → H' dm = some (.frz od (.dK kvs)) := fun s => s _ _ upd_same
    have k1 : Kp (fun b => b = dm) H (upd H dm (.frz od (.dK kvs))) := (Kp.refl H : Kp (fun b => b = dm) _ _).upd (fun _ h => h) (.inl rfl) (nt_dK hd) _
    have lbdm : lb ≠ dm := by
      obtain ⟨z, e⟩ := lib.ob
      exact ne_of e hd (by intro z; cases z)
    have lib1 := lib.mono k1 lbdm ddm
    have prog1 : ∀ {v : V} {p : List Stp}, ProgL H v p → ProgL (upd H dm (.frz od (.dK kvs))) v p := by
      rintro v p ⟨a, xs, rfl, e2, e3⟩
      exact ⟨a, xs, rfl, k1.at e2 (fun q => by rw [q, hd] at e2; cases e2), e3.monoK k1⟩
    refine ⟨_, rfl, dm, od, kvs, rfl, upd_same, ?_⟩
    refine for_it (walk_items (d := dm) (o := od) (kvs := kvs)) (fun i σ H' => Same (upd H dm (.frz od (.dK kvs))) H' ∧ ∃ u v z, σ = [some (.ref lb), some (.ref dm), u, v, z]) ⟨Same.refl _, none, none, none, rfl⟩ (fun i σ H' _ h => hlk h.1) ?_ ?_
    · rintro i v σ H2 H3 hi ⟨t1, u1, v1, z1, rfl⟩ ⟨X, y, z, rfl, nX, rfl, ey, ez⟩
      dsimp only at ey ez
      obtain ⟨kv, ekv, rfl⟩ := Option.map_eq_some_iff.mp ey
      rw [ekv] at ez
      cases ez
      obtain ⟨⟨m, p⟩, emp, e1, e2⟩ := Paired.at hk i kv ekv
      have hmem : (m, p) ∈ M := List.mem_of_getElem? emp
      have t2 : Same (upd H dm (.frz od (.dK kvs))) (upd H2 X (.tup [kV kv.1, kv.2])) := t1.upd (t1.free nX) _
      refine ⟨X, _, rfl, SqT.of upd_same, rfl, _, _, rfl, ?_⟩
      refine ⟨_, _, rfl, rfl, ?_⟩
      have e1' : kv.1 = Sum.inr m := e1
      rw [e1']
      rw [e1'] at t2
      refine ⟨_, rfl, m, rfl, W.nm m (List.mem_map.mpr ⟨_, hmem, rfl⟩), fun H4 t3 => ⟨true, rfl, iteF ?_⟩⟩
      have t4 := t2.trans t3
      have lib4 := lib1.same t4
      obtain ⟨zl, lbo⟩ := lib4.ob
      refine ⟨_, rfl, _, rfl, lb, zl, _, rfl, lbo, libF_no (by decide +kernel) d, lb, d, LS, rfl, lib4, fun l nl => ?_⟩
      have t5 : Same H4 (upd H4 l (.lst ((names LS).map V.str))) := Same.new nl _
      obtain ⟨a, xs, ea, ha, hp⟩ := ((prog1 e2).same t4).same t5
      refine ⟨rfl, rfl, a, xs, p, true, .ref l, ?_, ha, hp, (W.wf m p hmem).rtP upd_same, fun H5 t6 => ?_⟩
      · show [kv.2, V.bl true, V.ref l] = _
        have ea' : kv.2 = V.ref a := ea
        rw [ea']
      refine ⟨_, rfl, _, rfl, ?_⟩
      exact iteF ⟨(t4.trans t5).trans t6, _, _, _, rfl⟩
    · rintro σ H2 ⟨t1, u1, v1, z1, rfl⟩
      exact ⟨hlk t1, q _ (unlock t1 hd)⟩
def spExecMain (CP CL : Addr) : Sp := fun vs H Q _ => ∃ (Av : Addr → Prop) (R : RA) (LS : Lib) (rk : Str → Nat) (D : List (Str × Bool)) (E : List (Key × V)) (x : Str) (a : Addr) (xs : List V) (p : List Stp),
  vs = [.ref R.r, .str x, .ref a] ∧ WfL LS rk ∧ RunAt CP CL Av H R LS rk D E [] ∧ (∀ c, Av c → H c ≠ none) ∧ H a = some (.lst xs) ∧ Steps H xs p ∧ WfP (names LS) rk 9 true p ∧
  ∀ H' D' E' v, After CP CL Av H R LS rk D E [] (RchP LS rk none p) (M3 R) H' D' E' → Dp H' v (.tuple (.str x :: pRest LS rk p)) → Q v H'
theorem scExecMain : FnScope ["self", "name", "program", "frame", "status", "values", "variable"] ["self", "name", "program"] (defScope sExecMain) := ⟨rfl, rfl, rfl, by decide +kernel, rfl, by decide +kernel, by decide +kernel⟩
theorem ok_execute_main {k : Nat} (hk : 8 ≤ k) (F : FnM K CP "execute_main" "PlainRun.execute_main" sExecMain [] [] fa fd) (T : G0 K mg aV aP) (GP : GPl K mg CP) (GC : GFr K mg CF)
    (h1 : PrO P w K mg base "Frame" CF ["self", "program"] [] 7 (spFrInit CF)) (h2 : PrM P w K mg base CP "execute" ["self", "module", "frame"] [] k (spExec CP CL CF 9)) (h3 : PrM P w K mg base CF "variables" ["self"] [] 1 (spVariables CF)) :
    PrM P w K mg base CP "execute_main" ["self", "name", "program"] [] (k + 1) (spExecMain CP CL) := by
  refine ⟨fa, fd, [], F.meth, F.fn.ok0 scExecMain (fun vs H Q E h => ?_) (fun cdv A outer s H vs Q E hr h => ?_), .nil, F.fn.bindsN fun _ _ _ _ _ _ us hl => match us, hl with | [_, _, _], _ => rfl⟩
  · obtain ⟨Av, R, LS, rk, D, E', x, a, xs, p, rfl, _⟩ := h
    rfl
  · obtain ⟨Av, R, LS, rk, D, E', x, a, xs, p, rfl, W, run, al, ha, hx, wp, q⟩ := h
    have hu := hu_of hr
    have hr1 : Room 1 _ := hr.mono (Nat.le_trans (by decide) hk)
    have hr8 : Room 8 _ := hr.mono hk
    refine ⟨_, pss_cons (ps_set (i := 3) scExecMain.nd rfl (Or.inl rfl) (pe_pro h1 hr8 rfl (pa_cons (pv 2) pa_nil)))
      (pss_cons (ps_set (i := 4) scExecMain.nd rfl (Or.inl rfl) (pe_ifExp (pt_val (pe_prm (pv 0) GP.cl h2 hr (pa_cons pe_non (pa_cons (pv 3) pa_nil)))) (pe_gs rfl T.ended) (pe_gs rfl T.failed)))
      (pss_cons (ps_set (i := 5) scExecMain.nd rfl (Or.inr rfl) (pe_prm0 (pv 3) GC.cl h3 hr1))
      (pss_one (ps_ret (pe_tup (pa_cons (pv 1) (pa_cons (pv 4) (pa_cons (pe_callTy call_tuple_of rfl T.tuple (by decide +kernel) (pa_cons
        (pe_lc (own := [("variable", 6)]) (g := gName 6) (tt := tYes) (te := tDGet (tVar 5) (tVar 6)) rfl scExecMain.nd (pi_tup (pe_gr rfl T.vars))
          (blkOk_by (N := ["self", "name", "program", "frame", "status", "values", "variable"]) (sc := defScope sExecMain) (by decide +kernel))
          (fun _ _ _ _ _ => pg_name (i := 6) scExecMain.nd rfl (Or.inl rfl)) (fun _ _ _ _ _ => pts_nil)
          (fun _ _ _ _ _ => pe_dget hu (pv 5) (pv 6) (fun _ _ => rfl))) pa_nil)) pa_nil)))))))), ?_⟩
    obtain ⟨zr, obr⟩ := run.ob
    refine ⟨_, rfl, ?_⟩
    refine frame_made ha hx wp.rtN (fun f st vl ex H1 fr s1 nf nst nvl nex => ?_)
    have run1 : RunAt CP CL (fun c => Av c ∨ c = f ∨ c = st ∨ c = vl ∨ c = ex) H1 R LS rk D E' [] := (run.more fun c h => by
      rcases h with h | h | h | h | h
      · exact .inl h
      all_goals exact .inr (by rw [h]; assumption)).same s1
    obtain ⟨zr1, obr1⟩ := run1.ob
    refine ⟨_, rfl, R.r, zr1, _, rfl, obr1, plF_no (by decide +kernel) R, _, rfl, ?_⟩
    refine ⟨_, R, LS, rk, D, E', [], none, f, f, st, vl, ex, p, 9, true, rfl, W, run1, ?_, wp, Nat.le_refl _, (fun x h => by cases h), by decide, fun _ => rfl, fr, .inr (.inl rfl), .inr (.inr (.inl rfl)), .inr (.inr (.inr (.inl rfl))), .inr (.inr (.inr (.inr rfl))), fun h => absurd rfl h, rfl, ?_⟩
    · intro c h
      rcases h with h | h | h | h | h
      · exact (Kp.of s1 : Kp (fun _ => False) H H1).al (al c h) id
      · obtain ⟨_, e⟩ := fr.ob
        rw [h, e]; simp
      · obtain ⟨_, e, _⟩ := fr.sts
        rw [h, e]; simp
      · rw [h, fr.vls]; simp
      · obtain ⟨_, e, _⟩ := fr.exs
        rw [h, e]; simp
    · intro H2 D2 E2 j aft fr2 own2
      refine ⟨_, rfl, ?_⟩
      have run2 : RunAt CP CL Av H2 R LS rk D2 E2 [] := aft.run.less fun c h => .inl h
      have k2 : Kp (M3 R) H H2 := ((Kp.of s1 : Kp (M3 R) H H1)).trans aft.kp (fun _ h => h) (fun c h => by
        rcases h with h | h | h | h | ⟨h, _⟩
        · exact .inl h
        · exact .inr (by rw [h]; exact nf)
        · exact .inr (by rw [h]; exact nvl)
        · exact .inr (by rw [h]; exact nex)
        · exact absurd rfl h)
      have rest : ∀ st, st = endT (runP LS rk none p).ended → (tSeq (tAsg (tMeth CF "variables" (spVariables CF) [] E0 (tVar 3) tNil) (gName 5)) (tRet (tTup (tCons (tVar 1) (tCons (tVar 4) (tCons (tCB (rTupOf K) (tCons (tLc (iTup K (tC (.ref aV))) (gName 6) tYes (tDGet (tVar 5) (tVar 6)) [6]) tNil)) tNil))))))
          { nx := fun _ H' => Q .non H', rt := Q } [some (.ref R.r), some (.str x), some (.ref a), some (.ref f), some (.str st), none, none] H2 := by
        rintro st rfl
        obtain ⟨dx2, ob2⟩ := fr2.ob
        refine ⟨_, rfl, f, dx2, _, rfl, ob2, frF_no (by decide +kernel) (by decide +kernel) (by decide +kernel) (by decide +kernel) _ _ _ _, f, _, vl, ex, p, j, _, rfl, fr2, fun d nd => ?_⟩
        have s3 : Same H2 (upd H2 d (.dK (vDict (runP LS rk none p).vars))) := Same.new nd _
        have hd3 : (upd H2 d (.dK (vDict (runP LS rk none p).vars))) d = some (.dK (vDict (runP LS rk none p).vars)) := upd_same
        generalize upd H2 d (.dK (vDict (runP LS rk none p).vars)) = H3 at s3 hd3
        refine ⟨_, rfl, _, rfl, ?_⟩
        refine ⟨aV, rfl, ⟨_, T.varsT _⟩, fun L nL => ?_⟩
        refine lc_it (walk_tup (xs := vrs.map V.str)) (fun i H' => Same H3 H' ∧ H' L = some (.lst ((vrs.take i).map fun y => V.int ((runP LS rk none p).vars y)))) ⟨Same.new nL _, by rw [upd_same]; rfl⟩ (fun i H' _ _ => T.varsT H') ?_ ?_
        · rintro i v H4 H5 hi ⟨t1, d1⟩ ⟨rfl, ei⟩
          rw [List.getElem?_map] at ei
          obtain ⟨y, ey, rfl⟩ := Option.map_eq_some_iff.mp ei
          refine ⟨rfl, ?_⟩
          refine ⟨_, rfl, _, rfl, d, _, rfl, dgetS (t1 _ _ hd3) (vDict_get _ (List.mem_of_getElem? ey)), _, d1, ?_, t1.upd nL _, ?_⟩
          · rw [List.length_map]
            exact Nat.lt_of_le_of_lt (List.length_take_le' _ _) (by decide)
          · rw [upd_same, List.take_add_one, ey, List.map_append]
            rfl
        · rintro H4 ⟨t1, d1⟩
          refine ⟨L, _, rfl, .inl ⟨SqL.of d1, fun tv ntv => ?_⟩⟩
          have e4 : (vrs.take (vrs.map V.str).length).map (fun y => V.int ((runP LS rk none p).vars y)) = vrs.map fun y => V.int ((runP LS rk none p).vars y) := rfl
          rw [e4]
          have s5 : Same H4 (upd H4 tv (.tup (vrs.map fun y => V.int ((runP LS rk none p).vars y)))) := Same.new ntv _
          have ht5 : (upd H4 tv (.tup (vrs.map fun y => V.int ((runP LS rk none p).vars y)))) tv = some (.tup (vrs.map fun y => V.int ((runP LS rk none p).vars y))) := upd_same
          generalize upd H4 tv (.tup (vrs.map fun y => V.int ((runP LS rk none p).vars y))) = H5 at s5 ht5
          refine ⟨by show 3 ≤ sizeLine; decide, fun t nt => ?_⟩
          have s6 : Same H5 (upd H5 t (.tup [.str x, .str (endT (runP LS rk none p).ended), .ref tv])) := Same.new nt _
          have s26 := ((s3.trans t1).trans s5).trans s6
          refine q _ D2 E2 _ ⟨run2.same s26, aft.keys, aft.same, k2.same s26⟩ (.tup upd_same (.cons (.str _) (.cons (.str _) (.cons ?_ .nil))))
          exact .tup (s6 _ _ ht5) (.cons (.int _) (.cons (.int _) (.cons (.int _) (.cons (.int _) .nil))))
      cases eb : (runP LS rk none p).ended with
      | true => exact iteT (rest "ended" (by rw [eb]; rfl))
      | false => exact iteF (rest "failed" (by rw [eb]; rfl))
end
end Cy

set_option Elab.async false
set_option linter.all false
set_option maxRecDepth 100000
set_option maxHeartbeats 4000000
/-! plain.py: rows, complete_run, plain_run -/
namespace Cy
open PySem PySem.Spec PyProof.Rows L2
abbrev sComplete : Stmt := top 38
abbrev sPlainRun : Stmt := top 39
theorem hu64_of {A : Around} {k : Nat} (hr : Room k A) : A.units + 64 < cLine := by have := hr.un; omega
theorem Dp.tupD {H : Hp} {v : V} {ds : List PyData} (h : Dp H v (.tuple ds)) : ∃ a vs, v = .ref a ∧ H a = some (.tup vs) ∧ DpA H vs ds := by
  cases h with
  | tup h1 h2 => exact ⟨_, _, rfl, h1, h2⟩
theorem Dp.strD {H : Hp} {v : V} {x : Str} (h : Dp H v (.str x)) : v = .str x := by cases h; rfl
theorem DpA.cons2 {H : Hp} {vs : List V} {d e : PyData} (h : DpA H vs [d, e]) : ∃ v w, vs = [v, w] ∧ Dp H v d ∧ Dp H w e := by
  cases h with
  | cons h1 h2 => cases h2 with
    | cons h3 h4 => cases h4; exact ⟨_, _, rfl, h1, h3⟩
section
variable {P : Program} {w : World} {K : PySem.W.Frag} {mg : Str → Option Value} {base : Heap} {aV aP aF CL CF CP : Addr} {fk : Str → Addr} {fa : Addr} {fd : FuncData}
def spRowsM (CP CL : Addr) : Sp := fun vs H Q _ => ∃ (Av : Addr → Prop) (R : RA) (LS : Lib) (rk : Str → Nat) (D : List (Str × Bool)) (E : List (Key × V)) (S : List Str), vs = [.ref R.r] ∧ WfL LS rk ∧ RunAt CP CL Av H R LS rk D E S ∧
  ∀ H' v, Same H H' → Dp H' v (rowsD LS rk (keysD D)) → Q v H'
theorem scRowsM : FnScope ["self", "found", "module", "state"] ["self"] (defScope sRowsM) := ⟨rfl, rfl, rfl, by decide +kernel, rfl, by decide +kernel, by decide +kernel⟩
theorem ok_rows (F : FnM K CP "rows" "PlainRun.rows" sRowsM [] [] fa fd) (T : G0 K mg aV aP) (GP : GPl K mg CP) : PrM P w K mg base CP "rows" ["self"] [] 1 (spRowsM CP CL) := by
  refine ⟨fa, fd, [], F.meth, F.fn.ok0 scRowsM (fun vs H Q E h => ?_) (fun cdv A outer s H vs Q E hr h => ?_), .nil, F.fn.bindsN fun _ _ _ _ _ _ us hl => match us, hl with | [_], _ => rfl⟩
  · obtain ⟨Av, R, LS, rk, D, E', S, rfl, _⟩ := h
    rfl
  · obtain ⟨Av, R, LS, rk, D, E', S, rfl, W, run, q⟩ := h
    have hu := hu_of hr
    have hu64 := hu64_of hr
    refine ⟨_, pss_cons (ps_set (i := 1) scRowsM.nd rfl (Or.inl rfl) (pe_lst pa_nil))
      (pss_cons (ps_for (g := gTwo K 2 3) PassesOwn.never rfl (pi_list (pe_callB (call_sortIt rfl hu64) rfl T.sorted (by decide +kernel) (pa_cons (pe_bm0 PySem.F.plainAttrs_dict PySem.F.slot_dict_items PySem.F.type_dict_items mt_itemsK (pe_fld (pv 0) rfl)) pa_nil)))
          (pg_tup rfl (pgs_cons (pg_name (i := 2) scRowsM.nd rfl (Or.inl rfl)) (pgs_cons (pg_name (i := 3) scRowsM.nd rfl (Or.inl rfl)) pgs_nil)))
        (pss_one (ps_expr (pe_bm PySem.F.plainAttrs_list PySem.F.slot_list_append PySem.F.type_list_append mt_append (pv 1) (pa_cons (pe_tup (pa_cons (pv 2) (pa_cons (pv 3) (pa_cons
          (pe_callTy call_tuple_of rfl T.tuple (by decide +kernel) (pa_cons (pe_callB (call_sortIt rfl hu64) rfl T.sorted (by decide +kernel) (pa_cons (pe_bm0 PySem.F.plainAttrs_dict PySem.F.slot_dict_items PySem.F.type_dict_items mt_itemsK (pe_dget hu (pe_fld (pv 0) rfl) (pv 2) (fun _ _ => rfl))) pa_nil)) pa_nil)) pa_nil)))) pa_nil)))))
      (pss_one (ps_ret (pe_callTy call_tuple_of rfl T.tuple (by decide +kernel) (pa_cons (pv 1) pa_nil))))), ?_⟩
    have hsz : sizeLine = 2 ^ 24 := by rfl
    refine ⟨by decide, fun fl nfl => ?_⟩
    have s1 : Same H (upd H fl (.lst [])) := Same.new nfl _
    have hf1 : (upd H fl (.lst [])) fl = some (.lst []) := upd_same
    generalize upd H fl (.lst []) = H1 at s1 hf1
    have run1 := run.same s1
    obtain ⟨z1, ob1⟩ := run1.ob
    have lD := run.lenD W
    refine ⟨_, rfl, R.r, CP, z1, _, _, rfl, ob1, GP.cl, GP.nS, plF_s R, .inr (.inr (.inl ⟨rfl, .inl ⟨_, run1.sts⟩⟩)), R.ds, _, rfl, rfl, run1.sts, fun pi npi => ?_⟩
    have s2 : Same H1 (upd H1 pi (L2.DX.itemsO pi R.ds)) := Same.new npi _
    have run2 := run1.same s2
    refine ⟨pi, R.ds, stK LS rk (keysD D), rfl, upd_same, ?_, ?_, stK_ok LS rk (keysD D) (by rw [List.length_map]; omega), fun H3 l ys s3 hys hl nl => ?_⟩
    · rw [stK_ent (fun m b h => (run.good m b h).2)]
      exact run2.sts
    · intro e he
      obtain ⟨m, _, rfl⟩ := List.mem_map.mp he
      exact .str _
    rw [stK_sort] at hys
    have s13 := s2.trans s3
    have s03 := s1.trans s13
    have hf3 := s13 _ _ hf1
    have l_fl : fl ≠ l := ne_of_none (s2 _ _ hf1) nl
    have ely : ys.length = (srt (keysD D)).length := by rw [hys.len, List.length_map]
    refine ⟨l, rfl, ⟨ys, SqL.of hl⟩, ?_⟩
    refine for_it (walk_list (xs := ys)) (fun i σ H' => Same H H' ∧ H' l = some (.lst ys) ∧ DpA H' ys ((srt (keysD D)).map (stF LS rk)) ∧ (∃ u v, σ = [some (.ref R.r), some (.ref fl), u, v]) ∧ ∃ rs, H' fl = some (.lst rs) ∧ DpA H' rs (((srt (keysD D)).take i).map (mRow LS rk)))
      ⟨s03, hl, hys, ⟨none, none, rfl⟩, [], hf3, .nil⟩ (fun i σ H' _ h => SqL.of h.2.1) ?_ ?_
    · rintro i v σ H5 H4 hi ⟨t1, hl4, hy4, ⟨u1, v1, rfl⟩, rs, hf4, hr4⟩ ⟨rfl, ei⟩
      obtain ⟨d, ed, hd⟩ := hy4.at i v ei
      rw [List.getElem?_map] at ed
      obtain ⟨m, em, rfl⟩ := Option.map_eq_some_iff.mp ed
      obtain ⟨a, vs, rfl, ha, hvs⟩ := hd.tupD
      obtain ⟨v1', v2', rfl, d1, d2⟩ := hvs.cons2
      obtain rfl := d1.strD
      obtain rfl := d2.strD
      have hmD : m ∈ keysD D := srt_mem.mp (List.mem_of_getElem? em)
      have hmN : m ∈ names LS := by
        obtain ⟨⟨m', b⟩, hb, rfl⟩ := List.mem_map.mp hmD
        exact (run.good m' b hb).1
      refine ⟨a, _, rfl, SqT.of ha, rfl, _, _, rfl, ?_⟩
      refine ⟨_, _, rfl, rfl, ?_⟩
      have run4 := run.same t1
      obtain ⟨z4, ob4⟩ := run4.ob
      obtain ⟨b, b1, b2, b3, b4, b5⟩ := run4.exps m hmD
      have ndX := res_keys W hmN
      have lX := res_len W hmN
      refine ⟨_, rfl, Or.inl ⟨rfl, _, SqL.of hf4⟩, _, rfl, _, rfl, ?_⟩
      refine ⟨_, rfl, R.r, CP, z4, _, _, rfl, ob4, GP.cl, GP.nE, plF_e R, _, rfl, R.dx, _, rfl, dgetS run4.exd b1, .inr (.inr (.inl ⟨rfl, .inl ⟨_, b2⟩⟩)), b, _, rfl, rfl, b2, fun pj npj => ?_⟩
      have s5 : Same H4 (upd H4 pj (L2.DX.itemsO pj b)) := Same.new npj _
      refine ⟨pj, b, exK (res LS rk m).exps, rfl, upd_same, ?_, ?_, exK_ok ndX (by omega), fun H6 l2 ys2 s6 hys2 hl2 nl2 => ?_⟩
      · rw [exK_ent]; exact s5 _ _ b2
      · intro e he
        obtain ⟨p, _, rfl⟩ := List.mem_map.mp he
        exact .int _
      have s46 := s5.trans s6
      refine ⟨l2, ys2, rfl, .inl ⟨SqL.of hl2, fun t nt => ?_⟩⟩
      have s7 : Same H6 (upd H6 t (.tup ys2)) := Same.new nt _
      have ht7 : (upd H6 t (.tup ys2)) t = some (.tup ys2) := upd_same
      have dt : Dp (upd H6 t (.tup ys2)) (.ref t) (expD (res LS rk m).exps) := by
        rw [← exK_sort ndX]
        exact .tup upd_same (hys2.same s7)
      generalize upd H6 t (.tup ys2) = H7 at s7 ht7 dt
      refine ⟨by show 3 ≤ sizeLine; decide, fun t2 nt2 => ?_⟩
      have s8 : Same H7 (upd H7 t2 (.tup [.str m, .str (stT (res LS rk m).ready), .ref t])) := Same.new nt2 _
      have ht8 : (upd H7 t2 (.tup [.str m, .str (stT (res LS rk m).ready), .ref t])) t2 = some (.tup [.str m, .str (stT (res LS rk m).ready), .ref t]) := upd_same
      have dt8 := dt.same s8
      generalize upd H7 t2 (.tup [.str m, .str (stT (res LS rk m).ready), .ref t]) = H8 at s8 ht8 dt8
      have s48 := (s46.trans s7).trans s8
      have hf8 := s48 _ _ hf4
      have lrs : rs.length ≤ 9 := by
        have e1 := hr4.len
        rw [List.length_map, List.length_take, srt_len, List.length_map] at e1
        omega
      refine ⟨fl, rs, .ref t2, rfl, rfl, hf8, by omega, ?_⟩
      have k9 : Kp (fun b => b = fl) H8 (upd H8 fl (.lst (rs ++ [.ref t2]))) := (Kp.refl H8 : Kp (fun b => b = fl) _ _).upd (fun _ h => h) (.inl rfl) (nt_lst hf8) _
      refine ⟨(t1.trans s48).upd nfl _, ?_, (hy4.same s48).kp k9, ⟨_, _, rfl⟩, _, upd_same, ?_⟩
      · rw [upd_ne l_fl.symm]; exact s48 _ _ hl4
      · have et : (srt (keysD D)).take (i + 1) = (srt (keysD D)).take i ++ [m] := by rw [List.take_add_one, em]; rfl
        rw [et, List.map_append]
        exact ((hr4.same s48).kp k9).snoc (.tup (k9.tup ht8) (.cons (.str _) (.cons (.str _) (.cons (dt8.kp k9) .nil))))
    · rintro σ H4 ⟨t1, hl4, hy4, ⟨u1, v1, rfl⟩, rs, hf4, hr4⟩
      rw [List.take_of_length_le (by rw [ely]; exact Nat.le_refl _)] at hr4
      refine ⟨_, rfl, fl, rs, rfl, .inl ⟨SqL.of hf4, fun t nt => ?_⟩⟩
      have s5 : Same H4 (upd H4 t (.tup rs)) := Same.new nt _
      exact q _ _ (t1.trans s5) (.tup upd_same (hr4.same s5))
end
end Cy

set_option Elab.async false
set_option linter.all false
set_option maxRecDepth 100000
set_option maxHeartbeats 4000000
/-! plain.py: complete_run, plain_run -/
namespace Cy
open PySem PySem.Spec PyProof.Rows L2
theorem RunAt.reav {CP CL : Addr} {Av Av' : Addr → Prop} {H : Hp} {R : RA} {LS : Lib} {rk : Str → Nat} {E : List (Key × V)} {S : List Str} (h : RunAt CP CL Av H R LS rk [] E S) (n : ¬ Av' R.r ∧ ¬ Av' R.lb ∧ ¬ Av' R.d ∧ ¬ Av' R.ds ∧ ¬ Av' R.dx ∧ ¬ Av' R.ls) : RunAt CP CL Av' H R LS rk [] E S :=
  ⟨h.ob, h.lib, h.sts, h.exd, h.std, h.dne, n, h.nd, h.good, h.cl, fun _ hm => (by cases hm), h.end1, h.ek⟩
section
variable {P : Program} {w : World} {K : PySem.W.Frag} {mg : Str → Option Value} {base : Heap} {aV aP aF CL CF CP : Addr} {fk : Str → Addr} {fa : Addr} {fd : FuncData}
/-- the arguments of a run -/
structure ArgsAt (CL : Addr) (H : Hp) (lb d dm : Addr) (LS : Lib) (rk : Str → Nat) (kvs : List (Key × V)) (M : Mains) : Prop where
  lib : LibAt CL H lb d LS
  wf : WfL LS rk
  ne : d ≠ dm
  dm_ : H dm = some (.dK kvs)
  kv : KvP (ProgL H) kvs M
  wm : WfM LS rk M
theorem ArgsAt.same {H H' : Hp} {lb d dm : Addr} {LS : Lib} {rk : Str → Nat} {kvs : List (Key × V)} {M : Mains} (h : ArgsAt CL H lb d dm LS rk kvs M) (e : Same H H') : ArgsAt CL H' lb d dm LS rk kvs M :=
  ⟨h.lib.same e, h.wf, h.ne, e _ _ h.dm_, h.kv.imp fun _ _ r => r.same e, h.wm⟩
/-- the modules that main programs start -/
def RchM (LS : Lib) (rk : Str → Nat) (M : Mains) (x : Str) : Prop := ∃ q ∈ M, RchP LS rk none q.2 x
def spComplete (CP CL : Addr) : Sp := fun vs H Q _ => ∃ (lb d dm : Addr) (LS : Lib) (rk : Str → Nat) (kvs : List (Key × V)) (M : Mains), vs = [.ref lb, .ref dm] ∧ ArgsAt CL H lb d dm LS rk kvs M ∧
  ∀ H' R D E t v, Same H H' → RunAt CP CL (fun _ => False) H' R LS rk D E [] → (∀ x, x ∈ keysD D ↔ RchM LS rk M x) → Dp H' v (mainsD LS rk M) → H' t = some (.tup [.ref R.r, v]) → Q (.ref t) H'
theorem scComplete : FnScope ["library", "mains", "found", "rows", "name", "program"] ["library", "mains"] (defScope sComplete) := ⟨rfl, rfl, rfl, by decide +kernel, rfl, by decide +kernel, by decide +kernel⟩
theorem ok_complete_run {k : Nat} (hk : 8 ≤ k) (F : FnF K mg "complete_run" sComplete [] [] fa fd) (T : G0 K mg aV aP) (GP : GPl K mg CP)
    (h1 : Pr P w K mg base "check_mains" ["library", "mains"] [] 6 (spCheckMains CL)) (h2 : PrO P w K mg base "PlainRun" CP ["self", "library"] [] 1 (spPlInit CP CL)) (h3 : PrM P w K mg base CP "execute_main" ["self", "name", "program"] [] k (spExecMain CP CL)) :
    Pr P w K mg base "complete_run" ["library", "mains"] [] (k + 1) (spComplete CP CL) := by
  refine ⟨fa, fd, [], F.mg_, F.fn.kp, F.fn.ok0 scComplete (fun vs H Q E h => ?_) (fun cdv A outer s H vs Q E hr h => ?_), .nil, F.fn.bindsN fun _ _ _ _ _ _ us hl => match us, hl with | [_, _], _ => rfl⟩
  · obtain ⟨lb, d, dm, LS, rk, kvs, M, rfl, _⟩ := h
    rfl
  · obtain ⟨lb, d, dm, LS, rk, kvs, M, rfl, arg, q⟩ := h
    have hu64 := hu64_of hr
    have hr6 : Room 6 _ := hr.mono (Nat.le_trans (by decide) hk)
    have hr2 : Room 2 _ := hr.mono (Nat.le_trans (by decide) hk)
    refine ⟨_, pss_cons (ps_expr (pe_pr h1 hr6 rfl (pa_cons (pv 0) (pa_cons (pv 1) pa_nil))))
      (pss_cons (ps_set (i := 2) scComplete.nd rfl (Or.inr rfl) (pe_pro h2 hr2 rfl (pa_cons (pv 0) pa_nil)))
      (pss_cons (ps_lock (ps_setLc (i := 3) (own := [("name", 4), ("program", 5)]) (g := gTwo K 4 5) (tt := tYes) (te := tMeth CP "execute_main" (spExecMain CP CL) [] E0 (tVar 2) (tCons (tVar 4) (tCons (tVar 5) tNil))) rfl scComplete.nd rfl rfl (sw_true rfl rfl rfl (by rfl)) (pi_items (pv 1))
          (blkOk_by (N := ["library", "mains", "found", "rows", "name", "program"]) (sc := defScope sComplete) (by decide +kernel))
          (fun _ _ _ _ _ => pg_tup rfl (pgs_cons (pg_name (i := 4) scComplete.nd rfl (Or.inl rfl)) (pgs_cons (pg_name (i := 5) scComplete.nd rfl (Or.inl rfl)) pgs_nil))) (fun _ _ _ _ _ => pts_nil)
          (fun _ _ _ _ _ => pe_prm (pv 2) GP.cl h3 hr (pa_cons (pv 4) (pa_cons (pv 5) pa_nil)))))
      (pss_one (ps_ret (pe_tup (pa_cons (pv 2) (pa_cons (pe_callTy call_tuple_of rfl T.tuple (by decide +kernel) (pa_cons (pe_callB (call_sortL hu64) rfl T.sorted (by decide +kernel) (pa_cons (pv 3) pa_nil)) pa_nil)) pa_nil))))))), ?_⟩
    have hsz : sizeLine = 2 ^ 24 := by rfl
    have W := arg.wf
    have WM := arg.wm
    have lM := WM.len
    refine ⟨_, rfl, _, rfl, lb, d, dm, LS, rk, kvs, M, rfl, arg.lib, arg.ne, arg.dm_, arg.kv, WM, fun H1 s1 => ?_⟩
    have arg1 := arg.same s1
    -- a new run
    refine ⟨_, rfl, fun r z nr nz zr => ?_⟩
    have s2 := made_same (C := CP) nr nz zr
    have arg2 := arg1.same s2
    refine ⟨r, z, lb, d, LS, rk, rfl, upd_same, arg2.lib, fun R H3 e1 e2 e3 run k3 nds ndx nls => ⟨rfl, ?_⟩⟩
    subst e1 e2 e3
    have s13 : Same H1 H3 := by
      have k : Kp (fun b => b = R.r) H1 H3 := ((Kp.of s2 : Kp (fun b => b = R.r) _ _)).trans k3 (fun _ h => h) (fun c e => .inl e)
      exact k.fresh fun c e => by rw [e]; exact nr
    have arg3 := arg1.same s13
    have s03 := s1.trans s13
    have nds1 := s1.free (s2.free nds)
    have ndx1 := s1.free (s2.free ndx)
    have nls1 := s1.free (s2.free nls)
    have nr1 := s1.free nr
    have hd3 := arg3.dm_
    obtain ⟨zl, lbo⟩ := arg3.lib.ob
    have r_dm : R.r ≠ dm := fun e => by rw [e, arg.dm_] at nr1; cases nr1
    have ds_dm : R.ds ≠ dm := fun e => by rw [e, arg.dm_] at nds1; cases nds1
    have dx_dm : R.dx ≠ dm := fun e => by rw [e, arg.dm_] at ndx1; cases ndx1
    have ls_dm : R.ls ≠ dm := fun e => by rw [e, arg.dm_] at nls1; cases nls1
    have lb_dm : R.lb ≠ dm := ne_of lbo hd3 (by intro z; cases z)
    have run3 : RunAt CP CL (fun c => c = dm) H3 R LS rk [] [] [] := run.reav ⟨r_dm, lb_dm, arg.ne, ds_dm, dx_dm, ls_dm⟩
    -- the rows
    refine ⟨dm, .dK kvs, hd3, trivial, fun od => ?_⟩
    have k4 : Kp (fun b => b = dm) H3 (upd H3 dm (.frz od (.dK kvs))) := (Kp.refl H3 : Kp (fun b => b = dm) _ _).upd (fun _ h => h) (.inl rfl) (nt_dK hd3) _
    have run4 := run3.mono k4 fun _ h => h
    have hd4 : (upd H3 dm (.frz od (.dK kvs))) dm = some (.frz od (.dK kvs)) := upd_same
    have prog4 : ∀ {v : V} {p : List Stp}, ProgL H v p → ∃ a xs, v = .ref a ∧ (upd H3 dm (.frz od (.dK kvs))) a = some (.lst xs) ∧ Steps (upd H3 dm (.frz od (.dK kvs))) xs p ∧ H a ≠ none ∧ a ≠ dm := by
      rintro v p ⟨a, xs, rfl, e2, e3⟩
      have ne : ¬ a = dm := fun e => by rw [e, arg.dm_] at e2; cases e2
      exact ⟨a, xs, rfl, k4.at (s03 _ _ e2) ne, (e3.mono s03).monoK k4, by rw [e2]; simp, ne⟩
    generalize hH4 : upd H3 dm (.frz od (.dK kvs)) = H4 at k4 run4 hd4 prog4
    refine ⟨_, rfl, dm, od, kvs, rfl, hd4, fun L nL => ?_⟩
    have nL3 : H3 L = none := k4.free nL (fun e => by rw [e, hd4] at nL; cases nL)
    have nL0 : H L = none := s03.free nL3
    have L_dm : dm ≠ L := ne_of_none hd4 nL
    have run5 : RunAt CP CL (fun c => c = dm ∨ c = L) (upd H4 L (.lst [])) R LS rk [] [] [] := (run4.more fun c h => h.imp id fun e => by rw [e]; exact nL).same (Same.new nL _)
    have el : kvs.length = M.length := Paired.len arg.kv
    refine lc_it (walk_items (d := dm) (o := od) (kvs := kvs)) (fun i H' => Kp (fun c => M3 R c ∨ c = L) H4 H' ∧ H' dm = some (.frz od (.dK kvs)) ∧ ∃ D E, RunAt CP CL (fun c => c = dm ∨ c = L) H' R LS rk D E [] ∧ (∀ x, x ∈ keysD D ↔ RchM LS rk (M.take i) x) ∧
        ∃ vs, H' L = some (.lst vs) ∧ DpA H' vs (((names M).take i).map (pRow LS rk M)))
      ⟨Kp.of (Same.new nL _), by rw [upd_ne L_dm]; exact hd4, [], [], run5, fun x => ?_, [], upd_same, .nil⟩ (fun i H' _ h => h.2.1) ?_ ?_
    · constructor
      · intro h; cases h
      · rintro ⟨q, hq, _⟩; cases hq
    · rintro i v H5 H6 hi ⟨t1, hd5, D, E', run5, hkeys, vs, hL5, hvs⟩ ⟨X, y, z', rfl, nX, rfl, ey, ez⟩
      dsimp only at ey ez
      obtain ⟨kv, ekv, rfl⟩ := Option.map_eq_some_iff.mp ey
      rw [ekv] at ez
      cases ez
      obtain ⟨⟨m, p⟩, emp, e1, e2⟩ := Paired.at arg.kv i kv ekv
      have hmem : (m, p) ∈ M := List.mem_of_getElem? emp
      have e1' : kv.1 = Sum.inr m := e1
      rw [e1']
      have s6 : Same H5 (upd H5 X (.tup [kV (Sum.inr m), kv.2])) := Same.new nX _
      have hX6 : (upd H5 X (.tup [kV (Sum.inr m), kv.2])) X = some (.tup [kV (Sum.inr m), kv.2]) := upd_same
      have run6 := run5.same s6
      have hd6 := s6 _ _ hd5
      have hL6 := s6 _ _ hL5
      have hvs6 := hvs.same s6
      have t6 := t1.same s6
      refine ⟨X, _, rfl, SqT.of hX6, rfl, _, _, rfl, ?_⟩
      refine ⟨_, _, rfl, rfl, rfl, ?_⟩
      obtain ⟨a, xs, ea, ha4, hx4, an0, adm⟩ := prog4 e2
      have ea' : kv.2 = V.ref a := ea
      rw [ea'] at run6 hd6 hL6 hvs6 t6 ⊢
      generalize upd H5 X (.tup [kV (Sum.inr m), .ref a]) = H6 at run6 hd6 hL6 hvs6 t6
      have am3 : ¬ (M3 R a ∨ a = L) := by
        rintro ((h | h | h) | h)
        · exact an0 (by rw [h]; exact nds1)
        · exact an0 (by rw [h]; exact ndx1)
        · exact an0 (by rw [h]; exact nls1)
        · exact an0 (by rw [h]; exact nL0)
      have ha6 := t6.at ha4 am3
      have hx6 := hx4.monoK t6
      obtain ⟨z6, ob6⟩ := run6.ob
      refine ⟨_, rfl, R.r, z6, _, rfl, ob6, plF_no (by decide +kernel) R, _, rfl, _, rfl, ?_⟩
      refine ⟨_, R, LS, rk, D, E', m, a, xs, p, rfl, W, run6, ?_, ha6, hx6, WM.wf m p hmem, fun H7 D7 E7 v7 aft hv7 => ?_⟩
      · rintro c (rfl | rfl)
        · rw [hd6]; simp
        · rw [hL6]; simp
      have m3dm : ¬ M3 R dm := by
        rintro (h | h | h)
        · exact ds_dm h.symm
        · exact dx_dm h.symm
        · exact ls_dm h.symm
      have m3L : ¬ M3 R L := fun h => by
        obtain ⟨v1, v2, v3, v4, v5, v6⟩ := run6.av
        rcases h with h | h | h
        · exact v4 (.inr h.symm)
        · exact v5 (.inr h.symm)
        · exact v6 (.inr h.symm)
      have hL7 := aft.kp.at hL6 m3L
      have hd7 := aft.kp.at hd6 m3dm
      have k8 : Kp (fun b => b = L) H7 (upd H7 L (.lst (vs ++ [v7]))) := (Kp.refl H7 : Kp (fun b => b = L) _ _).upd (fun _ h => h) (.inl rfl) (nt_lst hL7) _
      have lvs : vs.length ≤ 8 := by
        have := hvs.len
        rw [List.length_map, List.length_take, List.length_map] at this
        omega
      have emn : (names M)[i]? = some m := by rw [List.getElem?_map, emp]; rfl
      refine ⟨vs, hL7, by omega, (t6.trans aft.kp (fun _ h => h) (fun c h => .inl (.inl h))).trans k8 (fun _ h => h) (fun c h => .inl (.inr h)), by rw [upd_ne L_dm]; exact hd7, D7, E7, aft.run.mono k8 (fun c h => .inr h), fun x => ?_, _, upd_same, ?_⟩
      · rw [aft.keys, hkeys]
        have et : M.take (i + 1) = M.take i ++ [(m, p)] := by rw [List.take_add_one, emp]; rfl
        rw [et]
        constructor
        · rintro (⟨q, h1, h2⟩ | h)
          · exact ⟨q, List.mem_append.mpr (.inl h1), h2⟩
          · exact ⟨(m, p), List.mem_append.mpr (.inr (List.mem_singleton.mpr rfl)), h⟩
        · rintro ⟨q, h1, h2⟩
          rcases List.mem_append.mp h1 with h1 | h1
          · exact .inl ⟨q, h1, h2⟩
          · rw [List.mem_singleton.mp h1] at h2
            exact .inr h2
      · have et : (names M).take (i + 1) = (names M).take i ++ [m] := by rw [List.take_add_one, emn]; rfl
        rw [et, List.map_append]
        refine ((hvs6.kp aft.kp).kp k8).snoc ?_
        have ep : prg M m = p := prg_of WM.nd hmem
        show Dp _ v7 (.tuple (.str m :: pRest LS rk (prg M m)))
        rw [ep]
        exact hv7.kp k8
    · rintro H5 ⟨t1, hd5, D, E', run5, hkeys, vs, hL5, hvs⟩
      rw [el, List.take_length] at hkeys
      have e9 : (names M).take kvs.length = names M := List.take_of_length_le (by rw [List.length_map, el]; exact Nat.le_refl _)
      rw [e9] at hvs
      refine ⟨hd5, ?_⟩
      have k35 : Kp (fun c => M3 R c ∨ c = L) H3 (upd H5 dm (.dK kvs)) := unlockK (x := .frz od (.dK kvs)) (by rw [hH4]; exact t1) hd3 (by
        rintro ((h | h | h) | h)
        · exact ds_dm h.symm
        · exact dx_dm h.symm
        · exact ls_dm h.symm
        · exact L_dm h)
      have k6 : Kp (fun b => b = dm) H5 (upd H5 dm (.dK kvs)) := (Kp.refl H5 : Kp (fun b => b = dm) _ _).upd (fun _ h => h) (.inl rfl) (by rw [hd5]; intro ys z; cases z) _
      have run6 : RunAt CP CL (fun _ => False) (upd H5 dm (.dK kvs)) R LS rk D E' [] := (run5.mono k6 fun c h => .inl h).less fun c h => h.elim
      have hL6 : (upd H5 dm (.dK kvs)) L = some (.lst vs) := by rw [upd_ne L_dm.symm]; exact hL5
      have hvs6 := hvs.kp k6
      have s06 : Same H (upd H5 dm (.dK kvs)) := (((Kp.of s03 : Kp (fun c => M3 R c ∨ c = L) H H3)).trans k35 (fun _ h => h) (fun c h => .inl h)).fresh fun c h => by
        rcases h with (h | h | h) | h
        · rw [h]; exact nds1
        · rw [h]; exact ndx1
        · rw [h]; exact nls1
        · rw [h]; exact nL0
      generalize upd H5 dm (.dK kvs) = H6 at run6 hL6 hvs6 s06
      refine ⟨_, rfl, _, rfl, L, vs, _, rfl, SqL.of hL6, hvs6, pRow_sortOk LS rk M _ (by rw [List.length_map]; omega), fun l ys hys nl => ?_⟩
      rw [pRow_sort] at hys
      have s7 : Same H6 (upd H6 l (.lst ys)) := Same.new nl _
      refine ⟨l, ys, rfl, .inl ⟨SqL.of upd_same, fun t nt => ?_⟩⟩
      have hys7 := hys.same s7
      generalize upd H6 l (.lst ys) = H7 at s7 hys7 nt
      have s8 : Same H7 (upd H7 t (.tup ys)) := Same.new nt _
      have dt : Dp (upd H7 t (.tup ys)) (.ref t) (mainsD LS rk M) := .tup upd_same (hys7.same s8)
      generalize upd H7 t (.tup ys) = H8 at s8 dt
      refine ⟨by show 2 ≤ sizeLine; decide, fun t2 nt2 => ?_⟩
      have s9 : Same H8 (upd H8 t2 (.tup [.ref R.r, .ref t])) := Same.new nt2 _
      exact q _ R D E' t2 (.ref t) (((s06.trans s7).trans s8).trans s9) (run6.same ((s7.trans s8).trans s9)) hkeys (dt.same s9) upd_same
def spPlainRun (CL : Addr) : Sp := fun vs H Q _ => ∃ (lb d dm : Addr) (LS : Lib) (rk : Str → Nat) (kvs : List (Key × V)) (M : Mains), vs = [.ref lb, .ref dm] ∧ ArgsAt CL H lb d dm LS rk kvs M ∧
  ∀ H' v Ks, Same H H' → Ks.Nodup → (∀ x, x ∈ Ks ↔ RchM LS rk M x) → Dp H' v (.tuple [rowsD LS rk Ks, mainsD LS rk M]) → Q v H'
theorem scPlainRun : FnScope ["library", "mains", "found", "rows"] ["library", "mains"] (defScope sPlainRun) := ⟨rfl, rfl, rfl, by decide +kernel, rfl, by decide +kernel, by decide +kernel⟩
theorem ok_plain_run {k : Nat} (hk : 1 ≤ k) (F : FnF K mg "plain_run" sPlainRun [] [] fa fd) (GP : GPl K mg CP)
    (h1 : Pr P w K mg base "complete_run" ["library", "mains"] [] k (spComplete CP CL)) (h2 : PrM P w K mg base CP "rows" ["self"] [] 1 (spRowsM CP CL)) :
    Pr P w K mg base "plain_run" ["library", "mains"] [] (k + 1) (spPlainRun CL) := by
  refine ⟨fa, fd, [], F.mg_, F.fn.kp, F.fn.ok0 scPlainRun (fun vs H Q E h => ?_) (fun cdv A outer s H vs Q E hr h => ?_), .nil, F.fn.bindsN fun _ _ _ _ _ _ us hl => match us, hl with | [_, _], _ => rfl⟩
  · obtain ⟨lb, d, dm, LS, rk, kvs, M, rfl, _⟩ := h
    rfl
  · obtain ⟨lb, d, dm, LS, rk, kvs, M, rfl, arg, q⟩ := h
    have hr1 : Room 1 _ := hr.mono hk
    refine ⟨_, pss_cons (ps_asg (g := gTwo K 2 3) (pe_pr h1 hr rfl (pa_cons (pv 0) (pa_cons (pv 1) pa_nil))) (pg_tup rfl (pgs_cons (pg_name (i := 2) scPlainRun.nd rfl (Or.inl rfl)) (pgs_cons (pg_name (i := 3) scPlainRun.nd rfl (Or.inl rfl)) pgs_nil))))
      (pss_one (ps_ret (pe_tup (pa_cons (pe_prm0 (pv 2) GP.cl h2 hr1) (pa_cons (pv 3) pa_nil))))), ?_⟩
    refine ⟨_, rfl, _, rfl, lb, d, dm, LS, rk, kvs, M, rfl, arg, fun H1 R D E' t v s1 run hkeys hv ht => ?_⟩
    refine ⟨t, _, rfl, SqT.of ht, rfl, _, _, rfl, _, _, rfl, rfl, ?_⟩
    obtain ⟨z, ob⟩ := run.ob
    refine ⟨_, rfl, R.r, z, _, rfl, ob, plF_no (by decide +kernel) R, _, R, LS, rk, D, E', [], rfl, arg.wf, run, fun H2 v2 s2 hv2 => ?_⟩
    refine ⟨_, rfl, by show 2 ≤ sizeLine; decide, fun t2 nt2 => ?_⟩
    have s3 : Same H2 (upd H2 t2 (.tup [v2, v])) := Same.new nt2 _
    exact q _ _ (keysD D) ((s1.trans s2).trans s3) run.nd hkeys (.tup upd_same (.cons (hv2.same s3) (.cons ((hv.same s2).same s3) .nil)))
end
end Cy

set_option Elab.async false
set_option linter.all false
set_option maxRecDepth 100000
set_option maxHeartbeats 4000000
/-! The law's draws: any number below the bound. -/
namespace Cy
open PySem PySem.Spec PyProof.Rows L2
abbrev sPot : Stmt := top 45
abbrev sDraw : Stmt := top 46
abbrev sChoice : Stmt := top 47
/-- a pot: two numbers -/
def PotAt (H : Hp) (p : Addr) : Prop := ∃ x y : Int, H p = some (.lst [.int x, .int y]) ∧ 0 ≤ x ∧ 0 ≤ y ∧ y ≤ 2147483587
theorem PotAt.mono {S : Addr → Prop} {H H' : Hp} {p : Addr} (h : PotAt H p) (e : Kp S H H') (n : ¬ S p) : PotAt H' p := by
  obtain ⟨x, y, a, b⟩ := h
  exact ⟨x, y, e.at a n, b⟩
theorem PotAt.same {H H' : Hp} {p : Addr} (h : PotAt H p) (e : Same H H') : PotAt H' p := h.mono (S := fun _ => False) (Kp.of e) id
/-- the divisor: positive, below 2 ^ 9000 -/
theorem call_divmodV {X : Cx} : CallR X (.builtin "divmod") (fun xs H Q => ∃ i j, xs = [.int i, .int j] ∧ (0 < j ∧ j.natAbs.log2 < 9000) ∧ ∀ p, H p = none → Q (.ref p) (upd H p (.tup [.int (i / j), .int (i % j)]))) := by
  rintro pins s σ H _ us Q I r ⟨i, j, rfl, ⟨hj, hw⟩, q⟩
  obtain ⟨u, w', rfl, ⟨t, rfl⟩, t', rfl⟩ := vals2 r
  refine divmod_int (by omega) ?_ (.inl (PyProof.noPylong_of_log2 hw))
  have e1 : i.fdiv j = i / j := Int.fdiv_eq_ediv_of_nonneg i (by omega)
  have e2 : i.fmod j = i % j := Int.fmod_eq_emod_of_nonneg i (by omega)
  rw [e1, e2]
  refine ⟨.ref s.heap.objs.size, upd H s.heap.objs.size (.tup [.int (i / j), .int (i % j)]), I.laid (fun b o e => Heap.get?_push_of_some _ e) (Nat.le_refl _) ⟨?_, [.int (i / j) s.toks, .int (i % j) (s.toks + 1)], .cons ⟨_, rfl⟩ (.cons ⟨_, rfl⟩ .nil), _, Heap.get?_push_size s.heap rfl, rfl, 0, rfl⟩, rfl, q _ (I.hok.fresh (Nat.le_refl _))⟩
  rw [sizeLine_eq]
  exact (by decide : 2 ≤ 16777216)
section
variable {P : Program} {w : World} {K : PySem.W.Frag} {mg : Str → Option Value} {base : Heap} {aV aP aF CL CF CP : Addr} {fk : Str → Addr} {fa : Addr} {fd : FuncData}
def spPot (K : PySem.W.Frag) : Sp := fun vs H Q _ => ∃ (a : Addr) (ns : List Int) (i : Nat), vs = [.ref a, .int i] ∧ SqL K H a (ns.map V.int) ∧ i < 4 ∧ ∀ H' l, Same H H' → PotAt H' l → H l = none → Q (.ref l) H'
theorem scPot : FnScope ["_law_script", "_law_index", "_law_cell"] ["_law_script", "_law_index"] (defScope sPot) := ⟨rfl, rfl, rfl, by decide +kernel, rfl, by decide +kernel, by decide +kernel⟩
theorem ok_pot (F : FnF K mg "_law_pot" sPot [] [] fa fd) (T : G0 K mg aV aP) : Pr P w K mg base "_law_pot" ["_law_script", "_law_index"] [] 1 (spPot K) := by
  refine ⟨fa, fd, [], F.mg_, F.fn.kp, F.fn.ok0 scPot (fun vs H Q E h => ?_) (fun cdv A outer s H vs Q E hr h => ?_), .nil, F.fn.bindsN fun _ _ _ _ _ _ us hl => match us, hl with | [_, _], _ => rfl⟩
  · obtain ⟨a, ns, i, rfl, _⟩ := h
    rfl
  · obtain ⟨a, ns, i, rfl, ha, hi, q⟩ := h
    refine ⟨_, pss_cons (ps_set (i := 2) scPot.nd rfl (Or.inl rfl) pe_int)
      (pss_mid (ps_if (pt_cmpR op_lt (pv 1) (pe_callB call_len rfl T.len PySem.boot_len (pa_cons (pv 0) pa_nil)) (nomark _))
          (pss_one (ps_set (i := 2) scPot.nd rfl (Or.inl rfl) (pe_callB call_abs rfl T.abs (by decide +kernel) (pa_cons (pe_ix ix_list (pv 0) (pv 1) (fun _ _ => rfl)) pa_nil)))) pss_nil)
      (pss_one (ps_ret (pe_lst (pa_cons (pe_callB (call_max2 rfl) rfl T.max (by decide +kernel) (pa_cons pe_int (pa_cons (pe_op op_sub (pv 2) (pe_op op_pow pe_int pe_int)) pa_nil)))
        (pa_cons (pe_op op_add (pe_op op_mod (pe_op op_pow (pe_op op_add (pe_op op_add (pe_op op_mod (pv 2) pe_int) (pe_op op_mul pe_int (pv 1))) pe_int) pe_int) pe_int) pe_int) pa_nil)))))), ?_⟩
    refine ⟨fun σ' H' => ∃ c : Int, 0 ≤ c ∧ σ' = [some (.ref a), some (.int i), some (.int c)] ∧ H' = H, ?_, ?_⟩
    · refine ⟨_, rfl, _, rfl, _, (ns.map V.int).length, rfl, Or.inl ⟨_, ha, rfl⟩, _, _, rfl, rfl, _, rfl, ?_⟩
      refine ite2 (fun e => ?_) (fun e => ⟨0, Int.le_refl _, rfl, rfl⟩)
      have e' : (i : Int) < ((ns.map V.int).length : Int) := of_decide_eq_true e
      have hl : i < ns.length := by rw [List.length_map] at e'; omega
      refine ⟨_, rfl, _, rfl, a, _, i, .int ns[i], rfl, rfl, ha, atI_nat (by rw [List.getElem?_map, List.getElem?_eq_getElem hl]; rfl), ns[i], rfl, ?_⟩
      refine ⟨_, ?_, rfl, rfl⟩
      split <;> omega
    · rintro σ' H' ⟨c, hc, rfl, rfl⟩
      refine ⟨_, rfl, 10, 18, rfl, rfl, ⟨by decide, by decide, by decide⟩, c, 10 ^ (18 : Int).toNat, rfl, rfl, 0, _, rfl, ?_⟩
      have hm : 0 ≤ c % 2147483629 := Int.emod_nonneg _ (by decide)
      have hm2 : c % 2147483629 < 2147483629 := Int.emod_lt_of_pos _ (by decide)
      refine ⟨_, rfl, c, 2147483629, rfl, rfl, (by decide : (0 : Int) < 2147483629), ?_⟩
      refine ⟨_, rfl, 1013, i, rfl, rfl, .inl ⟨by decide, by decide⟩, _, _, rfl, rfl, _, 7, rfl, rfl, _, 3, rfl, rfl, ⟨by decide, by decide, ?_⟩, _, 2147483587, rfl, rfl, (by decide : (0 : Int) < 2147483587), _, 1, rfl, rfl, ?_⟩
      · have : (c % 2147483629 + 1013 * (i : Int) + 7).natAbs < 2 ^ 40 := by omega
        exact Nat.lt_trans this (by decide)
      refine ⟨by show 2 ≤ sizeLine; decide, fun l nl => ?_⟩
      generalize hz : (c % 2147483629 + 1013 * (i : Int) + 7) ^ (3 : Int).toNat = z
      have h0 : 0 ≤ z % 2147483587 := Int.emod_nonneg _ (by decide)
      have h1 : z % 2147483587 < 2147483587 := Int.emod_lt_of_pos _ (by decide)
      refine q _ l (Same.new nl _) ⟨_, _, upd_same, ?_, by omega, by omega⟩ nl
      split <;> omega
def spDraw : Sp := fun vs H Q _ => ∃ (p : Addr) (b : Int), vs = [.ref p, .int b] ∧ PotAt H p ∧ 0 < b ∧ b < 2 ^ 200 ∧ ∀ H' (k : Nat), (k : Int) < b → PotAt H' p → Kp (fun c => c = p) H H' → Q (.int k) H'
theorem scDraw : FnScope ["_law_pot_here", "_law_bound", "_law_digit"] ["_law_pot_here", "_law_bound"] (defScope sDraw) := ⟨rfl, rfl, rfl, by decide +kernel, rfl, by decide +kernel, by decide +kernel⟩
theorem ok_draw (F : FnF K mg "_law_draw" sDraw [] [] fa fd) (T : G0 K mg aV aP) : Pr P w K mg base "_law_draw" ["_law_pot_here", "_law_bound"] [] 1 spDraw := by
  refine ⟨fa, fd, [], F.mg_, F.fn.kp, F.fn.ok0 scDraw (fun vs H Q E h => ?_) (fun cdv A outer s H vs Q E hr h => ?_), .nil, F.fn.bindsN fun _ _ _ _ _ _ us hl => match us, hl with | [_, _], _ => rfl⟩
  · obtain ⟨p, b, rfl, _⟩ := h
    rfl
  · obtain ⟨p, b, rfl, ⟨x, y, hp, hx, hy, hy2⟩, hb, hb2, q⟩ := h
    refine ⟨_, pss_cons (ps_if (pt_cmpR op_gt (pe_ix ix_list (pv 0) pe_int (fun _ _ => rfl)) pe_int (nomark _))
        (pss_cons (ps_asg (g := gTup K 2 (gCons (gSub (tVar 0) (tC (.int 0)) rSetL) (gCons (gName 2) gNil))) (pe_callB call_divmodV rfl T.divmod (by decide +kernel) (pa_cons (pe_ix ix_list (pv 0) pe_int (fun _ _ => rfl)) (pa_cons (pv 1) pa_nil)))
            (pg_tup rfl (pgs_cons (pg_sub (pv 0) pe_int set_list) (pgs_cons (pg_name (i := 2) scDraw.nd rfl (Or.inl rfl)) pgs_nil))))
          (pss_one (ps_ret (pv 2)))) pss_nil)
      (pss_mid (ps_asg (g := gSub (tVar 0) (tC (.int 1)) rSetL) (pe_op op_mod (pe_op op_add (pe_op op_mul (pe_ix ix_list (pv 0) pe_int (fun _ _ => rfl)) pe_int) pe_int) pe_int) (pg_sub (pv 0) pe_int set_list))
      (pss_one (ps_ret (pe_op op_mod (pe_op op_fdiv (pe_op op_mod (pe_op op_mul (pe_ix ix_list (pv 0) pe_int (fun _ _ => rfl)) (pe_ix ix_list (pv 0) pe_int (fun _ _ => rfl))) pe_int) pe_int) (pv 1))))), ?_⟩
    have lg : b.natAbs.log2 < 9000 := by
      have h1 : b.natAbs < 2 ^ 200 := by omega
      by_cases h0 : b.natAbs = 0
      · rw [h0]; decide
      · exact Nat.lt_trans ((Nat.log2_lt h0).mpr h1) (by decide)
    refine ⟨_, rfl, p, _, 0, .int x, rfl, rfl, SqL.of hp, rfl, _, _, rfl, rfl, _, rfl, ?_⟩
    refine ite2 (fun e => ?_) (fun e => ?_)
    · refine ⟨_, rfl, p, _, 0, .int x, rfl, rfl, SqL.of hp, rfl, _, rfl, x, b, rfl, ⟨hb, lg⟩, fun t nt => ?_⟩
      have s1 : Same H (upd H t (.tup [.int (x / b), .int (x % b)])) := Same.new nt _
      have hp1 := s1 _ _ hp
      have ht1 : (upd H t (.tup [.int (x / b), .int (x % b)])) t = some (.tup [.int (x / b), .int (x % b)]) := upd_same
      generalize upd H t (.tup [.int (x / b), .int (x % b)]) = H1 at s1 hp1 ht1
      refine ⟨t, _, rfl, SqT.of ht1, rfl, _, _, rfl, ?_⟩
      refine ⟨_, rfl, p, _, 0, 0, rfl, rfl, hp1, rfl, ?_⟩
      refine ⟨_, _, rfl, rfl, ?_⟩
      refine ⟨_, rfl, ?_⟩
      have h0 : 0 ≤ x % b := Int.emod_nonneg _ (by omega)
      have h1 : x % b < b := Int.emod_lt_of_pos _ hb
      obtain ⟨k, hk⟩ : ∃ k : Nat, x % b = (k : Int) := ⟨(x % b).toNat, by omega⟩
      rw [hk]
      exact q _ k (by omega) ⟨x / b, y, upd_same, Int.ediv_nonneg hx (by omega), hy, hy2⟩ ((Kp.of s1 : Kp (fun c => c = p) _ _).upd (fun _ h => h) (.inl rfl) (nt_lst hp1) _)
    · have h0 : 0 ≤ (y * 48271 + 10037) % 2147483587 := Int.emod_nonneg _ (by decide)
      have h1 : (y * 48271 + 10037) % 2147483587 < 2147483587 := Int.emod_lt_of_pos _ (by decide)
      refine ⟨fun σ' H' => ∃ v : Int, 0 ≤ v ∧ v < 2147483587 ∧ σ' = start ["_law_pot_here", "_law_bound", "_law_digit"] [.ref p, .int b] ∧ H' = upd H p (.lst [.int x, .int v]), ?_, ?_⟩
      · refine ⟨_, rfl, p, _, 1, .int y, rfl, rfl, SqL.of hp, rfl, y, 48271, rfl, rfl, .inr ⟨by decide, by decide⟩, _, 10037, rfl, rfl, _, 2147483587, rfl, rfl, (by decide : (0 : Int) < 2147483587), ?_⟩
        refine ⟨_, rfl, p, _, 1, 1, rfl, rfl, hp, rfl, ?_⟩
        exact ⟨_, h0, h1, rfl, rfl⟩
      rintro σ' H' ⟨v, h0, h1, rfl, rfl⟩
      have hp2 : (upd H p (.lst [.int x, .int v])) p = some (.lst [.int x, .int v]) := upd_same
      have k2 : Kp (fun c => c = p) H (upd H p (.lst [.int x, .int v])) := (Kp.refl H : Kp (fun c => c = p) _ _).upd (fun _ h => h) (.inl rfl) (nt_lst hp) _
      generalize upd H p (.lst [.int x, .int v]) = H2 at hp2 k2
      refine ⟨_, rfl, p, _, 1, .int v, rfl, rfl, SqL.of hp2, rfl, _, rfl, p, _, 1, .int v, rfl, rfl, SqL.of hp2, rfl, v, v, rfl, rfl, .inl ⟨by omega, by omega⟩, _, 2147483563, rfl, rfl, (by decide : (0 : Int) < 2147483563), _, 7, rfl, rfl, ⟨by decide, by decide⟩, _, rfl, _, b, rfl, rfl, hb, ?_⟩
      generalize v * v % 2147483563 / 7 = z
      have h3 : 0 ≤ z % b := Int.emod_nonneg _ (by omega)
      have h4 : z % b < b := Int.emod_lt_of_pos _ hb
      obtain ⟨k, hk⟩ : ∃ k : Nat, z % b = (k : Int) := ⟨(z % b).toNat, by omega⟩
      show Q (.int (z % b)) H2
      rw [hk]
      exact q _ k (by omega) ⟨x, v, hp2, hx, h0, by omega⟩ k2
/-- what is chosen from: a text's signs, a list's items -/
def Opts (H : Hp) (p : Addr) (o : V) (items : List V) : Prop := (∃ z : Str, o = .str z ∧ items = z.cps.toList.map fun c => V.str ⟨#[c]⟩) ∨ ∃ a, o = .ref a ∧ a ≠ p ∧ H a = some (.lst items)
def spChoice : Sp := fun vs H Q _ => ∃ (p : Addr) (o : V) (items : List V), vs = [.ref p, o] ∧ PotAt H p ∧ Opts H p o items ∧ 1 ≤ items.length ∧ items.length ≤ 1000 ∧ ∀ H' v, v ∈ items → PotAt H' p → Kp (fun c => c = p) H H' → Q v H'
theorem scChoice : FnScope ["_law_pot_here", "_law_options"] ["_law_pot_here", "_law_options"] (defScope sChoice) := ⟨rfl, rfl, rfl, by decide +kernel, rfl, by decide +kernel, by decide +kernel⟩
theorem ok_choice (F : FnF K mg "_law_choice" sChoice [] [] fa fd) (T : G0 K mg aV aP) (h1 : Pr P w K mg base "_law_draw" ["_law_pot_here", "_law_bound"] [] 1 spDraw) : Pr P w K mg base "_law_choice" ["_law_pot_here", "_law_options"] [] 2 spChoice := by
  refine ⟨fa, fd, [], F.mg_, F.fn.kp, F.fn.ok0 scChoice (fun vs H Q E h => ?_) (fun cdv A outer s H vs Q E hr h => ?_), .nil, F.fn.bindsN fun _ _ _ _ _ _ us hl => match us, hl with | [_, _], _ => rfl⟩
  · obtain ⟨p, o, items, rfl, _⟩ := h
    rfl
  · obtain ⟨p, o, items, rfl, hp, ho, hl, hl2, q⟩ := h
    refine ⟨_, pss_one (ps_ret (pe_ix ix_seq (pv 1) (pe_pr h1 hr rfl (pa_cons (pv 0) (pa_cons (pe_callB call_len rfl T.len PySem.boot_len (pa_cons (pv 1) pa_nil)) pa_nil))) (fun _ _ => rfl))), ?_⟩
    refine ⟨_, rfl, _, rfl, _, rfl, ?_⟩
    have big200 : (1000 : Int) < 2 ^ 200 := by decide +kernel
    have hsz : sizeLine = 2 ^ 24 := by rfl
    rcases ho with ⟨z, rfl, rfl⟩ | ⟨a, rfl, nap, ha⟩
    · rw [List.length_map] at hl hl2
      have ez : z.cps.toList.length = z.length := by simp [Str.length]
      refine ⟨_, z.length, rfl, ⟨by omega, rfl⟩, p, z.length, rfl, hp, by omega, by omega, fun H' k hk hp' kp => ?_⟩
      have hk2 : k < z.cps.toList.length := by omega
      refine Or.inr (Or.inr ⟨z, k, z.cps.toList[k], rfl, rfl, by omega, atI_nat (List.getElem?_eq_getElem hk2), ?_⟩)
      exact q _ _ (List.mem_map.mpr ⟨_, List.getElem_mem hk2, rfl⟩) hp' kp
    · refine ⟨_, items.length, rfl, Or.inl ⟨items, SqL.of ha, rfl⟩, p, items.length, rfl, hp, by omega, by omega, fun H' k hk hp' kp => ?_⟩
      have hk2 : k < items.length := by omega
      refine Or.inl ⟨a, items, k, items[k], rfl, rfl, SqL.of (kp.at ha nap), atI_nat (List.getElem?_eq_getElem hk2), ?_⟩
      exact q _ _ (List.getElem_mem hk2) hp' kp
end
end Cy

set_option Elab.async false
set_option linter.all false
set_option maxRecDepth 100000
set_option maxHeartbeats 4000000
/-! The law's words. -/
namespace Cy
open PySem PySem.Spec PyProof.Rows L2
open TL (joinL join_eq tl_join tl len_tl)
abbrev sWord : Stmt := top 48
abbrev sWords : Stmt := top 49
abbrev sMixed : Stmt := top 50
abbrev sInteger : Stmt := top 51
theorem letters_len : letters.cps.toList.length = 26 := by decide +kernel
theorem letters_at : ∀ j, j < 26 → letters.cps.toList[j]? = some (97 + j) := by decide +kernel
theorem joinL_one : ∀ cs : List Nat, joinL [] (cs.map fun c => [c]) = cs
  | [] => rfl
  | [c] => rfl
  | c :: d :: r => by
    show [c] ++ ([] ++ joinL [] ((d :: r).map fun c => [c])) = _
    rw [joinL_one (d :: r)]
    rfl
def sign1 (c : Nat) : Str := ⟨#[c]⟩
theorem join_signs (cs : List Nat) : (Txt.join (Str.ofString "") (cs.map sign1)).cps.toList = cs := by
  rw [join_eq]
  show tl (Str.join _ _) = cs
  rw [tl_join]
  have e1 : tl (Str.ofString "") = [] := by decide
  have e2 : (cs.map sign1).map tl = cs.map fun c => [c] := by
    rw [List.map_map]
    rfl
  rw [e1, e2, joinL_one]
/-- a spare word -/
def spare (i : Nat) : Str := ⟨#[97 + i / 26, 97 + i % 26, 113]⟩
theorem spare_inj {i j : Nat} (h : spare i = spare j) : i = j := by
  have e : (spare i).cps.toList = (spare j).cps.toList := by rw [h]
  have e2 : [97 + i / 26, 97 + i % 26, 113] = [97 + j / 26, 97 + j % 26, 113] := e
  injection e2 with h1 h2
  injection h2 with h2 _
  omega
theorem mem_letters {c : Nat} (h : 97 ≤ c) (h2 : c < 123) : c ∈ letters.cps.toList := by
  have := letters_at (c - 97) (by omega)
  have e : 97 + (c - 97) = c := by omega
  rw [e] at this
  exact List.mem_of_getElem? this
theorem spare_name {i : Nat} (h : i < 676) : IsName (spare i) := by
  refine ⟨by show 1 ≤ 3; decide, by show 3 ≤ 8; decide, fun c hc => ?_⟩
  have hc' : c ∈ [97 + i / 26, 97 + i % 26, 113] := hc
  have h2 : i / 26 < 26 := by omega
  simp only [List.mem_cons, List.not_mem_nil, or_false] at hc'
  rcases hc' with rfl | rfl | rfl
  · exact mem_letters (by omega) (by omega)
  · exact mem_letters (by omega) (by omega)
  · exact mem_letters (by omega) (by omega)
def fixedW : List Str := ["module", "need", "try", "fail", "act", "thread", "retry", "unload", "ready", "a"]
instance (x : Str) : Decidable (IsName x) :=
  decidable_of_iff (1 ≤ x.length ∧ x.length ≤ 8 ∧ ∀ c ∈ x.cps.toList, c ∈ letters.cps.toList) ⟨fun h => ⟨h.1, h.2.1, h.2.2⟩, fun h => ⟨h.lo, h.hi, h.lt⟩⟩
theorem fixed_name : ∀ x ∈ fixedW, IsName x := by decide +kernel
theorem signs_name {cs : List Nat} (h1 : 1 ≤ cs.length) (h2 : cs.length ≤ 8) (h : ∀ c ∈ cs, c ∈ letters.cps.toList) : IsName (Txt.join (Str.ofString "") (cs.map sign1)) := by
  have e := join_signs cs
  have el : (Txt.join (Str.ofString "") (cs.map sign1)).length = cs.length := by rw [len_tl]; show (Txt.join (Str.ofString "") (cs.map sign1)).cps.toList.length = _; rw [e]
  exact ⟨by rw [el]; exact h1, by rw [el]; exact h2, fun c hc => by rw [e] at hc; exact h c hc⟩
section
variable {P : Program} {w : World} {K : PySem.W.Frag} {mg : Str → Option Value} {base : Heap} {aV aP aF CL CF CP : Addr} {fk : Str → Addr} {fa : Addr} {fd : FuncData}
def spWord : Sp := fun vs H Q _ => ∃ (p u : Addr) (ws : List Str), vs = [.ref p, .ref u] ∧ PotAt H p ∧ H u = some (.lst (ws.map V.str)) ∧ u ≠ p ∧ ws.length ≤ 100 ∧ ∀ H' x, IsName x → x ∉ ws → PotAt H' p → Kp (fun c => c = p) H H' → Q (.str x) H'
theorem scWord : FnScope ["_law_pot_here", "_law_used", "_law_letters", "_law_size", "_law_word_here", "_law_spare", "_law_turn", "_law_at", "_law_one"] ["_law_pot_here", "_law_used"] (defScope sWord) := ⟨rfl, rfl, rfl, by decide +kernel, rfl, by decide +kernel, by decide +kernel⟩
theorem ok_word (F : FnF K mg "_law_word" sWord [] [] fa fd) (T : G0 K mg aV aP) (h1 : Pr P w K mg base "_law_draw" ["_law_pot_here", "_law_bound"] [] 1 spDraw) : Pr P w K mg base "_law_word" ["_law_pot_here", "_law_used"] [] 2 spWord := by
  refine ⟨fa, fd, [], F.mg_, F.fn.kp, F.fn.ok0 scWord (fun vs H Q E h => ?_) (fun cdv A outer s H vs Q E hr h => ?_), .nil, F.fn.bindsN fun _ _ _ _ _ _ us hl => match us, hl with | [_, _], _ => rfl⟩
  · obtain ⟨p, u, ws, rfl, _⟩ := h
    rfl
  · obtain ⟨p, u, ws, rfl, hp, hu, nup, hws, q⟩ := h
    refine ⟨_, pss_cons (ps_set (i := 2) scWord.nd rfl (Or.inr rfl) pe_str)
      (pss_mid (ps_set (i := 3) scWord.nd rfl (Or.inl rfl) (pe_ix ix_list (pe_lst (pa_cons pe_int (pa_cons pe_int (pa_cons pe_int (pa_cons pe_int (pa_cons (pe_op op_add pe_int (pe_pr h1 hr rfl (pa_cons (pv 0) (pa_cons pe_int pa_nil)))) pa_nil)))))) (pe_pr h1 hr rfl (pa_cons (pv 0) (pa_cons pe_int pa_nil))) (fun _ _ => rfl)))
      (pss_mid (ps_set (i := 4) scWord.nd rfl (Or.inl rfl) (pe_bm PySem.F.plainAttrs_str PySem.F.slot_str_join PySem.F.type_str_join mt_join pe_str (pa_cons
          (pe_lc (own := [("_law_turn", 6)]) (g := gName 6) (tt := tYes) (te := tOp rIxS (tVar 2) (tCall spDraw [] E0 (tCons (tVar 0) (tCons (tC (.int 26)) tNil)))) rfl scWord.nd (pi_range1 rfl T.range (pa_cons (pv 3) pa_nil))
            (blkOk_by (N := ["_law_pot_here", "_law_used", "_law_letters", "_law_size", "_law_word_here", "_law_spare", "_law_turn", "_law_at", "_law_one"]) (sc := defScope sWord) (by decide +kernel))
            (fun _ _ _ _ _ => pg_name (i := 6) scWord.nd rfl (Or.inl rfl)) (fun _ _ _ _ _ => pts_nil)
            (fun _ _ _ _ _ => pe_ix ix_str (pv 2) (pe_pr h1 hr rfl (pa_cons (pv 0) (pa_cons pe_int pa_nil))) (fun _ _ => rfl))) pa_nil)))
      (pss_mid (ps_if (pt_cmpR op_eq (pe_pr h1 hr rfl (pa_cons (pv 0) (pa_cons pe_int pa_nil))) pe_int (nomark _))
          (pss_one (ps_set (i := 4) scWord.nd rfl (Or.inl rfl) (pe_ix ix_list (pe_lst (pa_cons pe_str (pa_cons pe_str (pa_cons pe_str (pa_cons pe_str (pa_cons pe_str (pa_cons pe_str (pa_cons pe_str (pa_cons pe_str (pa_cons pe_str (pa_cons pe_str pa_nil))))))))))) (pe_pr h1 hr rfl (pa_cons (pv 0) (pa_cons pe_int pa_nil))) (fun _ _ => rfl)))) pss_nil)
      (pss_cons (ps_if (pt_cmpR op_in_seq (pv 4) (pv 1) (by rfl))
          (pss_cons (ps_setLc (i := 5) (own := [("_law_at", 7)]) (g := gName 7) (tt := tYes) (te := tOp (fun x y H Q => ∃ i j, x = .str i ∧ y = .str j ∧ i.length + j.length ≤ sizeLine ∧ Q (.str (i ++ j)) H) (tOp (fun x y H Q => ∃ i j, x = .str i ∧ y = .str j ∧ i.length + j.length ≤ sizeLine ∧ Q (.str (i ++ j)) H) (tOp rIxS (tVar 2) (tOp (rI CDiv fun i j => .int (i / j)) (tVar 7) (tC (.int 26)))) (tOp rIxS (tVar 2) (tOp (rI (fun _ j => 0 < j) fun i j => .int (i % j)) (tVar 7) (tC (.int 26))))) (tC (.str "q"))) rfl scWord.nd rfl rfl (sw_true rfl rfl rfl (by rfl)) (pi_range1 rfl T.range (pa_cons pe_int pa_nil))
            (blkOk_by (N := ["_law_pot_here", "_law_used", "_law_letters", "_law_size", "_law_word_here", "_law_spare", "_law_turn", "_law_at", "_law_one"]) (sc := defScope sWord) (by decide +kernel))
            (fun _ _ _ _ _ => pg_name (i := 7) scWord.nd rfl (Or.inl rfl)) (fun _ _ _ _ _ => pts_nil)
            (fun _ _ _ _ _ => pe_op op_add_str (pe_op op_add_str (pe_ix ix_str (pv 2) (pe_op op_fdiv (pv 7) pe_int) (fun _ _ => rfl)) (pe_ix ix_str (pv 2) (pe_op op_mod (pv 7) pe_int) (fun _ _ => rfl))) pe_str))
          (pss_one (ps_ret (pe_ix ix_list (pe_lc (own := [("_law_one", 8)]) (g := gName 8) (tt := tTest (tOp (rIn K true) (tVar 8) (tVar 1))) (te := tVar 8) rfl scWord.nd (pi_list (pv 5))
            (blkOk_by (N := ["_law_pot_here", "_law_used", "_law_letters", "_law_size", "_law_word_here", "_law_spare", "_law_turn", "_law_at", "_law_one"]) (sc := defScope sWord) (by decide +kernel))
            (fun _ _ _ _ _ => pg_name (i := 8) scWord.nd rfl (Or.inl rfl)) (fun _ _ _ _ _ => pts_one (pt_cmpR op_notIn_seq (pv 8) (pv 1) (by rfl))) (fun _ _ _ _ _ => pv 8)) pe_int (fun _ _ => rfl))))) pss_nil)
      (pss_one (ps_ret (pv 4))))))), ?_⟩
    have hsz : sizeLine = 2 ^ 24 := by rfl
    have hlet : letters.length ≤ sizeLine := by decide
    have lcell : Str := letters
    -- the states
    refine ⟨fun σ' H' => ∃ m : Nat, 1 ≤ m ∧ m ≤ 8 ∧ σ' = [some (.ref p), some (.ref u), some (.str letters), some (.int m), none, none, none, none, none] ∧ PotAt H' p ∧ Kp (fun c => c = p) H H', ?_, ?_⟩
    · refine ⟨_, rfl, p, 8, rfl, hp, by decide, by decide +kernel, fun H1 d hd hp1 k1 => ?_⟩
      refine ⟨_, _, rfl, rfl, ?_⟩
      refine ⟨by show 5 ≤ sizeLine; decide, fun l nl => ?_⟩
      have s2 : Same H1 (upd H1 l (.lst [.int 1, .int 1, .int 2, .int 8, .int (1 + (d : Int))])) := Same.new nl _
      have hl2 : (upd H1 l (.lst [.int 1, .int 1, .int 2, .int 8, .int (1 + (d : Int))])) l = some (.lst [.int 1, .int 1, .int 2, .int 8, .int (1 + (d : Int))]) := upd_same
      have lp : l ≠ p := by
        obtain ⟨x, y, e, _⟩ := hp1
        exact (ne_of_none e nl).symm
      have k2 := k1.same s2
      have hp2 := hp1.same s2
      refine ⟨_, rfl, p, 5, rfl, hp2, by decide, by decide +kernel, fun H3 j hj hp3 k3 => ?_⟩
      have hl3 := k3.at hl2 lp
      have kk := k2.trans' k3
      have fin : ∀ m : Nat, 1 ≤ m → m ≤ 8 → [V.int 1, .int 1, .int 2, .int 8, .int (1 + (d : Int))][j]? = some (.int m) → rIxL K (.ref l) (.int j) H3 (fun x H1 => gName 3 x [some (.ref p), some (.ref u), some (.str letters), none, none, none, none, none, none] H1 (fun σ' H' => ∃ m : Nat, 1 ≤ m ∧ m ≤ 8 ∧ σ' = [some (.ref p), some (.ref u), some (.str letters), some (.int m), none, none, none, none, none] ∧ PotAt H' p ∧ Kp (fun c => c = p) H H')) := fun m h1 h2 e =>
        ⟨l, _, j, .int m, rfl, rfl, SqL.of hl3, atI_nat e, m, h1, h2, rfl, hp3, kk⟩
      have hj5 : j < 5 := by omega
      have hd8 : d < 8 := by omega
      rcases (by omega : j = 0 ∨ j = 1 ∨ j = 2 ∨ j = 3 ∨ j = 4) with rfl | rfl | rfl | rfl | rfl
      · exact fin 1 (by omega) (by omega) rfl
      · exact fin 1 (by omega) (by omega) rfl
      · exact fin 2 (by omega) (by omega) rfl
      · exact fin 8 (by omega) (by omega) rfl
      · refine fin (1 + d) (by omega) (by omega) ?_
        show some (V.int (1 + (d : Int))) = some (V.int ((1 + d : Nat) : Int))
        congr 2
    rintro σ' H1 ⟨m, m1, m8, rfl, hp1, k1⟩
    refine ⟨fun σ' H' => ∃ x, IsName x ∧ σ' = [some (.ref p), some (.ref u), some (.str letters), some (.int m), some (.str x), none, none, none, none] ∧ PotAt H' p ∧ Kp (fun c => c = p) H H', ?_, ?_⟩
    · refine ⟨rfl, _, rfl, m, rfl, by omega, by omega, fun D nD => ?_⟩
      have Dp : D ≠ p := by
        obtain ⟨x, y, e, _⟩ := hp1
        exact (ne_of_none e nD).symm
      have em : ((m : Int)).toNat = m := by omega
      rw [em]
      refine lc_it (walk_range (lo := 0) (n := m)) (fun i H' => PotAt H' p ∧ Kp (fun c => c = p) H H' ∧ ∃ cs : List Nat, cs.length = i ∧ (∀ c ∈ cs, c ∈ letters.cps.toList) ∧ H' D = some (.lst ((cs.map sign1).map V.str))) ⟨hp1.same (Same.new nD _), k1.same (Same.new nD _), [], rfl, fun _ h => (by cases h), upd_same⟩ (fun _ _ _ _ => trivial) ?_ ?_
      · rintro i v H2 H3 hi ⟨hp2, k2, cs, hcs, hlt, hD2⟩ ⟨rfl, rfl⟩
        refine ⟨rfl, ?_⟩
        refine ⟨_, rfl, _, rfl, p, 26, rfl, hp2, by decide, by decide +kernel, fun H4 j hj hp4 k4 => ?_⟩
        have hj26 : j < 26 := by omega
        have hD4 := k4.at hD2 Dp
        have nD0 : H D = none := k1.free nD Dp
        refine ⟨letters, j, 97 + j, rfl, rfl, hlet, atI_nat (letters_at j hj26), _, hD4, ?_, ?_, ?_, cs ++ [97 + j], ?_, ?_, ?_⟩
        · rw [List.length_map, List.length_map]; omega
        · exact hp4.mono ((Kp.refl H4 : Kp (fun c => c = D) _ _).upd (fun _ h => h) (.inl rfl) (nt_lst hD4) _) (fun e => Dp e.symm)
        · exact (k2.trans' k4).upd (fun _ h => h) (.inr nD0) (nt_lst hD4) _
        · rw [List.length_append, hcs]; rfl
        · intro c hc
          rcases List.mem_append.mp hc with h | h
          · exact hlt c h
          · rw [List.mem_singleton.mp h]; exact List.mem_of_getElem? (letters_at j hj26)
        · rw [upd_same, List.map_append, List.map_append]
          rfl
      · rintro H2 ⟨hp2, k2, cs, hcs, hlt, hD2⟩
        refine ⟨_, D, cs.map sign1, rfl, rfl, .inl (SqL.of hD2), ?_, _, signs_name (by omega) (by omega) hlt, rfl, hp2, k2⟩
        have e1 : ((cs.map sign1).map (·.length)).sum = cs.length := by
          rw [List.map_map]
          have : ∀ l : List Nat, (l.map ((fun x : Str => x.length) ∘ sign1)).sum = l.length := fun l => by
            induction l with
            | nil => rfl
            | cons a r ih => rw [List.map_cons, List.sum_cons, ih, List.length_cons]; show 1 + r.length = r.length + 1; omega
          exact this cs
        have e2 : (Str.ofString "").length = 0 := by decide
        rw [e1, e2]
        omega
    rintro σ' H2 ⟨x, hx, rfl, hp2, k2⟩
    refine ⟨fun σ' H' => ∃ x, IsName x ∧ σ' = [some (.ref p), some (.ref u), some (.str letters), some (.int m), some (.str x), none, none, none, none] ∧ PotAt H' p ∧ Kp (fun c => c = p) H H', ?_, ?_⟩
    · refine ⟨_, rfl, p, 12, rfl, hp2, by decide, by decide +kernel, fun H3 j hj hp3 k3 => ?_⟩
      have k03 := k2.trans' k3
      refine ⟨rfl, _, rfl, ?_⟩
      refine ite2 (fun e => ?_) (fun e => ⟨x, hx, rfl, hp3, k03⟩)
      refine ⟨by show 10 ≤ sizeLine; decide, fun l nl => ?_⟩
      have s4 : Same H3 (upd H3 l (.lst (fixedW.map V.str))) := Same.new nl _
      have hl4 : (upd H3 l (.lst (fixedW.map V.str))) l = some (.lst (fixedW.map V.str)) := upd_same
      have lp : l ≠ p := by
        obtain ⟨x, y, e, _⟩ := hp3
        exact (ne_of_none e nl).symm
      refine ⟨_, rfl, p, 10, rfl, hp3.same s4, by decide, by decide +kernel, fun H5 j2 hj2 hp5 k5 => ?_⟩
      have hj10 : j2 < fixedW.length := by show j2 < 10; omega
      refine ⟨l, _, j2, .str fixedW[j2], rfl, rfl, SqL.of (k5.at hl4 lp), atI_nat (by rw [List.getElem?_map, List.getElem?_eq_getElem hj10]; rfl), fixedW[j2], fixed_name _ (List.getElem_mem hj10), rfl, hp5, (k03.same s4).trans' k5⟩
    rintro σ' H3 ⟨x, hx, rfl, hp3, k3⟩
    have hu3 := k3.at hu nup
    refine ⟨_, rfl, _, rfl, u, _, rfl, Or.inl (SqL.of hu3), rfl, flat_strs _, ?_⟩
    rw [if_neg Bool.false_ne_true, inV_strs]
    refine ⟨_, rfl, ?_⟩
    refine ite2 (fun e => ?_) (fun e => ⟨_, rfl, q H3 x hx (fun h => e (decide_eq_true h)) hp3 k3⟩)
    -- the spare words
    refine ⟨676, rfl, by decide, by decide, fun D nD => ?_⟩
    have e676 : ((676 : Int)).toNat = 676 := rfl
    rw [e676]
    refine lc_it (walk_range (lo := 0) (n := 676)) (fun i H' => Same H3 H' ∧ H' D = some (.lst (((List.range i).map spare).map V.str))) ⟨Same.new nD _, upd_same⟩ (fun _ _ _ _ => trivial) ?_ ?_
    · rintro i v H4 H5 hi ⟨t4, hD4⟩ ⟨rfl, rfl⟩
      refine ⟨rfl, ?_⟩
      have ei : (0 : Int) + (i : Int) = (i : Int) := by omega
      have h26 : i / 26 < 26 := by omega
      have h27 : i % 26 < 26 := by omega
      refine ⟨_, rfl, _, rfl, _, 26, rfl, rfl, ⟨by decide, by decide⟩, letters, ((i / 26 : Nat) : Int), 97 + i / 26, rfl, ?_, hlet, atI_nat (letters_at _ h26), ?_⟩
      · rw [ei]; rfl
      refine ⟨_, rfl, _, rfl, _, 26, rfl, rfl, (by decide : (0 : Int) < 26), letters, ((i % 26 : Nat) : Int), 97 + i % 26, rfl, ?_, hlet, atI_nat (letters_at _ h27), ?_⟩
      · rw [ei]; rfl
      refine ⟨_, _, rfl, rfl, by show 2 ≤ sizeLine; decide, _, _, rfl, rfl, by show 3 ≤ sizeLine; decide, _, hD4, by rw [List.length_map, List.length_map, List.length_range]; omega, t4.upd nD _, ?_⟩
      rw [upd_same, List.range_succ, List.map_append, List.map_append]
      rfl
    · rintro H4 ⟨t4, hD4⟩
      have hu4 := t4 _ _ hu3
      refine ⟨_, rfl, D, rfl, ⟨_, SqL.of hD4⟩, fun L nL => ?_⟩
      have nuL : u ≠ L := ne_of_none hu4 nL
      have DL : D ≠ L := ne_of_none hD4 nL
      have key : ∀ n, (((List.range n).map spare).filter fun z => decide (z ∉ ws)).length ≤ n := fun n => Nat.le_trans (List.length_filter_le _ _) (by rw [List.length_map, List.length_range]; exact Nat.le_refl _)
      refine lc_it (walk_list (xs := ((List.range 676).map spare).map V.str)) (fun i H' => Same H4 H' ∧ H' L = some (.lst ((((List.range i).map spare).filter fun z => decide (z ∉ ws)).map V.str))) ⟨Same.new nL _, upd_same⟩ (fun i H' _ h => SqL.of (h.1 _ _ hD4)) ?_ ?_
      · rintro i v H6 H5 hi ⟨t5, hL5⟩ ⟨rfl, ei⟩
        rw [List.getElem?_map, List.getElem?_map] at ei
        have hi2 : i < 676 := by rw [List.length_map, List.length_map, List.length_range] at hi; exact hi
        rw [List.getElem?_range hi2] at ei
        have ev : V.str (spare i) = v := Option.some.inj ei
        subst ev
        refine ⟨rfl, ?_⟩
        have et : ((List.range (i + 1)).map spare).filter (fun z => decide (z ∉ ws)) = ((List.range i).map spare).filter (fun z => decide (z ∉ ws)) ++ (if decide (spare i ∉ ws) = true then [spare i] else []) := by
          rw [List.range_succ, List.map_append, List.filter_append]
          congr 1
          show List.filter _ [spare i] = _
          rw [List.filter_cons]
          rfl
        refine ⟨_, rfl, _, rfl, u, _, rfl, Or.inl (SqL.of (t5 _ _ hu4)), rfl, flat_strs _, decide (spare i ∉ ws), ?_, ?_⟩
        · show V.bl (if true = true then !inV (V.str (spare i)) (ws.map V.str) else _) = _
          rw [if_pos rfl, inV_strs]
          simp
        refine ite2 (fun e => ?_) (fun e => ?_)
        · refine ⟨_, rfl, _, hL5, ?_, t5.upd nL _, ?_⟩
          · rw [List.length_map]
            have := key i
            omega
          · rw [upd_same, et, if_pos e, List.map_append]
            rfl
        · refine ⟨t5, ?_⟩
          rw [et, if_neg e, List.append_nil]
          exact hL5
      · rintro H5 ⟨t5, hL5⟩
        rw [List.length_map, List.length_map, List.length_range] at hL5
        obtain ⟨y, r, ey⟩ : ∃ y r, ((List.range 676).map spare).filter (fun z => decide (z ∉ ws)) = y :: r := by
          cases ef : ((List.range 676).map spare).filter (fun z => decide (z ∉ ws)) with
          | cons y r => exact ⟨y, r, rfl⟩
          | nil =>
            exfalso
            have sub : (List.range 676).map spare ⊆ ws := fun z hz => by
              by_cases h : z ∈ ws
              · exact h
              · have : z ∈ ((List.range 676).map spare).filter (fun z => decide (z ∉ ws)) := List.mem_filter.mpr ⟨hz, decide_eq_true h⟩
                rw [ef] at this
                cases this
            have nd : ((List.range 676).map spare).Nodup := List.pairwise_map.mpr ((List.nodup_range (n := 676)).imp fun {a b} h => fun e => h (spare_inj e))
            have := List.Nodup.length_le_of_subset nd sub
            rw [List.length_map, List.length_range] at this
            omega
        have hy : y ∈ ((List.range 676).map spare).filter (fun z => decide (z ∉ ws)) := by rw [ey]; exact List.mem_cons_self
        obtain ⟨y1, y2⟩ := List.mem_filter.mp hy
        obtain ⟨i, hi, rfl⟩ := List.mem_map.mp y1
        rw [ey] at hL5
        refine ⟨L, _, 0, .str (spare i), rfl, rfl, SqL.of hL5, atI_nat (j := 0) rfl, ?_⟩
        exact q H5 (spare i) (spare_name (List.mem_range.mp hi)) (of_decide_eq_true y2) (hp3.same (t4.trans t5)) (k3.same (t4.trans t5))
end
end Cy

set_option Elab.async false
set_option linter.all false
set_option maxRecDepth 100000
set_option maxHeartbeats 4000000
/-! Lists of words, mixed lists, whole numbers. -/
namespace Cy
open PySem PySem.Spec PyProof.Rows L2
theorem erase_perm {α : Type} : ∀ (l : List α) (i : Nat) (y : α), l[i]? = some y → (y :: l.eraseIdx i).Perm l
  | [], i, y, h => by cases i <;> cases h
  | x :: l, 0, y, h => by cases h; exact List.Perm.refl _
  | x :: l, i + 1, y, h => (List.Perm.swap x y _).trans ((erase_perm l i y h).cons x)
theorem str_ok {x : Str} (h : IsName x) : PyData.strOk x = true := by
  unfold PyData.strOk
  rw [Array.all_eq_true]
  intro i hi
  have hm : x.cps[i] ∈ x.cps.toList := Array.getElem_mem_toList hi
  have h2 := h.lt _ hm
  have all : ∀ c ∈ letters.cps.toList, c < 1114112 := by decide +kernel
  exact decide_eq_true (all _ h2)
theorem canLay_strs : ∀ {l : List Str}, (∀ x ∈ l, IsName x) → PyData.canLayAll0 (l.map PyData.str) = true
  | [], _ => rfl
  | x :: l, h => by
    simp only [List.map_cons, PyData.canLayAll0, PyData.canLay0, str_ok (h x List.mem_cons_self), Bool.true_and]
    exact canLay_strs fun y hy => h y (List.mem_cons_of_mem _ hy)
theorem depth_strs (l : List Str) : PyData.depthAll (l.map PyData.str) = 0 := by
  have := depthAll_map PyData.str 0 l fun m _ => by simp [PyData.depth]
  omega
theorem shaped_strs {l : List Str} (h : ∀ x ∈ l, IsName x) : SeqAt.shaped (.list (l.map PyData.str)) = true := by
  unfold SeqAt.shaped
  simp only [PyData.canLay0, canLay_strs h, PyData.depth, depth_strs, Bool.true_and]
  decide
theorem dpAll_strs {K : PySem.W.Frag} {H : Hp} : ∀ l : List Str, L2.DpAll K H (l.map V.str) (l.map PyData.str)
  | [] => .nil
  | x :: l => .cons (.str x) (dpAll_strs l)
theorem eqv_nil (l : List Str) : PyData.eqv (.list (l.map PyData.str)) (.list []) = decide (l = []) := by
  cases l with
  | nil => simp [PyData.eqv, PyData.eqvAll]
  | cons x l => simp [PyData.eqv, PyData.eqvAll]
theorem shaped_nil : SeqAt.shaped (.list []) = true := by decide +kernel
/-- l != [] -/
theorem ne_nil {K : PySem.W.Frag} {H : Hp} {a b : Addr} {l : List Str} {Q : VK} (ha : H a = some (.lst (l.map V.str))) (hb : H b = some (.lst [])) (hn : ∀ x ∈ l, IsName x) (q : Q (.bl (!decide (l = []))) H) : rNeD K (.ref a) (.ref b) H Q :=
  ⟨.list (l.map PyData.str), .list [], .lst (SqL.of ha) (dpAll_strs l), .lst (SqL.of hb) .nil, shaped_strs hn, shaped_nil, by rw [eqv_nil]; exact q⟩
section
variable {P : Program} {w : World} {K : PySem.W.Frag} {mg : Str → Option Value} {base : Heap} {aV aP aF CL CF CP : Addr} {fk : Str → Addr} {fa : Addr} {fd : FuncData}
def spWords : Sp := fun vs H Q _ => ∃ (p : Addr) (n : Nat), vs = [.ref p, .int n] ∧ PotAt H p ∧ n ≤ 50 ∧ ∀ (H' : Hp) (l : Addr) (ws : List Str), ws.length = n → ws.Nodup → (∀ x ∈ ws, IsName x) → H' l = some (.lst (ws.map V.str)) → H l = none → PotAt H' p → Kp (fun c => c = p) H H' → Q (.ref l) H'
theorem scWords : FnScope ["_law_pot_here", "_law_number", "_law_found", "_law_turn"] ["_law_pot_here", "_law_number"] (defScope sWords) := ⟨rfl, rfl, rfl, by decide +kernel, rfl, by decide +kernel, by decide +kernel⟩
theorem ok_words (F : FnF K mg "_law_words" sWords [] [] fa fd) (T : G0 K mg aV aP) (h1 : Pr P w K mg base "_law_word" ["_law_pot_here", "_law_used"] [] 2 spWord) : Pr P w K mg base "_law_words" ["_law_pot_here", "_law_number"] [] 3 spWords := by
  refine ⟨fa, fd, [], F.mg_, F.fn.kp, F.fn.ok0 scWords (fun vs H Q E h => ?_) (fun cdv A outer s H vs Q E hr h => ?_), .nil, F.fn.bindsN fun _ _ _ _ _ _ us hl => match us, hl with | [_, _], _ => rfl⟩
  · obtain ⟨p, n, rfl, _⟩ := h
    rfl
  · obtain ⟨p, n, rfl, hp, hn, q⟩ := h
    refine ⟨_, pss_cons (ps_set (i := 2) scWords.nd rfl (Or.inl rfl) (pe_lst pa_nil))
      (pss_cons (ps_for (g := gName 3) PassesOwn.never rfl (pi_range1 rfl T.range (pa_cons (pv 1) pa_nil)) (pg_name (i := 3) scWords.nd rfl (Or.inl rfl))
        (pss_one (ps_expr (pe_bm PySem.F.plainAttrs_list PySem.F.slot_list_append PySem.F.type_list_append mt_append (pv 2) (pa_cons (pe_pr h1 hr rfl (pa_cons (pv 0) (pa_cons (pv 2) pa_nil))) pa_nil)))))
      (pss_one (ps_ret (pv 2)))), ?_⟩
    have hsz : sizeLine = 2 ^ 24 := by rfl
    refine ⟨by decide, fun l nl => ?_⟩
    have s1 : Same H (upd H l (.lst [])) := Same.new nl _
    have hl1 : (upd H l (.lst [])) l = some (.lst (([] : List Str).map V.str)) := upd_same
    have lp : l ≠ p := by
      obtain ⟨x, y, e, _⟩ := hp
      exact (ne_of_none e nl).symm
    have hp1 := hp.same s1
    generalize upd H l (.lst []) = H1 at s1 hl1 hp1
    refine ⟨_, rfl, n, rfl, by omega, by omega, ?_⟩
    have en : ((n : Int)).toNat = n := by omega
    rw [en]
    refine for_it (walk_range (lo := 0) (n := n)) (fun i σ H' => PotAt H' p ∧ Kp (fun c => c = p) H H' ∧ (∃ u, σ = [some (.ref p), some (.int n), some (.ref l), u]) ∧ ∃ ws : List Str, ws.length = i ∧ ws.Nodup ∧ (∀ x ∈ ws, IsName x) ∧ H' l = some (.lst (ws.map V.str)))
      ⟨hp1, Kp.of s1, ⟨none, rfl⟩, [], rfl, List.nodup_nil, fun _ h => (by cases h), hl1⟩ (fun _ _ _ _ _ => trivial) ?_ ?_
    · rintro i v σ H2 H3 hi ⟨hp2, k2, ⟨u, rfl⟩, ws, h1', h2', h3', hl2⟩ ⟨rfl, rfl⟩
      refine ⟨_, rfl, Or.inl ⟨rfl, _, SqL.of hl2⟩, _, rfl, _, rfl, p, l, ws, rfl, hp2, hl2, lp, by omega, fun H4 x hx hnx hp4 k4 => ?_⟩
      have hl4 := k4.at hl2 lp
      refine ⟨l, _, _, rfl, rfl, hl4, by rw [List.length_map]; omega, ?_⟩
      have k5 : Kp (fun c => c = l) H4 (upd H4 l (.lst (ws.map V.str ++ [.str x]))) := (Kp.refl H4 : Kp (fun c => c = l) _ _).upd (fun _ h => h) (.inl rfl) (nt_lst hl4) _
      refine ⟨hp4.mono k5 (fun e => lp e.symm), (k2.trans' k4).trans k5 (fun _ h => h) (fun c e => .inr (by rw [e]; exact nl)), ⟨_, rfl⟩, ws ++ [x], by rw [List.length_append, h1']; rfl, ?_, ?_, ?_⟩
      · rw [List.nodup_append]
        exact ⟨h2', List.pairwise_singleton _ _, fun a ha b hb => by rw [List.mem_singleton.mp hb]; exact fun e => hnx (e ▸ ha)⟩
      · intro y hy
        rcases List.mem_append.mp hy with h | h
        · exact h3' y h
        · rw [List.mem_singleton.mp h]; exact hx
      · rw [upd_same, List.map_append]
        rfl
    · rintro σ H2 ⟨hp2, k2, ⟨u, rfl⟩, ws, h1', h2', h3', hl2⟩
      exact ⟨_, rfl, q H2 l ws h1' h2' h3' hl2 nl hp2 k2⟩
def spMixed : Sp := fun vs H Q _ => ∃ (p a : Addr) (ws : List Str), vs = [.ref p, .ref a] ∧ PotAt H p ∧ H a = some (.lst (ws.map V.str)) ∧ (∀ x ∈ ws, IsName x) ∧ ws.length ≤ 50 ∧ ∀ (H' : Hp) (l : Addr) (zs : List Str), zs.Perm ws → H' l = some (.lst (zs.map V.str)) → H l = none → PotAt H' p → Kp (fun c => c = p) H H' → Q (.ref l) H'
theorem scMixed : FnScope ["_law_pot_here", "_law_options", "_law_rest", "_law_found"] ["_law_pot_here", "_law_options"] (defScope sMixed) := ⟨rfl, rfl, rfl, by decide +kernel, rfl, by decide +kernel, by decide +kernel⟩
theorem ok_mixed (F : FnF K mg "_law_mixed" sMixed [] [] fa fd) (T : G0 K mg aV aP) (h1 : Pr P w K mg base "_law_draw" ["_law_pot_here", "_law_bound"] [] 1 spDraw) : Pr P w K mg base "_law_mixed" ["_law_pot_here", "_law_options"] [] 2 spMixed := by
  refine ⟨fa, fd, [], F.mg_, F.fn.kp, F.fn.ok0 scMixed (fun vs H Q E h => ?_) (fun cdv A outer s H vs Q E hr h => ?_), .nil, F.fn.bindsN fun _ _ _ _ _ _ us hl => match us, hl with | [_, _], _ => rfl⟩
  · obtain ⟨p, a, ws, rfl, _⟩ := h
    rfl
  · obtain ⟨p, a, ws, rfl, hp, ha, hnm, hln, q⟩ := h
    have hu64 := hu64_of hr
    refine ⟨_, pss_cons (ps_par (i := 2) (j := 3) rfl scMixed.nd rfl rfl (by decide) rfl rfl (pa_cons (pe_callTy call_list_of rfl T.list (by decide +kernel) (pa_cons (pv 1) pa_nil)) (pa_cons (pe_lst pa_nil) pa_nil)) rfl)
      (pss_cons (ps_while PassesOwn.never (pt_cmpR (op_neD hu64) (pv 2) (pe_lst pa_nil) (nomark _))
        (pss_one (ps_expr (pe_bm PySem.F.plainAttrs_list PySem.F.slot_list_append PySem.F.type_list_append mt_append (pv 3) (pa_cons (pe_bm PySem.F.plainAttrs_list PySem.F.slot_list_pop PySem.F.type_list_pop mt_popAt (pv 2) (pa_cons (pe_pr h1 hr rfl (pa_cons (pv 0) (pa_cons (pe_callB call_len rfl T.len PySem.boot_len (pa_cons (pv 2) pa_nil)) pa_nil))) pa_nil)) pa_nil)))))
      (pss_one (ps_ret (pv 3)))), ?_⟩
    have hsz : sizeLine = 2 ^ 24 := by rfl
    refine ⟨_, rfl, a, _, rfl, .inl (SqL.of ha), fun r nr => ?_⟩
    have s1 : Same H (upd H r (.lst (ws.map V.str))) := Same.new nr _
    have hr1 : (upd H r (.lst (ws.map V.str))) r = some (.lst (ws.map V.str)) := upd_same
    have rp : r ≠ p := by
      obtain ⟨x, y, e, _⟩ := hp
      exact (ne_of_none e nr).symm
    have hp1 := hp.same s1
    generalize upd H r (.lst (ws.map V.str)) = H1 at s1 hr1 hp1
    refine ⟨by decide, fun l nl => ?_⟩
    have s2 : Same H1 (upd H1 l (.lst [])) := Same.new nl _
    have hl2 : (upd H1 l (.lst [])) l = some (.lst (([] : List Str).map V.str)) := upd_same
    have nl0 := s1.free nl
    have lp : l ≠ p := by
      obtain ⟨x, y, e, _⟩ := hp1
      exact (ne_of_none e nl).symm
    have lr : r ≠ l := ne_of_none hr1 nl
    have hp2 := hp1.same s2
    have hr2 := s2 _ _ hr1
    refine ⟨_, _, rfl, ?_⟩
    refine ⟨fun m σ H' => ∃ zs fs : List Str, m = zs.length ∧ σ = [some (.ref p), some (.ref a), some (.ref r), some (.ref l)] ∧ PotAt H' p ∧ Kp (fun c => c = p) H H' ∧ (fs ++ zs).Perm ws ∧ H' r = some (.lst (zs.map V.str)) ∧ H' l = some (.lst (fs.map V.str)), ⟨_, ws, [], rfl, rfl, hp2, Kp.of (s1.trans s2), List.Perm.refl _, hr2, hl2⟩, ?_⟩
    rintro m σ H3 ⟨zs, fs, rfl, rfl, hp3, k3, hpm, hr3, hl3⟩
    have hlen : fs.length + zs.length = ws.length := by rw [← hpm.length_eq, List.length_append]
    have hnz : ∀ x ∈ zs, IsName x := fun x hx => hnm x (hpm.mem_iff.mp (List.mem_append.mpr (.inr hx)))
    refine ⟨_, rfl, by decide, fun e ne => ?_⟩
    have s4 : Same H3 (upd H3 e (.lst [])) := Same.new ne _
    have he4 : (upd H3 e (.lst [])) e = some (.lst []) := upd_same
    have hp4 := hp3.same s4
    have hr4 := s4 _ _ hr3
    have hl4 := s4 _ _ hl3
    have k4 := k3.same s4
    generalize upd H3 e (.lst []) = H4 at s4 he4 hp4 hr4 hl4 k4
    refine ne_nil hr4 he4 hnz ⟨_, rfl, ?_⟩
    by_cases hz : zs = []
    · rw [decide_eq_true hz]
      refine iteF ?_
      subst hz
      rw [List.append_nil] at hpm
      exact ⟨_, rfl, q H4 l fs hpm hl4 nl0 hp4 k4⟩
    · rw [decide_eq_false hz]
      refine iteT ?_
      have hz1 : 1 ≤ zs.length := by
        cases zs with
        | nil => exact absurd rfl hz
        | cons a r => exact Nat.succ_le_succ (Nat.zero_le _)
      refine ⟨fun σ' H' => ∃ zs' fs' : List Str, zs'.length < zs.length ∧ σ' = [some (.ref p), some (.ref a), some (.ref r), some (.ref l)] ∧ PotAt H' p ∧ Kp (fun c => c = p) H H' ∧ (fs' ++ zs').Perm ws ∧ H' r = some (.lst (zs'.map V.str)) ∧ H' l = some (.lst (fs'.map V.str)), fun σ' H' ⟨zs', fs', h1, h2⟩ => ⟨_, h1, zs', fs', rfl, h2⟩, ?_⟩
      refine ⟨_, rfl, Or.inl ⟨rfl, _, SqL.of hl4⟩, _, rfl, Or.inl ⟨rfl, _, SqL.of hr4⟩, _, rfl, _, rfl, _, (zs.map V.str).length, rfl, Or.inl ⟨_, SqL.of hr4, rfl⟩, ?_⟩
      have b200 : ((zs.map V.str).length : Int) < 2 ^ 200 := by
        have : (1000 : Int) < 2 ^ 200 := by decide +kernel
        rw [List.length_map]
        omega
      refine ⟨p, _, rfl, hp4, by rw [List.length_map]; omega, b200, fun H5 k hk hp5 k5 => ?_⟩
      rw [List.length_map] at hk
      have hkz : k < zs.length := by omega
      have hr5 := k5.at hr4 rp
      have hl5 := k5.at hl4 lp
      refine ⟨r, _, k, k, .str zs[k], rfl, rfl, hr5, by omega, by omega, ?_, by rw [List.getElem?_map, List.getElem?_eq_getElem hkz]; rfl, ?_⟩
      · rw [seqIndex_of (by omega) (by rw [List.length_map]; omega)]
        rfl
      have er : ((zs.map V.str).eraseIdx k) = (zs.eraseIdx k).map V.str := by
        exact (DT.map_erase V.str zs k).symm
      rw [er]
      have k6 : Kp (fun c => c = r) H5 (upd H5 r (.lst ((zs.eraseIdx k).map V.str))) := (Kp.refl H5 : Kp (fun c => c = r) _ _).upd (fun _ h => h) (.inl rfl) (nt_lst hr5) _
      have hl6 : (upd H5 r (.lst ((zs.eraseIdx k).map V.str))) l = some (.lst (fs.map V.str)) := by rw [upd_ne lr.symm]; exact hl5
      refine ⟨l, _, _, rfl, rfl, hl6, by rw [List.length_map]; omega, ?_⟩
      have k7 := k6.upd (T := fun c => c = r ∨ c = l) (fun _ h => .inl h) (l := l) (.inl (.inr rfl)) (nt_lst hl6) (.lst (fs.map V.str ++ [.str zs[k]]))
      refine ⟨zs.eraseIdx k, fs ++ [zs[k]], ?_, rfl, hp5.mono k7 (fun e => e.elim (fun e => rp e.symm) (fun e => lp e.symm)), (k4.trans' k5).trans k7 (fun _ h => h) (fun c e => .inr (e.elim (fun e => by rw [e]; exact nr) fun e => by rw [e]; exact nl0)), ?_, ?_, ?_⟩
      · rw [List.length_eraseIdx, if_pos hkz]
        omega
      · rw [List.append_assoc]
        exact ((erase_perm zs k _ (List.getElem?_eq_getElem hkz)).append_left fs).trans hpm
      · rw [upd_ne lr, upd_same]
      · rw [upd_same, List.map_append]
        rfl
def spInteger : Sp := fun vs H Q _ => ∃ (p : Addr), vs = [.ref p] ∧ PotAt H p ∧ ∀ H' (n : Int), n.natAbs ≤ big → PotAt H' p → Kp (fun c => c = p) H H' → Q (.int n) H'
theorem scInteger : FnScope ["_law_pot_here"] ["_law_pot_here"] (defScope sInteger) := ⟨rfl, rfl, rfl, by decide +kernel, rfl, by decide +kernel, by decide +kernel⟩
theorem ok_integer (F : FnF K mg "_law_integer" sInteger [] [] fa fd) (T : G0 K mg aV aP) (h1 : Pr P w K mg base "_law_draw" ["_law_pot_here", "_law_bound"] [] 1 spDraw) : Pr P w K mg base "_law_integer" ["_law_pot_here"] [] 2 spInteger := by
  refine ⟨fa, fd, [], F.mg_, F.fn.kp, F.fn.ok0 scInteger (fun vs H Q E h => ?_) (fun cdv A outer s H vs Q E hr h => ?_), .nil, F.fn.bindsN fun _ _ _ _ _ _ us hl => match us, hl with | [_], _ => rfl⟩
  · obtain ⟨p, rfl, _⟩ := h
    rfl
  · obtain ⟨p, rfl, hp, q⟩ := h
    refine ⟨_, pss_one (ps_ret (pe_ix ix_list (pe_lst (pa_cons (pe_op op_sub (pe_pr h1 hr rfl (pa_cons (pv 0) (pa_cons pe_int pa_nil))) pe_int)
        (pa_cons (pe_op op_add (pe_op op_sub (pe_pr h1 hr rfl (pa_cons (pv 0) (pa_cons (pe_op op_sub (pe_op op_mul pe_int (pe_op op_pow pe_int pe_int)) pe_int) pa_nil))) (pe_op op_pow pe_int pe_int)) pe_int) pa_nil)))
        (pe_callTy call_int1 rfl T.int (by decide +kernel) (pa_cons (pe_cmpR op_eq (pe_pr h1 hr rfl (pa_cons (pv 0) (pa_cons pe_int pa_nil))) pe_int (nomark _)) pa_nil)) (fun _ _ => rfl))), ?_⟩
    refine ⟨_, rfl, p, 5, rfl, hp, by decide, by decide +kernel, fun H1 d hd hp1 k1 => ?_⟩
    refine ⟨_, _, rfl, rfl, ?_⟩
    refine ⟨_, rfl, 10, 30, rfl, rfl, ⟨by decide, by decide, by decide⟩, 2, 10 ^ (30 : Int).toNat, rfl, rfl, .inl ⟨by decide, by decide⟩, 2 * 10 ^ (30 : Int).toNat, 1, rfl, rfl, ?_⟩
    refine ⟨p, 2 * 10 ^ (30 : Int).toNat - 1, rfl, hp1, by decide, by decide +kernel, fun H2 c hc hp2 k2 => ?_⟩
    refine ⟨10, 30, rfl, rfl, ⟨by decide, by decide, by decide⟩, _, _, rfl, rfl, _, 1, rfl, rfl, ?_⟩
    refine ⟨by show 2 ≤ sizeLine; decide, fun l nl => ?_⟩
    have s3 : Same H2 (upd H2 l (.lst [.int ((d : Int) - 2), .int ((c : Int) - 10 ^ (30 : Int).toNat + 1)])) := Same.new nl _
    have hl3 : (upd H2 l (.lst [.int ((d : Int) - 2), .int ((c : Int) - 10 ^ (30 : Int).toNat + 1)])) l = some (.lst [.int ((d : Int) - 2), .int ((c : Int) - 10 ^ (30 : Int).toNat + 1)]) := upd_same
    have lp : l ≠ p := by
      obtain ⟨x, y, e, _⟩ := hp2
      exact (ne_of_none e nl).symm
    refine ⟨_, rfl, p, 8, rfl, hp2.same s3, by decide, by decide +kernel, fun H4 j hj hp4 k4 => ?_⟩
    have hl4 := k4.at hl3 lp
    have kk := ((k1.trans' k2).same s3).trans' k4
    refine ⟨rfl, .inr ⟨decide (V.int (j : Int) = V.int 0), rfl, ?_⟩⟩
    have e30 : (10 : Int) ^ (30 : Int).toNat = 1000000000000000000000000000000 := by decide +kernel
    have eb : big = 1000000000000000000000000000000 := by decide +kernel
    by_cases e : V.int (j : Int) = V.int 0
    · rw [decide_eq_true e]
      refine ⟨l, _, 1, .int ((c : Int) - 10 ^ (30 : Int).toNat + 1), rfl, rfl, SqL.of hl4, atI_nat (j := 1) rfl, q H4 _ ?_ hp4 kk⟩
      rw [e30] at hc ⊢
      rw [eb]
      omega
    · rw [decide_eq_false e]
      refine ⟨l, _, 0, .int ((d : Int) - 2), rfl, rfl, SqL.of hl4, atI_nat (j := 0) rfl, q H4 _ ?_ hp4 kk⟩
      rw [eb]
      omega
end
end Cy

set_option Elab.async false
set_option linter.all false
set_option maxRecDepth 100000
set_option maxHeartbeats 4000000
/-! The law's steps. -/
namespace Cy
open PySem PySem.Spec PyProof.Rows L2
abbrev sLocal : Stmt := top 52
abbrev sReadStep : Stmt := top 53
theorem abcd_items : (("abcd" : Str)).cps.toList.map (fun c => V.str ⟨#[c]⟩) = vrs.map V.str := by
  have e : (("abcd" : Str)).cps.toList = [97, 98, 99, 100] := by decide +kernel
  have e1 : (⟨#[97]⟩ : Str) = "a" := by decide +kernel
  have e2 : (⟨#[98]⟩ : Str) = "b" := by decide +kernel
  have e3 : (⟨#[99]⟩ : Str) = "c" := by decide +kernel
  have e4 : (⟨#[100]⟩ : Str) = "d" := by decide +kernel
  rw [e]
  simp only [List.map_cons, List.map_nil, e1, e2, e3, e4]
theorem PotAt.ne {H : Hp} {p l : Addr} (h : PotAt H p) (n : H l = none) : l ≠ p := by
  obtain ⟨x, y, e, _⟩ := h
  exact (ne_of_none e n).symm
/-- choice(pot, "abcd") -/
theorem abcd_choice {H : Hp} {p : Addr} {Q : VK} (hp : PotAt H p) (q : ∀ H' x, x ∈ vrs → PotAt H' p → Kp (fun c => c = p) H H' → Q (.str x) H') : spChoice [.ref p, .str "abcd"] H Q E0 := by
  refine ⟨p, .str "abcd", vrs.map V.str, rfl, hp, .inl ⟨_, rfl, abcd_items.symm⟩, by decide, by decide, fun H' v hv hp' k => ?_⟩
  obtain ⟨x, hx, rfl⟩ := List.mem_map.mp hv
  exact q H' x hx hp' k
/-- choice(pot, names) -/
theorem list_choice {H : Hp} {p a : Addr} {ws : List Str} {Q : VK} (hp : PotAt H p) (ha : H a = some (.lst (ws.map V.str))) (na : a ≠ p) (h1 : 1 ≤ ws.length) (h2 : ws.length ≤ 1000) (q : ∀ H' x, x ∈ ws → PotAt H' p → Kp (fun c => c = p) H H' → Q (.str x) H') : spChoice [.ref p, .ref a] H Q E0 := by
  refine ⟨p, .ref a, ws.map V.str, rfl, hp, .inr ⟨a, rfl, na, ha⟩, by rw [List.length_map]; exact h1, by rw [List.length_map]; exact h2, fun H' v hv hp' k => ?_⟩
  obtain ⟨x, hx, rfl⟩ := List.mem_map.mp hv
  exact q H' x hx hp' k
theorem lt200 {n : Int} (h : n ≤ 1000000) : n < 2 ^ 200 := by
  have : (1000000 : Int) < 2 ^ 200 := by decide +kernel
  omega
section
variable {P : Program} {w : World} {K : PySem.W.Frag} {mg : Str → Option Value} {base : Heap} {aV aP aF CL CF CP : Addr} {fk : Str → Addr} {fa : Addr} {fd : FuncData}
/-- labels: some names -/
structure LabAt (H : Hp) (p lb : Addr) (ls : List Str) : Prop where
  at_ : H lb = some (.lst (ls.map V.str))
  ne : lb ≠ p
  lo : 1 ≤ ls.length
  hi : ls.length ≤ 100
  nm : ∀ x ∈ ls, IsName x
theorem LabAt.kp {H H' : Hp} {p lb : Addr} {ls : List Str} (h : LabAt H p lb ls) (e : Kp (fun c => c = p) H H') : LabAt H' p lb ls := ⟨e.at h.at_ h.ne, h.ne, h.lo, h.hi, h.nm⟩
def spLocal : Sp := fun vs H Q _ => ∃ (p : Addr) (room : Nat) (lb : Addr) (main : Bool) (ls : List Str), vs = [.ref p, .int room, .ref lb, .bl main] ∧ PotAt H p ∧ room ≤ 100 ∧ LabAt H p lb ls ∧
  ∀ (H' : Hp) (a : Addr) (s : Stp), (∀ names rk r, WfS names rk r main room s) → H' a = some (.tup (sv s)) → PotAt H' p → Kp (fun c => c = p) H H' → Q (.ref a) H'
theorem scLocal : FnScope ["_law_pot_here", "_law_room", "_law_labels", "_law_is_main", "_law_word_here", "_law_one", "_law_other"] ["_law_pot_here", "_law_room", "_law_labels", "_law_is_main"] (defScope sLocal) := ⟨rfl, rfl, rfl, by decide +kernel, rfl, by decide +kernel, by decide +kernel⟩
theorem ok_local_step (F : FnF K mg "_law_local_step" sLocal [] [] fa fd) (T : G0 K mg aV aP) (h1 : Pr P w K mg base "_law_draw" ["_law_pot_here", "_law_bound"] [] 1 spDraw) (h2 : Pr P w K mg base "_law_choice" ["_law_pot_here", "_law_options"] [] 2 spChoice) (h3 : Pr P w K mg base "_law_integer" ["_law_pot_here"] [] 2 spInteger) :
    Pr P w K mg base "_law_local_step" ["_law_pot_here", "_law_room", "_law_labels", "_law_is_main"] [] 3 spLocal := by
  refine ⟨fa, fd, [], F.mg_, F.fn.kp, F.fn.ok0 scLocal (fun vs H Q E h => ?_) (fun cdv A outer s H vs Q E hr h => ?_), .nil, F.fn.bindsN fun _ _ _ _ _ _ us hl => match us, hl with | [_, _, _, _], _ => rfl⟩
  · obtain ⟨p, room, lb, main, ls, rfl, _⟩ := h
    rfl
  · obtain ⟨p, room, lb, main, ls, rfl, hp, hroom, lab, q⟩ := h
    have hr1 : Room 1 _ := hr.mono (by decide)
    refine ⟨_, pss_mid (ps_set (i := 4) scLocal.nd rfl (Or.inl rfl) (pe_ix ix_list (pe_lst (pa_cons pe_str (pa_cons pe_str (pa_cons pe_str (pa_cons pe_str (pa_cons pe_str (pa_cons pe_str pa_nil))))))) (pe_pr h1 hr1 rfl (pa_cons (pv 0) (pa_cons (pe_ifExp (pt_val (pv 3)) pe_int pe_int) pa_nil))) (fun _ _ => rfl)))
      (pss_cons (ps_par (i := 5) (j := 6) rfl scLocal.nd rfl rfl (by decide) rfl rfl (pa_cons (pe_pr h2 hr rfl (pa_cons (pv 0) (pa_cons pe_str pa_nil))) (pa_cons (pe_pr h2 hr rfl (pa_cons (pv 0) (pa_cons pe_str pa_nil))) pa_nil)) rfl)
      (pss_cons (ps_if (PW.pt (pw_or (pt_cmpR op_eq (pv 4) pe_str (nomark _)) (pw_or1 (PW.pt (pw_and (pt_cmpR op_eq (pv 4) pe_str (nomark _)) (pw_and1 (pt_cmpR op_lt (pv 1) pe_int (nomark _)))))))) 
          (pss_one (ps_ret (pe_tup (pa_cons pe_str (pa_cons (pv 5) (pa_cons (pe_pr h3 hr rfl (pa_cons (pv 0) pa_nil)) pa_nil)))))) pss_nil)
      (pss_cons (ps_if (pt_cmpR op_eq (pv 4) pe_str (nomark _)) (pss_one (ps_ret (pe_tup (pa_cons pe_str (pa_cons (pv 5) (pa_cons (pv 6) pa_nil)))))) pss_nil)
      (pss_one (ps_ret (pe_ifExp (pt_cmpR op_eq (pv 4) pe_str (nomark _))
        (pe_tup (pa_cons pe_str (pa_cons (pv 5) (pa_cons (pe_op op_add pe_int (pe_pr h1 hr1 rfl (pa_cons (pv 0) (pa_cons (pv 1) pa_nil)))) pa_nil))))
        (pe_tup (pa_cons pe_str (pa_cons (pe_pr h2 hr rfl (pa_cons (pv 0) (pa_cons (pv 2) pa_nil))) (pa_cons (pv 5) pa_nil)))))))))), ?_⟩
    refine ⟨fun σ' H' => ∃ x ∈ ([("set" : Str), "add", "skip", "export"] : List Str), (main = true → x ≠ "export") ∧ σ' = [some (.ref p), some (.int room), some (.ref lb), some (.bl main), some (.str x), none, none] ∧ PotAt H' p ∧ Kp (fun c => c = p) H H', ?_, ?_⟩
    · refine ⟨by show 6 ≤ sizeLine; decide, fun l nl => ?_⟩
      have s1 : Same H (upd H l (.lst (([("set" : Str), "set", "add", "skip", "export", "export"] : List Str).map V.str))) := Same.new nl _
      have hl1 : (upd H l (.lst (([("set" : Str), "set", "add", "skip", "export", "export"] : List Str).map V.str))) l = some (.lst (([("set" : Str), "set", "add", "skip", "export", "export"] : List Str).map V.str)) := upd_same
      have lp := hp.ne nl
      have nsx : ¬ ("set" : Str) = "export" := by decide +kernel
      have nax : ¬ ("add" : Str) = "export" := by decide +kernel
      have nkx : ¬ ("skip" : Str) = "export" := by decide +kernel
      have fin : ∀ (H2 : Hp) (j : Nat), (j : Int) < (if main = true then 4 else 6) → PotAt H2 p → Kp (fun c => c = p) (upd H l (.lst (([("set" : Str), "set", "add", "skip", "export", "export"] : List Str).map V.str))) H2 →
          rIxL K (.ref l) (.int j) H2 (fun x H1 => gName 4 x [some (.ref p), some (.int room), some (.ref lb), some (.bl main), none, none, none] H1 (fun σ' H' => ∃ x ∈ ([("set" : Str), "add", "skip", "export"] : List Str), (main = true → x ≠ "export") ∧ σ' = [some (.ref p), some (.int room), some (.ref lb), some (.bl main), some (.str x), none, none] ∧ PotAt H' p ∧ Kp (fun c => c = p) H H')) := fun H2 j hj hp2 k2 => by
        have hl2 := k2.at hl1 lp
        have k02 : Kp (fun c => c = p) H H2 := ((Kp.of s1 : Kp (fun c => c = p) _ _)).trans' k2
        have fin2 : ∀ x, x ∈ ([("set" : Str), "add", "skip", "export"] : List Str) → (main = true → x ≠ "export") → (([("set" : Str), "set", "add", "skip", "export", "export"] : List Str).map V.str)[j]? = some (.str x) → _ := fun x hx hm e =>
          (⟨l, _, j, .str x, rfl, rfl, SqL.of hl2, atI_nat e, x, hx, hm, rfl, hp2, k02⟩ : rIxL K (.ref l) (.int j) H2 (fun x H1 => gName 4 x [some (.ref p), some (.int room), some (.ref lb), some (.bl main), none, none, none] H1 (fun σ' H' => ∃ x ∈ ([("set" : Str), "add", "skip", "export"] : List Str), (main = true → x ≠ "export") ∧ σ' = [some (.ref p), some (.int room), some (.ref lb), some (.bl main), some (.str x), none, none] ∧ PotAt H' p ∧ Kp (fun c => c = p) H H')))
        have hj6 : j < 6 := by split at hj <;> omega
        have hm4 : main = true → j < 4 := fun h => by rw [if_pos h] at hj; omega
        rcases (by omega : j = 0 ∨ j = 1 ∨ j = 2 ∨ j = 3 ∨ j = 4 ∨ j = 5) with rfl | rfl | rfl | rfl | rfl | rfl
        · exact fin2 "set" (by simp) (fun _ => nsx) rfl
        · exact fin2 "set" (by simp) (fun _ => nsx) rfl
        · exact fin2 "add" (by simp) (fun _ => nax) rfl
        · exact fin2 "skip" (by simp) (fun _ => nkx) rfl
        · exact fin2 "export" (by simp) (fun h => by have := hm4 h; omega) rfl
        · exact fin2 "export" (by simp) (fun h => by have := hm4 h; omega) rfl
      refine ⟨_, rfl, _, rfl, main, rfl, ?_⟩
      cases main with
      | true => exact iteT ⟨p, 4, rfl, hp.same s1, by decide, by decide +kernel, fun H2 j hj hp2 k2 => fin H2 j (by rw [if_pos rfl]; exact hj) hp2 k2⟩
      | false => exact iteF ⟨p, 6, rfl, hp.same s1, by decide, by decide +kernel, fun H2 j hj hp2 k2 => fin H2 j (by rw [if_neg Bool.false_ne_true]; exact hj) hp2 k2⟩
    rintro σ' H1 ⟨x, hx, hxm, rfl, hp1, k1⟩
    refine ⟨_, rfl, abcd_choice hp1 fun H2 one h1v hp2 k2 => ?_⟩
    refine ⟨_, rfl, abcd_choice hp2 fun H3 oth h2v hp3 k3 => ?_⟩
    have k03 := (k1.trans' k2).trans' k3
    refine ⟨_, _, rfl, ?_⟩
    have lab3 := lab.kp k03
    -- the ends
    have fSet : ∀ (H4 : Hp), PotAt H4 p → Kp (fun c => c = p) H H4 → (tRet (tTup (tCons (tC (.str "set")) (tCons (tVar 5) (tCons (tCall spInteger [] E0 (tCons (tVar 0) tNil)) tNil))))) ({ nx := fun _ H' => Q .non H', rt := Q } : Ends) [some (.ref p), some (.int room), some (.ref lb), some (.bl main), some (.str x), some (.str one), some (.str oth)] H4 := fun H4 hp4 k4 => by
      refine ⟨_, rfl, _, rfl, p, rfl, hp4, fun H5 n hn hp5 k5 => ⟨by show 3 ≤ sizeLine; decide, fun t nt => ?_⟩⟩
      exact q _ t (.set one n) (fun _ _ _ => ⟨h1v, hn⟩) upd_same (hp5.same (Same.new nt _)) ((k4.trans' k5).same (Same.new nt _))
    refine ⟨_, rfl, rfl, decide (x = "set"), congrArg V.bl (str_dec _ _), ?_⟩
    refine ite2 (fun e => iteT (fSet H3 hp3 k03)) (fun e => ?_)
    have e1 : ¬ x = "set" := fun h => e (decide_eq_true h)
    have tail : (tSeq (tIfS (tTest (tOp rEq (tVar 4) (tC (.str "add")))) (tRet (tTup (tCons (tC (.str "add")) (tCons (tVar 5) (tCons (tVar 6) tNil))))) tNext)
        (tRet (tIf (tTest (tOp rEq (tVar 4) (tC (.str "skip")))) (tTup (tCons (tC (.str "skip")) (tCons (tVar 5) (tCons (tOp (rI0 fun i j => .int (i + j)) (tC (.int 1)) (tCall spDraw [] E0 (tCons (tVar 0) (tCons (tVar 1) tNil)))) tNil)))) (tTup (tCons (tC (.str "export")) (tCons (tCall spChoice [] E0 (tCons (tVar 0) (tCons (tVar 2) tNil))) (tCons (tVar 5) tNil)))))))
        ({ nx := fun _ H' => Q .non H', rt := Q } : Ends) [some (.ref p), some (.int room), some (.ref lb), some (.bl main), some (.str x), some (.str one), some (.str oth)] H3 ∨ (x = "skip" ∧ room < 1) := by
      by_cases hskip : x = "skip" ∧ room < 1
      · exact .inr hskip
      refine .inl ?_
      refine ⟨_, rfl, rfl, decide (x = "add"), congrArg V.bl (str_dec _ _), ?_⟩
      refine ite2 (fun e => ?_) (fun e => ?_)
      · refine ⟨_, rfl, _, rfl, by show 3 ≤ sizeLine; decide, fun t nt => ?_⟩
        exact q _ t (.add one oth) (fun _ _ _ => ⟨h1v, h2v⟩) upd_same (hp3.same (Same.new nt _)) (k03.same (Same.new nt _))
      have e2 : ¬ x = "add" := fun h => e (decide_eq_true h)
      refine ⟨_, rfl, rfl, decide (x = "skip"), congrArg V.bl (str_dec _ _), ?_⟩
      refine ite2 (fun e => ?_) (fun e => ?_)
      · have e3 : x = "skip" := of_decide_eq_true e
        have hroom1 : 1 ≤ room := by
          by_cases h : room < 1
          · exact absurd ⟨e3, h⟩ hskip
          · omega
        refine ⟨_, rfl, _, rfl, _, rfl, p, room, rfl, hp3, by omega, lt200 (by omega), fun H4 k hk hp4 k4 => ?_⟩
        refine ⟨_, _, rfl, rfl, by show 3 ≤ sizeLine; decide, fun t nt => ?_⟩
        have ek : (1 : Int) + (k : Int) = ((1 + k : Nat) : Int) := by omega
        refine q _ t (.skip one (1 + k)) (fun _ _ _ => ⟨h1v, by omega, by omega⟩) ?_ (hp4.same (Same.new nt _)) ((k03.trans' k4).same (Same.new nt _))
        show (upd H4 t (.tup [.str "skip", .str one, .int ((1 : Int) + (k : Int))])) t = some (.tup [.str "skip", .str one, .int ((1 + k : Nat) : Int)])
        rw [ek, upd_same]
      · have e3 : ¬ x = "skip" := fun h => e (decide_eq_true h)
        have e4 : x = "export" := by
          simp only [List.mem_cons, List.not_mem_nil, or_false] at hx
          rcases hx with h | h | h | h
          · exact absurd h e1
          · exact absurd h e2
          · exact absurd h e3
          · exact h
        have em : main = false := by
          cases main with
          | false => rfl
          | true => exact absurd e4 (hxm rfl)
        have hlab := lab3.hi
        refine ⟨_, rfl, _, rfl, list_choice hp3 lab3.at_ lab3.ne lab3.lo (by omega) fun H4 l hl hp4 k4 => ?_⟩
        refine ⟨_, rfl, by show 3 ≤ sizeLine; decide, fun t nt => ?_⟩
        exact q _ t (.exp l one) (fun _ _ _ => ⟨em, lab3.nm l hl, h1v⟩) upd_same (hp4.same (Same.new nt _)) ((k03.trans' k4).same (Same.new nt _))
    refine ⟨_, rfl, rfl, decide (x = "skip"), congrArg V.bl (str_dec _ _), ?_⟩
    refine ite2 (fun e => ?_) (fun e => iteF (tail.resolve_right fun h => e (decide_eq_true h.1)))
    refine ⟨_, rfl, room, 1, rfl, rfl, _, rfl, ?_⟩
    refine ite2 (fun e => fSet H3 hp3 k03) (fun e => tail.resolve_right fun h => e (decide_eq_true (by omega)))
end
end Cy

set_option Elab.async false
set_option linter.all false
set_option maxRecDepth 100000
set_option maxHeartbeats 4000000
/-! The law's reading steps and programs. -/
namespace Cy
open PySem PySem.Spec PyProof.Rows L2
abbrev sReadS : Stmt := top 53
abbrev sProgram : Stmt := top 54
def asksN : Stp → List Str
  | .need m => [m]
  | .try_ m _ => [m]
  | _ => []
theorem asksN_sub (s : Stp) : ∀ m ∈ asksN s, m ∈ asks s := by
  cases s with
  | need m => exact fun _ h => h
  | try_ m x => exact fun _ h => h
  | read x m l => exact fun _ h => by cases h
  | set x n => exact fun _ h => by cases h
  | add x y => exact fun _ h => by cases h
  | skip x n => exact fun _ h => by cases h
  | exp l x => exact fun _ h => by cases h
  | fail => exact fun _ h => by cases h
theorem word_nt (s : Stp) : decide (word s ∈ ([("need" : Str), "try"] : List Str)) = !(asksN s).isEmpty := by
  have h : ∀ x ∈ ([("set" : Str), "add", "skip", "export", "read", "fail"] : List Str), ¬ x ∈ ([("need" : Str), "try"] : List Str) := by decide +kernel
  cases s with
  | set _ _ => exact decide_eq_false (h _ (by simp [word]))
  | add _ _ => exact decide_eq_false (h _ (by simp [word]))
  | skip _ _ => exact decide_eq_false (h _ (by simp [word]))
  | exp _ _ => exact decide_eq_false (h _ (by simp [word]))
  | read _ _ _ => exact decide_eq_false (h _ (by simp [word]))
  | need _ => exact decide_eq_true (by simp [word])
  | try_ _ _ => exact decide_eq_true (by simp [word])
  | fail => exact decide_eq_false (h _ (by simp [word]))
def knownOf (p : List Stp) : List Str := (p.map asksN).flatten
theorem knownOf_len (p : List Stp) : (knownOf p).length ≤ p.length := by
  unfold knownOf
  induction p with
  | nil => exact Nat.le_refl _
  | cons s r ih =>
    rw [List.map_cons, List.flatten_cons, List.length_append, List.length_cons]
    have : (asksN s).length ≤ 1 := by cases s <;> first | exact Nat.le_refl 1 | exact Nat.zero_le 1
    omega
section
variable {P : Program} {w : World} {K : PySem.W.Frag} {mg : Str → Option Value} {base : Heap} {aV aP aF CL CF CP : Addr} {fk : Str → Addr} {fa : Addr} {fd : FuncData}
/-- targets: some names -/
structure TgtAt (H : Hp) (p tg : Addr) (ts : List Str) : Prop where
  at_ : H tg = some (.lst (ts.map V.str))
  ne : tg ≠ p
  hi : ts.length ≤ 50
  nm : ∀ x ∈ ts, IsName x
theorem TgtAt.kp {H H' : Hp} {p tg : Addr} {ts : List Str} (h : TgtAt H p tg ts) (e : Kp (fun c => c = p) H H') : TgtAt H' p tg ts := ⟨e.at h.at_ h.ne, h.ne, h.hi, h.nm⟩
def spReadS : Sp := fun vs H Q _ => ∃ (p tg lb er : Addr) (ts ls : List Str) (xs : List V) (prog : List Stp), vs = [.ref p, .ref tg, .ref lb, .ref er] ∧ PotAt H p ∧ TgtAt H p tg ts ∧ 1 ≤ ts.length ∧ LabAt H p lb ls ∧ H er = some (.lst xs) ∧ er ≠ p ∧ Steps H xs prog ∧ prog.length ≤ 10 ∧ (∀ s ∈ prog, ∀ m ∈ asksN s, m ∈ ts) ∧
  ∀ (H' : Hp) (a : Addr) (x m l : Str), x ∈ vrs → m ∈ ts → IsName l → H' a = some (.tup (sv (.read x m l))) → PotAt H' p → Kp (fun c => c = p) H H' → Q (.ref a) H'
theorem scReadS : FnScope ["_law_pot_here", "_law_targets", "_law_labels", "_law_earlier", "_law_known", "_law_module", "_law_step"] ["_law_pot_here", "_law_targets", "_law_labels", "_law_earlier"] (defScope sReadS) := ⟨rfl, rfl, rfl, by decide +kernel, rfl, by decide +kernel, by decide +kernel⟩
theorem ok_read_step (F : FnF K mg "_law_read_step" sReadS [] [] fa fd) (T : G0 K mg aV aP) (h2 : Pr P w K mg base "_law_choice" ["_law_pot_here", "_law_options"] [] 2 spChoice) :
    Pr P w K mg base "_law_read_step" ["_law_pot_here", "_law_targets", "_law_labels", "_law_earlier"] [] 3 spReadS := by
  refine ⟨fa, fd, [], F.mg_, F.fn.kp, F.fn.ok0 scReadS (fun vs H Q E h => ?_) (fun cdv A outer s H vs Q E hr h => ?_), .nil, F.fn.bindsN fun _ _ _ _ _ _ us hl => match us, hl with | [_, _, _, _], _ => rfl⟩
  · obtain ⟨p, tg, lb, er, ts, ls, xs, prog, rfl, _⟩ := h
    rfl
  · obtain ⟨p, tg, lb, er, ts, ls, xs, prog, rfl, hp, tgt, ht1, lab, her, nep, hst, hpl, hak, q⟩ := h
    refine ⟨_, pss_cons (ps_setLc (i := 4) (own := [("_law_step", 6)]) (g := gName 6) (tt := tTest (tOp (rIn K false) (tOp (rIxT K) (tVar 6) (tC (.int 0))) (tTup (tCons (tC (.str "need")) (tCons (tC (.str "try")) tNil))))) (te := tOp (rIxT K) (tVar 6) (tC (.int 1))) rfl scReadS.nd rfl rfl (sw_true rfl rfl rfl (by rfl)) (pi_list (pv 3))
            (blkOk_by (N := ["_law_pot_here", "_law_targets", "_law_labels", "_law_earlier", "_law_known", "_law_module", "_law_step"]) (sc := defScope sReadS) (by decide +kernel))
            (fun _ _ _ _ _ => pg_name (i := 6) scReadS.nd rfl (Or.inl rfl)) (fun _ _ _ _ _ => pts_one (pt_cmpR op_in_seq (pe_ix ix_tup (pv 6) pe_int (fun _ _ => rfl)) (pe_tup (pa_cons pe_str (pa_cons pe_str pa_nil))) (by rfl)))
            (fun _ _ _ _ _ => pe_ix ix_tup (pv 6) pe_int (fun _ _ => rfl)))
      (pss_cons (ps_set (i := 5) scReadS.nd rfl (Or.inl rfl) (pe_pr h2 hr rfl (pa_cons (pv 0) (pa_cons (pe_op op_cat (pe_op op_cat (pe_op op_cat (pv 1) (pv 4)) (pv 4)) (pv 4)) pa_nil))))
      (pss_one (ps_ret (pe_tup (pa_cons pe_str (pa_cons (pe_pr h2 hr rfl (pa_cons (pv 0) (pa_cons pe_str pa_nil))) (pa_cons (pv 5) (pa_cons (pe_pr h2 hr rfl (pa_cons (pv 0) (pa_cons (pv 2) pa_nil))) pa_nil)))))))), ?_⟩
    have hsz : sizeLine = 2 ^ 24 := by rfl
    have elx : xs.length = prog.length := Paired.len hst
    refine ⟨_, rfl, er, rfl, ⟨xs, SqL.of her⟩, fun D nD => ?_⟩
    have Dp := hp.ne nD
    refine lc_it (walk_list (xs := xs)) (fun i H' => Same H H' ∧ H' D = some (.lst ((knownOf (prog.take i)).map V.str))) ⟨Same.new nD _, upd_same⟩ (fun i H' _ h => SqL.of (h.1 _ _ her)) ?_ ?_
    · rintro i v H2 H1 hi ⟨t1, hD1⟩ ⟨rfl, ei⟩
      obtain ⟨s, es, a, rfl, ha⟩ := Paired.at hst i v ei
      have ha1 := t1 _ _ ha
      refine ⟨rfl, ?_⟩
      refine ⟨_, rfl, a, sv s, _, _, rfl, rfl, SqT.of ha1, atI_nat (sv_0 s), ?_⟩
      refine ⟨by show 2 ≤ sizeLine; decide, fun t nt => ?_⟩
      have t2 : Same H1 (upd H1 t (.tup [.str "need", .str "try"])) := Same.new nt _
      have tD : D ≠ t := ne_of_none hD1 nt
      refine ⟨t, [.str "need", .str "try"], rfl, Or.inr (SqT.of upd_same), rfl, by decide, !(asksN s).isEmpty, ?_, ?_⟩
      · show V.bl (if false = true then !inV (V.str (word s)) (([("need" : Str), "try"] : List Str).map V.str) else inV (V.str (word s)) (([("need" : Str), "try"] : List Str).map V.str)) = _
        rw [if_neg Bool.false_ne_true, inV_strs, word_nt]
      have ek : knownOf (prog.take (i + 1)) = knownOf (prog.take i) ++ asksN s := by
        have et : prog.take (i + 1) = prog.take i ++ [s] := by rw [List.take_add_one, es]; rfl
        unfold knownOf
        rw [et, List.map_append, List.flatten_append]
        simp
      refine ite2 (fun e => ?_) (fun e => ?_)
      · obtain ⟨m, e1, e2⟩ : ∃ m, (sv s)[1]? = some (.str m) ∧ asksN s = [m] := by
          cases s with
          | need m => exact ⟨m, rfl, rfl⟩
          | try_ m x => exact ⟨m, rfl, rfl⟩
          | _ => cases e
        refine ⟨_, rfl, a, sv s, 1, .str m, rfl, rfl, SqT.of (t2 _ _ ha1), atI_nat (j := 1) e1, _, by rw [upd_ne tD]; exact hD1, ?_, (t1.trans t2).upd nD _, ?_⟩
        · rw [List.length_map]
          have := knownOf_len (prog.take i)
          rw [List.length_take] at this
          omega
        · rw [upd_same, ek, e2, List.map_append]
          rfl
      · refine ⟨t1.trans t2, ?_⟩
        have e2 : asksN s = [] := by
          cases h : asksN s with
          | nil => rfl
          | cons a r => rw [h] at e; exact absurd rfl e
        rw [ek, e2, List.append_nil, upd_ne tD]
        exact hD1
    · rintro H1 ⟨t1, hD1⟩
      rw [elx, List.take_length] at hD1
      have hk := knownOf_len prog
      have htg1 := t1 _ _ tgt.at_
      have hp1 := hp.same t1
      have nD0 := nD
      have htl := tgt.hi
      refine ⟨_, rfl, _, rfl, _, rfl, tg, D, _, _, rfl, rfl, htg1, hD1, by rw [List.length_map, List.length_map]; omega, fun c1 n1 => ?_⟩
      have t2 : Same H1 (upd H1 c1 (.lst (ts.map V.str ++ (knownOf prog).map V.str))) := Same.new n1 _
      have hc1 : (upd H1 c1 (.lst (ts.map V.str ++ (knownOf prog).map V.str))) c1 = some (.lst (ts.map V.str ++ (knownOf prog).map V.str)) := upd_same
      generalize upd H1 c1 (.lst (ts.map V.str ++ (knownOf prog).map V.str)) = H2 at t2 hc1
      refine ⟨_, rfl, c1, D, _, _, rfl, rfl, hc1, t2 _ _ hD1, by rw [List.length_append, List.length_map, List.length_map]; omega, fun c2 n2 => ?_⟩
      have t3 : Same H2 (upd H2 c2 (.lst (ts.map V.str ++ (knownOf prog).map V.str ++ (knownOf prog).map V.str))) := Same.new n2 _
      have hc2 : (upd H2 c2 (.lst (ts.map V.str ++ (knownOf prog).map V.str ++ (knownOf prog).map V.str))) c2 = some (.lst (ts.map V.str ++ (knownOf prog).map V.str ++ (knownOf prog).map V.str)) := upd_same
      generalize upd H2 c2 (.lst (ts.map V.str ++ (knownOf prog).map V.str ++ (knownOf prog).map V.str)) = H3 at t3 hc2
      refine ⟨_, rfl, c2, D, _, _, rfl, rfl, hc2, t3 _ _ (t2 _ _ hD1), by rw [List.length_append, List.length_append, List.length_map, List.length_map]; omega, fun c3 n3 => ?_⟩
      have em : ts.map V.str ++ (knownOf prog).map V.str ++ (knownOf prog).map V.str ++ (knownOf prog).map V.str = (ts ++ knownOf prog ++ knownOf prog ++ knownOf prog).map V.str := by
        rw [List.map_append, List.map_append, List.map_append]
      rw [em]
      have t4 : Same H3 (upd H3 c3 (.lst ((ts ++ knownOf prog ++ knownOf prog ++ knownOf prog).map V.str))) := Same.new n3 _
      have hc3 : (upd H3 c3 (.lst ((ts ++ knownOf prog ++ knownOf prog ++ knownOf prog).map V.str))) c3 = some (.lst ((ts ++ knownOf prog ++ knownOf prog ++ knownOf prog).map V.str)) := upd_same
      have hp3 := ((hp1.same t2).same t3)
      have nc3 := hp3.ne n3
      have t14 := ((t1.trans t2).trans t3).trans t4
      generalize upd H3 c3 (.lst ((ts ++ knownOf prog ++ knownOf prog ++ knownOf prog).map V.str)) = H4 at t4 hc3 t14
      refine list_choice (hp3.same t4) hc3 nc3 (by simp only [List.length_append]; omega) (by simp only [List.length_append]; omega) fun H5 m hm hp5 k5 => ?_
      have hmt : m ∈ ts := by
        simp only [List.mem_append] at hm
        have kn : m ∈ knownOf prog → m ∈ ts := fun h => by
          unfold knownOf at h
          obtain ⟨l, hl, hml⟩ := List.mem_flatten.mp h
          obtain ⟨s, hs, rfl⟩ := List.mem_map.mp hl
          exact hak s hs m hml
        rcases hm with ((h | h) | h) | h
        · exact h
        · exact kn h
        · exact kn h
        · exact kn h
      have k05 : Kp (fun c => c = p) H H5 := ((Kp.of t14 : Kp (fun c => c = p) _ _)).trans' k5
      refine ⟨_, rfl, abcd_choice hp5 fun H6 x hx hp6 k6 => ?_⟩
      have lab6 := lab.kp (k05.trans' k6)
      have hlab := lab6.hi
      refine ⟨_, rfl, _, rfl, _, rfl, list_choice hp6 lab6.at_ lab6.ne lab6.lo (by omega) fun H7 l hl hp7 k7 => ?_⟩
      refine ⟨by show 4 ≤ sizeLine; decide, fun t nt => ?_⟩
      exact q _ t x m l hx hmt (lab6.nm l hl) upd_same (hp7.same (Same.new nt _)) (((k05.trans' k6).trans' k7).same (Same.new nt _))
end
end Cy

set_option Elab.async false
set_option linter.all false
set_option maxRecDepth 100000
set_option maxHeartbeats 4000000
/-! The law's programs. -/
namespace Cy
open PySem PySem.Spec PyProof.Rows L2
abbrev zr : Str → Nat := fun _ => 0
theorem WfP.lift {ts names : List Str} {rk : Str → Nat} {r : Nat} {main : Bool} {p : List Stp} (w : WfP ts zr 1 main p) (h : ∀ m ∈ ts, m ∈ names ∧ rk m < r) : WfP names rk r main p := by
  refine ⟨w.len, fun i s e => ?_⟩
  have q := w.at_ i s e
  cases s with
  | read x m l => exact ⟨q.1, ⟨(h m q.2.1.1).1, q.2.1.2.1, (h m q.2.1.1).2⟩, q.2.2⟩
  | need m => exact ⟨(h m q.1).1, q.2.1, (h m q.1).2⟩
  | try_ m x => exact ⟨⟨(h m q.1.1).1, q.1.2.1, (h m q.1.1).2⟩, q.2⟩
  | set x n => exact q
  | add x y => exact q
  | skip x k => exact q
  | exp l x => exact q
  | fail => exact q
section
variable {P : Program} {w : World} {K : PySem.W.Frag} {mg : Str → Option Value} {base : Heap} {aV aP aF CL CF CP : Addr} {fk : Str → Addr} {fa : Addr} {fd : FuncData}
def spProgram : Sp := fun vs H Q _ => ∃ (p tg lb : Addr) (most : Nat) (main : Bool) (ts ls : List Str), vs = [.ref p, .ref tg, .ref lb, .int most, .bl main] ∧ PotAt H p ∧ TgtAt H p tg ts ∧ LabAt H p lb ls ∧ most ≤ 10 ∧
  ∀ (H' : Hp) (l : Addr) (xs : List V) (prog : List Stp), WfP ts zr 1 main prog → H' l = some (.lst xs) → Steps H' xs prog → H l = none → PotAt H' p → Kp (fun c => c = p) H H' → Q (.ref l) H'
theorem scProgram : FnScope ["_law_pot_here", "_law_targets", "_law_labels", "_law_most", "_law_is_main", "_law_found", "_law_size", "_law_place", "_law_way"] ["_law_pot_here", "_law_targets", "_law_labels", "_law_most", "_law_is_main"] (defScope sProgram) := ⟨rfl, rfl, rfl, by decide +kernel, rfl, by decide +kernel, by decide +kernel⟩
theorem ok_program (F : FnF K mg "_law_program" sProgram [] [] fa fd) (T : G0 K mg aV aP) (h1 : Pr P w K mg base "_law_draw" ["_law_pot_here", "_law_bound"] [] 1 spDraw) (h2 : Pr P w K mg base "_law_choice" ["_law_pot_here", "_law_options"] [] 2 spChoice)
    (h3 : Pr P w K mg base "_law_read_step" ["_law_pot_here", "_law_targets", "_law_labels", "_law_earlier"] [] 3 spReadS) (h4 : Pr P w K mg base "_law_local_step" ["_law_pot_here", "_law_room", "_law_labels", "_law_is_main"] [] 3 spLocal) :
    Pr P w K mg base "_law_program" ["_law_pot_here", "_law_targets", "_law_labels", "_law_most", "_law_is_main"] [] 4 spProgram := by
  refine ⟨fa, fd, [], F.mg_, F.fn.kp, F.fn.ok0 scProgram (fun vs H Q E h => ?_) (fun cdv A outer s H vs Q E hr h => ?_), .nil, F.fn.bindsN fun _ _ _ _ _ _ us hl => match us, hl with | [_, _, _, _, _], _ => rfl⟩
  · obtain ⟨p, tg, lb, most, main, ts, ls, rfl, _⟩ := h
    rfl
  · obtain ⟨p, tg, lb, most, main, ts, ls, rfl, hp, tgt, lab, hmost, q⟩ := h
    have hu64 := hu64_of hr
    have hr1 : Room 1 _ := hr.mono (by decide)
    have hr2 : Room 2 _ := hr.mono (by decide)
    refine ⟨_, (pss_cons (ps_par (i := 5) (j := 6) rfl scProgram.nd rfl rfl (by decide) rfl rfl (pa_cons (pe_lst pa_nil) (pa_cons (pe_pr h1 hr1 rfl (pa_cons (pv 0) (pa_cons (pe_op op_add (pv 3) pe_int) pa_nil))) pa_nil)) rfl)
        (pss_cons (ps_for (g := gName 7) PassesOwn.never rfl (pi_range1 rfl T.range (pa_cons (pv 6) pa_nil)) (pg_name (i := 7) scProgram.nd rfl (Or.inl rfl))
        (pss_cons (ps_set (i := 8) scProgram.nd rfl (Or.inl rfl) (pe_pr h1 hr1 rfl (pa_cons (pv 0) (pa_cons pe_int pa_nil))))
        (pss_one (ps_if (PW.pt (pw_and (pt_cmpR (op_neD hu64) (pv 1) (pe_lst pa_nil) (nomark _)) (pw_and1 (pt_cmpR op_lt (pv 8) pe_int (nomark _))))) (pss_one (ps_expr (pe_bm PySem.F.plainAttrs_list PySem.F.slot_list_append PySem.F.type_list_append mt_append (pv 5) (pa_cons (pe_tup (pa_cons pe_str (pa_cons (pe_pr h2 hr2 rfl (pa_cons (pv 0) (pa_cons (pv 1) pa_nil))) pa_nil))) pa_nil))))
        (pss_one (ps_if (PW.pt (pw_and (pt_cmpR (op_neD hu64) (pv 1) (pe_lst pa_nil) (nomark _)) (pw_and1 (pt_cmpR op_lt (pv 8) pe_int (nomark _))))) (pss_one (ps_expr (pe_bm PySem.F.plainAttrs_list PySem.F.slot_list_append PySem.F.type_list_append mt_append (pv 5) (pa_cons (pe_tup (pa_cons pe_str (pa_cons (pe_pr h2 hr2 rfl (pa_cons (pv 0) (pa_cons (pv 1) pa_nil))) (pa_cons (pe_pr h2 hr2 rfl (pa_cons (pv 0) (pa_cons pe_str pa_nil))) pa_nil)))) pa_nil))))
        (pss_one (ps_if (PW.pt (pw_and (pt_cmpR (op_neD hu64) (pv 1) (pe_lst pa_nil) (nomark _)) (pw_and1 (pt_cmpR op_lt (pv 8) pe_int (nomark _))))) (pss_one (ps_expr (pe_bm PySem.F.plainAttrs_list PySem.F.slot_list_append PySem.F.type_list_append mt_append (pv 5) (pa_cons (pe_pr h3 hr rfl (pa_cons (pv 0) (pa_cons (pv 1) (pa_cons (pv 2) (pa_cons (pv 5) pa_nil))))) pa_nil))))
        (pss_one (ps_if (PW.pt (pw_and (pt_cmpR op_eq (pv 8) pe_int (nomark _)) (pw_and1 (pt_cmpR op_eq (pe_pr h1 hr1 rfl (pa_cons (pv 0) (pa_cons pe_int pa_nil))) pe_int (nomark _))))) (pss_one (ps_expr (pe_bm PySem.F.plainAttrs_list PySem.F.slot_list_append PySem.F.type_list_append mt_append (pv 5) (pa_cons (pe_tup (pa_cons pe_str pa_nil)) pa_nil))))
        (pss_one (ps_expr (pe_bm PySem.F.plainAttrs_list PySem.F.slot_list_append PySem.F.type_list_append mt_append (pv 5) (pa_cons (pe_pr h4 hr rfl (pa_cons (pv 0) (pa_cons (pe_op op_sub (pe_op op_sub (pv 6) (pv 7)) pe_int) (pa_cons (pv 2) (pa_cons (pv 4) pa_nil))))) pa_nil))))))))))))))
        (pss_one (ps_ret (pv 5))))), ?_⟩
    have hsz : sizeLine = 2 ^ 24 := by rfl
    refine ⟨by decide, fun l nl => ?_⟩
    have s1 : Same H (upd H l (.lst [])) := Same.new nl _
    have hl1 : (upd H l (.lst [])) l = some (.lst []) := upd_same
    have lp := hp.ne nl
    have hp1 := hp.same s1
    generalize upd H l (.lst []) = H1 at s1 hl1 hp1
    refine ⟨_, rfl, _, rfl, most, 1, rfl, rfl, p, (most : Int) + 1, rfl, hp1, by omega, lt200 (by omega), fun H2 sz hsz2 hp2 k2 => ?_⟩
    have hsz10 : sz ≤ 10 := by omega
    refine ⟨_, _, rfl, ?_⟩
    refine ⟨_, rfl, sz, rfl, by omega, by omega, ?_⟩
    have en : ((sz : Int)).toNat = sz := by omega
    rw [en]
    have hl2 := k2.at hl1 lp
    have k02 : Kp (fun c => c = p) H H2 := ((Kp.of s1 : Kp (fun c => c = p) _ _)).trans' k2
    refine for_it (walk_range (lo := 0) (n := sz)) (fun i σ H' => PotAt H' p ∧ Kp (fun c => c = p) H H' ∧ (∃ u v, σ = [some (.ref p), some (.ref tg), some (.ref lb), some (.int most), some (.bl main), some (.ref l), some (.int sz), u, v]) ∧
        ∃ (xs : List V) (prog : List Stp), H' l = some (.lst xs) ∧ Steps H' xs prog ∧ prog.length = i ∧ ∀ j s, prog[j]? = some s → WfS ts zr 1 main (sz - 1 - j) s)
      ⟨hp2, k02, ⟨none, none, rfl⟩, [], [], hl2, .nil, rfl, fun j s h => by cases j <;> cases h⟩ (fun _ _ _ _ _ => trivial) ?_ ?_
    · rintro i v σ H3 H4 hi ⟨hp3, k3, ⟨u, v, rfl⟩, xs, prog, hl3, hst, hpl, hw⟩ ⟨rfl, rfl⟩
      have elx : xs.length = prog.length := Paired.len hst
      refine ⟨_, rfl, p, 12, rfl, hp3, by decide, by decide +kernel, fun H5 wy hwy hp5 k5 => ?_⟩
      have k05 := k3.trans' k5
      have hl5 := k5.at hl3 lp
      have hst5 := hst.monoK k5
      -- a step is appended
      have app : ∀ (H6 : Hp) (a : Addr) (s : Stp) (σ : L2.St), WfS ts zr 1 main (sz - 1 - i) s → H6 a = some (.tup (sv s)) → PotAt H6 p → Kp (fun c => c = p) H5 H6 →
          (∃ u v, σ = [some (.ref p), some (.ref tg), some (.ref lb), some (.int most), some (.bl main), some (.ref l), some (.int sz), u, v]) →
          rAppend (.ref l) [.ref a] H6 (fun _ H' => PotAt H' p ∧ Kp (fun c => c = p) H H' ∧ (∃ u v, σ = [some (.ref p), some (.ref tg), some (.ref lb), some (.int most), some (.bl main), some (.ref l), some (.int sz), u, v]) ∧
            ∃ (xs : List V) (prog : List Stp), H' l = some (.lst xs) ∧ Steps H' xs prog ∧ prog.length = i + 1 ∧ ∀ j s, prog[j]? = some s → WfS ts zr 1 main (sz - 1 - j) s) := fun H6 a s σ ws ha hp6 k6 hσ => by
        have hl6 := k6.at hl5 lp
        have k7 : Kp (fun c => c = l) H6 (upd H6 l (.lst (xs ++ [.ref a]))) := (Kp.refl H6 : Kp (fun c => c = l) _ _).upd (fun _ h => h) (.inl rfl) (nt_lst hl6) _
        refine ⟨l, xs, .ref a, rfl, rfl, hl6, by omega, hp6.mono k7 (fun e => lp e.symm), (k05.trans' k6).trans k7 (fun _ h => h) (fun c e => .inr (by rw [e]; exact nl)), hσ, xs ++ [.ref a], prog ++ [s], upd_same, ?_, by rw [List.length_append, hpl]; rfl, fun j z hz => ?_⟩
        · exact Paired.snoc ((hst5.monoK k6).monoK k7) ⟨a, rfl, k7.tup ha⟩
        · by_cases hj : j < prog.length
          · rw [List.getElem?_append_left hj] at hz
            exact hw j z hz
          · rw [List.getElem?_append_right (by omega)] at hz
            have hj2 : j - prog.length = 0 := by
              by_cases h : j - prog.length = 0
              · exact h
              · obtain ⟨n, hn⟩ : ∃ n, j - prog.length = n + 1 := ⟨j - prog.length - 1, by omega⟩
                rw [hn] at hz; cases hz
            rw [hj2] at hz
            cases hz
            have : j = i := by omega
            rw [this]
            exact ws
      -- the targets, asked once more
      have tests : ∀ (H6 : Hp), PotAt H6 p → Kp (fun c => c = p) H5 H6 → ∀ (b : Int) {Q' : Bool → Hp → Prop}, (∀ H7, PotAt H7 p → Kp (fun c => c = p) H5 H7 → ∀ r : Bool, (r = true → 1 ≤ ts.length) → Q' r H7) →
          tAnd (tTest (tOp (rNeD K) (tVar 1) (tLst tNil))) (tTest (tOp (rI0 fun i j => .bl (decide (i < j))) (tVar 8) (tC (.int b)))) [some (.ref p), some (.ref tg), some (.ref lb), some (.int most), some (.bl main), some (.ref l), some (.int sz), some (.int ((0 : Int) + (i : Nat))), some (.int wy)] H6 Q' := fun H6 hp6 k6 b Q' hq => by
        have tgt6 := tgt.kp (k05.trans' k6)
        refine ⟨_, rfl, by decide, fun e ne => ?_⟩
        have s7 : Same H6 (upd H6 e (.lst [])) := Same.new ne _
        refine ne_nil (s7 _ _ tgt6.at_) upd_same tgt6.nm ⟨_, rfl, ?_⟩
        have hp7 := hp6.same s7
        have k7 := k6.same s7
        by_cases hz : ts = []
        · rw [decide_eq_true hz]
          refine iteF ?_
          exact hq _ hp7 k7 false (fun h => by cases h)
        · rw [decide_eq_false hz]
          refine iteT ?_
          refine ⟨_, rfl, _, _, rfl, rfl, _, rfl, hq _ hp7 k7 _ (fun _ => ?_)⟩
          cases ts with
          | nil => exact absurd rfl hz
          | cons a r => exact Nat.succ_le_succ (Nat.zero_le _)
      have asksT : ∀ s ∈ prog, ∀ m ∈ asksN s, m ∈ ts := fun s hs m hm => by
        obtain ⟨j, hj⟩ := List.mem_iff_getElem?.mp hs
        have hws := hw j s hj
        cases s with
        | need a => rw [List.mem_singleton.mp hm]; exact hws.1
        | try_ a x => rw [List.mem_singleton.mp hm]; exact hws.1.1
        | read a b c => cases hm
        | set x n => cases hm
        | add x y => cases hm
        | skip x n => cases hm
        | exp a x => cases hm
        | fail => cases hm
      have hti := tgt.hi
      refine tests H5 hp5 (Kp.refl _) 4 fun H6 hp6 k6 r hr1' => ?_
      refine ite2 (fun e => ?_) (fun _ => ?_)
      · -- need
        have tgt6 := tgt.kp (k05.trans' k6)
        refine ⟨_, rfl, Or.inl ⟨rfl, _, SqL.of (k6.at hl5 lp)⟩, _, rfl, _, rfl, list_choice hp6 tgt6.at_ tgt6.ne (hr1' e) (by omega) fun H7 m hm hp7 k7 => ?_⟩
        refine ⟨by show 2 ≤ sizeLine; decide, fun t nt => ?_⟩
        exact app _ t (.need m) _ ⟨hm, tgt.nm m hm, Nat.zero_lt_one⟩ upd_same (hp7.same (Same.new nt _)) ((k6.trans' k7).same (Same.new nt _)) ⟨_, _, rfl⟩
      refine tests H6 hp6 k6 6 fun H6 hp6 k6 r hr1' => ?_
      refine ite2 (fun e => ?_) (fun _ => ?_)
      · -- try
        have tgt6 := tgt.kp (k05.trans' k6)
        refine ⟨_, rfl, Or.inl ⟨rfl, _, SqL.of (k6.at hl5 lp)⟩, _, rfl, _, rfl, list_choice hp6 tgt6.at_ tgt6.ne (hr1' e) (by omega) fun H7 m hm hp7 k7 => ?_⟩
        refine ⟨_, rfl, abcd_choice hp7 fun H8 x hx hp8 k8 => ?_⟩
        refine ⟨by show 3 ≤ sizeLine; decide, fun t nt => ?_⟩
        exact app _ t (.try_ m x) _ ⟨⟨hm, tgt.nm m hm, Nat.zero_lt_one⟩, hx⟩ upd_same (hp8.same (Same.new nt _)) (((k6.trans' k7).trans' k8).same (Same.new nt _)) ⟨_, _, rfl⟩
      refine tests H6 hp6 k6 8 fun H6 hp6 k6 r hr1' => ?_
      refine ite2 (fun e => ?_) (fun _ => ?_)
      · -- read
        have k06 := k05.trans' k6
        have hl6 := k6.at hl5 lp
        refine ⟨_, rfl, Or.inl ⟨rfl, _, SqL.of hl6⟩, _, rfl, _, rfl, _, rfl, _, rfl, ?_⟩
        refine ⟨p, tg, lb, l, ts, ls, xs, prog, rfl, hp6, tgt.kp k06, hr1' e, lab.kp k06, hl6, lp, hst5.monoK k6, by omega, asksT, fun H7 a x m lx hx hm hlx ha hp7 k7 => ?_⟩
        exact app H7 a (.read x m lx) _ ⟨hx, ⟨hm, tgt.nm m hm, Nat.zero_lt_one⟩, hlx⟩ ha hp7 (k6.trans' k7) ⟨_, _, rfl⟩
      have locals : ∀ (H7 : Hp), PotAt H7 p → Kp (fun c => c = p) H5 H7 →
          (tDrop (tBM K "list" rAppend (tVar 5) (tCons (tCall spLocal [] E0 (tCons (tVar 0) (tCons (tOp (rI0 fun i j => .int (i - j)) (tOp (rI0 fun i j => .int (i - j)) (tVar 6) (tVar 7)) (tC (.int 1))) (tCons (tVar 2) (tCons (tVar 4) tNil))))) tNil))) ({ rt := Q, nx := (fun σ H' => PotAt H' p ∧ Kp (fun c => c = p) H H' ∧ (∃ u v, σ = [some (.ref p), some (.ref tg), some (.ref lb), some (.int most), some (.bl main), some (.ref l), some (.int sz), u, v]) ∧
            ∃ (xs : List V) (prog : List Stp), H' l = some (.lst xs) ∧ Steps H' xs prog ∧ prog.length = i + 1 ∧ ∀ j s, prog[j]? = some s → WfS ts zr 1 main (sz - 1 - j) s) } : Ends) [some (.ref p), some (.ref tg), some (.ref lb), some (.int most), some (.bl main), some (.ref l), some (.int sz), some (.int ((0 : Int) + (i : Nat))), some (.int wy)] H7 := fun H7 hp7 k7 => by
        have k07 := k05.trans' k7
        have hl7 := k7.at hl5 lp
        have er : (sz : Int) - ((0 : Int) + (i : Nat)) - 1 = ((sz - 1 - i : Nat) : Int) := by omega
        refine ⟨_, rfl, Or.inl ⟨rfl, _, SqL.of hl7⟩, _, rfl, _, rfl, _, rfl, _, _, rfl, rfl, _, 1, rfl, rfl, _, rfl, _, rfl, ?_⟩
        refine ⟨p, sz - 1 - i, lb, main, ls, ?_, hp7, by omega, lab.kp k07, fun H8 a s hs ha hp8 k8 => ?_⟩
        · show [V.ref p, V.int ((sz : Int) - ((0 : Int) + (i : Nat)) - 1), V.ref lb, V.bl main] = _
          rw [er]
        · exact app H8 a s _ (hs ts zr 1) ha hp8 (k7.trans' k8) ⟨_, _, rfl⟩
      refine ⟨_, rfl, rfl, _, rfl, ?_⟩
      refine ite2 (fun e => ?_) (fun _ => iteF (locals H6 hp6 k6))
      refine ⟨_, rfl, p, 3, rfl, hp6, by decide, by decide +kernel, fun H7 z hz hp7 k7 => ?_⟩
      refine ⟨rfl, _, rfl, ?_⟩
      refine ite2 (fun e => ?_) (fun _ => locals H7 hp7 (k6.trans' k7))
      refine ⟨_, rfl, Or.inl ⟨rfl, _, SqL.of ((k6.trans' k7).at hl5 lp)⟩, by show 1 ≤ sizeLine; decide, fun t nt => ?_⟩
      exact app _ t .fail _ trivial upd_same (hp7.same (Same.new nt _)) ((k6.trans' k7).same (Same.new nt _)) ⟨_, _, rfl⟩
    · rintro σ H3 ⟨hp3, k3, ⟨u, v, rfl⟩, xs, prog, hl3, hst, hpl, hw⟩
      refine ⟨_, rfl, q H3 l xs prog ⟨by omega, fun i s e => by rw [hpl]; exact hw i s e⟩ hl3 hst nl hp3 k3⟩
end
end Cy

set_option Elab.async false
set_option linter.all false
set_option maxRecDepth 100000
set_option maxHeartbeats 4000000
/-! The law's modules: an acyclic library. -/
namespace Cy
open PySem PySem.Spec PyProof.Rows L2
abbrev sMods : Stmt := top 55
/-- how many stand behind a name -/
def rkL : List Str → Str → Nat
  | [], _ => 0
  | x :: r, m => if m = x then r.length else rkL r m
theorem rkL_at : ∀ (a b : List Str) (m : Str), (a ++ m :: b).Nodup → rkL (a ++ m :: b) m = b.length
  | [], b, m, _ => by
    show (if m = m then b.length else rkL b m) = b.length
    rw [if_pos rfl]
  | x :: a, b, m, h => by
    rw [List.cons_append, List.nodup_cons] at h
    have ne : ¬ m = x := fun e => h.1 (by rw [← e]; exact List.mem_append.mpr (.inr List.mem_cons_self))
    show (if m = x then _ else rkL (a ++ m :: b) m) = b.length
    rw [if_neg ne, rkL_at a b m h.2]
theorem rkL_lt : ∀ (l : List Str) (m : Str), m ∈ l → rkL l m < l.length
  | [], m, h => by cases h
  | x :: r, m, h => by
    show (if m = x then r.length else rkL r m) < r.length + 1
    split
    · omega
    · rename_i e
      have := rkL_lt r m ((List.mem_cons.mp h).resolve_left e)
      omega
theorem rkL_tail : ∀ (a b : List Str) (m : Str), (a ++ b).Nodup → m ∈ b → rkL (a ++ b) m = rkL b m
  | [], b, m, _, _ => rfl
  | x :: a, b, m, h, hm => by
    rw [List.cons_append, List.nodup_cons] at h
    have ne : ¬ m = x := fun e => h.1 (by rw [← e]; exact List.mem_append.mpr (.inr hm))
    show (if m = x then _ else rkL (a ++ b) m) = _
    rw [if_neg ne, rkL_tail a b m h.2 hm]
theorem rkL_later {a b : List Str} {m x : Str} (h : (a ++ m :: b).Nodup) (hx : x ∈ b) : rkL (a ++ m :: b) x < rkL (a ++ m :: b) m := by
  rw [rkL_at a b m h]
  have e : a ++ m :: b = (a ++ [m]) ++ b := by simp
  rw [e] at h ⊢
  rw [rkL_tail (a ++ [m]) b x h hx]
  exact rkL_lt b x hx
theorem cutV_from (xs : List V) (k : Nat) (h : k ≤ xs.length) : cutV xs (some (k : Int)) none = xs.drop k := by
  unfold cutV
  rw [HT.sIx_nat, HT.sIx_none, Nat.min_eq_left h]
  exact List.take_of_length_le (by rw [List.length_drop]; exact Nat.le_refl _)
theorem KvP.snoc {R : V → List Stp → Prop} {kvs : List (Key × V)} {L : Lib} {m : Str} {v : V} {p : List Stp} (h : KvP R kvs L) (r : R v p) : KvP R (kvs ++ [(Sum.inr m, v)]) (L ++ [(m, p)]) := Paired.snoc h ⟨rfl, r⟩
theorem ProgL.kp {S : Addr → Prop} {H H' : Hp} (e : Kp S H H') {v : V} {p : List Stp} (h : ProgL H v p) (n : ∀ a, v = .ref a → ¬ S a) : ProgL H' v p := by
  obtain ⟨a, xs, rfl, h2, h3⟩ := h
  exact ⟨a, xs, rfl, e.at h2 (n a rfl), h3.monoK e⟩
section
variable {P : Program} {w : World} {K : PySem.W.Frag} {mg : Str → Option Value} {base : Heap} {aV aP aF CL CF CP : Addr} {fk : Str → Addr} {fa : Addr} {fd : FuncData}
/-- programs whose lists are not at p -/
abbrev ProgN (H : Hp) (p : Addr) (v : V) (q : List Stp) : Prop := ProgL H v q ∧ v ≠ .ref p
def spMods : Sp := fun vs H Q _ => ∃ (p : Addr), vs = [.ref p, .int 9, .int 10, .bl true] ∧ PotAt H p ∧
  ∀ (H' : Hp) (t d lb : Addr) (kvs : List (Key × V)) (L : Lib) (rk : Str → Nat) (ls : List Str), H' t = some (.tup [.ref d, .ref lb]) → H' d = some (.dK kvs) → KvP (ProgL H') kvs L → WfL L rk → LabAt H' p lb ls → PotAt H' p → Kp (fun c => c = p) H H' → (∀ kv ∈ kvs, kv.2 ≠ .ref p) → Q (.ref t) H'
theorem scMods : FnScope ["_law_pot_here", "_law_most", "_law_longest", "_law_is_acyclic", "_law_names", "_law_order", "_law_labels", "_law_found", "_law_name", "_law_later"] ["_law_pot_here", "_law_most", "_law_longest", "_law_is_acyclic"] (defScope sMods) := ⟨rfl, rfl, rfl, by decide +kernel, rfl, by decide +kernel, by decide +kernel⟩
theorem ok_modules_drawn (F : FnF K mg "_law_modules" sMods [] [] fa fd) (T : G0 K mg aV aP) (h1 : Pr P w K mg base "_law_draw" ["_law_pot_here", "_law_bound"] [] 1 spDraw) (h2 : Pr P w K mg base "_law_words" ["_law_pot_here", "_law_number"] [] 3 spWords)
    (h3 : Pr P w K mg base "_law_mixed" ["_law_pot_here", "_law_options"] [] 2 spMixed) (h4 : Pr P w K mg base "_law_program" ["_law_pot_here", "_law_targets", "_law_labels", "_law_most", "_law_is_main"] [] 4 spProgram) :
    Pr P w K mg base "_law_modules" ["_law_pot_here", "_law_most", "_law_longest", "_law_is_acyclic"] [] 5 spMods := by
  refine ⟨fa, fd, [], F.mg_, F.fn.kp, F.fn.ok0 scMods (fun vs H Q E h => ?_) (fun cdv A outer s H vs Q E hr h => ?_), .nil, F.fn.bindsN fun _ _ _ _ _ _ us hl => match us, hl with | [_, _, _, _], _ => rfl⟩
  · obtain ⟨p, rfl, _⟩ := h
    rfl
  · obtain ⟨p, rfl, hp, q⟩ := h
    have hu := hu_of hr
    have hr1 : Room 1 _ := hr.mono (by decide)
    have hr2 : Room 2 _ := hr.mono (by decide)
    have hr3 : Room 3 _ := hr.mono (by decide)
    refine ⟨_, pss_cons (ps_set (i := 4) scMods.nd rfl (Or.inl rfl) (pe_pr h2 hr3 rfl (pa_cons (pv 0) (pa_cons (pe_op op_add pe_int (pe_pr h1 hr1 rfl (pa_cons (pv 0) (pa_cons (pv 1) pa_nil)))) pa_nil))))
      (pss_cons (ps_par (i := 5) (j := 6) rfl scMods.nd rfl rfl (by decide) rfl rfl (pa_cons (pe_pr h3 hr2 rfl (pa_cons (pv 0) (pa_cons (pv 4) pa_nil))) (pa_cons (pe_pr h2 hr3 rfl (pa_cons (pv 0) (pa_cons pe_int pa_nil))) pa_nil)) rfl)
      (pss_cons (ps_set (i := 7) scMods.nd rfl (Or.inl rfl) pe_dnewK)
      (pss_cons (ps_for (g := gName 8) PassesOwn.never rfl (pi_list (pv 4)) (pg_name (i := 8) scMods.nd rfl (Or.inl rfl))
        (pss_mid (ps_set (i := 9) scMods.nd rfl (Or.inl rfl) (pe_slice sl_list (pv 5) (po_some (pe_op op_add (pe_bm PySem.F.plainAttrs_list PySem.F.slot_list_index PySem.F.type_list_index mt_index (pv 5) (pa_cons (pv 8) pa_nil)) pe_int)) po_none))
        (pss_one (ps_dput hu (pv 7) (pv 8) (pe_pr h4 hr rfl (pa_cons (pv 0) (pa_cons (pe_ifExp (pt_val (pv 3)) (pv 9) (pv 4)) (pa_cons (pv 6) (pa_cons (pv 2) (pa_cons pe_bl pa_nil)))))) rfl))))
      (pss_one (ps_ret (pe_tup (pa_cons (pv 7) (pa_cons (pv 6) pa_nil)))))))), ?_⟩
    have hsz : sizeLine = 2 ^ 24 := by rfl
    refine ⟨_, rfl, _, rfl, _, rfl, p, 9, rfl, hp, by decide, by decide +kernel, fun H1 c hc hp1 k1 => ?_⟩
    have e1 : (1 : Int) + (c : Int) = ((1 + c : Nat) : Int) := by omega
    refine ⟨_, _, rfl, rfl, p, 1 + c, ?_, hp1, by omega, fun H2 nl ns n1 n2 n3 hn2 nn1 hp2 k2 => ?_⟩
    · show [V.ref p, V.int ((1 : Int) + (c : Int))] = _
      rw [e1]
    have k02 := k1.trans' k2
    have nlp : nl ≠ p := by
      intro e
      rw [e] at nn1
      obtain ⟨x, y, e2, _⟩ := hp1
      rw [e2] at nn1; cases nn1
    have hc9 : c < 9 := by omega
    refine ⟨_, rfl, _, rfl, p, nl, ns, rfl, hp2, hn2, n3, by omega, fun H3 ol zs hperm ho3 no2 hp3 k3 => ?_⟩
    have olp : ol ≠ p := by
      intro e
      rw [e] at no2
      obtain ⟨x, y, e2, _⟩ := hp2
      rw [e2] at no2; cases no2
    refine ⟨_, rfl, p, 2, rfl, hp3, by omega, fun H4 lb ls l1 l2 l3 hl4 nl3 hp4 k4 => ?_⟩
    have lbp : lb ≠ p := by
      intro e
      rw [e] at nl3
      obtain ⟨x, y, e2, _⟩ := hp3
      rw [e2] at nl3; cases nl3
    have k04 := (k02.trans' k3).trans' k4
    have hn4 := k4.at (k3.at hn2 nlp) nlp
    have ho4 := k4.at ho3 olp
    refine ⟨_, _, rfl, ?_⟩
    refine fun D nD => ?_
    have s5 : Same H4 (upd H4 D (.dK [])) := Same.new nD _
    have hD5 : (upd H4 D (.dK [])) D = some (.dK []) := upd_same
    have Dp := hp4.ne nD
    have hp5 := hp4.same s5
    have hn5 := s5 _ _ hn4
    have ho5 := s5 _ _ ho4
    have hl5 := s5 _ _ hl4
    have k05 := k04.same s5
    have nD0 : H D = none := k04.free nD Dp
    have D_nl : nl ≠ D := ne_of_none hn4 nD
    have D_ol : ol ≠ D := ne_of_none ho4 nD
    have D_lb : lb ≠ D := ne_of_none hl4 nD
    generalize upd H4 D (.dK []) = H5 at s5 hD5 hp5 hn5 ho5 hl5 k05
    have nns : ns.length ≤ 9 := by omega
    have zlen : zs.length = ns.length := hperm.length_eq
    have znd : zs.Nodup := hperm.nodup_iff.mpr n2
    refine ⟨_, rfl, nl, rfl, ⟨_, SqL.of hn5⟩, ?_⟩
    refine for_it (walk_list (xs := ns.map V.str)) (fun i σ H' => PotAt H' p ∧ Kp (fun c => c = p) H H' ∧ H' nl = some (.lst (ns.map V.str)) ∧ H' ol = some (.lst (zs.map V.str)) ∧ H' lb = some (.lst (ls.map V.str)) ∧
        (∃ u v, σ = [some (.ref p), some (.int 9), some (.int 10), some (.bl true), some (.ref nl), some (.ref ol), some (.ref lb), some (.ref D), u, v]) ∧
        ∃ (kvs : List (Key × V)) (L : Lib), H' D = some (.dK kvs) ∧ KvP (ProgL H') kvs L ∧ names L = ns.take i ∧ (∀ kv ∈ kvs, kv.2 ≠ .ref p ∧ kv.2 ≠ .ref D) ∧ ∀ m q, (m, q) ∈ L → WfP ns (rkL zs) (rkL zs m) false q)
      ⟨hp5, k05, hn5, ho5, hl5, ⟨none, none, rfl⟩, [], [], hD5, .nil, rfl, (fun _ h => by cases h), fun _ _ h => by cases h⟩ (fun i σ H' _ h => SqL.of h.2.2.1) ?_ ?_
    · rintro i v σ H7 H6 hi ⟨hp6, k6, hn6, ho6, hl6, ⟨u, v', rfl⟩, kvs, L, hD6, hkv, hnm, hne, hwf⟩ ⟨rfl, ei⟩
      rw [List.getElem?_map] at ei
      obtain ⟨m, em, rfl⟩ := Option.map_eq_some_iff.mp ei
      have hmn : m ∈ ns := List.mem_of_getElem? em
      obtain ⟨a, b, ez⟩ := List.append_of_mem (hperm.mem_iff.mpr hmn)
      have hj : (zs.map V.str)[a.length]? = some (.str m) := by
        rw [ez, List.getElem?_map, List.getElem?_append_right (Nat.le_refl _), Nat.sub_self]
        rfl
      have nda : (a ++ m :: b).Nodup := by rw [← ez]; exact znd
      have hla : a.length < zs.length := by rw [ez, List.length_append, List.length_cons]; omega
      have e2 : ((a.length : Nat) : Int) + 1 = ((a.length + 1 : Nat) : Int) := by omega
      have ec : cutV (zs.map V.str) (some (((a.length : Nat) : Int) + 1)) none = b.map V.str := by
        rw [e2, cutV_from _ _ (by rw [List.length_map]; omega), ← List.map_drop, ez]
        congr 1
        rw [List.drop_append]
        have : a.length + 1 - a.length = 1 := by omega
        rw [List.drop_of_length_le (by omega), this]
        rfl
      refine ⟨fun σ' H' => ∃ c2, H6 c2 = none ∧ σ' = [some (.ref p), some (.int 9), some (.int 10), some (.bl true), some (.ref nl), some (.ref ol), some (.ref lb), some (.ref D), some (.str m), some (.ref c2)] ∧ H' = upd H6 c2 (.lst (b.map V.str)), ?_, ?_⟩
      · refine ⟨_, rfl, _, rfl, Or.inl ⟨rfl, _, SqL.of ho6⟩, _, rfl, ?_⟩
        refine ⟨ol, zs.map V.str, .str m, a.length, .str m, rfl, rfl, SqL.of ho6, rfl, flat_strs _, hj, by simp [eqV], ?_, ?_⟩
        · intro j z hjl hz
          rw [List.getElem?_map] at hz
          obtain ⟨y, ey, rfl⟩ := Option.map_eq_some_iff.mp hz
          rw [ez, List.getElem?_append_left hjl] at ey
          have hya : y ∈ a := List.mem_of_getElem? ey
          have : ¬ y = m := fun e => by
            rw [List.nodup_append] at nda
            exact nda.2.2 y hya m List.mem_cons_self e
          simp [eqV, this]
        refine ⟨_, 1, rfl, rfl, ?_⟩
        refine ⟨_, rfl, ol, zs.map V.str, rfl, SqL.of ho6, fun c2 nc2 => ?_⟩
        exact ⟨c2, nc2, rfl, congrArg (fun l => upd H6 c2 (.lst l)) ec⟩
      rintro σ' H7 ⟨c2, nc2, rfl, rfl⟩
      have s7 : Same H6 (upd H6 c2 (.lst (b.map V.str))) := Same.new nc2 _
      have hc7 : (upd H6 c2 (.lst (b.map V.str))) c2 = some (.lst (b.map V.str)) := upd_same
      have c2p := hp6.ne nc2
      have hp7 := hp6.same s7
      have k67 := k6.same s7
      have lab7 : LabAt (upd H6 c2 (.lst (b.map V.str))) p lb ls := ⟨s7 _ _ hl6, lbp, by omega, by omega, l3⟩
      have hb : ∀ x ∈ b, x ∈ ns := fun x hx => hperm.mem_iff.mp (by rw [ez]; exact List.mem_append.mpr (.inr (List.mem_cons_of_mem _ hx)))
      have hbl : b.length ≤ 50 := by
        have : zs.length = a.length + (b.length + 1) := by rw [ez, List.length_append, List.length_cons]
        omega
      have tgt7 : TgtAt (upd H6 c2 (.lst (b.map V.str))) p c2 b := ⟨hc7, c2p, hbl, fun x hx => n3 x (hb x hx)⟩
      have hn7 := s7 _ _ hn6
      have ho7 := s7 _ _ ho6
      have hl7 := s7 _ _ hl6
      have hD7 := s7 _ _ hD6
      have hkv7 := hkv.imp fun v q (r : ProgL H6 v q) => r.same s7
      generalize upd H6 c2 (.lst (b.map V.str)) = H7 at s7 hc7 hp7 k67 lab7 tgt7 hn7 ho7 hl7 hD7 hkv7
      refine ⟨_, rfl, _, rfl, true, rfl, iteT ?_⟩
      refine ⟨_, rfl, _, rfl, _, rfl, p, c2, lb, 10, false, b, ls, rfl, hp7, tgt7, lab7, Nat.le_refl _, fun H8 pl xs prog hwp hpl8 hst8 npl7 hp8 k8 => ?_⟩
      have hn8 := k8.at hn7 nlp
      have ho8 := k8.at ho7 olp
      have hl8 := k8.at hl7 lbp
      have hD8 := k8.at hD7 Dp
      have pl_p : pl ≠ p := by
        intro e
        rw [e] at npl7
        obtain ⟨x, y, e2, _⟩ := hp7
        rw [e2] at npl7; cases npl7
      have pl_D : pl ≠ D := fun e => by rw [e, hD7] at npl7; cases npl7
      have eLk : kvs.length = L.length := Paired.len hkv
      have hm_no : m ∉ names L := by
        rw [hnm]
        intro hm2
        obtain ⟨j, ej⟩ := List.mem_iff_getElem?.mp hm2
        have hj2 := (List.getElem?_eq_some_iff.mp ej).1
        rw [List.length_take] at hj2
        rw [List.getElem?_take_of_lt (by omega)] at ej
        have := (List.getElem?_inj (by omega : j < ns.length) n2).mp (ej.trans em.symm)
        omega
      have hput : putK kvs (Sum.inr m) (.ref pl) = kvs ++ [(Sum.inr m, .ref pl)] := putK_new _ (KvP.none hkv hm_no)
      have hlk : kvs.length ≤ 9 := by
        have e9 : (names L).length = L.length := List.length_map _
        rw [eLk, ← e9, hnm, List.length_take]
        omega
      refine ⟨_, rfl, _, rfl, D, _, rfl, dputS hD8 (by omega) hput, ?_⟩
      have k9 : Kp (fun c => c = D) H8 (upd H8 D (.dK (kvs ++ [(Sum.inr m, .ref pl)]))) := (Kp.refl H8 : Kp (fun c => c = D) _ _).upd (fun _ h => h) (.inl rfl) (nt_dK hD8) _
      have kall : Kp (fun c => c = p) H (upd H8 D (.dK (kvs ++ [(Sum.inr m, .ref pl)]))) := (k67.trans' k8).trans k9 (fun _ h => h) (fun c e => .inr (by rw [e]; exact nD0))
      refine ⟨hp8.mono k9 (fun e => Dp e.symm), kall, k9.at hn8 D_nl, k9.at ho8 D_ol, k9.at hl8 D_lb, ⟨_, _, rfl⟩, kvs ++ [(Sum.inr m, .ref pl)], L ++ [(m, prog)], upd_same, ?_, ?_, ?_, ?_⟩
      · refine KvP.snoc ?_ ⟨pl, xs, rfl, k9.at hpl8 pl_D, hst8.monoK k9⟩
        have gen : ∀ {kv2 : List (Key × V)} {L2 : Lib}, KvP (ProgL H7) kv2 L2 → (∀ kv ∈ kv2, kv.2 ≠ .ref p ∧ kv.2 ≠ .ref D) → KvP (ProgL (upd H8 D (.dK (kvs ++ [(Sum.inr m, .ref pl)])))) kv2 L2 := by
          intro kv2 L2 h
          induction h with
          | nil => exact fun _ => .nil
          | cons r t ih =>
            intro hn
            obtain ⟨h1, h2⟩ := hn _ List.mem_cons_self
            exact .cons ⟨r.1, (r.2.kp k8 fun a e e2 => h1 (by rw [e, e2])).kp k9 fun a e e2 => h2 (by rw [e, e2])⟩ (ih fun kv hk => hn kv (List.mem_cons_of_mem _ hk))
        exact gen hkv7 hne
      · have et : ns.take (i + 1) = ns.take i ++ [m] := by rw [List.take_add_one, em]; rfl
        rw [et, ← hnm]
        exact List.map_append
      · intro kv hk
        rcases List.mem_append.mp hk with h | h
        · exact hne kv h
        · rw [List.mem_singleton.mp h]
          exact ⟨fun e => pl_p (V.ref.inj e), fun e => pl_D (V.ref.inj e)⟩
      · intro m' q' hq'
        rcases List.mem_append.mp hq' with h | h
        · exact hwf m' q' h
        · cases List.mem_singleton.mp h
          refine hwp.lift fun x hx => ⟨hb x hx, ?_⟩
          rw [ez]
          exact rkL_later nda hx
    · rintro σ H6 ⟨hp6, k6, hn6, ho6, hl6, ⟨u, v', rfl⟩, kvs, L, hD6, hkv, hnm, hne, hwf⟩
      rw [List.length_map, List.take_length] at hnm
      have e9 : (names L).length = L.length := List.length_map _
      have eL : L.length = ns.length := by rw [← e9, hnm]
      have hnm2 : L.map (·.1) = ns := hnm
      refine ⟨_, rfl, _, rfl, by show 2 ≤ sizeLine; decide, fun t nt => ?_⟩
      have s7 : Same H6 (upd H6 t (.tup [.ref D, .ref lb])) := Same.new nt _
      refine q _ t D lb kvs L (rkL zs) ls upd_same (s7 _ _ hD6) (hkv.imp fun v q (r : ProgL H6 v q) => r.same s7) ⟨by rw [hnm2]; exact n2, by omega, by omega, fun m hm => n3 m (by rw [← hnm2]; exact hm), fun m hm => ?_, fun m q hq => by rw [hnm2]; exact hwf m q hq⟩ ⟨s7 _ _ hl6, lbp, by omega, by omega, l3⟩ (hp6.same s7) (k6.same s7) (fun kv hk => (hne kv hk).1)
      have hm2 : m ∈ zs := hperm.mem_iff.mpr (by rw [← hnm2]; exact hm)
      have := rkL_lt zs m hm2
      omega
end
end Cy

set_option Elab.async false
set_option linter.all false
set_option maxRecDepth 100000
set_option maxHeartbeats 4000000
/-! The law's own scene: _law_started. -/
namespace Cy
open PySem PySem.Spec PyProof.Rows L2
abbrev sDone : Stmt := top 56
abbrev sStarted : Stmt := top 57
structure SA where
  sc : Addr
  dm : Addr
  ds : Addr
  dx : Addr
  ol : Addr
def scD (A : SA) : List (Key × V) := [(Sum.inr "modules", .ref A.dm), (Sum.inr "states", .ref A.ds), (Sum.inr "exports", .ref A.dx), (Sum.inr "order", .ref A.ol)]
theorem inr_ne {a b : Str} (h : ¬ a = b) : ¬ (Sum.inr a : Key) = Sum.inr b := fun q => h (Sum.inr.inj q)
theorem q_ms : ¬ ("modules" : Str) = "states" := by decide +kernel
theorem q_mx : ¬ ("modules" : Str) = "exports" := by decide +kernel
theorem q_mo : ¬ ("modules" : Str) = "order" := by decide +kernel
theorem q_sx : ¬ ("states" : Str) = "exports" := by decide +kernel
theorem q_so : ¬ ("states" : Str) = "order" := by decide +kernel
theorem q_xo : ¬ ("exports" : Str) = "order" := by decide +kernel
theorem scD_m (A : SA) : valV (scD A) (Sum.inr "modules") = some (.ref A.dm) := valV_pos rfl
theorem scD_s (A : SA) : valV (scD A) (Sum.inr "states") = some (.ref A.ds) := by unfold scD; rw [valV_neg (inr_ne q_ms), valV_pos rfl]
theorem scD_x (A : SA) : valV (scD A) (Sum.inr "exports") = some (.ref A.dx) := by unfold scD; rw [valV_neg (inr_ne q_mx), valV_neg (inr_ne q_sx), valV_pos rfl]
theorem scD_o (A : SA) : valV (scD A) (Sum.inr "order") = some (.ref A.ol) := by unfold scD; rw [valV_neg (inr_ne q_mo), valV_neg (inr_ne q_so), valV_neg (inr_ne q_xo), valV_pos rfl]
/-- what the scene mutates -/
def N3 (A : SA) (c : Addr) : Prop := c = A.ds ∨ c = A.dx ∨ c = A.ol
structure ScAt (Av : Addr → Prop) (H : Hp) (A : SA) (L : Lib) (rk : Str → Nat) (D : List (Str × Bool)) (E : List (Key × V)) : Prop where
  ob : H A.sc = some (.dK (scD A))
  mods : ∃ kvs, H A.dm = some (.dK kvs) ∧ KvP (fun v p => ProgL H v p ∧ v ≠ .ref A.ol ∧ ∀ c, Av c → v ≠ .ref c) kvs L
  sts : H A.ds = some (.dK (sDict D))
  exd : H A.dx = some (.dK E)
  ord : ∃ os : List Str, H A.ol = some (.lst (os.map V.str)) ∧ os.length ≤ D.length
  dne : A.sc ≠ A.ds ∧ A.sc ≠ A.dx ∧ A.dm ≠ A.ds ∧ A.dm ≠ A.dx ∧ A.ds ≠ A.dx
  av : ¬ Av A.sc ∧ ¬ Av A.dm ∧ ¬ Av A.ds ∧ ¬ Av A.dx ∧ ¬ Av A.ol
  nd : (keysD D).Nodup
  good : ∀ m b, (m, b) ∈ D → m ∈ names L ∧ b = (res L rk m).ready
  cl : ∀ m ∈ keysD D, ∀ x, Rch L rk m x → x ∈ keysD D
  exps : ∀ m ∈ keysD D, ∃ a, valV E (Sum.inr m) = some (.ref a) ∧ H a = some (.dK (xDict (res L rk m).exps)) ∧ a ≠ A.ds ∧ a ≠ A.dx ∧ ¬ Av a
  end1 : (E.map (·.1)).Nodup
  ek : ∀ k ∈ E.map (·.1), k ∈ (names L).map Sum.inr
section
variable {Av Av' : Addr → Prop} {H H' : Hp} {A : SA} {L : Lib} {rk : Str → Nat} {D : List (Str × Bool)} {E : List (Key × V)}
theorem KvP.imp2 {R R' : V → List Stp → Prop} {kvs : List (Key × V)} {L : Lib} (h : KvP R kvs L) (f : ∀ v p, R v p → R' v p) : KvP R' kvs L := h.imp f
theorem ScAt.mono {T : Addr → Prop} (h : ScAt Av H A L rk D E) (e : Kp T H H') (hs : ∀ c, T c → Av c) : ScAt Av H' A L rk D E := by
  obtain ⟨v1, v2, v3, v4, v5⟩ := h.av
  obtain ⟨kvs, m1, m2⟩ := h.mods
  obtain ⟨os, o1, o2⟩ := h.ord
  refine ⟨e.at h.ob fun q => v1 (hs _ q), ⟨kvs, e.at m1 fun q => v2 (hs _ q), m2.imp2 fun v p r => ⟨r.1.kp e fun a ea q => r.2.2 a (hs a q) ea, r.2⟩⟩, e.at h.sts fun q => v3 (hs _ q), e.at h.exd fun q => v4 (hs _ q), ⟨os, e.at o1 fun q => v5 (hs _ q), o2⟩, h.dne, h.av, h.nd, h.good, h.cl, fun m hm => ?_, h.end1, h.ek⟩
  obtain ⟨a, a1, a2, a3, a4, a5⟩ := h.exps m hm
  exact ⟨a, a1, e.at a2 fun q => a5 (hs _ q), a3, a4, a5⟩
theorem ScAt.same (h : ScAt Av H A L rk D E) (e : Same H H') : ScAt Av H' A L rk D E := h.mono (T := fun _ => False) (Kp.of e) fun _ q => q.elim
theorem ScAt.more (h : ScAt Av H A L rk D E) (e : ∀ c, Av' c → Av c ∨ H c = none) : ScAt Av' H A L rk D E := by
  obtain ⟨v1, v2, v3, v4, v5⟩ := h.av
  obtain ⟨kvs, m1, m2⟩ := h.mods
  obtain ⟨os, o1, o2⟩ := h.ord
  have go : ∀ {c : Addr} {o : HO}, H c = some o → ¬ Av c → ¬ Av' c := fun e1 n q => (e _ q).elim n fun y => by rw [y] at e1; cases e1
  refine ⟨h.ob, ⟨kvs, m1, m2.imp2 fun v p r => ⟨r.1, r.2.1, fun c hc ec => ?_⟩⟩, h.sts, h.exd, h.ord, h.dne, ⟨go h.ob v1, go m1 v2, go h.sts v3, go h.exd v4, go o1 v5⟩, h.nd, h.good, h.cl, fun m hm => ?_, h.end1, h.ek⟩
  · rcases e c hc with q | q
    · exact r.2.2 c q ec
    · obtain ⟨a, xs, e1, e2, _⟩ := r.1
      rw [e1] at ec
      rw [V.ref.inj ec, q] at e2
      cases e2
  · obtain ⟨a, a1, a2, a3, a4, a5⟩ := h.exps m hm
    exact ⟨a, a1, a2, a3, a4, go a2 a5⟩
theorem ScAt.less (h : ScAt Av H A L rk D E) (e : ∀ c, Av' c → Av c) : ScAt Av' H A L rk D E := h.more fun c q => .inl (e c q)
theorem ScAt.nN3 (h : ScAt Av H A L rk D E) {c : Addr} (hc : H c = none) : ¬ N3 A c := by
  obtain ⟨os, o1, o2⟩ := h.ord
  rintro (e | e | e)
  · rw [e, h.sts] at hc; cases hc
  · rw [e, h.exd] at hc; cases hc
  · rw [e, o1] at hc; cases hc
theorem ScAt.n3av (h : ScAt Av H A L rk D E) {c : Addr} (hc : N3 A c) : ¬ Av c := by
  obtain ⟨v1, v2, v3, v4, v5⟩ := h.av
  rcases hc with rfl | rfl | rfl <;> assumption
theorem ScAt.flag (h : ScAt Av H A L rk D E) {m : Str} (hm : m ∈ keysD D) : valV (sDict D) (Sum.inr m) = some (V.str (stT (res L rk m).ready)) := by
  obtain ⟨⟨m', b⟩, hb, rfl⟩ := List.mem_map.mp hm
  have := (h.good m' b hb).2
  subst this
  exact sDict_get h.nd hb
theorem ScAt.lenE (h : ScAt Av H A L rk D E) (W : WfL L rk) : E.length ≤ 9 := by
  have := List.Nodup.length_le_of_subset h.end1 (fun k hk => h.ek k hk)
  rw [List.length_map, List.length_map, List.length_map] at this
  exact Nat.le_trans this W.hi
theorem ScAt.lenD (h : ScAt Av H A L rk D E) (W : WfL L rk) : D.length ≤ 9 := by
  have sub : keysD D ⊆ names L := fun m hm => by
    obtain ⟨⟨m', b⟩, hb, rfl⟩ := List.mem_map.mp hm
    exact (h.good m' b hb).1
  have := List.Nodup.length_le_of_subset h.nd sub
  rw [List.length_map, List.length_map] at this
  exact Nat.le_trans this W.hi
/-- the exports of a module that is not done -/
theorem ScAt.putE (h : ScAt Av H A L rk D E) {m : Str} (hm : m ∈ names L) (hn : m ∉ keysD D) (v : V) : ScAt Av (upd H A.dx (.dK (putK E (Sum.inr m) v))) A L rk D (putK E (Sum.inr m) v) ∧ Kp (N3 A) H (upd H A.dx (.dK (putK E (Sum.inr m) v))) := by
  obtain ⟨n1, n2, n3, n4, n5⟩ := h.dne
  obtain ⟨kvs, m1, m2⟩ := h.mods
  obtain ⟨os, o1, o2⟩ := h.ord
  have k : Kp (fun b => b = A.dx) H (upd H A.dx (.dK (putK E (Sum.inr m) v))) := (Kp.refl H : Kp (fun b => b = A.dx) H H).upd (fun _ h => h) (.inl rfl) (nt_dK h.exd) _
  have nl : ∀ {c : Addr} {o : HO}, H c = some o → (∀ xs, o ≠ .dK xs) → ¬ c = A.dx := fun e1 n q => by
    rw [q, h.exd] at e1
    exact n _ (Option.some.inj e1).symm
  refine ⟨⟨k.at h.ob n2, ⟨kvs, k.at m1 n4, m2.imp2 fun v p r => ⟨r.1.kp k fun a ea q => ?_, r.2⟩⟩, k.at h.sts n5, upd_same, ⟨os, k.at o1 (nl o1 fun _ q => by cases q), o2⟩, h.dne, h.av, h.nd, h.good, h.cl, fun x hx => ?_, putK_nd h.end1 _ _, putK_sub h.ek (List.mem_map.mpr ⟨m, hm, rfl⟩) _⟩,
    k.sub fun c q => .inr (.inl q)⟩
  · obtain ⟨b, xs, e1, e2, _⟩ := r.1
    rw [e1] at ea
    rw [V.ref.inj ea, q, h.exd] at e2
    cases e2
  · obtain ⟨a, a1, a2, a3, a4, a5⟩ := h.exps x hx
    refine ⟨a, ?_, k.at a2 a4, a3, a4, a5⟩
    rw [valV_put, if_neg (fun q => hn (by rw [← Sum.inr.inj q]; exact hx))]
    exact a1
/-- a module is done -/
theorem ScAt.add (h : ScAt Av H A L rk D E) {m : Str} {a : Addr} {E' : List (Key × V)} (hm : m ∈ names L) (hn : m ∉ keysD D) (hc : ∀ x, Rch L rk m x → x = m ∨ x ∈ keysD D)
    (e : Kp (N3 A) H H') (h1 : H' A.ds = some (.dK (sDict (D ++ [(m, (res L rk m).ready)])))) (h2 : H' A.dx = some (.dK E')) (ho : ∃ os : List Str, H' A.ol = some (.lst (os.map V.str)) ∧ os.length ≤ D.length + 1) (h3 : ∀ x, x ≠ m → valV E' (Sum.inr x) = valV E (Sum.inr x))
    (h4 : valV E' (Sum.inr m) = some (.ref a)) (h5 : H' a = some (.dK (xDict (res L rk m).exps))) (h6 : a ≠ A.ds ∧ a ≠ A.dx ∧ ¬ Av a) (h7 : (E'.map (·.1)).Nodup) (h8 : ∀ k ∈ E'.map (·.1), k ∈ (names L).map Sum.inr) :
    ScAt Av H' A L rk (D ++ [(m, (res L rk m).ready)]) E' := by
  obtain ⟨n1, n2, n3, n4, n5⟩ := h.dne
  obtain ⟨kvs, m1, m2⟩ := h.mods
  obtain ⟨os, o1, o2⟩ := h.ord
  have nol : ∀ {c : Addr} {xs : List (Key × V)}, H c = some (.dK xs) → c ≠ A.ol := fun e1 q => by rw [q, o1] at e1; cases e1
  have nD : ∀ {c : Addr} {xs : List (Key × V)}, H c = some (.dK xs) → c ≠ A.ds → c ≠ A.dx → ¬ N3 A c := fun e1 q1 q2 q => by
    rcases q with q | q | q
    · exact q1 q
    · exact q2 q
    · exact nol e1 q
  have ek : keysD (D ++ [(m, (res L rk m).ready)]) = keysD D ++ [m] := by unfold keysD; rw [List.map_append]; rfl
  refine ⟨e.at h.ob (nD h.ob n1 n2), ⟨kvs, e.at m1 (nD m1 n3 n4), m2.imp2 fun v p r => ⟨r.1.kp e fun b eb q => ?_, r.2⟩⟩, h1, h2, ?_, h.dne, h.av, ?_, fun x b hx => ?_, fun x hx y hy => ?_, fun x hx => ?_, h7, h8⟩
  · obtain ⟨c, xs, e1, e2, _⟩ := r.1
    rw [e1] at eb
    have ecb := V.ref.inj eb
    rw [ecb] at e2
    rcases q with q | q | q
    · rw [q, h.sts] at e2; cases e2
    · rw [q, h.exd] at e2; cases e2
    · exact r.2.1 (by rw [e1, ecb, q])
  · obtain ⟨os', q1, q2⟩ := ho
    exact ⟨os', q1, by rw [List.length_append]; exact q2⟩
  · rw [ek, List.nodup_append]
    exact ⟨h.nd, List.pairwise_singleton _ _, fun a ha b hb => by rw [List.mem_singleton.mp hb]; exact fun q => hn (q ▸ ha)⟩
  · rcases List.mem_append.mp hx with q | q
    · exact h.good x b q
    · cases List.mem_singleton.mp q
      exact ⟨hm, rfl⟩
  · rw [ek, List.mem_append] at hx ⊢
    rcases hx with q | q
    · exact .inl (h.cl x q y hy)
    · rw [List.mem_singleton.mp q] at hy
      rcases hc y hy with rfl | q2
      · exact .inr (List.mem_singleton.mpr rfl)
      · exact .inl q2
  · rw [ek, List.mem_append] at hx
    by_cases exm : x = m
    · subst exm
      exact ⟨a, h4, h5, h6.1, h6.2.1, h6.2.2⟩
    · have hx' : x ∈ keysD D := hx.resolve_right fun q => exm (List.mem_singleton.mp q)
      obtain ⟨b, a1, a2, a3, a4, a5⟩ := h.exps x hx'
      refine ⟨b, ?_, e.at a2 (nD a2 a3 a4), a3, a4, a5⟩
      rw [h3 x exm]
      exact a1
end
/-- what stands after modules were started -/
structure AfterS (Av : Addr → Prop) (H : Hp) (A : SA) (L : Lib) (rk : Str → Nat) (D : List (Str × Bool)) (E : List (Key × V)) (S : List Str) (T : Str → Prop) (M : Addr → Prop) (H' : Hp) (D' : List (Str × Bool)) (E' : List (Key × V)) : Prop where
  run : ScAt Av H' A L rk D' E'
  keys : ∀ x, x ∈ keysD D' ↔ x ∈ keysD D ∨ T x
  same : ∀ x ∈ S, valV E' (Sum.inr x) = valV E (Sum.inr x)
  kp : Kp M H H'
structure AskS (Av : Addr → Prop) (H : Hp) (A : SA) (L : Lib) (rk : Str → Nat) (D : List (Str × Bool)) (E : List (Key × V)) (S : List Str) (m : Str) (n : Nat) : Prop where
  run : ScAt Av H A L rk D E
  wf : WfL L rk
  al : ∀ c, Av c → H c ≠ none
  mem : m ∈ names L
  lt : rk m < n
  up : ∀ x ∈ S, rk m < rk x
def OwnS (H : Hp) (E : List (Key × V)) (S : List Str) (ax : Addr) (X : List (Str × Int)) : Option Str → Prop
  | none => X = []
  | some m => m ∈ S ∧ valV E (Sum.inr m) = some (.ref ax) ∧ H ax = some (.dK (xDict X))
def frS (A : SA) (own : Option Str) (ax c : Addr) : Prop := N3 A c ∨ (own ≠ none ∧ c = ax)
section
variable {P : Program} {w : World} {K : PySem.W.Frag} {mg : Str → Option Value} {base : Heap} {aV aP aF CL CF CP : Addr} {fk : Str → Addr} {fa : Addr} {fd : FuncData}
def spDone (n : Nat) : Sp := fun vs H Q _ => ∃ (Av : Addr → Prop) (A : SA) (L : Lib) (rk : Str → Nat) (D : List (Str × Bool)) (E : List (Key × V)) (S : List Str) (own : Option Str) (ax pl : Addr) (xs : List V) (p : List Stp) (rr : Nat) (main : Bool),
  vs = [.ref A.sc, ownV own, .ref pl] ∧ WfL L rk ∧ ScAt Av H A L rk D E ∧ (∀ c, Av c → H c ≠ none) ∧ H pl = some (.lst xs) ∧ Steps H xs p ∧ pl ≠ A.ol ∧ WfP (names L) rk rr main p ∧ rr ≤ n ∧ (∀ x ∈ S, rr ≤ rk x) ∧ (own = none → main = true) ∧ (own ≠ none → Av ax) ∧ OwnS H E S ax [] own ∧
  ∀ H' D' E' t box, AfterS Av H A L rk D E S (RchP L rk own p) (frS A own ax) H' D' E' → OwnS H' E' S ax (runP L rk own p).exps own → H' t = some (.tup [.bl (runP L rk own p).ended, .ref box]) → H' box = some (.dK (vDict (runP L rk own p).vars)) → H box = none → Q (.ref t) H'
def spStarted (n : Nat) : Sp := fun vs H Q _ => ∃ (Av : Addr → Prop) (A : SA) (L : Lib) (rk : Str → Nat) (D : List (Str × Bool)) (E : List (Key × V)) (S : List Str) (m : Str),
  vs = [.ref A.sc, .str m] ∧ AskS Av H A L rk D E S m n ∧ m ∉ keysD D ∧ ∀ H' D' E', AfterS Av H A L rk D E S (Rch L rk m) (N3 A) H' D' E' → Q .non H'
theorem scStarted : FnScope ["_law_scene", "_law_module", "_law_is_ready"] ["_law_scene", "_law_module"] (defScope sStarted) := ⟨rfl, rfl, rfl, by decide +kernel, rfl, by decide +kernel, by decide +kernel⟩
theorem ok_started (n : Nat) {k : Nat} (F : FnF K mg "_law_started" sStarted [] [] fa fd) (T : G0 K mg aV aP) (h1 : Pr P w K mg base "_law_done" ["_law_scene", "_law_module", "_law_program_here"] [] k (spDone n)) :
    Pr P w K mg base "_law_started" ["_law_scene", "_law_module"] [] (k + 1) (spStarted (n + 1)) := by
  refine ⟨fa, fd, [], F.mg_, F.fn.kp, F.fn.ok0 scStarted (fun vs H Q E h => ?_) (fun cdv A' outer s H vs Q E hr h => ?_), .nil, F.fn.bindsN fun _ _ _ _ _ _ us hl => match us, hl with | [_, _], _ => rfl⟩
  · obtain ⟨Av, A, L, rk, D, E', S, m, rfl, _⟩ := h
    rfl
  · obtain ⟨Av, A, L, rk, D, E', S, m, rfl, ask, hnot, q⟩ := h
    have hu := hu_of hr
    refine ⟨_, pss_cons (ps_dput hu (pe_dget hu (pv 0) pe_str (fun _ _ => rfl)) (pv 1) pe_dnewK rfl)
      (pss_cons (ps_set (i := 2) scStarted.nd rfl (Or.inl rfl) (pe_ix ix_tup (pe_pr h1 hr rfl (pa_cons (pv 0) (pa_cons (pv 1) (pa_cons (pe_dget hu (pe_dget hu (pv 0) pe_str (fun _ _ => rfl)) (pv 1) (fun _ _ => rfl)) pa_nil)))) pe_int (fun _ _ => rfl)))
      (pss_cons (ps_dput hu (pe_dget hu (pv 0) pe_str (fun _ _ => rfl)) (pv 1) (pe_ix ix_list (pe_lst (pa_cons pe_str (pa_cons pe_str pa_nil))) (pe_callTy call_int1 rfl T.int (by decide +kernel) (pa_cons (pv 2) pa_nil)) (fun _ _ => rfl)) rfl)
      (pss_mid (ps_if (pt_not (pt_val (pv 2))) (pss_one (ps_dput hu (pe_dget hu (pv 0) pe_str (fun _ _ => rfl)) (pv 1) pe_dnewK rfl)) pss_nil)
      (pss_one (ps_expr (pe_bm PySem.F.plainAttrs_list PySem.F.slot_list_append PySem.F.type_list_append mt_append (pe_dget hu (pv 0) pe_str (fun _ _ => rfl)) (pa_cons (pv 1) pa_nil))))))), ?_⟩
    have W := ask.wf
    have run := ask.run
    have hsz : sizeLine = 2 ^ 24 := by rfl
    -- new exports
    intro ax nax
    have avax : ¬ Av ax := fun h => ask.al ax h nax
    have run1 : ScAt (fun c => Av c ∨ c = ax) H A L rk D E' := run.more fun c h => h.elim .inl fun e => .inr (by rw [e]; exact nax)
    have s2 : Same H (upd H ax (.dK [])) := Same.new nax _
    have run2 := run1.same s2
    have ax2 : (upd H ax (.dK [])) ax = some (.dK []) := upd_same
    generalize upd H ax (.dK []) = H2 at s2 run2 ax2
    have lE := run.lenE W
    refine ⟨_, rfl, A.sc, _, rfl, dgetS run2.ob (scD_x A), ?_⟩
    refine ⟨_, rfl, A.dx, _, rfl, dputS run2.exd (by omega) rfl, ?_⟩
    obtain ⟨run3, k3⟩ := run2.putE ask.mem hnot (.ref ax)
    have ax_dx : ax ≠ A.dx := fun e => run3.av.2.2.2.1 (.inr e.symm)
    have ax_ds : ax ≠ A.ds := fun e => run3.av.2.2.1 (.inr e.symm)
    have ax3 : (upd H2 A.dx (.dK (putK E' (Sum.inr m) (.ref ax)))) ax = some (.dK []) := by rw [upd_ne ax_dx]; exact ax2
    generalize upd H2 A.dx (.dK (putK E' (Sum.inr m) (.ref ax))) = H3 at run3 k3 ax3
    have k03 : Kp (N3 A) H H3 := ((Kp.of s2 : Kp (N3 A) _ _)).trans' k3
    obtain ⟨kvs, m1, m2⟩ := run3.mods
    obtain ⟨u, eu, ⟨pl, xs, rfl, hpl, hst⟩, nol, nav⟩ := KvP.get m2 W.nd (prg_mem ask.mem W.nd)
    refine ⟨_, rfl, _, rfl, ?_⟩
    refine ⟨_, rfl, A.sc, _, rfl, dgetS run3.ob (scD_m A), _, rfl, A.dm, _, rfl, dgetS m1 eu, ?_⟩
    have wp := W.wf m _ (prg_mem ask.mem W.nd)
    refine ⟨_, A, L, rk, D, _, S ++ [m], some m, ax, pl, xs, prg L m, rk m, false, rfl, W, run3, ?_, hpl, hst, (fun e => nol (by rw [e])), wp, Nat.le_of_lt_succ ask.lt, ?_, (fun e => by cases e), fun _ => .inr rfl, ⟨List.mem_append.mpr (.inr (List.mem_singleton.mpr rfl)), by rw [valV_put, if_pos rfl], ax3⟩, ?_⟩
    · rintro c (h | h)
      · exact k03.al (ask.al c h) fun q => run.n3av q h
      · rw [h, ax3]; simp
    · intro x hx
      rcases List.mem_append.mp hx with h | h
      · exact Nat.le_of_lt (ask.up x h)
      · rw [List.mem_singleton.mp h]; exact Nat.le_refl _
    · intro H6 D6 E6 t box aft own6 ht6 hbox6 nbox
      obtain ⟨_, o2, o3⟩ := own6
      refine ⟨t, _, 0, .bl (runP L rk (some m) (prg L m)).ended, rfl, rfl, SqT.of ht6, rfl, ?_⟩
      have run7 : ScAt Av H6 A L rk D6 E6 := aft.run.less fun c h => .inl h
      have k06 : Kp (N3 A) H H6 := k03.trans aft.kp (fun _ h => h) (fun c h => by
        rcases h with h | ⟨_, h⟩
        · exact .inl h
        · exact .inr (by rw [h]; exact nax))
      have hn6 : m ∉ keysD D6 := fun h => by
        rcases (aft.keys m).mp h with h | h
        · exact hnot h
        · have := (RchP.names W wp h).2
          omega
      have er := res_eq W ask.mem
      have lD := run7.lenD W
      have lE6 := run7.lenE W
      have eE : ∀ x ∈ S, valV E6 (Sum.inr x) = valV E' (Sum.inr x) := fun x hx => by
        rw [aft.same x (List.mem_append.mpr (.inl hx)), valV_put, if_neg]
        intro e
        have := ask.up x hx
        rw [Sum.inr.inj e] at this
        omega
      have hcl : ∀ x, Rch L rk m x → x = m ∨ x ∈ keysD D6 := fun x h => (Rch.iff.mp h).imp id fun h => (aft.keys x).mpr (.inr h)
      have hkey : ∀ b : Bool, ∀ x, x ∈ keysD (D6 ++ [(m, b)]) ↔ x ∈ keysD D ∨ Rch L rk m x := fun b x => by
        have ek : keysD (D6 ++ [(m, b)]) = keysD D6 ++ [m] := by unfold keysD; rw [List.map_append]; rfl
        rw [ek, List.mem_append, aft.keys x, Rch.iff, List.mem_singleton]
        constructor
        · rintro ((h | h) | h)
          · exact .inl h
          · exact .inr (.inr h)
          · exact .inr (.inl h)
        · rintro (h | h | h)
          · exact .inl (.inl h)
          · exact .inr h
          · exact .inl (.inr h)
      -- the flag
      refine ⟨by show 2 ≤ sizeLine; decide, fun fl nfl => ?_⟩
      have s7 : Same H6 (upd H6 fl (.lst [.str "failed", .str "ready"])) := Same.new nfl _
      have hfl7 : (upd H6 fl (.lst [.str "failed", .str "ready"])) fl = some (.lst [.str "failed", .str "ready"]) := upd_same
      have run8 := run7.same s7
      have o38 := s7 _ _ o3
      have k08 := k06.same s7
      generalize upd H6 fl (.lst [.str "failed", .str "ready"]) = H7 at s7 hfl7 run8 o38 k08
      generalize eb : (runP L rk (some m) (prg L m)).ended = b
      refine ⟨_, rfl, .inr ⟨b, rfl, ?_⟩⟩
      have ixb : atI [V.str "failed", V.str "ready"] (if b = true then 1 else 0) = some (.str (stT b)) := by cases b <;> rfl
      refine ⟨fl, _, _, .str (stT b), rfl, rfl, SqL.of hfl7, ixb, ?_⟩
      refine ⟨_, rfl, A.sc, _, rfl, dgetS run8.ob (scD_s A), _, rfl, A.ds, _, rfl, dputS run8.sts (by rw [sDict_len]; omega) (sDict_put b hn6), ?_⟩
      obtain ⟨n1, n2, n3, n4, n5⟩ := run8.dne
      obtain ⟨os, q1, q2⟩ := run8.ord
      have k9 : Kp (N3 A) H7 (upd H7 A.ds (.dK (sDict (D6 ++ [(m, b)])))) := (Kp.refl H7 : Kp (N3 A) _ _).upd (fun _ h => h) (.inl (.inl rfl)) (nt_dK run8.sts) _
      have ds_ol : A.ol ≠ A.ds := fun e => by rw [e, run8.sts] at q1; cases q1
      have dx_ol : A.ol ≠ A.dx := fun e => by rw [e, run8.exd] at q1; cases q1
      have sc_ol : A.sc ≠ A.ol := fun e => by
        have := run8.ob
        rw [e, q1] at this; cases this
      have e1 : (res L rk m).ready = b := by rw [er]; exact eb
      have e2 : (res L rk m).exps = if b = true then (runP L rk (some m) (prg L m)).exps else [] := by rw [er, ← eb]; rfl
      -- the exports that stay
      refine ⟨fun σ' H' => ∃ (E9 : List (Key × V)) (a : Addr), σ' = [some (.ref A.sc), some (.str m), some (.bl b)] ∧ Kp (N3 A) H7 H' ∧ H' A.sc = some (.dK (scD A)) ∧ H' A.ds = some (.dK (sDict (D6 ++ [(m, b)]))) ∧ H' A.dx = some (.dK E9) ∧ H' A.ol = some (.lst (os.map V.str)) ∧ (∀ x, x ≠ m → valV E9 (Sum.inr x) = valV E6 (Sum.inr x)) ∧
        valV E9 (Sum.inr m) = some (.ref a) ∧ H' a = some (.dK (xDict (res L rk m).exps)) ∧ a ≠ A.ds ∧ a ≠ A.dx ∧ a ≠ A.ol ∧ ¬ Av a ∧ (E9.map (·.1)).Nodup ∧ (∀ k ∈ E9.map (·.1), k ∈ (names L).map Sum.inr), ?_, ?_⟩
      · refine ⟨_, rfl, b, rfl, ?_⟩
        cases b with
        | true =>
          refine iteF ?_
          refine ⟨E6, ax, rfl, k9, by rw [upd_ne n1]; exact run8.ob, upd_same, by rw [upd_ne n5.symm]; exact run8.exd, by rw [upd_ne ds_ol]; exact q1, fun _ _ => rfl, ?_, ?_, ax_ds, ax_dx, ?_, avax, run8.end1, run8.ek⟩
          · rw [aft.same m (List.mem_append.mpr (.inr (List.mem_singleton.mpr rfl))), valV_put, if_pos rfl]
          · rw [upd_ne ax_ds, e2, if_pos rfl]; exact o38
          · exact fun e => by rw [e, q1] at o38; cases o38
        | false =>
          refine iteT ?_
          intro a2 na2
          have na27 : H7 a2 = none := by
            by_cases e : a2 = A.ds
            · rw [e, upd_same] at na2; cases na2
            · rw [upd_ne e] at na2; exact na2
          have a2_ds : a2 ≠ A.ds := fun e => by rw [e, run8.sts] at na27; cases na27
          have a2_dx : a2 ≠ A.dx := fun e => by rw [e, run8.exd] at na27; cases na27
          have a2_ol : a2 ≠ A.ol := fun e => by rw [e, q1] at na27; cases na27
          have a2_sc : A.sc ≠ a2 := ne_of_none run8.ob na27
          have na20 : H a2 = none := k08.free na27 (run8.nN3 na27)
          have ka := k9.upd (T := N3 A) (fun _ h => h) (l := a2) (.inr na27) (nt_none na2) (.dK [])
          have sc9 : (upd (upd H7 A.ds (.dK (sDict (D6 ++ [(m, false)])))) a2 (.dK [])) A.sc = some (.dK (scD A)) := by rw [upd_ne a2_sc, upd_ne n1]; exact run8.ob
          have dx9 : (upd (upd H7 A.ds (.dK (sDict (D6 ++ [(m, false)])))) a2 (.dK [])) A.dx = some (.dK E6) := by rw [upd_ne a2_dx.symm, upd_ne n5.symm]; exact run8.exd
          refine ⟨_, rfl, A.sc, _, rfl, dgetS sc9 (scD_x A), _, rfl, A.dx, _, rfl, dputS dx9 (by omega) rfl, ?_⟩
          have kb := ka.upd (T := N3 A) (fun _ h => h) (l := A.dx) (.inl (.inr (.inl rfl))) (nt_dK dx9) (.dK (putK E6 (Sum.inr m) (.ref a2)))
          refine ⟨putK E6 (Sum.inr m) (.ref a2), a2, rfl, kb, by rw [upd_ne n2]; exact sc9, by rw [upd_ne n5, upd_ne a2_ds.symm, upd_same], upd_same, by rw [upd_ne dx_ol, upd_ne a2_ol.symm, upd_ne ds_ol]; exact q1, fun x hx => by rw [valV_put, if_neg (fun e => hx (Sum.inr.inj e))], by rw [valV_put, if_pos rfl], ?_, a2_ds, a2_dx, a2_ol, fun h => ask.al a2 h na20, putK_nd run8.end1 _ _, putK_sub run8.ek (List.mem_map.mpr ⟨m, ask.mem, rfl⟩) _⟩
          rw [upd_ne a2_dx, upd_same, e2]
          rfl
      · rintro σ' H9 ⟨E9, a, rfl, k79, z1, z2, z3, z4, z5, z6, z7, z8, z9, z10, z11, z12, z13⟩
        refine ⟨_, rfl, A.sc, _, rfl, dgetS z1 (scD_o A), Or.inl ⟨rfl, _, SqL.of z4⟩, _, rfl, ?_⟩
        refine ⟨A.ol, _, _, rfl, rfl, z4, by rw [List.length_map]; omega, ?_⟩
        have kc := k79.upd (T := N3 A) (fun _ h => h) (l := A.ol) (.inl (.inr (.inr rfl))) (nt_lst z4) (.lst (os.map V.str ++ [.str m]))
        have ra := ScAt.add run8 (E' := E9) (a := a) ask.mem hn6 hcl kc (by rw [upd_ne ds_ol.symm, z2, e1]) (by rw [upd_ne dx_ol.symm]; exact z3) ⟨os ++ [m], by rw [upd_same, List.map_append]; rfl, by rw [List.length_append]; show os.length + 1 ≤ _; omega⟩ z5 z6 (by rw [upd_ne z10]; exact z7) ⟨z8, z9, z11⟩ z12 z13
        rw [e1] at ra
        refine q _ _ E9 ⟨ra, hkey b, fun x hx => ?_, k08.trans' kc⟩
        rw [z5 x (fun e => by
          have := ask.up x hx
          rw [e] at this
          omega)]
        exact eE x hx
end
end Cy

set_option Elab.async false
set_option linter.all false
set_option maxRecDepth 100000
set_option maxHeartbeats 4000000
/-! The law's own scene: _law_done. -/
namespace Cy
open PySem PySem.Spec PyProof.Rows L2
structure LoopS (Av : Addr → Prop) (H : Hp) (A : SA) (L : Lib) (rk : Str → Nat) (D : List (Str × Bool)) (E : List (Key × V)) (S : List Str) (own : Option Str) (ax box sl : Addr) (p : List Stp) (H1 : Hp) (i : Nat) (g : Str → Int) (acc : List Str) (X : List (Str × Int)) (done : List Str) (D1 : List (Str × Bool)) (E1 : List (Key × V)) : Prop where
  run : ScAt (fun c => Av c ∨ c = box) H1 A L rk D1 E1
  keys : ∀ x, x ∈ keysD D1 ↔ x ∈ keysD D ∨ ∃ a ∈ done, Rch L rk a x
  same : ∀ x ∈ S, valV E1 (Sum.inr x) = valV E (Sum.inr x)
  kp : Kp (frS A own ax) H H1
  bx : H1 box = some (.dK (vDict g))
  own_ : OwnS H1 E1 S ax X own
  seen : ∃ ss : List Str, H1 sl = some (.lst (ss.map V.str)) ∧ ss.length ≤ i ∧ ∀ x, x ∈ ss ↔ x ∈ acc
  sl_ : sl ≠ A.ol
  sub : ∀ m ∈ acc, m ∈ keysD D1
  rest : Rest L rk own p i g acc X done
  xl : X.length ≤ i
  hi : i ≤ p.length
section
variable {Av : Addr → Prop} {H H1 H2 : Hp} {A : SA} {L : Lib} {rk : Str → Nat} {D D1 : List (Str × Bool)} {E E1 : List (Key × V)} {S : List Str} {own : Option Str} {ax box sl : Addr} {p : List Stp} {i j : Nat} {g g' : Str → Int} {acc : List Str} {X : List (Str × Int)} {done : List Str}
theorem OwnS.mono {T : Addr → Prop} {E' : List (Key × V)} {o : Option Str} (h : OwnS H1 E1 S ax X o) (e : Kp T H1 H2) (hn : o ≠ none → ¬ T ax) (hv : ∀ m ∈ S, valV E' (Sum.inr m) = valV E1 (Sum.inr m)) : OwnS H2 E' S ax X o := by
  cases o with
  | none => exact h
  | some m =>
    obtain ⟨a, b, c⟩ := h
    exact ⟨a, by rw [hv m a]; exact b, e.at c (hn (by simp))⟩
theorem LoopS.same_ (h : LoopS Av H A L rk D E S own ax box sl p H1 i g acc X done D1 E1) (e : Same H1 H2) : LoopS Av H A L rk D E S own ax box sl p H2 i g acc X done D1 E1 := by
  obtain ⟨ss, s1, s2, s3⟩ := h.seen
  exact ⟨h.run.same e, h.keys, h.same, h.kp.same e, e _ _ h.bx, h.own_.mono (T := fun _ => False) (Kp.of e) (fun _ => id) fun _ _ => rfl, ⟨ss, e _ _ s1, s2, s3⟩, h.sl_, h.sub, h.rest, h.xl, h.hi⟩
/-- the box is written -/
theorem LoopS.put (h : LoopS Av H A L rk D E S own ax box sl p H1 i g acc X done D1 E1) (nb : H box = none) (nax : own ≠ none → ax ≠ box) (g' : Str → Int) (r : Rest L rk own p j g' acc X done) (hij : i ≤ j) (hj : j ≤ p.length) :
    LoopS Av H A L rk D E S own ax box sl p (upd H1 box (.dK (vDict g'))) j g' acc X done D1 E1 := by
  have k : Kp (fun c => c = box) H1 (upd H1 box (.dK (vDict g'))) := (Kp.refl H1 : Kp (fun c => c = box) _ _).upd (fun _ h => h) (.inl rfl) (nt_dK h.bx) _
  obtain ⟨ss, s1, s2, s3⟩ := h.seen
  refine ⟨h.run.mono k fun c e => .inr e, h.keys, h.same, h.kp.trans k (fun _ h => h) (fun c e => .inr (by rw [e]; exact nb)), upd_same, h.own_.mono k nax fun _ _ => rfl, ⟨ss, k.at s1 (fun e => by rw [e, h.bx] at s1; cases s1), Nat.le_trans s2 hij, s3⟩, h.sl_, h.sub, r, Nat.le_trans h.xl hij, hj⟩
theorem Rest.mark {L : Lib} {rk : Str → Nat} {own : Option Str} {p : List Stp} {i : Nat} {g : Str → Int} {acc : List Str} {X : List (Str × Int)} {done : List Str} {m : Str} (r : Rest L rk own p i g acc X done) (h : m ∈ (exec (res L rk) own 0 (p.drop i) g acc X).hit) : Rest L rk own p i g acc X (m :: done) := by
  refine ⟨r.e1, r.e2, r.e3, fun x => (r.e4 x).trans ?_⟩
  rw [List.mem_cons]
  constructor
  · rintro (h1 | h1)
    · exact .inl (.inr h1)
    · exact .inr h1
  · rintro ((rfl | h1) | h1)
    · exact .inr h
    · exact .inl h1
    · exact .inr h1
theorem Rest.past {L : Lib} {rk : Str → Nat} {own : Option Str} {p : List Stp} {i j : Nat} {g g' : Str → Int} {acc acc' : List Str} {X X' : List (Str × Int)} {done : List Str} {m : Str} (r : Rest L rk own p i g acc X (m :: done))
    (e : exec (res L rk) own 0 (p.drop i) g acc X = hitC m (exec (res L rk) own 0 (p.drop j) g' acc' X')) : Rest L rk own p j g' acc' X' (m :: done) := by
  obtain ⟨a, b, c, d⟩ := r
  rw [e] at a b c d
  refine ⟨a, b, c, fun x => (d x).trans ?_⟩
  show x ∈ m :: done ∨ x ∈ m :: _ ↔ _
  simp only [List.mem_cons]
  constructor
  · rintro (h | h | h)
    · exact .inl h
    · exact .inl (.inl h)
    · exact .inr h
  · rintro (h | h)
    · exact .inl h
    · exact .inr (.inr h)
/-- modules were started -/
theorem LoopS.after {n : Nat} {H3 : Hp} {D3 : List (Str × Bool)} {E3 : List (Key × V)} {m : Str} (h : LoopS Av H A L rk D E S own ax box sl p H1 i g acc X done D1 E1) (f : AfterS (fun c => Av c ∨ c = box) H1 A L rk D1 E1 S (Rch L rk m) (N3 A) H3 D3 E3) (aax : own ≠ none → Av ax) (nsl : H1 sl ≠ none)
    (r : Rest L rk own p i g acc X (m :: done)) : LoopS Av H A L rk D E S own ax box sl p H3 i g acc X (m :: done) D3 E3 := by
  have nv : ∀ {c : Addr}, (Av c ∨ c = box) → ¬ N3 A c := fun hc q => h.run.n3av q hc
  obtain ⟨ss, s1, s2, s3⟩ := h.seen
  refine ⟨f.run, fun x => ?_, fun x hx => (f.same x hx).trans (h.same x hx), h.kp.trans f.kp (fun _ h => h) (fun c q => .inl (.inl q)), f.kp.at h.bx (nv (.inr rfl)), h.own_.mono f.kp (fun hn => nv (.inl (aax hn))) f.same, ⟨ss, f.kp.at s1 ?_, s2, s3⟩, h.sl_, fun y hy => (f.keys y).mpr (.inl (h.sub y hy)), r, h.xl, h.hi⟩
  · rw [f.keys, h.keys]
    constructor
    · rintro ((h | ⟨a, h1, h2⟩) | h)
      · exact .inl h
      · exact .inr ⟨a, List.mem_cons_of_mem _ h1, h2⟩
      · exact .inr ⟨m, List.mem_cons_self, h⟩
    · rintro (h | ⟨a, h1, h2⟩)
      · exact .inl (.inl h)
      · rcases List.mem_cons.mp h1 with rfl | h1
        · exact .inr h2
        · exact .inl (.inr ⟨a, h1, h2⟩)
  · rintro (e | e | e)
    · rw [e, h.run.sts] at s1; cases s1
    · rw [e, h.run.exd] at s1; cases s1
    · exact h.sl_ e
end
section
variable {P : Program} {w : World} {K : PySem.W.Frag} {mg : Str → Option Value} {base : Heap} {aV aP aF CL CF CP : Addr} {fk : Str → Addr} {fa : Addr} {fd : FuncData}
theorem scDone : FnScope ["_law_scene", "_law_module", "_law_program_here", "_law_box", "_law_seen", "_law_at", "_law_step", "_law_is_ready", "_law_known", "_law_one"] ["_law_scene", "_law_module", "_law_program_here"] (defScope sDone) := ⟨rfl, rfl, rfl, by decide +kernel, rfl, by decide +kernel, by decide +kernel⟩
theorem merge_v : mergeK [] (vrs.map fun x => ((Sum.inr x : Key), V.int 0)) = vDict f0 := by rfl
theorem b01 (b : Bool) : (if b = true then (1 : Int) else 0).toNat = if b = true then 1 else 0 := by cases b <;> rfl
theorem ok_done (n : Nat) {k : Nat} (F : FnF K mg "_law_done" sDone [] [] fa fd) (T : G0 K mg aV aP) (h1 : Pr P w K mg base "_law_started" ["_law_scene", "_law_module"] [] k (spStarted n)) :
    Pr P w K mg base "_law_done" ["_law_scene", "_law_module", "_law_program_here"] [] (k + 1) (spDone n) := by
  refine ⟨fa, fd, [], F.mg_, F.fn.kp, F.fn.ok0 scDone (fun vs H Q E h => ?_) (fun cdv A' outer s H vs Q E hr h => ?_), .nil, F.fn.bindsN fun _ _ _ _ _ _ us hl => match us, hl with | [_, _, _], _ => rfl⟩
  · obtain ⟨Av, A, L, rk, D, E', S, own, ax, pl, xs, p, rr, main, rfl, _⟩ := h
    rfl
  · obtain ⟨Av, A, L, rk, D, E', S, own, ax, pl, xs, p, rr, main, rfl, W, run, al, hpl, hst, pl_ol, wp, hrn, hS, hmain, aax, ho, q⟩ := h
    have hu := hu_of hr
    refine ⟨_, pss_cons (ps_par3 (i := 3) (j := 4) (l := 5) rfl scDone.nd rfl rfl rfl (by decide) (by decide) (by decide) rfl rfl rfl (pa_cons (pe_callTy (call_dictP rfl) rfl T.dict (by decide +kernel) (pa_cons
          (pe_lc (own := [("_law_one", 9)]) (g := gName 9) (tt := tYes) (te := tTup (tCons (tVar 9) (tCons (tC (.int 0)) tNil))) rfl scDone.nd (pi_str pe_str)
            (blkOk_by (N := ["_law_scene", "_law_module", "_law_program_here", "_law_box", "_law_seen", "_law_at", "_law_step", "_law_is_ready", "_law_known", "_law_one"]) (sc := defScope sDone) (by decide +kernel))
            (fun _ _ _ _ _ => pg_name (i := 9) scDone.nd rfl (Or.inl rfl)) (fun _ _ _ _ _ => pts_nil) (fun _ _ _ _ _ => pe_tup (pa_cons (pv 9) (pa_cons pe_int pa_nil)))) pa_nil)) (pa_cons (pe_lst pa_nil) (pa_cons pe_int pa_nil))) rfl)
      (pss_cons (ps_while PassesOwn.never (pt_cmpR op_lt (pv 5) (pe_callB call_len rfl T.len PySem.boot_len (pa_cons (pv 2) pa_nil)) (nomark _))
        (pss_cons (ps_par (i := 6) (j := 5) rfl scDone.nd rfl rfl (by decide) rfl rfl (pa_cons (pe_ix ix_list (pv 2) (pv 5) (fun _ _ => rfl)) (pa_cons (pe_op op_add (pv 5) pe_int) pa_nil)) rfl)
        (pss_cons (ps_if (pt_cmpR op_eq (pe_ix ix_tup (pv 6) pe_int (fun _ _ => rfl)) pe_str (nomark _)) (pss_one (ps_ret (pe_tup (pa_cons pe_bl (pa_cons (pv 3) pa_nil))))) pss_nil)
        (pss_one (ps_if (pt_cmpR op_in_seq (pe_ix ix_tup (pv 6) pe_int (fun _ _ => rfl)) (pe_tup (pa_cons pe_str (pa_cons pe_str pa_nil))) (by rfl))
          (pss_mid (ps_if (pt_cmp (pc_dnotin hu (pe_ix ix_tup (pv 6) pe_int (fun _ _ => rfl)) (pe_dget hu (pv 0) pe_str (fun _ _ => rfl)))) (pss_one (ps_expr (pe_pr h1 hr rfl (pa_cons (pv 0) (pa_cons (pe_ix ix_tup (pv 6) pe_int (fun _ _ => rfl)) pa_nil))))) pss_nil)
          (pss_cons (ps_set (i := 7) scDone.nd rfl (Or.inl rfl) (pe_cmpR op_eq (pe_dget hu (pe_dget hu (pv 0) pe_str (fun _ _ => rfl)) (pe_ix ix_tup (pv 6) pe_int (fun _ _ => rfl)) (fun _ _ => rfl)) pe_str (nomark _)))
          (pss_cons (ps_if (PW.pt (pw_and (pt_cmpR op_eq (pe_ix ix_tup (pv 6) pe_int (fun _ _ => rfl)) pe_str (nomark _)) (pw_and1 (pt_not (pt_val (pv 7)))))) (pss_one (ps_ret (pe_tup (pa_cons pe_bl (pa_cons (pv 3) pa_nil))))) pss_nil)
          (pss_mid (ps_if (pt_cmpR op_eq (pe_ix ix_tup (pv 6) pe_int (fun _ _ => rfl)) pe_str (nomark _)) (pss_one (ps_dput hu (pv 3) (pe_ix ix_tup (pv 6) pe_int (fun _ _ => rfl)) (pe_callTy call_int1 rfl T.int (by decide +kernel) (pa_cons (pv 7) pa_nil)) rfl)) pss_nil)
          (pss_one (ps_set (i := 4) scDone.nd rfl (Or.inl rfl) (pe_op op_cat (pv 4) (pe_op op_rep (pe_lst (pa_cons (pe_ix ix_tup (pv 6) pe_int (fun _ _ => rfl)) pa_nil)) (pe_callTy call_int1 rfl T.int (by decide +kernel) (pa_cons (pv 7) pa_nil))))))))))
        (pss_one (ps_if (pt_cmpR op_eq (pe_ix ix_tup (pv 6) pe_int (fun _ _ => rfl)) pe_str (nomark _))
          (pss_cons (ps_set (i := 8) scDone.nd rfl (Or.inl rfl) (pe_ifExp (PW.pt (pw_or (pt_cmpR op_in_seq (pe_ix ix_tup (pv 6) pe_int (fun _ _ => rfl)) (pv 4) (by rfl)) (pw_or1 (pt_cmpR op_eq (pe_ix ix_tup (pv 6) pe_int (fun _ _ => rfl)) (pv 1) (nomark _)))))
              (pe_dget2 hu (pe_dget hu (pv 0) pe_str (fun _ _ => rfl)) (pe_ix ix_tup (pv 6) pe_int (fun _ _ => rfl)) pe_dnewK ⟨rfl, rfl, rfl, rfl⟩) pe_dnewK))
            (pss_one (ps_dput hu (pv 3) (pe_ix ix_tup (pv 6) pe_int (fun _ _ => rfl)) (pe_dget2 hu (pv 8) (pe_ix ix_tup (pv 6) pe_int (fun _ _ => rfl)) (pe_un un_neg pe_int) ⟨rfl, rfl, rfl, rfl⟩) rfl)))
        (pss_one (ps_if (pt_cmpR op_eq (pe_ix ix_tup (pv 6) pe_int (fun _ _ => rfl)) pe_str (nomark _))
          (pss_one (ps_dput hu (pe_dget hu (pe_dget hu (pv 0) pe_str (fun _ _ => rfl)) (pv 1) (fun _ _ => rfl)) (pe_ix ix_tup (pv 6) pe_int (fun _ _ => rfl)) (pe_dget hu (pv 3) (pe_ix ix_tup (pv 6) pe_int (fun _ _ => rfl)) (fun _ _ => rfl)) rfl))
        (pss_one (ps_if (pt_cmpR op_eq (pe_ix ix_tup (pv 6) pe_int (fun _ _ => rfl)) pe_str (nomark _))
          (pss_one (ps_set (i := 5) scDone.nd rfl (Or.inl rfl) (pe_op op_add (pv 5) (pe_op op_mul (pe_ix ix_tup (pv 6) pe_int (fun _ _ => rfl)) (pe_callTy call_int1 rfl T.int (by decide +kernel) (pa_cons (pe_cmpR op_gt (pe_dget hu (pv 3) (pe_ix ix_tup (pv 6) pe_int (fun _ _ => rfl)) (fun _ _ => rfl)) pe_int (nomark _)) pa_nil))))))
        (pss_one (ps_dput hu (pv 3) (pe_ix ix_tup (pv 6) pe_int (fun _ _ => rfl)) (pe_ifExp (pt_cmpR op_eq (pe_ix ix_tup (pv 6) pe_int (fun _ _ => rfl)) pe_str (nomark _)) (pe_ix ix_tup (pv 6) pe_int (fun _ _ => rfl)) (pe_op op_add (pe_dget hu (pv 3) (pe_ix ix_tup (pv 6) pe_int (fun _ _ => rfl)) (fun _ _ => rfl)) (pe_dget hu (pv 3) (pe_ix ix_tup (pv 6) pe_int (fun _ _ => rfl)) (fun _ _ => rfl)))) rfl)))))))))))))
      (pss_one (ps_ret (pe_tup (pa_cons pe_bl (pa_cons (pv 3) pa_nil)))))), ?_⟩
    have hsz : sizeLine = 2 ^ 24 := by rfl
    have hp10 := wp.len
    have elx : xs.length = p.length := Paired.len hst
    have nfr : ¬ frS A own ax pl := by
      rintro ((e | e | e) | ⟨hn, e⟩)
      · rw [e, run.sts] at hpl; cases hpl
      · rw [e, run.exd] at hpl; cases hpl
      · exact pl_ol e
      · cases own with
        | none => exact hn rfl
        | some y => rw [e, ho.2.2] at hpl; cases hpl
    -- the box
    refine ⟨("abcd" : Str), rfl, fun C nC => ?_⟩
    have nab : (("abcd" : Str)).cps.size = 4 := by decide +kernel
    refine lc_it (walk_str (z := ("abcd" : Str))) (fun i H' => Same H H' ∧ ∃ ps : List Addr, H' C = some (.lst (ps.map V.ref)) ∧ Paired (fun a (kv : Key × V) => H' a = some (.tup [kV kv.1, kv.2])) ps ((vrs.take i).map fun x => ((Sum.inr x : Key), V.int 0))) ⟨Same.new nC _, [], upd_same, .nil⟩ (fun _ _ _ _ => trivial) ?_ ?_
    · rintro i v H2 H1 hi ⟨t1, ps, hC1, hps⟩ ⟨rfl, c, hc, rfl⟩
      refine ⟨rfl, ?_⟩
      have hy : ∃ y, vrs[i]? = some y ∧ V.str y = V.str ⟨#[c]⟩ := by
        have e1 : ((("abcd" : Str)).cps.toList.map fun c => V.str ⟨#[c]⟩)[i]? = some (V.str ⟨#[c]⟩) := by rw [List.getElem?_map, Array.getElem?_toList, hc]; rfl
        rw [abcd_items, List.getElem?_map] at e1
        exact Option.map_eq_some_iff.mp e1
      obtain ⟨y, ey, eyc⟩ := hy
      refine ⟨_, rfl, by show 2 ≤ sizeLine; decide, fun t nt => ?_⟩
      have tC : C ≠ t := ne_of_none hC1 nt
      have s2 : Same H1 (upd H1 t (.tup [.str ⟨#[c]⟩, .int 0])) := Same.new nt _
      have lps : ps.length ≤ 4 := by
        rw [Paired.len hps, List.length_map]
        exact List.length_take_le' _ _
      have hC2 := s2 _ _ hC1
      have k3 : Kp (fun c => c = C) (upd H1 t (.tup [.str ⟨#[c]⟩, .int 0])) (upd (upd H1 t (.tup [.str ⟨#[c]⟩, .int 0])) C (.lst (ps.map V.ref ++ [.ref t]))) := (Kp.refl _ : Kp (fun c => c = C) _ _).upd (fun _ h => h) (.inl rfl) (nt_lst hC2) _
      refine ⟨_, hC2, by rw [List.length_map]; omega, (t1.trans s2).upd nC _, ps ++ [t], by rw [upd_same, List.map_append]; rfl, ?_⟩
      have et : vrs.take (i + 1) = vrs.take i ++ [y] := by rw [List.take_add_one, ey]; rfl
      rw [et, List.map_append]
      refine Paired.snoc (Paired.imp (fun a kv r => k3.tup (s2 _ _ r)) hps) (k3.tup ?_)
      show (upd H1 t (.tup [.str ⟨#[c]⟩, .int 0])) t = some (.tup [.str y, .int 0])
      rw [upd_same, eyc]
    rintro H1 ⟨t1, ps, hC1, hps⟩
    rw [nab] at hps
    refine ⟨C, ps, vrs.map fun x => ((Sum.inr x : Key), V.int 0), rfl, SqL.of hC1, Paired.imp (fun a kv r => SqT.of r) hps, fun box nbox1 => ?_⟩
    rw [merge_v]
    have s2 : Same H1 (upd H1 box (.dK (vDict f0))) := Same.new nbox1 _
    have hbox2 : (upd H1 box (.dK (vDict f0))) box = some (.dK (vDict f0)) := upd_same
    have nbox : H box = none := t1.free nbox1
    generalize upd H1 box (.dK (vDict f0)) = H2 at s2 hbox2
    refine ⟨by decide, fun sl0 nsl2 => ?_⟩
    have s3 : Same H2 (upd H2 sl0 (.lst [])) := Same.new nsl2 _
    have hsl3 : (upd H2 sl0 (.lst [])) sl0 = some (.lst (([] : List Str).map V.str)) := upd_same
    have s03 := (t1.trans s2).trans s3
    have hbox3 := s3 _ _ hbox2
    generalize upd H2 sl0 (.lst []) = H3 at s3 hsl3 s03 hbox3
    have nbav : ¬ Av box := fun h => al box h nbox
    have bx_ax : own ≠ none → ax ≠ box := fun hn e => nbav (e ▸ aax hn)
    have sl_ol0 : sl0 ≠ A.ol := fun e => by
      obtain ⟨os, o1, _⟩ := run.ord
      have := (t1.trans s2) _ _ o1
      rw [← e, nsl2] at this
      cases this
    have L0 : LoopS Av H A L rk D E' S own ax box sl0 p H3 0 f0 [] [] [] D E' := by
      refine ⟨(run.more fun c h => h.imp id fun e => by rw [e]; exact nbox).same s03, fun x => ?_, fun _ _ => rfl, Kp.of s03, hbox3, ho.mono (T := fun _ => False) (Kp.of s03) (fun _ => id) fun _ _ => rfl, ⟨[], hsl3, Nat.le_refl _, fun x => Iff.rfl⟩, sl_ol0, fun _ h => (by cases h), ⟨rfl, rfl, rfl, fun x => ?_⟩, Nat.le_refl _, Nat.zero_le _⟩
      · simp
      · simp [runP]
    refine ⟨_, _, _, rfl, ?_⟩
    refine ⟨fun mm σ H1 => ∃ (i : Nat), ∃ g acc X done D1 E1 sl u1 u2 u3, ∃ ki : Int, ki = (i : Int) ∧ mm = p.length - i ∧ σ = [some (.ref A.sc), some (ownV own), some (.ref pl), some (.ref box), some (.ref sl), some (.int ki), u1, u2, u3, none] ∧ LoopS Av H A L rk D E' S own ax box sl p H1 i g acc X done D1 E1,
      ⟨_, 0, f0, [], [], [], D, E', sl0, none, none, none, 0, rfl, rfl, rfl, L0⟩, ?_⟩
    rintro mm σ H4 ⟨i, g, acc, X, done, D1, E1, sl, u1, u2, u3, ki, hki, rfl, rfl, Lp⟩
    -- the end
    have fin : ∀ {H2 : Hp} {i : Nat} {g : Str → Int} {acc : List Str} {X : List (Str × Int)} {done : List Str} {D1 : List (Str × Bool)} {E1 : List (Key × V)} {sl : Addr} (b : Bool), LoopS Av H A L rk D E' S own ax box sl p H2 i g acc X done D1 E1 →
        (exec (res L rk) own 0 (p.drop i) g acc X).ended = b → (exec (res L rk) own 0 (p.drop i) g acc X).vars = g → (exec (res L rk) own 0 (p.drop i) g acc X).exps = X → (∀ x ∈ (exec (res L rk) own 0 (p.drop i) g acc X).hit, x ∈ done) → ∀ t, H2 t = none → Q (.ref t) (upd H2 t (.tup [.bl b, .ref box])) := fun {H2 i g acc X done D1 E1 sl} b Lp z1 z2 z3 z4 t nt => by
      have s5 : Same H2 (upd H2 t (.tup [.bl b, .ref box])) := Same.new nt _
      have Lq := Lp.same_ s5
      have y1 := Lq.rest.e1.trans z1
      refine q _ D1 E1 t box ⟨Lq.run.less fun c h => .inl h, fun x => (Lq.keys x).trans ?_, Lq.same, Lq.kp⟩ ?_ ?_ ?_ nbox
      · refine or_congr Iff.rfl ⟨fun ⟨a, h1, h2⟩ => ⟨a, (Lq.rest.e4 a).mpr (.inl h1), h2⟩, fun ⟨a, h1, h2⟩ => ⟨a, ((Lq.rest.e4 a).mp h1).elim id (z4 a), h2⟩⟩
      · rw [Lq.rest.e3, z3]; exact Lq.own_
      · rw [y1]; exact upd_same
      · rw [Lq.rest.e2, z2]; exact Lq.bx
    have hpl4 := Lp.kp.at hpl nfr
    refine ⟨_, rfl, _, rfl, _, xs.length, rfl, Or.inl ⟨xs, SqL.of hpl4, rfl⟩, _, _, rfl, rfl, _, rfl, ?_⟩
    by_cases hni : ¬ i < p.length
    · rw [decide_eq_false (by omega)]
      refine iteF ?_
      have hie : i = p.length := by have := Lp.hi; omega
      have en : exec (res L rk) own 0 (p.drop i) g acc X = ⟨true, g, X, []⟩ := by rw [hie, List.drop_length, exec_nil]
      refine ⟨_, rfl, by show 2 ≤ sizeLine; decide, fun t nt => ?_⟩
      exact fin true Lp (by rw [en]) (by rw [en]) (by rw [en]) (by rw [en]; intro x h; cases h) t nt
    have hi : i < p.length := Classical.not_not.mp hni
    rw [decide_eq_true (by omega)]
    refine iteT ?_
    obtain ⟨s, hz⟩ : ∃ s, p[i]? = some s := ⟨p[i], List.getElem?_eq_getElem hi⟩
    have ws := wp.at_ i s hz
    have hok : OkS s := ws.ok
    obtain ⟨vv, evv, a, rfl, ha⟩ := Paired.at2 hst i s hz
    have ha4 := Lp.kp.tup ha
    refine ⟨fun σ' H' => ∃ (j : Nat), ∃ g acc X done D1 E1 sl u1 u2 u3, ∃ ki : Int, i < j ∧ ki = (j : Int) ∧ σ' = [some (.ref A.sc), some (ownV own), some (.ref pl), some (.ref box), some (.ref sl), some (.int ki), u1, u2, u3, none] ∧ LoopS Av H A L rk D E' S own ax box sl p H' j g acc X done D1 E1, ?_, ?_⟩
    · rintro σ' H' ⟨j, g, acc, X, done, D1, E1, sl, u1, u2, u3, ki, hj, hk, rfl, L'⟩
      exact ⟨p.length - j, by omega, j, g, acc, X, done, D1, E1, sl, u1, u2, u3, ki, hk, rfl, rfl, L'⟩
    refine ⟨_, rfl, _, rfl, pl, xs, ki, .ref a, rfl, rfl, SqL.of hpl4, by rw [hki]; exact atI_nat evv, _, rfl, ki, 1, rfl, rfl, ?_⟩
    refine ⟨_, _, rfl, ?_⟩
    have rd : ∀ {H' : Hp}, Same H4 H' → SqT K H' a (sv s) := fun e => e.seqT (SqT.of ha4)
    refine ⟨_, rfl, a, sv s, _, _, rfl, rfl, rd (Same.refl _), atI_nat (sv_0 s), rfl, decide (word s = "fail"), congrArg V.bl (str_dec _ _), ?_⟩
    rw [word_fail]
    by_cases hfl : s = .fail
    · subst hfl
      refine iteT ?_
      have er : exec (res L rk) own 0 (p.drop i) g acc X = ⟨false, g, X, []⟩ := by rw [drop_at hz]; rfl
      refine ⟨_, rfl, by show 2 ≤ sizeLine; decide, fun t nt => ?_⟩
      exact fin false Lp (by rw [er]) (by rw [er]) (by rw [er]) (by rw [er]; intro x h; cases h) t nt
    have ef : isFail s = false := by
      cases s with
      | fail => exact absurd rfl hfl
      | _ => rfl
    rw [ef]
    refine iteF ?_
    refine ⟨_, rfl, a, sv s, _, _, rfl, rfl, rd (Same.refl _), atI_nat (sv_0 s), ?_⟩
    refine ⟨by show 2 ≤ sizeLine; decide, fun t nt => ?_⟩
    have s5 : Same H4 (upd H4 t (.tup [.str "need", .str "try"])) := Same.new nt _
    have Lp := Lp.same_ s5
    have ha5 := s5 _ _ ha4
    have rd5 : ∀ {H' : Hp}, Same (upd H4 t (.tup [.str "need", .str "try"])) H' → SqT K H' a (sv s) := fun e => rd (s5.trans e)
    refine ⟨t, [.str "need", .str "try"], rfl, Or.inr (SqT.of upd_same), rfl, by decide, !(asksN s).isEmpty, ?_, ?_⟩
    · show V.bl (if false = true then !inV (V.str (word s)) (([("need" : Str), "try"] : List Str).map V.str) else inV (V.str (word s)) (([("need" : Str), "try"] : List Str).map V.str)) = _
      rw [if_neg Bool.false_ne_true, inV_strs, word_nt]
    generalize upd H4 t (.tup [.str "need", .str "try"]) = H5 at s5 Lp ha5 rd5
    have hk1 : ki + 1 = ((i + 1 : Nat) : Int) := by omega
    refine ite2 (fun e => ?_) (fun e => ?_)
    · -- need, try
      obtain ⟨m, hs⟩ : ∃ m, s = .need m ∨ ∃ x, s = .try_ m x := by
        cases s with
        | need m => exact ⟨m, .inl rfl⟩
        | try_ m x => exact ⟨m, .inr ⟨x, rfl⟩⟩
        | _ => cases e
      have e1 : (sv s)[1]? = some (.str m) := by rcases hs with rfl | ⟨x, rfl⟩ <;> rfl
      have hm : m ∈ names L ∧ IsName m ∧ rk m < rr := wp.asks (List.mem_of_getElem? hz) (by rcases hs with rfl | ⟨x, rfl⟩ <;> exact List.mem_singleton.mpr rfl)
      have hin : m ∈ (exec (res L rk) own 0 (p.drop i) g acc X).hit := by
        rw [drop_at hz]
        rcases hs with rfl | ⟨x, rfl⟩
        · show m ∈ (if (res L rk m).ready = true then hitC m (exec (res L rk) own 0 (p.drop (i + 1)) g (m :: acc) X) else ⟨false, g, X, [m]⟩ : Out).hit
          split
          · exact List.mem_cons_self
          · exact List.mem_cons_self
        · exact List.mem_cons_self
      refine ⟨fun σ' H' => ∃ D3 E3, σ' = [some (.ref A.sc), some (ownV own), some (.ref pl), some (.ref box), some (.ref sl), some (.int (ki + 1)), some (.ref a), u2, u3, none] ∧ LoopS Av H A L rk D E' S own ax box sl p H' i g acc X (m :: done) D3 E3 ∧ m ∈ keysD D3 ∧ H' a = some (.tup (sv s)), ?_, ?_⟩
      · refine ⟨_, rfl, a, sv s, 1, .str m, rfl, rfl, rd5 (Same.refl _), atI_nat (j := 1) e1, ?_⟩
        refine ⟨_, rfl, A.sc, _, rfl, dgetS Lp.run.ob (scD_s A), A.ds, valV (sDict D1) (Sum.inr m), rfl, DGet.k (k := Sum.inr m) Lp.run.sts, ?_⟩
        by_cases hmd : m ∈ keysD D1
        · rw [Lp.run.flag hmd]
          refine ⟨false, rfl, iteF ⟨D1, E1, rfl, ⟨Lp.run, fun x => ?_, Lp.same, Lp.kp, Lp.bx, Lp.own_, Lp.seen, Lp.sl_, Lp.sub, Lp.rest.mark hin, Lp.xl, Lp.hi⟩, hmd, ha5⟩⟩
          rw [Lp.keys]
          constructor
          · rintro (h | ⟨b, h1, h2⟩)
            · exact .inl h
            · exact .inr ⟨b, List.mem_cons_of_mem _ h1, h2⟩
          · rintro (h | ⟨b, h1, h2⟩)
            · exact .inl h
            · rcases List.mem_cons.mp h1 with rfl | h1
              · exact (Lp.keys x).mp (Lp.run.cl _ hmd x h2)
              · exact .inr ⟨b, h1, h2⟩
        · rw [sDict_none hmd]
          refine ⟨true, rfl, iteT ?_⟩
          refine ⟨_, rfl, _, rfl, a, sv s, 1, .str m, rfl, rfl, rd5 (Same.refl _), atI_nat (j := 1) e1, ?_⟩
          refine ⟨_, A, L, rk, D1, E1, S, m, rfl, ⟨Lp.run, W, ?_, hm.1, by omega, fun x hx => Nat.lt_of_lt_of_le hm.2.2 (hS x hx)⟩, hmd, fun H6 D6 E6 aft => ?_⟩
          · rintro c (h | h)
            · by_cases hc : frS A own ax c
              · rcases hc with hc | ⟨hc, hc2⟩
                · exact absurd h (run.n3av hc)
                · rw [hc2]
                  cases own with
                  | none => exact absurd rfl hc
                  | some y => rw [Lp.own_.2.2]; simp
              · exact Lp.kp.al (al c h) hc
            · rw [h, Lp.bx]; simp
          · refine ⟨D6, E6, rfl, Lp.after (n := n) aft aax ?_ (Lp.rest.mark hin), (aft.keys m).mpr (.inr (.self m)), aft.kp.tup ha5⟩
            obtain ⟨ss, q1, _⟩ := Lp.seen
            rw [q1]; simp
      · rintro σ' H6 ⟨D3, E3, rfl, Lp, hmd, ha6⟩
        have rd6 : ∀ {H' : Hp}, Same H6 H' → SqT K H' a (sv s) := fun e => e.seqT (SqT.of ha6)
        refine ⟨_, rfl, A.sc, _, rfl, dgetS Lp.run.ob (scD_s A), _, rfl, a, sv s, 1, .str m, rfl, rfl, rd6 (Same.refl _), atI_nat (j := 1) e1, A.ds, _, rfl, dgetS Lp.run.sts (Lp.run.flag hmd), rfl, ?_⟩
        have erdy := stT_ready (res L rk m).ready
        generalize erd : (res L rk m).ready = rdy at erdy
        show (tSeq _ _) _ ([some (.ref A.sc), some (ownV own), some (.ref pl), some (.ref box), some (.ref sl), some (.int (ki + 1)), some (.ref a), some (.bl (decide (V.str (stT rdy) = V.str "ready"))), u3, none]) H6
        rw [erdy]
        -- not ready
        have ew : decide (word s = "need") = !(decide (word s = "try")) := by
          have nnt : ¬ ("need" : Str) = "try" := by decide +kernel
          rcases hs with rfl | ⟨x, rfl⟩
          · have a1 : decide (word (.need m) = "need") = true := decide_eq_true rfl
            have a2 : decide (word (.need m) = "try") = false := decide_eq_false nnt
            rw [a1, a2]; rfl
          · have a1 : decide (word (.try_ m x) = "need") = false := decide_eq_false (Ne.symm nnt)
            have a2 : decide (word (.try_ m x) = "try") = true := decide_eq_true rfl
            rw [a1, a2]; rfl
        refine ⟨_, rfl, a, sv s, _, _, rfl, rfl, rd6 (Same.refl _), atI_nat (sv_0 s), rfl, decide (word s = "need"), congrArg V.bl (str_dec _ _), ?_⟩
        -- the tail: the box of a try, the seen ones
        have tail : ∀ (g' : Str → Int), exec (res L rk) own 0 (p.drop i) g acc X = hitC m (exec (res L rk) own 0 (p.drop (i + 1)) g' (if rdy = true then m :: acc else acc) X) → ∀ H7, LoopS Av H A L rk D E' S own ax box sl p H7 (i + 1) g' acc X (m :: done) D3 E3 ∨ (LoopS Av H A L rk D E' S own ax box sl p H7 i g acc X (m :: done) D3 E3 ∧ H7 box = some (.dK (vDict g'))) → True := fun _ _ _ _ => trivial
        have seenUp : ∀ (H7 : Hp) (g' : Str → Int), ScAt (fun c => Av c ∨ c = box) H7 A L rk D3 E3 → Kp (frS A own ax) H H7 → H7 box = some (.dK (vDict g')) → OwnS H7 E3 S ax X own → (∃ ss : List Str, H7 sl = some (.lst (ss.map V.str)) ∧ ss.length ≤ i ∧ ∀ x, x ∈ ss ↔ x ∈ acc) → H7 a = some (.tup (sv s)) →
            exec (res L rk) own 0 (p.drop i) g acc X = hitC m (exec (res L rk) own 0 (p.drop (i + 1)) g' (if rdy = true then m :: acc else acc) X) →
            (tAsg (tOp rCat (tVar 4) (tOp rRep (tLst (tCons (tOp (rIxT K) (tVar 6) (tC (.int 1))) tNil)) (tCB (fun xs H Q => (∃ i, xs = [.int i] ∧ Q (.int i) H) ∨ ∃ k, xs = [.bl k] ∧ Q (.int (if k then 1 else 0)) H) (tCons (tVar 7) tNil)))) (gName 4))
              ({ rt := Q, nx := (fun σ' H' => ∃ (j : Nat), ∃ g acc X done D1 E1 sl u1 u2 u3, ∃ ki : Int, i < j ∧ ki = (j : Int) ∧ σ' = [some (.ref A.sc), some (ownV own), some (.ref pl), some (.ref box), some (.ref sl), some (.int ki), u1, u2, u3, none] ∧ LoopS Av H A L rk D E' S own ax box sl p H' j g acc X done D1 E1) } : Ends)
              [some (.ref A.sc), some (ownV own), some (.ref pl), some (.ref box), some (.ref sl), some (.int (ki + 1)), some (.ref a), some (.bl rdy), u3, none] H7 := fun H7 g' run7 k7 bx7 own7 seen7 ha7 er => by
          obtain ⟨ss, q1, q2, q3⟩ := seen7
          refine ⟨_, rfl, _, rfl, a, sv s, 1, .str m, rfl, rfl, SqT.of ha7, atI_nat (j := 1) e1, by show 1 ≤ sizeLine; decide, fun l1 nl1 => ?_⟩
          have t1 : Same H7 (upd H7 l1 (.lst [.str m])) := Same.new nl1 _
          have hl1 : (upd H7 l1 (.lst [.str m])) l1 = some (.lst [.str m]) := upd_same
          generalize upd H7 l1 (.lst [.str m]) = H8 at t1 hl1
          refine ⟨_, rfl, .inr ⟨rdy, rfl, ?_⟩⟩
          have hmul : [V.str m].length * (if rdy = true then (1 : Int) else 0).toNat ≤ sizeLine := by
            cases rdy with
            | false => exact (by decide : 1 * 0 ≤ sizeLine)
            | true => exact (by decide : 1 * 1 ≤ sizeLine)
          refine ⟨l1, _, [.str m], rfl, rfl, hl1, by cases rdy <;> decide, by cases rdy <;> decide, hmul, fun l2 nl2 => ?_⟩
          have er2 : (List.replicate (if rdy = true then (1 : Int) else 0).toNat [V.str m]).flatten = (if rdy = true then [m] else []).map V.str := by cases rdy <;> rfl
          rw [er2]
          have t2 : Same H8 (upd H8 l2 (.lst ((if rdy = true then [m] else []).map V.str))) := Same.new nl2 _
          have hl2 : (upd H8 l2 (.lst ((if rdy = true then [m] else []).map V.str))) l2 = some (.lst ((if rdy = true then [m] else []).map V.str)) := upd_same
          generalize upd H8 l2 (.lst ((if rdy = true then [m] else []).map V.str)) = H9 at t2 hl2
          have t79 := t1.trans t2
          have l1' : (if rdy = true then [m] else []).length ≤ 1 := by
            cases rdy with
            | false => exact Nat.zero_le 1
            | true => exact Nat.le_refl 1
          refine ⟨sl, l2, _, _, rfl, rfl, t79 _ _ q1, hl2, by rw [List.length_map, List.length_map]; omega, fun l3 nl3 => ?_⟩
          have t3 : Same H9 (upd H9 l3 (.lst (ss.map V.str ++ (if rdy = true then [m] else []).map V.str))) := Same.new nl3 _
          have t7 := t79.trans t3
          have l3_ol : l3 ≠ A.ol := fun e => by
            obtain ⟨os, o1, _⟩ := run7.ord
            have := t79 _ _ o1
            rw [← e, nl3] at this
            cases this
          have acc_ : ∀ x, x ∈ ss ++ (if rdy = true then [m] else []) ↔ x ∈ (if rdy = true then m :: acc else acc) := fun x => by
            rw [List.mem_append, q3]
            cases rdy with
            | true =>
              show x ∈ acc ∨ x ∈ [m] ↔ x ∈ m :: acc
              rw [List.mem_singleton, List.mem_cons]
              exact Or.comm
            | false =>
              show x ∈ acc ∨ x ∈ [] ↔ x ∈ acc
              simp
          refine ⟨i + 1, g', _, X, m :: done, D3, E3, l3, _, _, _, ki + 1, Nat.lt_succ_self _, hk1, rfl, run7.same t7, Lp.keys, Lp.same, k7.same t7, t7 _ _ bx7, own7.mono (T := fun _ => False) (Kp.of t7) (fun _ => id) fun _ _ => rfl, ⟨ss ++ (if rdy = true then [m] else []), by rw [upd_same, List.map_append], by rw [List.length_append]; omega, acc_⟩, l3_ol, fun y hy => ?_, Lp.rest.past er, Nat.le_trans Lp.xl (Nat.le_succ _), hi⟩
          split at hy
          · rcases List.mem_cons.mp hy with rfl | h
            · exact hmd
            · exact Lp.sub y h
          · exact Lp.sub y hy
        rcases hs with rfl | ⟨x, rfl⟩
        · -- need
          have a1 : decide (word (.need m) = "need") = true := decide_eq_true rfl
          have a2 : decide (word (.need m) = "try") = false := by rw [a1] at ew; cases h : decide (word (.need m) = "try") with
            | false => rfl
            | true => rw [h] at ew; cases ew
          rw [a1]
          refine iteT ?_
          refine ⟨_, rfl, rdy, rfl, ?_⟩
          have er : exec (res L rk) own 0 (p.drop i) g acc X = if rdy = true then hitC m (exec (res L rk) own 0 (p.drop (i + 1)) g (m :: acc) X) else ⟨false, g, X, [m]⟩ := by rw [drop_at hz, ← erd]; rfl
          cases rdy with
          | false =>
            refine iteT ?_
            rw [if_neg Bool.false_ne_true] at er
            refine ⟨_, rfl, by show 2 ≤ sizeLine; decide, fun t nt => ?_⟩
            exact fin false Lp (by rw [er]) (by rw [er]) (by rw [er]) (by rw [er]; intro x h; exact List.mem_cons.mpr (.inl (List.mem_singleton.mp h))) t nt
          | true =>
            refine iteF ?_
            rw [if_pos rfl] at er
            refine ⟨fun σ' H' => σ' = [some (.ref A.sc), some (ownV own), some (.ref pl), some (.ref box), some (.ref sl), some (.int (ki + 1)), some (.ref a), some (.bl true), u3, none] ∧ H' = H6, ?_, ?_⟩
            · refine ⟨_, rfl, a, sv (.need m), _, _, rfl, rfl, rd6 (Same.refl _), atI_nat (sv_0 _), rfl, decide (word (.need m) = "try"), congrArg V.bl (str_dec _ _), ?_⟩
              rw [a2]
              exact iteF ⟨rfl, rfl⟩
            · rintro σ' H' ⟨rfl, rfl⟩
              exact seenUp H' g Lp.run Lp.kp Lp.bx Lp.own_ Lp.seen ha6 (by rw [er, if_pos rfl])
        · -- try
          have a2 : decide (word (.try_ m x) = "try") = true := decide_eq_true rfl
          have a1 : decide (word (.try_ m x) = "need") = false := by rw [ew, a2]; rfl
          rw [a1]
          refine iteF ?_
          refine iteF ?_
          have er : exec (res L rk) own 0 (p.drop i) g acc X = hitC m (exec (res L rk) own 0 (p.drop (i + 1)) (updF g x (if rdy = true then 1 else 0)) (if rdy = true then m :: acc else acc) X) := by rw [drop_at hz, ← erd]; rfl
          refine ⟨fun σ' H' => σ' = [some (.ref A.sc), some (ownV own), some (.ref pl), some (.ref box), some (.ref sl), some (.int (ki + 1)), some (.ref a), some (.bl rdy), u3, none] ∧ H' = upd H6 box (.dK (vDict (updF g x (if rdy = true then 1 else 0)))), ?_, ?_⟩
          · refine ⟨_, rfl, a, sv (.try_ m x), _, _, rfl, rfl, rd6 (Same.refl _), atI_nat (sv_0 _), rfl, decide (word (.try_ m x) = "try"), congrArg V.bl (str_dec _ _), ?_⟩
            rw [a2]
            refine iteT ?_
            refine ⟨_, rfl, .inr ⟨rdy, rfl, ?_⟩⟩
            refine ⟨_, rfl, _, rfl, a, sv (.try_ m x), 2, .str x, rfl, rfl, rd6 (Same.refl _), atI_nat (j := 2) rfl, box, _, rfl, dputS Lp.bx (by rw [vDict_len]; decide) (vDict_put g _ hok.2), rfl, rfl⟩
          · rintro σ' H' ⟨rfl, rfl⟩
            have k8 : Kp (fun c => c = box) H6 (upd H6 box (.dK (vDict (updF g x (if rdy = true then 1 else 0))))) := (Kp.refl H6 : Kp (fun c => c = box) _ _).upd (fun _ h => h) (.inl rfl) (nt_dK Lp.bx) _
            obtain ⟨ss, q1, q2, q3⟩ := Lp.seen
            exact seenUp _ _ (Lp.run.mono k8 fun c e => .inr e) (Lp.kp.trans k8 (fun _ h => h) (fun c e => .inr (by rw [e]; exact nbox))) upd_same (Lp.own_.mono k8 bx_ax fun _ _ => rfl) ⟨ss, k8.at q1 (fun e => by rw [e, Lp.bx] at q1; cases q1), q2, q3⟩ (k8.tup ha6) er
    · -- the other words
      have hna : asksN s = [] := by
        cases h : asksN s with
        | nil => rfl
        | cons a r => rw [h] at e; exact absurd rfl e
      refine ⟨_, rfl, a, sv s, _, _, rfl, rfl, rd5 (Same.refl _), atI_nat (sv_0 s), rfl, decide (word s = "read"), congrArg V.bl (str_dec _ _), ?_⟩
      rw [word_read]
      by_cases hrd : ∃ x m l, s = .read x m l
      · obtain ⟨x, m, l, rfl⟩ := hrd
        refine iteT ?_
        have er : exec (res L rk) own 0 (p.drop i) g acc X = exec (res L rk) own 0 (p.drop (i + 1)) (updF g x (readV (res L rk) own acc X m l)) acc X := by rw [drop_at hz]; rfl
        obtain ⟨ss, q1, q2, q3⟩ := Lp.seen
        -- the value read
        have rest : ∀ (H6 : Hp) (kd : Addr) (Y : List (Str × Int)), Same H5 H6 → H6 kd = some (.dK (xDict Y)) → getX Y l = readV (res L rk) own acc X m l →
            (sDPut (tVar 3) (tOp (rIxT K) (tVar 6) (tC (.int 1))) (tDGet2 (tVar 8) (tOp (rIxT K) (tVar 6) (tC (.int 3))) (tUn (rU fun i => V.int (-i)) (tC (.int 1)))))
              ({ rt := Q, nx := (fun σ' H' => ∃ (j : Nat), ∃ g acc X done D1 E1 sl u1 u2 u3, ∃ ki : Int, i < j ∧ ki = (j : Int) ∧ σ' = [some (.ref A.sc), some (ownV own), some (.ref pl), some (.ref box), some (.ref sl), some (.int ki), u1, u2, u3, none] ∧ LoopS Av H A L rk D E' S own ax box sl p H' j g acc X done D1 E1) } : Ends)
              [some (.ref A.sc), some (ownV own), some (.ref pl), some (.ref box), some (.ref sl), some (.int (ki + 1)), some (.ref a), u2, some (.ref kd), none] H6 := fun H6 kd Y t6 hkd ev => by
          have Lq := Lp.same_ t6
          refine ⟨_, rfl, kd, rfl, .inl ⟨_, Rd.of hkd⟩, _, rfl, a, _, 3, .str l, rfl, rfl, rd5 t6, atI_nat (j := 3) rfl, 1, rfl, valV (xDict Y) (Sum.inr l), DGet.k (k := Sum.inr l) hkd, ?_⟩
          rw [getX_dict, ev]
          refine ⟨_, rfl, _, rfl, a, _, 1, .str x, rfl, rfl, rd5 t6, atI_nat (j := 1) rfl, box, _, rfl, dputS Lq.bx (by rw [vDict_len]; decide) (vDict_put g _ hok.1), ?_⟩
          exact ⟨i + 1, _, acc, X, done, D1, E1, sl, _, _, _, ki + 1, Nat.lt_succ_self _, hk1, rfl, Lq.put nbox bx_ax _ (Lq.rest.next er) (Nat.le_succ _) hi⟩
        -- where it is looked up
        have hE : (own = some m ∨ m ∈ acc) → ∃ kd Y, valV E1 (Sum.inr m) = some (.ref kd) ∧ H5 kd = some (.dK (xDict Y)) ∧ getX Y l = readV (res L rk) own acc X m l := fun h => by
          by_cases ho2 : own = some m
          · subst ho2
            obtain ⟨o1, o2, o3⟩ := Lp.own_
            exact ⟨ax, X, o2, o3, by unfold readV; rw [if_pos rfl]⟩
          · have hma := h.resolve_left ho2
            obtain ⟨b, b1, b2, _⟩ := Lp.run.exps m (Lp.sub m hma)
            exact ⟨b, _, b1, b2, by unfold readV; rw [if_neg ho2, if_pos hma]⟩
        have yes : (own = some m ∨ m ∈ acc) → tDGet2 (tDGet (tVar 0) (tC (.str "exports"))) (tOp (rIxT K) (tVar 6) (tC (.int 2))) tDNewK [some (.ref A.sc), some (ownV own), some (.ref pl), some (.ref box), some (.ref sl), some (.int (ki + 1)), some (.ref a), u2, u3, none] H5 (fun x H1 => ∃ kd Y, x = .ref kd ∧ Same H5 H1 ∧ H1 kd = some (.dK (xDict Y)) ∧ getX Y l = readV (res L rk) own acc X m l) := fun h => by
          obtain ⟨kd, Y, y1, y2, y3⟩ := hE h
          refine ⟨_, rfl, A.sc, _, rfl, dgetS Lp.run.ob (scD_x A), A.dx, rfl, .inl ⟨_, Rd.of Lp.run.exd⟩, _, rfl, a, _, 2, .str m, rfl, rfl, rd5 (Same.refl _), atI_nat (j := 2) rfl, fun nd nnd => ?_⟩
          have t6 : Same H5 (upd H5 nd (.dK [])) := Same.new nnd _
          exact ⟨some (.ref kd), dgetS (t6 _ _ Lp.run.exd) y1, kd, Y, rfl, t6, t6 _ _ y2, y3⟩
        have scl : scal (.str m) (ownV own) = true := by cases own <;> rfl
        have deq : decide (V.str m = ownV own) = decide (own = some m) := by
          cases own with
          | none => simp [ownV]
          | some y =>
            show decide (V.str m = V.str y) = _
            rw [str_dec]
            by_cases e : m = y
            · subst e; simp
            · have : ¬ y = m := fun q => e q.symm
              simp [e, this]
        refine ⟨_, rfl, a, _, 2, .str m, rfl, rfl, rd5 (Same.refl _), atI_nat (j := 2) rfl, _, rfl, sl, _, rfl, Or.inl (SqL.of q1), rfl, flat_strs _, decide (m ∈ ss), ?_, ?_⟩
        · show V.bl (if false = true then !inV (V.str m) (ss.map V.str) else inV (V.str m) (ss.map V.str)) = _
          rw [if_neg Bool.false_ne_true, inV_strs]
        refine ite2 (fun e => ?_) (fun e => ?_)
        · have hma : m ∈ acc := (q3 m).mp (of_decide_eq_true e)
          refine iteT ?_
          obtain ⟨kd, Y, y1, y2, y3⟩ := hE (.inr hma)
          refine ⟨_, rfl, A.sc, _, rfl, dgetS Lp.run.ob (scD_x A), A.dx, rfl, .inl ⟨_, Rd.of Lp.run.exd⟩, _, rfl, a, _, 2, .str m, rfl, rfl, rd5 (Same.refl _), atI_nat (j := 2) rfl, fun nd nnd => ?_⟩
          have t6 : Same H5 (upd H5 nd (.dK [])) := Same.new nnd _
          exact ⟨some (.ref kd), dgetS (t6 _ _ Lp.run.exd) y1, rest _ kd Y t6 (t6 _ _ y2) y3⟩
        · have hna : m ∉ acc := fun h => e (decide_eq_true ((q3 m).mpr h))
          refine ⟨_, rfl, a, _, 2, .str m, rfl, rfl, rd5 (Same.refl _), atI_nat (j := 2) rfl, _, rfl, scl, decide (own = some m), congrArg V.bl deq, ?_⟩
          refine ite2 (fun e => ?_) (fun e => ?_)
          · obtain ⟨kd, Y, y1, y2, y3⟩ := hE (.inl (of_decide_eq_true e))
            refine ⟨_, rfl, A.sc, _, rfl, dgetS Lp.run.ob (scD_x A), A.dx, rfl, .inl ⟨_, Rd.of Lp.run.exd⟩, _, rfl, a, _, 2, .str m, rfl, rfl, rd5 (Same.refl _), atI_nat (j := 2) rfl, fun nd nnd => ?_⟩
            have t6 : Same H5 (upd H5 nd (.dK [])) := Same.new nnd _
            exact ⟨some (.ref kd), dgetS (t6 _ _ Lp.run.exd) y1, rest _ kd Y t6 (t6 _ _ y2) y3⟩
          · have hno : ¬ own = some m := fun h => e (decide_eq_true h)
            intro nd nnd
            have t6 : Same H5 (upd H5 nd (.dK [])) := Same.new nnd _
            exact rest _ nd [] t6 upd_same (by unfold readV; rw [if_neg hno, if_neg hna]; rfl)
      · have e0 : isRd s = false := by
          cases s with
          | read x m l => exact absurd ⟨x, m, l, rfl⟩ hrd
          | _ => rfl
        rw [e0]
        refine iteF ?_
        refine ⟨_, rfl, a, sv s, _, _, rfl, rfl, rd5 (Same.refl _), atI_nat (sv_0 s), rfl, decide (word s = "export"), congrArg V.bl (str_dec _ _), ?_⟩
        rw [word_expd]
        cases hex : isExp s with
        | true =>
          refine iteT ?_
          obtain ⟨l, x, rfl⟩ : ∃ l x, s = .exp l x := by
            cases s with
            | exp l x => exact ⟨l, x, rfl⟩
            | _ => cases hex
          obtain ⟨m, rfl⟩ : ∃ m, own = some m := by
            cases own with
            | some m => exact ⟨m, rfl⟩
            | none => have := ws.1; rw [hmain rfl] at this; cases this
          obtain ⟨o1, o2, o3⟩ := Lp.own_
          have xl := Lp.xl
          refine ⟨_, rfl, _, rfl, a, _, 2, .str x, rfl, rfl, rd5 (Same.refl _), atI_nat (j := 2) rfl, box, _, rfl, dgetS Lp.bx (vDict_get g hok.2), ?_⟩
          refine ⟨_, rfl, A.sc, _, rfl, dgetS Lp.run.ob (scD_x A), _, rfl, A.dx, _, rfl, dgetS Lp.run.exd o2, ?_⟩
          refine ⟨_, rfl, a, _, 1, .str l, rfl, rfl, rd5 (Same.refl _), atI_nat (j := 1) rfl, ax, _, rfl, dputS o3 (by rw [xDict_len]; omega) (putX_dict X l (g x)), ?_⟩
          have k4 : Kp (fun b => b = ax) H5 (upd H5 ax (.dK (xDict (putX X l (g x))))) := (Kp.refl H5 : Kp (fun b => b = ax) _ _).upd (fun _ h => h) (.inl rfl) (nt_dK o3) _
          have er : exec (res L rk) (some m) 0 (p.drop i) g acc X = exec (res L rk) (some m) 0 (p.drop (i + 1)) g acc (putX X l (g x)) := by rw [drop_at hz]; rfl
          obtain ⟨ss, q1, q2, q3⟩ := Lp.seen
          exact ⟨i + 1, g, acc, putX X l (g x), done, D1, E1, sl, _, _, _, ki + 1, Nat.lt_succ_self _, hk1, rfl, Lp.run.mono k4 (fun c e => by rw [e]; exact .inl (aax (by simp))), Lp.keys, Lp.same, Lp.kp.trans k4 (fun _ h => h) (fun c e => .inl (.inr ⟨by simp, e⟩)), k4.at Lp.bx (fun e => bx_ax (by simp) e.symm), ⟨o1, o2, upd_same⟩, ⟨ss, k4.at q1 (fun e => by rw [e, o3] at q1; cases q1), Nat.le_trans q2 (Nat.le_succ _), q3⟩, Lp.sl_, Lp.sub, Lp.rest.next er, Nat.le_trans (putX_len X l (g x)) (Nat.succ_le_succ xl), hi⟩
        | false =>
          refine iteF ?_
          refine ⟨_, rfl, a, sv s, _, _, rfl, rfl, rd5 (Same.refl _), atI_nat (sv_0 s), rfl, decide (word s = "skip"), congrArg V.bl (str_dec _ _), ?_⟩
          have hpl' : isPl s = true := by
            cases s with
            | set x n => rfl
            | add x y => rfl
            | skip x k => rfl
            | exp l x => cases hex
            | read x m l => exact absurd ⟨x, m, l, rfl⟩ hrd
            | need m => cases hna
            | try_ m x => cases hna
            | fail => exact absurd rfl hfl
          have er := exec_plain (Rm := res L rk) (own := own) hz hpl' g acc X
          have nsk : ¬ ("set" : Str) = "skip" := by decide +kernel
          have nak : ¬ ("add" : Str) = "skip" := by decide +kernel
          have nas : ¬ ("add" : Str) = "set" := by decide +kernel
          cases s with
          | skip x kk =>
            have ew : decide (word (.skip x kk) = "skip") = true := decide_eq_true rfl
            rw [ew]
            refine iteT ?_
            have hkk := ws.2.2
            have hkk1 := ws.2.1
            refine ⟨_, rfl, _, rfl, a, _, 2, .int kk, rfl, rfl, rd5 (Same.refl _), atI_nat (j := 2) rfl, ?_⟩
            refine ⟨_, rfl, _, rfl, a, _, 1, .str x, rfl, rfl, rd5 (Same.refl _), atI_nat (j := 1) rfl, box, _, rfl, dgetS Lp.bx (vDict_get g hok.1), _, _, rfl, rfl, .inr ⟨decide (0 < g x), rfl, ?_⟩⟩
            have eadv : adv g (.skip x kk) = 1 + (if g x > 0 then kk else 0) := rfl
            have hjle : i + adv g (.skip x kk) ≤ p.length := by rw [eadv]; split <;> omega
            refine ⟨_, _, rfl, rfl, .inr (by split <;> decide), _, _, rfl, rfl, ?_⟩
            obtain ⟨ss, q1, q2, q3⟩ := Lp.seen
            refine ⟨i + adv g (.skip x kk), g, acc, X, done, D1, E1, sl, _, _, _, _, by rw [eadv]; omega, ?_, rfl, ⟨Lp.run, Lp.keys, Lp.same, Lp.kp, Lp.bx, Lp.own_, ⟨ss, q1, by omega, q3⟩, Lp.sl_, Lp.sub, Lp.rest.next er, by have := Lp.xl; omega, hjle⟩⟩
            rw [eadv]
            by_cases hg : 0 < g x
            · rw [decide_eq_true hg, if_pos rfl, if_pos hg]
              omega
            · rw [decide_eq_false hg, if_neg Bool.false_ne_true, if_neg hg]
              omega
          | set x nn =>
            have ew : decide (word (.set x nn) = "skip") = false := decide_eq_false nsk
            rw [ew]
            refine iteF ?_
            refine ⟨_, rfl, a, _, _, _, rfl, rfl, rd5 (Same.refl _), atI_nat (sv_0 _), rfl, decide (word (.set x nn) = "set"), congrArg V.bl (str_dec _ _), ?_⟩
            have ew2 : decide (word (.set x nn) = "set") = true := decide_eq_true rfl
            rw [ew2]
            refine iteT ?_
            refine ⟨_, rfl, a, _, 2, .int nn, rfl, rfl, rd5 (Same.refl _), atI_nat (j := 2) rfl, ?_⟩
            refine ⟨_, rfl, _, rfl, a, _, 1, .str x, rfl, rfl, rd5 (Same.refl _), atI_nat (j := 1) rfl, box, _, rfl, dputS Lp.bx (by rw [vDict_len]; decide) (vDict_put g nn hok), ?_⟩
            exact ⟨i + 1, _, acc, X, done, D1, E1, sl, _, _, _, ki + 1, Nat.lt_succ_self _, hk1, rfl, Lp.put nbox bx_ax _ (Lp.rest.next er) (Nat.le_succ _) hi⟩
          | add x y =>
            have ew : decide (word (.add x y) = "skip") = false := decide_eq_false nak
            rw [ew]
            refine iteF ?_
            refine ⟨_, rfl, a, _, _, _, rfl, rfl, rd5 (Same.refl _), atI_nat (sv_0 _), rfl, decide (word (.add x y) = "set"), congrArg V.bl (str_dec _ _), ?_⟩
            have ew2 : decide (word (.add x y) = "set") = false := decide_eq_false nas
            rw [ew2]
            refine iteF ?_
            refine ⟨_, rfl, _, rfl, a, _, 1, .str x, rfl, rfl, rd5 (Same.refl _), atI_nat (j := 1) rfl, box, _, rfl, dgetS Lp.bx (vDict_get g hok.1), ?_⟩
            refine ⟨_, rfl, _, rfl, a, _, 2, .str y, rfl, rfl, rd5 (Same.refl _), atI_nat (j := 2) rfl, box, _, rfl, dgetS Lp.bx (vDict_get g hok.2), _, _, rfl, rfl, ?_⟩
            refine ⟨_, rfl, _, rfl, a, _, 1, .str x, rfl, rfl, rd5 (Same.refl _), atI_nat (j := 1) rfl, box, _, rfl, dputS Lp.bx (by rw [vDict_len]; decide) (vDict_put g (g x + g y) hok.1), ?_⟩
            exact ⟨i + 1, _, acc, X, done, D1, E1, sl, _, _, _, ki + 1, Nat.lt_succ_self _, hk1, rfl, Lp.put nbox bx_ax _ (Lp.rest.next er) (Nat.le_succ _) hi⟩
          | _ => cases hpl'
/-- the two together, by rank -/
theorem done_all {fb : Addr} {fdb : FuncData} (Fd : FnF K mg "_law_done" sDone [] [] fa fd) (Fs : FnF K mg "_law_started" sStarted [] [] fb fdb) (T : G0 K mg aV aP) : ∀ n, Pr P w K mg base "_law_done" ["_law_scene", "_law_module", "_law_program_here"] [] (2 + 2 * n) (spDone n) := by
  have ini : ∀ n, Pr P w K mg base "_law_started" ["_law_scene", "_law_module"] [] (1 + 2 * n) (spStarted n) := by
    intro n
    induction n with
    | zero =>
      have no : ∀ {vs H Q E}, ¬ spStarted 0 vs H Q E := fun h => by
        obtain ⟨Av, A, L, rk, D, E', S, m, _, ask, _⟩ := h
        exact Nat.not_lt_zero _ ask.lt
      exact ⟨fb, fdb, [], Fs.mg_, Fs.fn.kp, Fs.fn.ok0 (k := 0) scStarted (fun vs H Q E h => absurd h no) (fun cdv A outer s H vs Q E hr h => absurd h no), .nil, Fs.fn.bindsN fun _ _ _ _ _ _ us hl => match us, hl with | [_, _], _ => rfl⟩
    | succ n ih => exact (ok_started n Fs T (ok_done n (k := 1 + 2 * n) Fd T ih)).mono (by omega)
  intro n
  exact (ok_done n Fd T (ini n)).mono (by omega)
end
end Cy

set_option Elab.async false
set_option linter.all false
set_option maxRecDepth 100000
set_option maxHeartbeats 4000000
/-! The law's own whole run: _law_all_done. -/
namespace Cy
open PySem PySem.Spec PyProof.Rows L2
abbrev sAllDone : Stmt := top 58
theorem merge_sc (A : SA) : mergeK [] (scD A) = scD A := by rfl
section
variable {P : Program} {w : World} {K : PySem.W.Frag} {mg : Str → Option Value} {base : Heap} {aV aP aF CL CF CP : Addr} {fk : Str → Addr} {fa : Addr} {fd : FuncData}
def spAllDone : Sp := fun vs H Q _ => ∃ (md dm : Addr) (kv1 : List (Key × V)) (L : Lib) (rk : Str → Nat) (kvs : List (Key × V)) (M : Mains), vs = [.ref md, .ref dm] ∧ H md = some (.dK kv1) ∧ KvP (ProgL H) kv1 L ∧ WfL L rk ∧ md ≠ dm ∧ H dm = some (.dK kvs) ∧ KvP (ProgL H) kvs M ∧ WfM L rk M ∧
  ∀ H' t v o Ks, Same H H' → Ks.Nodup → (∀ x, x ∈ Ks ↔ RchM L rk M x) → H' t = some (.tup [v, o]) → Dp H' v (.tuple [rowsD L rk Ks, mainsD L rk M]) → Q (.ref t) H'
theorem scAllDone : FnScope ["_law_modules_here", "_law_mains", "_law_scene", "_law_rows", "_law_name", "_law_is_ended", "_law_box", "_law_found", "_law_one"] ["_law_modules_here", "_law_mains"] (defScope sAllDone) := ⟨rfl, rfl, rfl, by decide +kernel, rfl, by decide +kernel, by decide +kernel⟩
theorem ok_all_done {k : Nat} (F : FnF K mg "_law_all_done" sAllDone [] [] fa fd) (T : G0 K mg aV aP) (h1 : Pr P w K mg base "_law_done" ["_law_scene", "_law_module", "_law_program_here"] [] k (spDone 9)) :
    Pr P w K mg base "_law_all_done" ["_law_modules_here", "_law_mains"] [] (k + 1) spAllDone := by
  refine ⟨fa, fd, [], F.mg_, F.fn.kp, F.fn.ok0 scAllDone (fun vs H Q E h => ?_) (fun cdv A' outer s H vs Q E hr h => ?_), .nil, F.fn.bindsN fun _ _ _ _ _ _ us hl => match us, hl with | [_, _], _ => rfl⟩
  · obtain ⟨md, dm, kv1, L, rk, kvs, M, rfl, _⟩ := h
    rfl
  · obtain ⟨md, dm, kv1, L, rk, kvs, M, rfl, hmd, hkv1, W, mddm, hdm, hkv, WM, q⟩ := h
    have hu := hu_of hr
    have hu64 := hu64_of hr
    refine ⟨_, pss_cons (ps_par (i := 2) (j := 3) rfl scAllDone.nd rfl rfl (by decide) rfl rfl (pa_cons (pe_disp (pps_cons pe_str (pv 0) (pps_cons pe_str pe_dnewK (pps_cons pe_str pe_dnewK (pps_cons pe_str (pe_lst pa_nil) pps_nil)))) rfl rfl (by simp) (by decide)) (pa_cons (pe_lst pa_nil) pa_nil)) rfl)
      (pss_cons (ps_lock (ps_for (g := gName 4) PassesOwn.never rfl (pi_keys (pv 1)) (pg_name (i := 4) scAllDone.nd rfl (Or.inl rfl))
        (pss_cons (ps_asg (g := gTwo K 5 6) (pe_pr h1 hr rfl (pa_cons (pv 2) (pa_cons pe_non (pa_cons (pe_dget hu (pv 1) (pv 4) (fun _ _ => rfl)) pa_nil)))) (pg_tup rfl (pgs_cons (pg_name (i := 5) scAllDone.nd rfl (Or.inl rfl)) (pgs_cons (pg_name (i := 6) scAllDone.nd rfl (Or.inr rfl)) pgs_nil))))
        (pss_one (ps_expr (pe_bm PySem.F.plainAttrs_list PySem.F.slot_list_append PySem.F.type_list_append mt_append (pv 3) (pa_cons (pe_tup (pa_cons (pv 4) (pa_cons (pe_ix ix_list (pe_lst (pa_cons pe_str (pa_cons pe_str pa_nil))) (pe_callTy call_int1 rfl T.int (by decide +kernel) (pa_cons (pv 5) pa_nil)) (fun _ _ => rfl)) (pa_cons
          (pe_callTy call_tuple_of rfl T.tuple (by decide +kernel) (pa_cons (pe_lc (own := [("_law_one", 8)]) (g := gName 8) (tt := tYes) (te := tDGet (tVar 6) (tVar 8)) rfl scAllDone.nd (pi_str pe_str)
            (blkOk_by (N := ["_law_modules_here", "_law_mains", "_law_scene", "_law_rows", "_law_name", "_law_is_ended", "_law_box", "_law_found", "_law_one"]) (sc := defScope sAllDone) (by decide +kernel))
            (fun _ _ _ _ _ => pg_name (i := 8) scAllDone.nd rfl (Or.inl rfl)) (fun _ _ _ _ _ => pts_nil) (fun _ _ _ _ _ => pe_dget hu (pv 6) (pv 8) (fun _ _ => rfl))) pa_nil)) pa_nil)))) pa_nil)))))))
      (pss_cons (ps_set (i := 7) scAllDone.nd rfl (Or.inl rfl) (pe_lst pa_nil))
      (pss_cons (ps_for (g := gName 4) PassesOwn.never rfl (pi_list (pe_callB (call_sortedD rfl) rfl T.sorted (by decide +kernel) (pa_cons (pe_dget hu (pv 2) pe_str (fun _ _ => rfl)) pa_nil))) (pg_name (i := 4) scAllDone.nd rfl (Or.inl rfl))
        (pss_one (ps_expr (pe_bm PySem.F.plainAttrs_list PySem.F.slot_list_append PySem.F.type_list_append mt_append (pv 7) (pa_cons (pe_tup (pa_cons (pv 4) (pa_cons (pe_dget hu (pe_dget hu (pv 2) pe_str (fun _ _ => rfl)) (pv 4) (fun _ _ => rfl)) (pa_cons
          (pe_callTy call_tuple_of rfl T.tuple (by decide +kernel) (pa_cons (pe_callB (call_sortIt rfl hu64) rfl T.sorted (by decide +kernel) (pa_cons (pe_bm0 PySem.F.plainAttrs_dict PySem.F.slot_dict_items PySem.F.type_dict_items mt_itemsK (pe_dget hu (pe_dget hu (pv 2) pe_str (fun _ _ => rfl)) (pv 4) (fun _ _ => rfl))) pa_nil)) pa_nil)) pa_nil)))) pa_nil)))))
      (pss_one (ps_ret (pe_tup (pa_cons (pe_tup (pa_cons (pe_callTy call_tuple_of rfl T.tuple (by decide +kernel) (pa_cons (pv 7) pa_nil)) (pa_cons (pe_callTy call_tuple_of rfl T.tuple (by decide +kernel) (pa_cons (pe_callB (call_sortL hu64) rfl T.sorted (by decide +kernel) (pa_cons (pv 3) pa_nil)) pa_nil)) pa_nil)))
          (pa_cons (pe_dget hu (pv 2) pe_str (fun _ _ => rfl)) pa_nil)))))))), ?_⟩
    have hsz : sizeLine = 2 ^ 24 := by rfl
    have el : kvs.length = M.length := Paired.len hkv
    have lM := WM.len
    -- the scene
    intro sc nsc
    have s1 : Same H (upd H sc (.dK [])) := Same.new nsc _
    have hsc1 : (upd H sc (.dK [])) sc = some (.dK []) := upd_same
    generalize upd H sc (.dK []) = H1 at s1 hsc1
    refine ⟨_, rfl, ?_⟩
    intro ds nds
    have s2 : Same H1 (upd H1 ds (.dK [])) := Same.new nds _
    have hds2 : (upd H1 ds (.dK [])) ds = some (.dK []) := upd_same
    have sc_ds : sc ≠ ds := ne_of_none hsc1 nds
    generalize upd H1 ds (.dK []) = H2 at s2 hds2
    intro dx ndx
    have s3 : Same H2 (upd H2 dx (.dK [])) := Same.new ndx _
    have hdx3 : (upd H2 dx (.dK [])) dx = some (.dK []) := upd_same
    have ds_dx : ds ≠ dx := ne_of_none hds2 ndx
    have sc_dx : sc ≠ dx := ne_of_none (s2 _ _ hsc1) ndx
    generalize upd H2 dx (.dK []) = H3 at s3 hdx3
    refine ⟨by decide, fun ol nol => ?_⟩
    have s4 : Same H3 (upd H3 ol (.lst [])) := Same.new nol _
    have hol4 : (upd H3 ol (.lst [])) ol = some (.lst (([] : List Str).map V.str)) := upd_same
    have s04 := ((s1.trans s2).trans s3).trans s4
    have nds0 := s1.free nds
    have ndx0 := s1.free (s2.free ndx)
    have nol0 := s1.free (s2.free (s3.free nol))
    have hsc4 := s4 _ _ (s3 _ _ (s2 _ _ hsc1))
    have hds4 := s4 _ _ (s3 _ _ hds2)
    have hdx4 := s4 _ _ hdx3
    have ol_ds : ol ≠ ds := (ne_of_none (s3 _ _ hds2) nol).symm
    have ol_dx : ol ≠ dx := (ne_of_none hdx3 nol).symm
    have ol_sc : ol ≠ sc := (ne_of_none (s3 _ _ (s2 _ _ hsc1)) nol).symm
    generalize upd H3 ol (.lst []) = H4 at s4 hol4 s04 hsc4 hds4 hdx4
    refine ⟨hsc4, scD ⟨sc, md, ds, dx, ol⟩, rfl, by show 4 ≤ 15; decide, ?_⟩
    rw [merge_sc]
    generalize hA : (⟨sc, md, ds, dx, ol⟩ : SA) = A
    have eA1 : A.sc = sc := by rw [← hA]
    have eA2 : A.dm = md := by rw [← hA]
    have eA3 : A.ds = ds := by rw [← hA]
    have eA4 : A.dx = dx := by rw [← hA]
    have eA5 : A.ol = ol := by rw [← hA]
    have k5 : Kp (fun c => c = sc) H4 (upd H4 sc (.dK (scD A))) := (Kp.refl H4 : Kp (fun c => c = sc) _ _).upd (fun _ h => h) (.inl rfl) (nt_dK hsc4) _
    have hsc5 : (upd H4 sc (.dK (scD A))) sc = some (.dK (scD A)) := upd_same
    have s05 : Same H (upd H4 sc (.dK (scD A))) := ((Kp.of s04 : Kp (fun c => c = sc) H H4).trans' k5).fresh fun c e => by rw [e]; exact nsc
    have hds5 := k5.at hds4 sc_ds.symm
    have hdx5 := k5.at hdx4 sc_dx.symm
    have hol5 := k5.at hol4 ol_sc
    generalize upd H4 sc (.dK (scD A)) = H5 at k5 hsc5 s05 hds5 hdx5 hol5
    have hmd5 := s05 _ _ hmd
    have hdm5 := s05 _ _ hdm
    have sc_dm : sc ≠ dm := (ne_of_none hdm nsc).symm
    have ds_dm : ds ≠ dm := (ne_of_none hdm nds0).symm
    have dx_dm : dx ≠ dm := (ne_of_none hdm ndx0).symm
    have ol_dm : ol ≠ dm := (ne_of_none hdm nol0).symm
    have run5 : ScAt (fun c => c = dm) H5 A L rk [] [] := by
      refine ⟨by rw [eA1]; exact hsc5, ⟨kv1, by rw [eA2]; exact hmd5, hkv1.imp2 fun v p r => ⟨r.same s05, ?_, ?_⟩⟩, by rw [eA3]; exact hds5, by rw [eA4]; exact hdx5, ⟨[], by rw [eA5]; exact hol5, Nat.le_refl _⟩, ?_, ?_, List.nodup_nil, fun _ _ h => (by cases h), fun _ h => (by cases h), fun _ h => (by cases h), List.nodup_nil, fun _ h => (by cases h)⟩
      · obtain ⟨b, xs, rfl, e2, _⟩ := r
        rw [eA5]
        exact fun e => by rw [V.ref.inj e, nol0] at e2; cases e2
      · obtain ⟨b, xs, rfl, e2, _⟩ := r
        rintro c rfl e
        rw [V.ref.inj e, hdm] at e2
        cases e2
      · rw [eA1, eA2, eA3, eA4]
        exact ⟨sc_ds, sc_dx, ne_of_none hmd nds0, ne_of_none hmd ndx0, ds_dx⟩
      · rw [eA1, eA2, eA3, eA4, eA5]
        exact ⟨sc_dm, mddm, ds_dm, dx_dm, ol_dm⟩
    have n3H : ∀ c, N3 A c → H c = none := by
      intro c hc
      unfold N3 at hc
      rw [eA3, eA4, eA5] at hc
      rcases hc with rfl | rfl | rfl <;> assumption
    rw [← eA1]
    clear hA
    -- the rows
    refine ⟨by decide, fun R nR => ?_⟩
    have nR0 : H R = none := s05.free nR
    have s6 : Same H5 (upd H5 R (.lst [])) := Same.new nR _
    have hR6 : (upd H5 R (.lst [])) R = some (.lst []) := upd_same
    have run6 : ScAt (fun c => c = dm ∨ c = R) (upd H5 R (.lst [])) A L rk [] [] := (run5.more fun c h => h.imp id fun e => by rw [e]; exact nR).same s6
    have s06 := s05.trans s6
    have R_dm : dm ≠ R := ne_of_none hdm5 nR
    generalize upd H5 R (.lst []) = H6 at s6 hR6 run6 s06
    have hdm6 := s06 _ _ hdm
    refine ⟨_, _, rfl, ?_⟩
    refine ⟨dm, .dK kvs, hdm6, trivial, fun od => ?_⟩
    have k7 : Kp (fun b => b = dm) H6 (upd H6 dm (.frz od (.dK kvs))) := (Kp.refl H6 : Kp (fun b => b = dm) _ _).upd (fun _ h => h) (.inl rfl) (nt_dK hdm6) _
    have run7 := run6.mono k7 fun c h => .inl h
    have hd7 : (upd H6 dm (.frz od (.dK kvs))) dm = some (.frz od (.dK kvs)) := upd_same
    have hR7 := k7.at hR6 R_dm.symm
    have prog7 : ∀ {v : V} {p : List Stp}, ProgL H v p → ∃ a xs, v = .ref a ∧ (upd H6 dm (.frz od (.dK kvs))) a = some (.lst xs) ∧ Steps (upd H6 dm (.frz od (.dK kvs))) xs p ∧ H a ≠ none := by
      rintro v p ⟨a, xs, rfl, e2, e3⟩
      have ne : ¬ a = dm := fun e => by rw [e, hdm] at e2; cases e2
      exact ⟨a, xs, rfl, k7.at (s06 _ _ e2) ne, (e3.mono s06).monoK k7, by rw [e2]; simp⟩
    generalize hH7 : upd H6 dm (.frz od (.dK kvs)) = H7 at k7 run7 hd7 hR7 prog7
    have n3dm : ¬ N3 A dm := fun h => run5.n3av h rfl
    have n3R : ¬ N3 A R := fun h => run6.n3av h (.inr rfl)
    refine ⟨_, rfl, dm, od, rfl, .inl ⟨kvs, hd7, ?_⟩⟩
    refine for_it (walk_keys (d := dm) (o := od) (kvs := kvs)) (fun i σ H' => Kp (fun c => N3 A c ∨ c = R) H7 H' ∧ H' dm = some (.frz od (.dK kvs)) ∧ (∃ u v z, σ = [some (.ref md), some (.ref dm), some (.ref A.sc), some (.ref R), u, v, z, none, none]) ∧ ∃ D E, ScAt (fun c => c = dm ∨ c = R) H' A L rk D E ∧ (∀ x, x ∈ keysD D ↔ RchM L rk (M.take i) x) ∧
        ∃ vs, H' R = some (.lst vs) ∧ DpA H' vs (((names M).take i).map (pRow L rk M)))
      ⟨Kp.refl _, hd7, ⟨none, none, none, rfl⟩, [], [], run7, fun x => ?_, [], hR7, .nil⟩ (fun i σ H' _ h => h.2.1) ?_ ?_
    · constructor
      · intro h; cases h
      · rintro ⟨q, hq, _⟩; cases hq
    · rintro i v σ H9 H8 hi ⟨t1, hd8, ⟨u1, v1, z1, rfl⟩, D, E', run8, hkeys, vs, hR8, hvs⟩ ⟨rfl, kk, vv, ekv, rfl⟩
      obtain ⟨⟨m, p⟩, emp, e1, e2⟩ := Paired.at hkv i _ ekv
      have e1' : kk = Sum.inr m := e1
      subst e1'
      have hmem : (m, p) ∈ M := List.mem_of_getElem? emp
      have emn : (names M)[i]? = some m := by rw [List.getElem?_map, emp]; rfl
      obtain ⟨a, xs, rfl, ha7, hx7, an0⟩ := prog7 e2
      have am3 : ¬ (N3 A a ∨ a = R) := by
        rintro (h | h)
        · exact an0 (n3H a h)
        · exact an0 (by rw [h]; exact nR0)
      have ha8 := t1.at ha7 am3
      have hx8 := hx7.monoK t1
      have vget : valV kvs (Sum.inr m) = some (.ref a) := by
        obtain ⟨u, eu, hu1⟩ := KvP.get hkv WM.nd hmem
        have nd : (kvs.map (·.1)).Nodup := by rw [hkv.keys]; exact List.pairwise_map.mpr (WM.nd.imp fun h e => h (Sum.inr.inj e))
        have gen : ∀ (l : List (Key × V)) (i : Nat), (l.map (·.1)).Nodup → l[i]? = some (Sum.inr m, .ref a) → valV l (Sum.inr m) = some (.ref a) := by
          intro l
          induction l with
          | nil => intro i _ h; cases i <;> cases h
          | cons kv l ih =>
            intro i hn h
            rw [List.map_cons, List.nodup_cons] at hn
            cases i with
            | zero => cases h; exact valV_pos rfl
            | succ i =>
              rw [valV_neg]
              · exact ih i hn.2 h
              · intro e
                exact hn.1 (by rw [e]; exact List.mem_map.mpr ⟨_, List.mem_of_getElem? h, rfl⟩)
        exact gen kvs i nd ekv
      refine ⟨_, rfl, _, rfl, _, rfl, dm, _, rfl, dgetSF hd8 vget, ?_⟩
      refine ⟨_, A, L, rk, D, E', [], none, dm, a, xs, p, 9, true, rfl, W, run8, ?_, ha8, hx8, ?_, WM.wf m p hmem, Nat.le_refl _, (fun x h => by cases h), fun _ => rfl, fun h => absurd rfl h, rfl, ?_⟩
      · rintro c (rfl | rfl)
        · rw [hd8]; simp
        · rw [hR8]; simp
      · exact fun e => am3 (.inl (.inr (.inr e)))
      intro H10 D10 E10 t box aft own10 ht10 hbox10 nbox
      have k10 : Kp (N3 A) H8 H10 := aft.kp.sub fun c h => h.elim id fun h => absurd rfl h.1
      refine ⟨t, _, rfl, SqT.of ht10, rfl, ?_⟩
      refine ⟨_, _, rfl, _, _, rfl, rfl, ?_⟩
      have hR10 := k10.at hR8 n3R
      have hd10 := k10.at hd8 n3dm
      refine ⟨_, rfl, Or.inl ⟨rfl, _, SqL.of hR10⟩, _, rfl, ?_⟩
      refine ⟨by show 2 ≤ sizeLine; decide, fun fl nfl => ?_⟩
      have t2 : Same H10 (upd H10 fl (.lst [.str "failed", .str "ended"])) := Same.new nfl _
      have hfl : (upd H10 fl (.lst [.str "failed", .str "ended"])) fl = some (.lst [.str "failed", .str "ended"]) := upd_same
      generalize upd H10 fl (.lst [.str "failed", .str "ended"]) = H11 at t2 hfl
      generalize eb : (runP L rk none p).ended = b
      refine ⟨_, rfl, .inr ⟨b, rfl, ?_⟩⟩
      have ixb : atI [V.str "failed", V.str "ended"] (if b = true then 1 else 0) = some (.str (endT b)) := by cases b <;> rfl
      refine ⟨fl, _, _, .str (endT b), rfl, rfl, SqL.of hfl, ixb, ?_⟩
      refine ⟨("abcd" : Str), rfl, fun C nC => ?_⟩
      have nab : (("abcd" : Str)).cps.size = 4 := by decide +kernel
      refine lc_it (walk_str (z := ("abcd" : Str))) (fun i H' => Same H11 H' ∧ H' C = some (.lst ((vrs.take i).map fun y => V.int ((runP L rk none p).vars y)))) ⟨Same.new nC _, by rw [upd_same]; rfl⟩ (fun _ _ _ _ => trivial) ?_ ?_
      · rintro j v H13 H12 hj ⟨t3, hC12⟩ ⟨rfl, c, hc, rfl⟩
        refine ⟨rfl, ?_⟩
        have hy : ∃ y, vrs[j]? = some y ∧ V.str y = V.str ⟨#[c]⟩ := by
          have e1 : ((("abcd" : Str)).cps.toList.map fun c => V.str ⟨#[c]⟩)[j]? = some (V.str ⟨#[c]⟩) := by rw [List.getElem?_map, Array.getElem?_toList, hc]; rfl
          rw [abcd_items, List.getElem?_map] at e1
          exact Option.map_eq_some_iff.mp e1
        obtain ⟨y, ey, eyc⟩ := hy
        rw [← eyc]
        refine ⟨_, rfl, _, rfl, box, _, rfl, dgetS (t3 _ _ (t2 _ _ hbox10)) (vDict_get _ (List.mem_of_getElem? ey)), _, hC12, ?_, t3.upd nC _, ?_⟩
        · rw [List.length_map]
          exact Nat.lt_of_le_of_lt (List.length_take_le' _ _) (by decide)
        · rw [upd_same, List.take_add_one, ey, List.map_append]
          rfl
      rintro H12 ⟨t3, hC12⟩
      rw [nab] at hC12
      refine ⟨C, _, rfl, .inl ⟨SqL.of hC12, fun tv ntv => ?_⟩⟩
      have t4 : Same H12 (upd H12 tv (.tup ((vrs.take 4).map fun y => V.int ((runP L rk none p).vars y)))) := Same.new ntv _
      have htv : (upd H12 tv (.tup ((vrs.take 4).map fun y => V.int ((runP L rk none p).vars y)))) tv = some (.tup ((vrs.take 4).map fun y => V.int ((runP L rk none p).vars y))) := upd_same
      generalize upd H12 tv (.tup ((vrs.take 4).map fun y => V.int ((runP L rk none p).vars y))) = H13 at t4 htv
      refine ⟨by show 3 ≤ sizeLine; decide, fun tr ntr => ?_⟩
      have t5 : Same H13 (upd H13 tr (.tup [kV (Sum.inr m), .str (endT b), .ref tv])) := Same.new ntr _
      have htr : (upd H13 tr (.tup [kV (Sum.inr m), .str (endT b), .ref tv])) tr = some (.tup [kV (Sum.inr m), .str (endT b), .ref tv]) := upd_same
      have t25 := ((t2.trans t3).trans t4).trans t5
      have drow : Dp (upd H13 tr (.tup [kV (Sum.inr m), .str (endT b), .ref tv])) (.ref tr) (pRow L rk M m) := by
        have ep : prg M m = p := prg_of WM.nd hmem
        show Dp _ _ (.tuple (.str m :: pRest L rk (prg M m)))
        rw [ep]
        unfold pRest
        rw [eb]
        exact .tup htr (.cons (.str _) (.cons (.str _) (.cons (.tup (t5 _ _ htv) (.cons (.int _) (.cons (.int _) (.cons (.int _) (.cons (.int _) .nil))))) .nil)))
      generalize upd H13 tr (.tup [kV (Sum.inr m), .str (endT b), .ref tv]) = H14 at t5 htr t25 drow
      have hR14 := t25 _ _ hR10
      have lvs : vs.length ≤ 8 := by
        have := hvs.len
        rw [List.length_map, List.length_take, List.length_map] at this
        omega
      refine ⟨R, vs, .ref tr, rfl, rfl, hR14, by omega, ?_⟩
      have k15 : Kp (fun c => c = R) H14 (upd H14 R (.lst (vs ++ [.ref tr]))) := (Kp.refl H14 : Kp (fun c => c = R) _ _).upd (fun _ h => h) (.inl rfl) (nt_lst hR14) _
      refine ⟨((t1.trans k10 (fun _ h => h) (fun c h => .inl (.inl h))).same t25).trans k15 (fun _ h => h) (fun c h => .inl (.inr h)), by rw [upd_ne R_dm]; exact t25 _ _ hd10, ⟨_, _, _, rfl⟩, D10, E10, (aft.run.same t25).mono k15 (fun c h => .inr h), fun x => ?_, _, upd_same, ?_⟩
      · rw [aft.keys, hkeys]
        have et : M.take (i + 1) = M.take i ++ [(m, p)] := by rw [List.take_add_one, emp]; rfl
        rw [et]
        constructor
        · rintro (⟨q, h1, h2⟩ | h)
          · exact ⟨q, List.mem_append.mpr (.inl h1), h2⟩
          · exact ⟨(m, p), List.mem_append.mpr (.inr (List.mem_singleton.mpr rfl)), h⟩
        · rintro ⟨q, h1, h2⟩
          rcases List.mem_append.mp h1 with h1 | h1
          · exact .inl ⟨q, h1, h2⟩
          · rw [List.mem_singleton.mp h1] at h2
            exact .inr h2
      · have et : (names M).take (i + 1) = (names M).take i ++ [m] := by rw [List.take_add_one, emn]; rfl
        rw [et, List.map_append]
        exact (((hvs.kp k10).same t25).kp k15).snoc (drow.kp k15)
    · rintro σ H8 ⟨t1, hd8, ⟨u1, v1, z1, rfl⟩, D, E', run8, hkeys, vs, hR8, hvs⟩
      rw [el, List.take_length] at hkeys
      have e9 : (names M).take kvs.length = names M := List.take_of_length_le (by rw [List.length_map, el]; exact Nat.le_refl _)
      rw [e9] at hvs
      refine ⟨hd8, ?_⟩
      have k68 : Kp (fun c => N3 A c ∨ c = R) H6 (upd H8 dm (.dK kvs)) := unlockK (x := .frz od (.dK kvs)) (by rw [hH7]; exact t1) hdm6 (by
        rintro (h | h)
        · exact n3dm h
        · exact R_dm h)
      have k9 : Kp (fun b => b = dm) H8 (upd H8 dm (.dK kvs)) := (Kp.refl H8 : Kp (fun b => b = dm) _ _).upd (fun _ h => h) (.inl rfl) (by rw [hd8]; intro ys z; cases z) _
      have run9 : ScAt (fun _ => False) (upd H8 dm (.dK kvs)) A L rk D E' := (run8.mono k9 fun c h => .inl h).less fun c h => h.elim
      have hR9 : (upd H8 dm (.dK kvs)) R = some (.lst vs) := by rw [upd_ne R_dm.symm]; exact hR8
      have hvs9 := hvs.kp k9
      have s09 : Same H (upd H8 dm (.dK kvs)) := (((Kp.of s06 : Kp (fun c => N3 A c ∨ c = R) H H6)).trans k68 (fun _ h => h) (fun c h => .inl h)).fresh fun c h => by
        rcases h with h | h
        · exact n3H c h
        · rw [h]; exact nR0
      generalize upd H8 dm (.dK kvs) = H9 at run9 hR9 hvs9 s09
      -- found
      refine ⟨by decide, fun fo nfo => ?_⟩
      have s10 : Same H9 (upd H9 fo (.lst [])) := Same.new nfo _
      have hfo : (upd H9 fo (.lst [])) fo = some (.lst []) := upd_same
      have run10 := run9.same s10
      have hR10 := s10 _ _ hR9
      have hvs10 := hvs9.same s10
      have s010 := s09.trans s10
      have nfo0 := s09.free nfo
      have R_fo : R ≠ fo := ne_of_none hR9 nfo
      generalize upd H9 fo (.lst []) = H10 at s10 hfo run10 hR10 hvs10 s010
      have lD := run10.lenD W
      have ekk : (sDict D).map (·.1) = (keysD D).map Sum.inr := by
        unfold sDict keysD
        rw [List.map_map, List.map_map]
        rfl
      refine ⟨_, rfl, A.sc, _, rfl, dgetS run10.ob (scD_s A), A.ds, sDict D, keysD D, rfl, Rd.of run10.sts, ekk, by rw [List.length_map]; omega, fun ys l hys hss nl => ?_⟩
      obtain rfl := srt_eq hys (sortedS_pw hss)
      have s11 : Same H10 (upd H10 l (.lst ((srt (keysD D)).map V.str))) := Same.new nl _
      have hl11 : (upd H10 l (.lst ((srt (keysD D)).map V.str))) l = some (.lst ((srt (keysD D)).map V.str)) := upd_same
      have l_fo : fo ≠ l := ne_of_none hfo nl
      have run11 := run10.same s11
      have hR11 := s11 _ _ hR10
      have hvs11 := hvs10.same s11
      have hfo11 := s11 _ _ hfo
      have s011 := s010.trans s11
      generalize upd H10 l (.lst ((srt (keysD D)).map V.str)) = H11 at s11 hl11 run11 hR11 hvs11 hfo11 s011
      refine ⟨l, rfl, ⟨_, SqL.of hl11⟩, ?_⟩
      refine for_it (walk_list (xs := (srt (keysD D)).map V.str)) (fun i σ H' => Kp (fun c => c = fo) H11 H' ∧ (∃ u v z, σ = [some (.ref md), some (.ref dm), some (.ref A.sc), some (.ref R), u, v, z, some (.ref fo), none]) ∧ ∃ rs, H' fo = some (.lst rs) ∧ DpA H' rs (((srt (keysD D)).take i).map (mRow L rk)))
        ⟨Kp.refl _, ⟨_, _, _, rfl⟩, [], hfo11, .nil⟩ (fun i σ H' _ h => SqL.of (h.1.at hl11 l_fo.symm)) ?_ ?_
      · rintro i v σ H13 H12 hi ⟨t2, ⟨u2, v2, z2, rfl⟩, rs, hfo12, hrs⟩ ⟨rfl, ei⟩
        rw [List.getElem?_map] at ei
        obtain ⟨m, em, rfl⟩ := Option.map_eq_some_iff.mp ei
        have hmD : m ∈ keysD D := srt_mem.mp (List.mem_of_getElem? em)
        have hmN : m ∈ names L := by
          obtain ⟨⟨m', b⟩, hb, rfl⟩ := List.mem_map.mp hmD
          exact (run9.good m' b hb).1
        have run12 : ScAt (fun c => c = fo) H12 A L rk D E' := (show ScAt (fun c => c = fo) H11 A L rk D E' from ((run9.more (Av' := fun c => c = fo) fun c h => .inr (by rw [h]; exact nfo)).same (s10.trans s11))).mono t2 fun _ h => h
        obtain ⟨b, b1, b2, b3, b4, b5⟩ := run12.exps m hmD
        have ndX := res_keys W hmN
        have lX := res_len W hmN
        refine ⟨_, rfl, Or.inl ⟨rfl, _, SqL.of hfo12⟩, _, rfl, ?_⟩
        refine ⟨_, rfl, A.sc, _, rfl, dgetS run12.ob (scD_s A), _, rfl, A.ds, _, rfl, dgetS run12.sts (run12.flag hmD), ?_⟩
        refine ⟨_, rfl, A.sc, _, rfl, dgetS run12.ob (scD_x A), _, rfl, A.dx, _, rfl, dgetS run12.exd b1, .inr (.inr (.inl ⟨rfl, .inl ⟨_, b2⟩⟩)), b, _, rfl, rfl, b2, fun pj npj => ?_⟩
        have t3 : Same H12 (upd H12 pj (L2.DX.itemsO pj b)) := Same.new npj _
        refine ⟨pj, b, exK (res L rk m).exps, rfl, upd_same, ?_, ?_, exK_ok ndX (by omega), fun H14 l2 ys2 t4 hys2 hl2 nl2 => ?_⟩
        · rw [exK_ent]; exact t3 _ _ b2
        · intro e he
          obtain ⟨p, _, rfl⟩ := List.mem_map.mp he
          exact .int _
        refine ⟨l2, ys2, rfl, .inl ⟨SqL.of hl2, fun t nt => ?_⟩⟩
        have t5 : Same H14 (upd H14 t (.tup ys2)) := Same.new nt _
        have dt : Dp (upd H14 t (.tup ys2)) (.ref t) (expD (res L rk m).exps) := by
          rw [← exK_sort ndX]
          exact .tup upd_same (hys2.same t5)
        generalize upd H14 t (.tup ys2) = H15 at t5 dt
        refine ⟨by show 3 ≤ sizeLine; decide, fun t2' nt2 => ?_⟩
        have t6 : Same H15 (upd H15 t2' (.tup [.str m, .str (stT (res L rk m).ready), .ref t])) := Same.new nt2 _
        have ht6 : (upd H15 t2' (.tup [.str m, .str (stT (res L rk m).ready), .ref t])) t2' = some (.tup [.str m, .str (stT (res L rk m).ready), .ref t]) := upd_same
        have dt6 := dt.same t6
        generalize upd H15 t2' (.tup [.str m, .str (stT (res L rk m).ready), .ref t]) = H16 at t6 ht6 dt6
        have t36 := ((t3.trans t4).trans t5).trans t6
        have hfo16 := t36 _ _ hfo12
        have lrs : rs.length ≤ 9 := by
          have e1 := hrs.len
          rw [List.length_map, List.length_take, srt_len, List.length_map] at e1
          omega
        refine ⟨fo, rs, .ref t2', rfl, rfl, hfo16, by omega, ?_⟩
        have k17 : Kp (fun b => b = fo) H16 (upd H16 fo (.lst (rs ++ [.ref t2']))) := (Kp.refl H16 : Kp (fun b => b = fo) _ _).upd (fun _ h => h) (.inl rfl) (nt_lst hfo16) _
        refine ⟨(t2.same t36).trans' k17, ⟨_, _, _, rfl⟩, _, upd_same, ?_⟩
        have et : (srt (keysD D)).take (i + 1) = (srt (keysD D)).take i ++ [m] := by rw [List.take_add_one, em]; rfl
        rw [et, List.map_append]
        exact ((hrs.same t36).kp k17).snoc (.tup (k17.tup ht6) (.cons (.str _) (.cons (.str _) (.cons (dt6.kp k17) .nil))))
      · rintro σ H12 ⟨t2, ⟨u2, v2, z2, rfl⟩, rs, hfo12, hrs⟩
        rw [List.length_map, List.take_length] at hrs
        have s012 : Same H H12 := ((Kp.of s011 : Kp (fun c => c = fo) H H11).trans' t2).fresh fun c h => by rw [h]; exact nfo0
        have hR12 := t2.at hR11 R_fo
        have hvs12 := hvs11.kp t2
        refine ⟨_, rfl, fo, rs, rfl, .inl ⟨SqL.of hfo12, fun t1 nt1 => ?_⟩⟩
        have s13 : Same H12 (upd H12 t1 (.tup rs)) := Same.new nt1 _
        have d1 : Dp (upd H12 t1 (.tup rs)) (.ref t1) (rowsD L rk (keysD D)) := .tup upd_same (hrs.same s13)
        generalize upd H12 t1 (.tup rs) = H13 at s13 d1
        refine ⟨_, rfl, R, vs, _, rfl, SqL.of (s13 _ _ hR12), hvs12.same s13, pRow_sortOk L rk M _ (by rw [List.length_map]; omega), fun l3 ys3 hys3 nl3 => ?_⟩
        rw [pRow_sort] at hys3
        have s14 : Same H13 (upd H13 l3 (.lst ys3)) := Same.new nl3 _
        refine ⟨l3, ys3, rfl, .inl ⟨SqL.of upd_same, fun t3 nt3 => ?_⟩⟩
        have hys14 := hys3.same s14
        generalize upd H13 l3 (.lst ys3) = H14 at s14 hys14 nt3
        have s15 : Same H14 (upd H14 t3 (.tup ys3)) := Same.new nt3 _
        have d2 : Dp (upd H14 t3 (.tup ys3)) (.ref t3) (mainsD L rk M) := .tup upd_same (hys14.same s15)
        have d1' := (d1.same s14).same s15
        generalize upd H14 t3 (.tup ys3) = H15 at s15 d2 d1'
        refine ⟨by show 2 ≤ sizeLine; decide, fun t4 nt4 => ?_⟩
        have s16 : Same H15 (upd H15 t4 (.tup [.ref t1, .ref t3])) := Same.new nt4 _
        have d3 : Dp (upd H15 t4 (.tup [.ref t1, .ref t3])) (.ref t4) (.tuple [rowsD L rk (keysD D), mainsD L rk M]) := .tup upd_same (.cons (d1'.same s16) (.cons (d2.same s16) .nil))
        generalize upd H15 t4 (.tup [.ref t1, .ref t3]) = H16 at s16 d3
        have s1216 := ((s13.trans s14).trans s15).trans s16
        have runE : ScAt (fun c => c = fo) H16 A L rk D E' := ((show ScAt (fun c => c = fo) H11 A L rk D E' from ((run9.more (Av' := fun c => c = fo) fun c h => .inr (by rw [h]; exact nfo)).same (s10.trans s11))).mono t2 fun _ h => h).same s1216
        refine ⟨_, rfl, A.sc, _, rfl, dgetS runE.ob (scD_o A), by show 2 ≤ sizeLine; decide, fun t5 nt5 => ?_⟩
        have s17 : Same H16 (upd H16 t5 (.tup [.ref t4, .ref A.ol])) := Same.new nt5 _
        exact q _ t5 (.ref t4) (.ref A.ol) (keysD D) ((s012.trans s1216).trans s17) run9.nd hkeys upd_same (d3.same s17)
end
end Cy

set_option Elab.async false
set_option linter.all false
set_option maxRecDepth 100000
set_option maxHeartbeats 4000000
/-! Rows: what can be laid; x in a tuple of rows, x not in a list of rows, lists of rows compared. -/
namespace Cy
open PySem PySem.Spec PyProof.Rows L2
theorem putX_names {X : List (Str × Int)} (h : ∀ x ∈ X.map (·.1), IsName x) {l : Str} (hl : IsName l) (n : Int) : ∀ x ∈ (putX X l n).map (·.1), IsName x := by
  intro x hx
  unfold putX at hx
  split at hx
  · obtain ⟨q, hq, e⟩ := List.mem_map.mp hx
    obtain ⟨p, hp, e2⟩ := List.mem_map.mp hq
    have e2' : (if p.1 = l then (p.1, n) else p) = q := e2
    have e3 : p.1 = x := by
      rw [← e, ← e2']
      split <;> rfl
    exact h x (List.mem_map.mpr ⟨p, hp, e3⟩)
  · rw [List.map_append] at hx
    rcases List.mem_append.mp hx with q | q
    · exact h x q
    · rw [List.mem_singleton.mp q]
      exact hl
theorem exec_names {Rm : Str → Res} {own : Option Str} : ∀ (p : List Stp) (k : Nat) (f : Str → Int) (acc : List Str) (X : List (Str × Int)), (∀ l x, Stp.exp l x ∈ p → IsName l) → (∀ x ∈ X.map (·.1), IsName x) → ∀ y ∈ (exec Rm own k p f acc X).exps.map (·.1), IsName y
  | [], k, f, acc, X, _, h => by rw [exec_nil]; exact h
  | s :: r, k + 1, f, acc, X, hp, h => exec_names r k f acc X (fun l x q => hp l x (List.mem_cons_of_mem _ q)) h
  | s :: r, 0, f, acc, X, hp, h => by
    have hr : ∀ l x, Stp.exp l x ∈ r → IsName l := fun l x q => hp l x (List.mem_cons_of_mem _ q)
    cases s with
    | set x n => exact exec_names r 0 _ acc X hr h
    | add x y => exact exec_names r 0 _ acc X hr h
    | skip x n => exact exec_names r _ f acc X hr h
    | exp l x => exact exec_names r 0 f acc _ hr (putX_names h (hp l x List.mem_cons_self) _)
    | read x m l => exact exec_names r 0 _ acc X hr h
    | need m =>
      show ∀ y ∈ (if (Rm m).ready = true then hitC m (exec Rm own 0 r f (m :: acc) X) else ⟨false, f, X, [m]⟩ : Out).exps.map (·.1), IsName y
      split
      · exact exec_names r 0 f _ X hr h
      · exact h
    | try_ m x => exact exec_names r 0 _ _ X hr h
    | fail => exact h
theorem WfP.exps {names : List Str} {rk : Str → Nat} {r : Nat} {main : Bool} {p : List Stp} (w : WfP names rk r main p) : ∀ l x, Stp.exp l x ∈ p → IsName l := by
  intro l x hs
  obtain ⟨i, hi, e⟩ := List.mem_iff_getElem.mp hs
  have q := w.at_ i _ (by rw [List.getElem?_eq_getElem hi, e])
  exact q.2.1
theorem res_names {L : Lib} {rk : Str → Nat} (W : WfL L rk) {m : Str} (hm : m ∈ names L) : ∀ y ∈ (res L rk m).exps.map (·.1), IsName y := by
  rw [res_eq W hm]
  unfold resO
  show ∀ y ∈ (if (runP L rk (some m) (prg L m)).ended = true then (runP L rk (some m) (prg L m)).exps else []).map (·.1), IsName y
  split
  · exact exec_names _ _ _ _ _ (W.wf m _ (prg_mem hm W.nd)).exps fun x h => by cases h
  · intro y h
    cases h
theorem canLayAll_map {α : Type} (F : α → PyData) : ∀ l : List α, (∀ m ∈ l, (F m).canLay0 = true) → PyData.canLayAll0 (l.map F) = true
  | [], _ => rfl
  | m :: r, h => by
    simp only [List.map_cons, PyData.canLayAll0, h m List.mem_cons_self, Bool.true_and]
    exact canLayAll_map F r fun x hx => h x (List.mem_cons_of_mem _ hx)
theorem expD_lay {X : List (Str × Int)} (h : ∀ x ∈ X.map (·.1), IsName x) : (expD X).canLay0 = true := by
  unfold expD
  simp only [PyData.canLay0]
  refine canLayAll_map _ _ fun m hm => ?_
  simp [exF, PyData.canLay0, PyData.canLayAll0, str_ok (h m (srt_mem.mp hm))]
theorem endT_lay (b : Bool) : PyData.strOk (endT b) = true := by cases b <;> decide +kernel
theorem stT_lay (b : Bool) : PyData.strOk (stT b) = true := by cases b <;> decide +kernel
section
variable {L : Lib} {rk : Str → Nat} {M : Mains}
theorem mRow_lay (W : WfL L rk) {m : Str} (hm : m ∈ names L) : (mRow L rk m).canLay0 = true := by
  simp [mRow, mRest, PyData.canLay0, PyData.canLayAll0, str_ok (W.nm m hm), stT_lay, expD_lay (res_names W hm)]
theorem mRow_depth (m : Str) : (mRow L rk m).depth ≤ 9 := by
  have := mRest_depth L rk m
  simp only [mRow, PyData.depth, PyData.depthAll]
  omega
theorem pRow_lay {m : Str} (hm : IsName m) : (pRow L rk M m).canLay0 = true := by
  simp [pRow, pRest, varsD, PyData.canLay0, PyData.canLayAll0, str_ok hm, endT_lay, canLayAll_map]
theorem pRow_depth (m : Str) : (pRow L rk M m).depth ≤ 9 := by
  have := pRest_depth L rk (prg M m)
  simp only [pRow, PyData.depth, PyData.depthAll]
  omega
theorem mRows_shaped (W : WfL L rk) {ks : List Str} (h : ∀ m ∈ ks, m ∈ names L) : SeqAt.shaped (.list (ks.map (mRow L rk))) = true := by
  have hd := depthAll_map (mRow L rk) 9 ks fun m _ => mRow_depth m
  have h2 : PyData.depth (.list (ks.map (mRow L rk))) ≤ 64 := by
    simp only [PyData.depth]
    omega
  show (PyData.canLay0 _ && decide (PyData.depth _ ≤ 64)) = true
  rw [Bool.and_eq_true]
  exact ⟨by simp only [PyData.canLay0]; exact canLayAll_map _ _ fun m hm => mRow_lay W (h m hm), decide_eq_true h2⟩
theorem rowsD_lay (W : WfL L rk) {ks : List Str} (h : ∀ m ∈ ks, m ∈ names L) : (rowsD L rk ks).canLay0 = true := by
  unfold rowsD
  simp only [PyData.canLay0]
  exact canLayAll_map _ _ fun m hm => mRow_lay W (h m (srt_mem.mp hm))
theorem rowsD_depth (ks : List Str) : (rowsD L rk ks).depth ≤ 10 := by
  have hd := depthAll_map (mRow L rk) 9 (srt ks) fun m _ => mRow_depth m
  unfold rowsD
  simp only [PyData.depth]
  omega
theorem mainsD_lay (h : ∀ m ∈ names M, IsName m) : (mainsD L rk M).canLay0 = true := by
  unfold mainsD
  simp only [PyData.canLay0]
  exact canLayAll_map _ _ fun m hm => pRow_lay (h m (srt_mem.mp hm))
theorem mainsD_depth : (mainsD L rk M).depth ≤ 10 := by
  have hd := depthAll_map (pRow L rk M) 9 (srt (names M)) fun m _ => pRow_depth m
  unfold mainsD
  simp only [PyData.depth]
  omega
theorem mRow_shaped (W : WfL L rk) {m : Str} (hm : m ∈ names L) : SeqAt.shaped (mRow L rk m) = true := by
  have := mRow_depth (L := L) (rk := rk) m
  show (PyData.canLay0 _ && decide (PyData.depth _ ≤ 64)) = true
  rw [Bool.and_eq_true]
  exact ⟨mRow_lay W hm, decide_eq_true (by omega)⟩
/-- a run's answer -/
def runD (L : Lib) (rk : Str → Nat) (Ks : List Str) (M : Mains) : PyData := .tuple [rowsD L rk Ks, mainsD L rk M]
theorem runD_shaped (W : WfL L rk) {ks : List Str} (h : ∀ m ∈ ks, m ∈ names L) (hM : ∀ m ∈ names M, IsName m) : SeqAt.shaped (runD L rk ks M) = true := by
  have h1 := rowsD_depth (L := L) (rk := rk) ks
  have h2 := mainsD_depth (L := L) (rk := rk) (M := M)
  have h3 : (runD L rk ks M).depth ≤ 64 := by
    simp only [runD, PyData.depth, PyData.depthAll]
    omega
  show (PyData.canLay0 _ && decide (PyData.depth _ ≤ 64)) = true
  rw [Bool.and_eq_true]
  exact ⟨by simp [runD, PyData.canLay0, PyData.canLayAll0, rowsD_lay W h, mainsD_lay hM], decide_eq_true h3⟩
theorem eqv_mRow (W : WfL L rk) {a : Str} (ha : a ∈ names L) (b : Str) : PyData.eqv (mRow L rk b) (mRow L rk a) = decide (b = a) := by
  by_cases e : b = a
  · rw [decide_eq_true e, e]
    exact SeqAt.eqv_refl _ (mRow_lay W ha)
  · rw [decide_eq_false e]
    have : ((b : Str) == a) = false := beq_eq_false_iff_ne.mpr e
    simp [mRow, PyData.eqv, PyData.eqvAll, this]
theorem any_mRow (W : WfL L rk) {a : Str} (ha : a ∈ names L) (l : List Str) : (l.map (mRow L rk)).any (fun z => PyData.eqv z (mRow L rk a)) = decide (a ∈ l) := by
  induction l with
  | nil => simp
  | cons b l ih =>
    rw [List.map_cons, List.any_cons, ih, eqv_mRow W ha]
    by_cases e : b = a
    · simp [e]
    · have e' : ¬ a = b := fun q => e q.symm
      simp [e, e']
theorem RchM.names (W : WfL L rk) (WM : WfM L rk M) {x : Str} (h : RchM L rk M x) : x ∈ names L := by
  obtain ⟨q, hq, h1⟩ := h
  exact (RchP.names W (WM.wf q.1 q.2 hq) h1).1
end
mutual
theorem Dp.to (K : PySem.W.Frag) {H : Hp} : ∀ {v : V} {d : PyData}, Dp H v d → L2.Dp K H v d
  | _, _, .int n => .int n
  | _, _, .str x => .str x
  | _, _, .tup h t => .tup (SqT.of h) (DpA.to K t)
theorem DpA.to (K : PySem.W.Frag) {H : Hp} : ∀ {vs : List V} {ds : List PyData}, DpA H vs ds → L2.DpAll K H vs ds
  | _, _, .nil => .nil
  | _, _, .cons h t => .cons (Dp.to K h) (DpA.to K t)
end
section
variable {X : Cx}
/-- x in a tuple of data -/
def rInT : R2 := fun x y H Q => ∃ d ds, Dp H x d ∧ Dp H y (.tuple ds) ∧ d.canLay0 = true ∧ PyData.canLayAll0 ds = true ∧ d.depth ≤ 63 ∧ Q (.bl (ds.any fun z => PyData.eqv z d)) H
def rNotInT : R2 := fun x y H Q => ∃ d ds, Dp H x d ∧ Dp H y (.tuple ds) ∧ d.canLay0 = true ∧ PyData.canLayAll0 ds = true ∧ d.depth ≤ 63 ∧ Q (.bl (!ds.any fun z => PyData.eqv z d)) H
theorem op_inT (hu : X.A.units + 64 < cLine) : OpR X (compareOp .In) rInT := by
  intro pins s σ H x y v u Q I rx ry h
  obtain ⟨d, ds, hd, he, sd, se, dd, q⟩ := h
  exact SeqAt.in_tuple_reads (he.reads I.hok ry) (hd.reads I.hok rx) se sd (by omega) ⟨.bl _, H, I, rfl, q⟩
theorem op_notInT (hu : X.A.units + 64 < cLine) : OpR X (compareOp .NotIn) rNotInT := by
  intro pins s σ H x y v u Q I rx ry h
  obtain ⟨d, ds, hd, he, sd, se, dd, q⟩ := h
  exact SeqAt.notIn_tuple_reads (he.reads I.hok ry) (hd.reads I.hok rx) se sd (by omega) ⟨.bl _, H, I, rfl, q⟩
end
end Cy

set_option Elab.async false
set_option linter.all false
set_option maxRecDepth 100000
set_option maxHeartbeats 4000000
/-! The law: each main program run alone. -/
namespace Cy
open PySem PySem.Spec PyProof.Rows L2
abbrev sAlone : Stmt := top 59
theorem hu65_of {A : Around} {k : Nat} (hr : Room k A) : A.units + 65 < cLine := by have := hr.un; omega
section
variable {L : Lib} {rk : Str → Nat} {M : Mains}
theorem RchM.one {m : Str} {p : List Stp} {x : Str} : RchM L rk [(m, p)] x ↔ RchP L rk none p x := by
  constructor
  · rintro ⟨q, hq, h⟩
    rw [List.mem_singleton.mp hq] at h
    exact h
  · intro h
    exact ⟨(m, p), List.mem_singleton.mpr rfl, h⟩
theorem WfM.one (W : WfM L rk M) {m : Str} {p : List Stp} (h : (m, p) ∈ M) : WfM L rk [(m, p)] := by
  refine ⟨List.pairwise_singleton _ _, Nat.le_trans (Nat.le_refl 1) (by decide), fun x hx => ?_, fun x q hx => ?_⟩
  · rw [List.mem_singleton.mp hx]
    exact W.nm m (List.mem_map.mpr ⟨_, h, rfl⟩)
  · cases List.mem_singleton.mp hx
    exact W.wf m p h
theorem mainsD_one {m : Str} {p : List Stp} (nd : (names M).Nodup) (h : (m, p) ∈ M) : mainsD L rk [(m, p)] = .tuple [pRow L rk M m] := by
  have nd1 : (([(m, p)] : Lib).map (·.1)).Nodup := List.pairwise_singleton _ _
  have e1 : prg [(m, p)] m = p := prg_of nd1 (List.mem_singleton.mpr rfl)
  have e2 : prg M m = p := prg_of nd h
  have e3 : pRow L rk [(m, p)] m = pRow L rk M m := by unfold pRow; rw [e1, e2]
  unfold mainsD
  have e4 : srt (names [(m, p)]) = [m] := List.perm_singleton.mp (srt_perm _)
  rw [e4, List.map_cons, e3]
  rfl
theorem valV_at {m : Str} {v : V} : ∀ (l : List (Key × V)) (i : Nat), (l.map (·.1)).Nodup → l[i]? = some (Sum.inr m, v) → valV l (Sum.inr m) = some v := by
  intro l
  induction l with
  | nil => intro i _ h; cases i <;> cases h
  | cons kv l ih =>
    intro i hn h
    rw [List.map_cons, List.nodup_cons] at hn
    cases i with
    | zero => cases h; exact valV_pos rfl
    | succ i =>
      rw [valV_neg]
      · exact ih i hn.2 h
      · intro e
        exact hn.1 (by rw [e]; exact List.mem_map.mpr ⟨_, List.mem_of_getElem? h, rfl⟩)
theorem DpA.append {H : Hp} : ∀ {vs ws : List V} {ds es : List PyData}, DpA H vs ds → DpA H ws es → DpA H (vs ++ ws) (ds ++ es)
  | _, _, _, _, .nil, h => h
  | _, _, _, _, .cons a t, h => .cons a (DpA.append t h)
theorem filter_nodup {a b : List Str} (ha : a.Nodup) (hb : b.Nodup) : (a ++ b.filter fun x => !decide (x ∈ a)).Nodup := by
  rw [List.nodup_append]
  refine ⟨ha, hb.filter _, fun x hx y hy => ?_⟩
  rintro rfl
  have := (List.mem_filter.mp hy).2
  simp [hx] at this
end
section
variable {P : Program} {w : World} {K : PySem.W.Frag} {mg : Str → Option Value} {base : Heap} {aV aP aF CL CF CP : Addr} {fk : Str → Addr} {fa : Addr} {fd : FuncData}
def spAlone (CL : Addr) : Sp := fun vs H Q _ => ∃ (lb d dm : Addr) (v : V) (LS : Lib) (rk : Str → Nat) (kvs : List (Key × V)) (M : Mains) (Ks : List Str), vs = [.ref lb, .ref dm, v] ∧ ArgsAt CL H lb d dm LS rk kvs M ∧ Ks.Nodup ∧ (∀ x, x ∈ Ks ↔ RchM LS rk M x) ∧ Dp H v (runD LS rk Ks M) ∧ ∀ H', Same H H' → Q (.bl true) H'
theorem scAlone : FnScope ["_law_made", "_law_mains", "_law_whole", "_law_parts", "_law_name", "_law_alone", "_law_row"] ["_law_made", "_law_mains", "_law_whole"] (defScope sAlone) := ⟨rfl, rfl, rfl, by decide +kernel, rfl, by decide +kernel, by decide +kernel⟩
theorem ok_alone {k : Nat} (hk : 2 ≤ k) (F : FnF K mg "_law_alone_right" sAlone [] [] fa fd) (T : G0 K mg aV aP) (h1 : Pr P w K mg base "plain_run" ["library", "mains"] [] k (spPlainRun CL)) :
    Pr P w K mg base "_law_alone_right" ["_law_made", "_law_mains", "_law_whole"] [] (k + 1) (spAlone CL) := by
  refine ⟨fa, fd, [], F.mg_, F.fn.kp, F.fn.ok0 scAlone (fun vs H Q E h => ?_) (fun cdv A outer s H vs Q E hr h => ?_), .nil, F.fn.bindsN fun _ _ _ _ _ _ us hl => match us, hl with | [_, _, _], _ => rfl⟩
  · obtain ⟨lb, d, dm, v, LS, rk, kvs, M, Ks, rfl, _⟩ := h
    rfl
  · obtain ⟨lb, d, dm, v, LS, rk, kvs, M, Ks, rfl, arg, ndK, hK, hv, q⟩ := h
    have hu := hu_of hr
    have hu64 := hu64_of hr
    have hu65 := hu65_of hr
    refine ⟨_, pss_cons (ps_set (i := 3) scAlone.nd rfl (Or.inr rfl) (pe_lst pa_nil))
      (pss_cons (ps_lock (ps_for (g := gName 4) PassesOwn.never rfl (pi_keys (pv 1)) (pg_name (i := 4) scAlone.nd rfl (Or.inl rfl))
        (pss_cons (ps_set (i := 5) scAlone.nd rfl (Or.inl rfl) (pe_pr h1 hr rfl (pa_cons (pv 0) (pa_cons (pe_disp (pps_cons (pv 4) (pe_dget hu (pv 1) (pv 4) (fun _ _ => rfl)) pps_nil) rfl rfl (by simp) (by decide)) pa_nil))))
        (pss_cons (ps_if (PW.pt (pw_or (pt_cmpR op_ne (pe_callB call_len rfl T.len PySem.boot_len (pa_cons (pe_ix ix_tup (pv 5) pe_int (fun _ _ => rfl)) pa_nil)) pe_int (nomark _))
          (pw_or (pt_cmpR (op_notInT hu64) (pe_ix ix_tup (pe_ix ix_tup (pv 5) pe_int (fun _ _ => rfl)) pe_int (fun _ _ => rfl)) (pe_ix ix_tup (pv 2) pe_int (fun _ _ => rfl)) (by rfl))
          (pw_or1 (pt_not (pt_val (pe_callB (cr_all rfl) rfl T.all (by decide +kernel) (pa_cons (pe_lc (own := [("_law_row", 6)]) (g := gName 6) (tt := tYes) (te := tOp rInT (tVar 6) (tOp (rIxT K) (tVar 2) (tC (.int 0)))) rfl scAlone.nd (pi_tup (pe_ix ix_tup (pv 5) pe_int (fun _ _ => rfl)))
            (blkOk_by (N := ["_law_made", "_law_mains", "_law_whole", "_law_parts", "_law_name", "_law_alone", "_law_row"]) (sc := defScope sAlone) (by decide +kernel))
            (fun _ _ _ _ _ => pg_name (i := 6) scAlone.nd rfl (Or.inl rfl)) (fun _ _ _ _ _ => pts_nil) (fun _ _ _ _ _ => pe_cmpR (op_inT hu64) (pv 6) (pe_ix ix_tup (pv 2) pe_int (fun _ _ => rfl)) (by rfl))) pa_nil))))))))
          (pss_one ps_never) pss_nil)
        (pss_one (ps_set (i := 3) scAlone.nd rfl (Or.inr rfl) (pe_op op_cat (pv 3) (pe_lc (own := [("_law_row", 6)]) (g := gName 6) (tt := tTest (tOp (rNotInD K) (tVar 6) (tVar 3))) (te := tVar 6) rfl scAlone.nd (pi_tup (pe_ix ix_tup (pv 5) pe_int (fun _ _ => rfl)))
            (blkOk_by (N := ["_law_made", "_law_mains", "_law_whole", "_law_parts", "_law_name", "_law_alone", "_law_row"]) (sc := defScope sAlone) (by decide +kernel))
            (fun _ _ _ _ _ => pg_name (i := 6) scAlone.nd rfl (Or.inl rfl)) (fun _ _ _ _ _ => pts_one (pt_cmpR (op_notInD hu65) (pv 6) (pv 3) (by rfl))) (fun _ _ _ _ _ => pv 6)))))))))
      (pss_one (ps_ret (pe_cmpR (op_eqD hu64) (pe_callB (call_sortL hu64) rfl T.sorted (by decide +kernel) (pa_cons (pv 3) pa_nil)) (pe_callTy call_list_of rfl T.list (by decide +kernel) (pa_cons (pe_ix ix_tup (pv 2) pe_int (fun _ _ => rfl)) pa_nil)) (nomark _))))), ?_⟩
    have hsz : sizeLine = 2 ^ 24 := by rfl
    have W := arg.wf
    have WM := arg.wm
    have lM := WM.len
    have el : kvs.length = M.length := Paired.len arg.kv
    have nmL : ∀ x ∈ Ks, x ∈ names LS := fun x hx => ((hK x).mp hx).names W WM
    obtain ⟨va, vvs, rfl, hva, hvv⟩ := hv.tupD
    cases hvv with
    | cons hv0 hvv =>
    cases hvv with
    | cons hv1 hvv =>
    cases hvv
    rename_i w0 w1
    refine ⟨by decide, fun R nR => ?_⟩
    have s1 : Same H (upd H R (.lst [])) := Same.new nR _
    have hR1 : (upd H R (.lst [])) R = some (.lst []) := upd_same
    generalize upd H R (.lst []) = H1 at s1 hR1
    have arg1 := arg.same s1
    have hdm1 := arg1.dm_
    refine ⟨dm, .dK kvs, hdm1, trivial, fun od => ?_⟩
    have k2 : Kp (fun b => b = dm) H1 (upd H1 dm (.frz od (.dK kvs))) := (Kp.refl H1 : Kp (fun b => b = dm) _ _).upd (fun _ h => h) (.inl rfl) (nt_dK hdm1) _
    have hd2 : (upd H1 dm (.frz od (.dK kvs))) dm = some (.frz od (.dK kvs)) := upd_same
    obtain ⟨zl, lbo⟩ := arg1.lib.ob
    have lb_dm : lb ≠ dm := ne_of lbo hdm1 (by intro z; cases z)
    have R_dm : R ≠ dm := ne_of hR1 hdm1 (by intro z; cases z)
    have lib2 := arg1.lib.mono k2 lb_dm arg1.ne
    have hR2 := k2.at hR1 R_dm
    have hva2 := k2.tup (s1 _ _ hva)
    have hw0 : Dp (upd H1 dm (.frz od (.dK kvs))) w0 (rowsD LS rk Ks) := (hv0.same s1).kp k2
    have hw1 : Dp (upd H1 dm (.frz od (.dK kvs))) w1 (mainsD LS rk M) := (hv1.same s1).kp k2
    have prog2 : ∀ {v : V} {p : List Stp}, ProgL H1 v p → ProgL (upd H1 dm (.frz od (.dK kvs))) v p := by
      intro v p h
      refine h.kp k2 fun a e z => ?_
      obtain ⟨b, xs, rfl, e2, _⟩ := h
      rw [V.ref.inj e, z, hdm1] at e2
      cases e2
    generalize hH2 : upd H1 dm (.frz od (.dK kvs)) = H2 at k2 hd2 lib2 hR2 hva2 hw0 hw1 prog2
    refine ⟨_, rfl, dm, od, rfl, .inl ⟨kvs, hd2, ?_⟩⟩
    refine for_it (walk_keys (d := dm) (o := od) (kvs := kvs)) (fun i σ H' => Same H2 H' ∧ ∃ (Ra : Addr) (u z : Option V) (ks : List Str) (vs : List V), σ = [some (.ref lb), some (.ref dm), some (.ref va), some (.ref Ra), u, z, none] ∧ ks.Nodup ∧ (∀ x, x ∈ ks ↔ RchM LS rk (M.take i) x) ∧ H' Ra = some (.lst vs) ∧ DpA H' vs (ks.map (mRow LS rk)))
      ⟨Same.refl _, R, none, none, [], [], rfl, List.nodup_nil, fun x => ?_, hR2, .nil⟩ (fun i σ H' _ h => h.1 _ _ hd2) ?_ ?_
    · constructor
      · intro h; cases h
      · rintro ⟨q, hq, _⟩; cases hq
    · rintro i v σ H4 H3 hi ⟨t1, R, u1, z1, ks, vs, rfl, ndk, hks, hR3, hvs⟩ ⟨rfl, kk, vv, ekv, rfl⟩
      obtain ⟨⟨m, p⟩, emp, e1, e2⟩ := Paired.at arg1.kv i _ ekv
      have e1' : kk = Sum.inr m := e1
      subst e1'
      have hmem : (m, p) ∈ M := List.mem_of_getElem? emp
      have e2' := (prog2 e2).same t1
      have hd3 := t1 _ _ hd2
      have vget : valV kvs (Sum.inr m) = some vv := by
        refine valV_at kvs i ?_ ekv
        rw [arg.kv.keys]
        exact List.pairwise_map.mpr (WM.nd.imp fun h e => h (Sum.inr.inj e))
      have inL : ∀ x ∈ ks, x ∈ names LS := by
        intro x hx
        obtain ⟨q, hq, h1⟩ := (hks x).mp hx
        exact RchM.names W WM ⟨q, List.mem_of_mem_take hq, h1⟩
      -- alone
      refine ⟨_, rfl, fun d1 nd1 => ?_⟩
      have s4 : Same H3 (upd (upd H3 d1 (.dK [])) d1 (.dK [(Sum.inr m, vv)])) := by
        intro b o e
        have : b ≠ d1 := fun z => by rw [z, nd1] at e; cases e
        rw [upd_ne this, upd_ne this]
        exact e
      refine ⟨_, rfl, _, rfl, _, rfl, dm, _, rfl, dgetSF (by rw [upd_ne (ne_of_none hd3 nd1)]; exact hd3) vget, ?_⟩
      refine ⟨upd_same, [(Sum.inr m, vv)], rfl, Nat.le_trans (Nat.le_refl 1) (by decide), ?_⟩
      have em : mergeK [] [((Sum.inr m : Key), vv)] = [(Sum.inr m, vv)] := rfl
      rw [em]
      have hd1 : (upd (upd H3 d1 (.dK [])) d1 (.dK [(Sum.inr m, vv)])) d1 = some (.dK [(Sum.inr m, vv)]) := upd_same
      have dne : d ≠ d1 := by
        obtain ⟨q1, q2, _⟩ := (lib2.same t1).dc
        exact ne_of_none q2 nd1
      generalize upd (upd H3 d1 (.dK [])) d1 (.dK [(Sum.inr m, vv)]) = H4 at s4 hd1
      refine ⟨lb, d, d1, LS, rk, [(Sum.inr m, vv)], [(m, p)], rfl, ⟨(lib2.same t1).same s4, W, dne, hd1, .cons ⟨rfl, e2'.same s4⟩ .nil, WM.one hmem⟩, fun H5 v5 Ks5 s5 nd5 hK5 hv5 => ?_⟩
      have s35 := s4.trans s5
      have t5 := t1.trans s35
      obtain ⟨t, tvs, rfl, ht, htv⟩ := hv5.tupD
      cases htv with
      | cons hu0 htv =>
      cases htv with
      | cons hu1 htv =>
      cases htv
      rename_i u0 u1
      rw [mainsD_one WM.nd hmem] at hu1
      obtain ⟨t1a, rs, rfl, ht1, hrs⟩ := hu1.tupD
      cases hrs with
      | cons hr0 hrs =>
      cases hrs
      rename_i r0
      obtain ⟨t0, rows, rfl, ht0, hrows⟩ := hu0.tupD
      have nm5 : ∀ x ∈ srt Ks5, x ∈ names LS := fun x hx => by
        exact ((hK5 x).mp (srt_mem.mp hx)).names W (WM.one hmem)
      have hva5 := t5 _ _ hva2
      have lrows : rows.length = (srt Ks5).length := by
        have := hrows.len
        rw [List.length_map] at this
        exact this
      have rowAt : ∀ {j : Nat} {x : V}, rows[j]? = some x → ∃ a, (srt Ks5)[j]? = some a ∧ Dp H5 x (mRow LS rk a) := by
        intro j x hx
        obtain ⟨y, e1, e2⟩ := hrows.at j x hx
        rw [List.getElem?_map] at e1
        obtain ⟨a, ea, rfl⟩ := Option.map_eq_some_iff.mp e1
        exact ⟨a, ea, e2⟩
      have l5 : (srt Ks5).length ≤ 9 := by
        have h1 := List.Nodup.length_le_of_subset (srt_nodup nd5) nm5
        rw [List.length_map] at h1
        exact Nat.le_trans h1 W.hi
      have lks : ks.length ≤ 9 := by
        have h1 := List.Nodup.length_le_of_subset ndk inL
        rw [List.length_map] at h1
        exact Nat.le_trans h1 W.hi
      -- the first test
      refine ⟨_, rfl, t, _, _, _, rfl, rfl, SqT.of ht, rfl, ?_⟩
      refine ⟨_, _, rfl, Or.inr ⟨_, SqT.of ht1, rfl⟩, ?_⟩
      refine ⟨rfl, _, rfl, ?_⟩
      show if (!decide (V.int 1 = V.int 1)) = true then _ else _
      rw [decide_eq_true rfl]
      -- the second test
      refine ⟨_, rfl, t, _, _, _, rfl, rfl, SqT.of ht, rfl, t1a, _, _, _, rfl, rfl, SqT.of ht1, rfl, ?_⟩
      refine ⟨_, rfl, va, _, _, _, rfl, rfl, SqT.of hva5, rfl, ?_⟩
      have hm' : m ∈ names M := List.mem_map.mpr ⟨_, hmem, rfl⟩
      have lay1 : (pRow LS rk M m).canLay0 = true := pRow_lay (WM.nm m hm')
      refine ⟨_, _, hr0, hw1.same t5, lay1, canLayAll_map _ _ fun x hx => pRow_lay (WM.nm x (srt_mem.mp hx)), Nat.le_trans (pRow_depth m) (by decide), ?_⟩
      have any1 : ((srt (names M)).map (pRow LS rk M)).any (fun z => PyData.eqv z (pRow LS rk M m)) = true := by
        rw [List.any_eq_true]
        exact ⟨_, List.mem_map.mpr ⟨m, srt_mem.mpr hm', rfl⟩, SeqAt.eqv_refl _ lay1⟩
      rw [any1]
      refine ⟨_, rfl, ?_⟩
      -- the third test
      refine ⟨_, rfl, t, _, _, _, rfl, rfl, SqT.of ht, rfl, t0, rfl, ⟨rows, SqT.of ht0⟩, fun C nC => ?_⟩
      refine lc_it (walk_tup (a := t0) (xs := rows)) (fun j H' => Same H5 H' ∧ H' C = some (.lst ((List.replicate j true).map V.bl))) ⟨Same.new nC _, by rw [upd_same]; rfl⟩ (fun _ H' _ h => SqT.of (h.1 _ _ ht0)) ?_ ?_
      · rintro j v H7 H6 hj ⟨t3, hC6⟩ ⟨rfl, hx⟩
        obtain ⟨a, ea, hda⟩ := rowAt hx
        have hmL := nm5 a (List.mem_of_getElem? ea)
        have hxK : a ∈ Ks := by
          rw [hK]
          have := (hK5 a).mp (srt_mem.mp (List.mem_of_getElem? ea))
          exact ⟨(m, p), hmem, RchM.one.mp this⟩
        refine ⟨rfl, ?_⟩
        refine ⟨_, rfl, _, rfl, va, _, _, _, rfl, rfl, SqT.of (t3 _ _ hva5), rfl, ?_⟩
        refine ⟨_, _, hda.same t3, (hw0.same t5).same t3, mRow_lay W hmL, canLayAll_map _ _ fun x hx => mRow_lay W (nmL x (srt_mem.mp hx)), Nat.le_trans (mRow_depth a) (by decide), ?_⟩
        rw [any_mRow W hmL, decide_eq_true (srt_mem.mpr hxK)]
        refine ⟨_, hC6, ?_, t3.upd nC _, ?_⟩
        · rw [List.length_map, List.length_replicate]
          omega
        · rw [upd_same, List.replicate_succ', List.map_append]
          rfl
      rintro H6 ⟨t6, hC6⟩
      refine ⟨C, _, rfl, SqL.of hC6, ?_⟩
      have allT : (List.replicate rows.length true).all id = true := by
        rw [List.all_eq_true]
        intro x hx
        exact (List.mem_replicate.mp hx).2
      rw [allT]
      refine ⟨true, rfl, ?_⟩
      -- the new parts
      have t36 := s35.trans t6
      have hR6 := t36 _ _ hR3
      have hvs6 := hvs.same t36
      refine ⟨_, rfl, ?_⟩
      refine ⟨_, rfl, t, _, _, _, rfl, rfl, SqT.of (t6 _ _ ht), rfl, t0, rfl, ⟨rows, SqT.of (t6 _ _ ht0)⟩, fun C2 nC2 => ?_⟩
      refine lc_it (walk_tup (a := t0) (xs := rows)) (fun j H' => Same H6 H' ∧ ∃ vs2, H' C2 = some (.lst vs2) ∧ vs2.length ≤ j ∧ DpA H' vs2 ((((srt Ks5).take j).filter fun x => !decide (x ∈ ks)).map (mRow LS rk)))
        ⟨Same.new nC2 _, [], upd_same, Nat.le_refl _, .nil⟩ (fun _ H' _ h => SqT.of (h.1 _ _ (t6 _ _ ht0))) ?_ ?_
      · rintro j v H8 H7 hj ⟨t3, vs2, hC7, lv2, hvs2⟩ ⟨rfl, hx⟩
        obtain ⟨a, ea, hda⟩ := rowAt hx
        have hmL := nm5 a (List.mem_of_getElem? ea)
        refine ⟨rfl, ?_⟩
        refine ⟨_, rfl, _, rfl, ?_⟩
        refine ⟨_, _, ((hda.same t6).same t3).to K, .lst (SqL.of (t3 _ _ hR6)) ((hvs6.same t3).to K), mRow_shaped W hmL, mRows_shaped W inL, ?_⟩
        rw [any_mRow W hmL]
        refine ⟨_, rfl, ?_⟩
        have et : (srt Ks5).take (j + 1) = (srt Ks5).take j ++ [a] := by rw [List.take_add_one, ea]; rfl
        rw [et, List.filter_append]
        by_cases hin : a ∈ ks
        · rw [decide_eq_true hin]
          refine ⟨t3, vs2, hC7, by omega, ?_⟩
          have : [a].filter (fun x => !decide (x ∈ ks)) = [] := by simp [hin]
          rw [this, List.append_nil]
          exact hvs2
        · rw [decide_eq_false hin]
          have : [a].filter (fun x => !decide (x ∈ ks)) = [a] := by simp [hin]
          rw [this]
          refine ⟨_, rfl, vs2, hC7, by omega, t3.upd nC2 _, _, upd_same, by rw [List.length_append]; exact Nat.succ_le_succ lv2, ?_⟩
          rw [List.map_append]
          have kk : Kp (fun c => c = C2) H7 (upd H7 C2 (.lst (vs2 ++ [v]))) := (Kp.refl H7 : Kp (fun c => c = C2) _ _).upd (fun _ h => h) (.inl rfl) (nt_lst hC7) _
          exact (hvs2.kp kk).snoc (((hda.same t6).same t3).kp kk)
      rintro H7 ⟨t7, vs2, hC7, lv2, hvs2⟩
      have lv1 : vs.length = ks.length := by
        have := hvs.len
        rw [List.length_map] at this
        exact this
      rw [List.take_of_length_le (by omega)] at hvs2
      refine ⟨R, C2, vs, vs2, rfl, rfl, t7 _ _ hR6, hC7, by omega, fun np nnp => ?_⟩
      have s8 : Same H7 (upd H7 np (.lst (vs ++ vs2))) := Same.new nnp _
      refine ⟨((t1.trans t36).trans t7).trans s8, np, _, _, _, _, rfl, filter_nodup ndk (srt_nodup nd5), fun x => ?_, upd_same, ?_⟩
      · have et : M.take (i + 1) = M.take i ++ [(m, p)] := by rw [List.take_add_one, emp]; rfl
        rw [et, List.mem_append, hks, List.mem_filter, srt_mem, hK5, RchM.one]
        constructor
        · rintro (⟨q, h1, h2⟩ | ⟨h, _⟩)
          · exact ⟨q, List.mem_append.mpr (.inl h1), h2⟩
          · exact ⟨(m, p), List.mem_append.mpr (.inr (List.mem_singleton.mpr rfl)), h⟩
        · rintro ⟨q, h1, h2⟩
          rcases List.mem_append.mp h1 with h1 | h1
          · exact .inl ⟨q, h1, h2⟩
          · rw [List.mem_singleton.mp h1] at h2
            by_cases hin : x ∈ ks
            · exact .inl ((hks x).mp hin)
            · exact .inr ⟨h2, by simp [hin]⟩
      · rw [List.map_append]
        exact ((hvs6.same t7).append hvs2).same s8
    · rintro σ H5 ⟨t1, R, u1, z1, ks, vs, rfl, ndk, hks, hR5, hvs⟩
      rw [el, List.take_length] at hks
      refine ⟨t1 _ _ hd2, ?_⟩
      have s15 : Same H1 (upd H5 dm (.dK kvs)) := unlock (x := .frz od (.dK kvs)) (by rw [hH2]; exact t1) hdm1
      have hd5 := t1 _ _ hd2
      have k6 : Kp (fun b => b = dm) H5 (upd H5 dm (.dK kvs)) := (Kp.refl H5 : Kp (fun b => b = dm) _ _).upd (fun _ h => h) (.inl rfl) (by rw [hd5]; intro ys z; cases z) _
      have R_dm : R ≠ dm := ne_of hR5 hd5 (by intro z; cases z)
      have hR6 := k6.at hR5 R_dm
      have hvs6 := hvs.kp k6
      generalize upd H5 dm (.dK kvs) = H6 at s15 hR6 hvs6
      have s06 := s1.trans s15
      have inL : ∀ x ∈ ks, x ∈ names LS := fun x hx => ((hks x).mp hx).names W WM
      have lks : ks.length ≤ 9 := by
        have h1 := List.Nodup.length_le_of_subset ndk inL
        rw [List.length_map] at h1
        exact Nat.le_trans h1 W.hi
      refine ⟨_, rfl, R, vs, _, rfl, SqL.of hR6, hvs6, mRow_sortOk LS rk ks (by omega), fun l ys hys nl => ?_⟩
      rw [mRow_sort] at hys
      have s7 : Same H6 (upd H6 l (.lst ys)) := Same.new nl _
      have hl7 : (upd H6 l (.lst ys)) l = some (.lst ys) := upd_same
      have hys7 := hys.same s7
      generalize upd H6 l (.lst ys) = H7 at s7 hl7 hys7
      have s07 := s06.trans s7
      obtain ⟨wa, ws, rfl, hwa, hws⟩ := (hv0.same s07).tupD
      refine ⟨_, rfl, va, _, _, _, rfl, rfl, SqT.of (s07 _ _ hva), rfl, ?_⟩
      refine ⟨wa, ws, rfl, .inr (SqT.of hwa), fun l2 nl2 => ?_⟩
      have s8 : Same H7 (upd H7 l2 (.lst ws)) := Same.new nl2 _
      have esrt : srt ks = srt Ks := srt_set ndk ndK fun x => (hks x).trans (hK x).symm
      rw [← esrt] at hws
      refine ⟨_, _, .lst (SqL.of (s8 _ _ hl7)) ((hys7.same s8).to K), .lst (SqL.of upd_same) ((hws.same s8).to K), mRows_shaped W fun x hx => inL x (srt_mem.mp hx), mRows_shaped W fun x hx => inL x (srt_mem.mp hx), ?_⟩
      have eq1 : PyData.eqv (.list ((srt ks).map (mRow LS rk))) (.list ((srt ks).map (mRow LS rk))) = true := SeqAt.eqv_refl _ (by simp only [PyData.canLay0]; exact canLayAll_map _ _ fun x hx => mRow_lay W (inL x (srt_mem.mp hx)))
      rw [eq1]
      exact q _ (s07.trans s8)
end
end Cy

set_option Elab.async false
set_option linter.all false
set_option maxRecDepth 100000
set_option maxHeartbeats 4000000
/-! What repr shows: how long it gets; dicts of programs. -/
namespace Cy
open PySem PySem.Spec PyProof.Rows L2
structure Shw (d : PyData) (b : Nat) : Prop where
  sh : d.showable = true
  lv : d.leavesShort 300 = true
  bk : d.bulk ≤ b
structure ShwA (ds : List PyData) (b : Nat) : Prop where
  sh : PyData.showableAll ds = true
  lv : PyData.leavesShortAll 300 ds = true
  bk : PyData.bulkAll ds ≤ b
theorem lid10 : lid 10 < 2 ^ 200 := by
  have h1 : (10 : Nat) ^ 30 < 2 ^ 100 := by decide +kernel
  unfold lid big
  calc 10 ^ 30 * 2 ^ (10 * 10) < 2 ^ 100 * 2 ^ 100 := Nat.mul_lt_mul_of_pos_right h1 (Nat.pow_pos (by decide))
    _ = 2 ^ 200 := by rw [← Nat.pow_add]
theorem int_short {n : Int} (h : n.natAbs ≤ lid 10) : n.natAbs.log2 < 200 := by
  by_cases h0 : n.natAbs = 0
  · rw [h0]
    decide
  · exact (Nat.log2_lt h0).mpr (Nat.lt_of_le_of_lt h lid10)
theorem Shw.int {n : Int} (h : n.natAbs ≤ lid 10) : Shw (.int n) 0 := by
  have h1 := int_short h
  refine ⟨?_, ?_, by simp only [PyData.bulk]; exact Nat.le_refl _⟩
  · simp only [PyData.showable]
    exact decide_eq_true (by omega)
  · simp only [PyData.leavesShort, PyData.shown]
    refine decide_eq_true ?_
    have h2 := int_text_length_le (k := 200) (by decide) h1
    have e : (Str.ofString (toString n)).length = (toString n).length := PySem.ofString_length _
    show (Str.ofString (toString n)).length ≤ 300
    omega
theorem Shw.str {x : Str} {b : Nat} (h : PyData.strOk x = true) (hl : x.length ≤ b) : Shw (.str x) b := by
  refine ⟨by simp only [PyData.showable], ?_, by simp only [PyData.bulk]; exact hl⟩
  simp only [PyData.leavesShort, List.all_eq_true, decide_eq_true_eq]
  intro c hc
  unfold PyData.strOk at h
  rw [Array.all_eq_true'] at h
  have := h c (Array.mem_toList_iff.mp hc)
  have h2 : c < 0x110000 := of_decide_eq_true this
  omega
theorem ShwA.nil : ShwA [] 0 := ⟨by simp only [PyData.showableAll], by simp only [PyData.leavesShortAll], by simp only [PyData.bulkAll]; exact Nat.le_refl _⟩
theorem ShwA.cons {d : PyData} {ds : List PyData} {a b : Nat} (h : Shw d a) (t : ShwA ds b) : ShwA (d :: ds) (a + 1 + b) := by
  refine ⟨by simp only [PyData.showableAll, h.sh, t.sh, Bool.and_self], by simp only [PyData.leavesShortAll, h.lv, t.lv, Bool.and_self], ?_⟩
  have h1 := h.bk
  have h2 := t.bk
  simp only [PyData.bulkAll]
  omega
theorem ShwA.map {α : Type} {F : α → PyData} {k : Nat} : ∀ (l : List α), (∀ m ∈ l, Shw (F m) k) → ShwA (l.map F) (l.length * (k + 1))
  | [], _ => by
    rw [List.map_nil, List.length_nil, Nat.zero_mul]
    exact ShwA.nil
  | m :: l, h => by
    have := ShwA.cons (h m List.mem_cons_self) (ShwA.map l fun x hx => h x (List.mem_cons_of_mem _ hx))
    rw [List.map_cons, List.length_cons, Nat.succ_mul, Nat.add_comm (l.length * (k + 1))]
    exact this
theorem Shw.up {d : PyData} {a b : Nat} (h : Shw d a) (hb : a ≤ b) : Shw d b := ⟨h.sh, h.lv, Nat.le_trans h.bk hb⟩
theorem ShwA.up {d : List PyData} {a b : Nat} (h : ShwA d a) (hb : a ≤ b) : ShwA d b := ⟨h.sh, h.lv, Nat.le_trans h.bk hb⟩
theorem Shw.tup {ds : List PyData} {b : Nat} (h : ShwA ds b) : Shw (.tuple ds) b := ⟨by simp only [PyData.showable, h.sh], by simp only [PyData.leavesShort, h.lv], by simp only [PyData.bulk]; exact h.bk⟩
theorem Shw.lst {ds : List PyData} {b : Nat} (h : ShwA ds b) : Shw (.list ds) b := ⟨by simp only [PyData.showable, h.sh], by simp only [PyData.leavesShort, h.lv], by simp only [PyData.bulk]; exact h.bk⟩
theorem Shw.len {d : PyData} {b : Nat} (h : Shw d b) (hb : b ≤ 10000) : d.shown.length ≤ 3100000 := by
  have h1 := PyData.shown_le_bulk 300 (by decide) d h.lv
  have h2 := h.bk
  have h3 : (300 + 2) * d.bulk ≤ 302 * 10000 := Nat.mul_le_mul (by decide) (Nat.le_trans h2 hb)
  omega
/-! ### answers of runs -/
section
variable {L : Lib} {rk : Str → Nat} {M : Mains}
theorem Shw.nm {x : Str} (h : IsName x) : Shw (.str x) 8 := Shw.str (str_ok h) h.hi
theorem mem_names_len {X : List (Str × Int)} : (srt (X.map (·.1))).length = X.length := by rw [srt_len, List.length_map]
theorem getX_small {X : List (Str × Int)} {M : Nat} (h : BndX M X) (h1 : 1 ≤ M) (hm : M ≤ lid 10) (l : Str) : (getX X l).natAbs ≤ lid 10 := Nat.le_trans (getX_bnd h h1 l) hm
theorem mRow_shw (W : WfL L rk) {m : Str} (hm : m ∈ names L) : Shw (mRow L rk m) 150 := by
  have hn := res_names W hm
  have hl := res_len W hm
  have hb := res_bnd W 9 (Nat.le_refl _) m hm (W.rk9 m hm)
  have h1 : ShwA ((srt ((res L rk m).exps.map (·.1))).map (exF (res L rk m).exps)) ((srt ((res L rk m).exps.map (·.1))).length * (10 + 1)) := by
    refine ShwA.map _ fun l hlm => ?_
    unfold exF
    exact (Shw.tup (ShwA.cons (Shw.nm (hn l (srt_mem.mp hlm))) (ShwA.cons (Shw.int (getX_small hb (lid_pos 9) (lid_mono (by decide)) l)) ShwA.nil))).up (by decide)
  rw [mem_names_len] at h1
  have h2 : Shw (expD (res L rk m).exps) 110 := (Shw.tup h1).up (by omega)
  have h3 : Shw (.str (stT (res L rk m).ready)) 8 := by
    cases (res L rk m).ready
    · exact Shw.str (by decide +kernel) (by decide +kernel)
    · exact Shw.str (by decide +kernel) (by decide +kernel)
  exact (Shw.tup (ShwA.cons (Shw.nm (W.nm m hm)) (ShwA.cons h3 (ShwA.cons h2 ShwA.nil)))).up (by decide)
theorem rowsD_shw (W : WfL L rk) {ks : List Str} (nd : ks.Nodup) (h : ∀ m ∈ ks, m ∈ names L) : Shw (rowsD L rk ks) 2000 := by
  have h1 := ShwA.map (F := mRow L rk) (k := 150) (srt ks) fun m hm => mRow_shw W (h m (srt_mem.mp hm))
  have h2 := List.Nodup.length_le_of_subset nd h
  rw [List.length_map] at h2
  have h3 := W.hi
  rw [srt_len] at h1
  exact (Shw.tup h1).up (by omega)
theorem run_small (W : WfL L rk) {p : List Stp} (w : WfP (names L) rk 9 true p) (x : Str) : ((runP L rk none p).vars x).natAbs ≤ lid 10 :=
  (run_bnd (own := none) w fun m hm h => res_bnd W 9 (Nat.le_refl _) m hm h).1 x
theorem pRow_shw (W : WfL L rk) (WM : WfM L rk M) {m : Str} (hm : m ∈ names M) : Shw (pRow L rk M m) 40 := by
  have h1 : ShwA (vrs.map fun x => PyData.int ((runP L rk none (prg M m)).vars x)) (vrs.length * (0 + 1)) :=
    ShwA.map vrs fun x _ => Shw.int (run_small W (WM.wf m _ (prg_mem hm WM.nd)) x)
  have h3 : ∀ b, Shw (.str (endT b)) 8 := by
    intro b
    cases b
    · exact Shw.str (by decide +kernel) (by decide +kernel)
    · exact Shw.str (by decide +kernel) (by decide +kernel)
  exact (Shw.tup (ShwA.cons (Shw.nm (WM.nm m hm)) (ShwA.cons (h3 _) (ShwA.cons (Shw.tup (h1.up (show vrs.length * (0 + 1) ≤ 4 by decide +kernel))) ShwA.nil)))).up (by decide)
theorem mainsD_shw (W : WfL L rk) (WM : WfM L rk M) : Shw (mainsD L rk M) 400 := by
  have h1 := ShwA.map (F := pRow L rk M) (k := 40) (srt (names M)) fun m hm => pRow_shw W WM (srt_mem.mp hm)
  have h2 := WM.len
  rw [srt_len, List.length_map] at h1
  exact (Shw.tup h1).up (by omega)
theorem runD_shw (W : WfL L rk) (WM : WfM L rk M) {ks : List Str} (nd : ks.Nodup) (h : ∀ m ∈ ks, m ∈ names L) : Shw (runD L rk ks M) 3000 :=
  (Shw.tup (ShwA.cons (rowsD_shw W nd h) (ShwA.cons (mainsD_shw W WM) ShwA.nil))).up (by decide)
end
/-! ### programs as data -/
def stpD (s : Stp) : PyData := .tuple ((sv s).map pdV)
def progD (p : List Stp) : PyData := .list (p.map stpD)
theorem stp_dp {H : Hp} {v : V} {s : Stp} (h : StepAt H v s) : Dp H v (stpD s) := by
  obtain ⟨a, rfl, e⟩ := h
  refine .tup e ?_
  rw [sv_eq]
  cases s with
  | set x n => exact .cons (.str _) (.cons (.str _) (.cons (.int _) .nil))
  | add x y => exact .cons (.str _) (.cons (.str _) (.cons (.str _) .nil))
  | skip x n => exact .cons (.str _) (.cons (.str _) (.cons (.int _) .nil))
  | exp l x => exact .cons (.str _) (.cons (.str _) (.cons (.str _) .nil))
  | read x m l => exact .cons (.str _) (.cons (.str _) (.cons (.str _) (.cons (.str _) .nil)))
  | need m => exact .cons (.str _) (.cons (.str _) .nil)
  | try_ m x => exact .cons (.str _) (.cons (.str _) (.cons (.str _) .nil))
  | fail => exact .cons (.str _) .nil
theorem word_len (s : Stp) : (word s).length ≤ 8 := by
  have all : ∀ y ∈ ([("set" : Str), "add", "skip", "export", "read", "need", "try", "fail"] : List Str), y.length ≤ 8 := by decide +kernel
  refine all _ ?_
  cases s <;> simp [word]
theorem vrs_len {x : Str} (h : x ∈ vrs) : x.length ≤ 8 := by
  have all : ∀ y ∈ vrs, y.length ≤ 8 := by decide +kernel
  exact all x h
theorem Shw.vr {x : Str} (h : x ∈ vrs) : Shw (.str x) 8 := Shw.str (vrs_ok h) (vrs_len h)
theorem stp_shw {ns : List Str} {rk : Str → Nat} {r : Nat} {main : Bool} {n : Nat} {s : Stp} (hn : n ≤ 10) (h : WfS ns rk r main n s) : Shw (stpD s) 40 := by
  have w : Shw (.str (word s)) 8 := Shw.str (word_ok s) (word_len s)
  have bigl : big ≤ lid 10 := big_lid 10
  have two : ∀ {x y : PyData}, Shw x 8 → Shw y 8 → Shw (.tuple [.str (word s), x, y]) 40 := fun hx hy => (Shw.tup (ShwA.cons w (ShwA.cons hx (ShwA.cons hy ShwA.nil)))).up (by decide)
  unfold stpD
  rw [sv_eq]
  cases s with
  | set x n => exact two (Shw.vr h.1) ((Shw.int (Nat.le_trans h.2 bigl)).up (by decide))
  | add x y => exact two (Shw.vr h.1) (Shw.vr h.2)
  | skip x k =>
    refine two (Shw.vr h.1) ((Shw.int ?_).up (by decide))
    have h1 : (10 : Nat) ≤ lid 10 := Nat.le_trans (by decide +kernel) bigl
    have h2 := h.2.2
    omega
  | exp l x => exact two (Shw.nm h.2.1) (Shw.vr h.2.2)
  | read x m l => exact (Shw.tup (ShwA.cons w (ShwA.cons (Shw.vr h.1) (ShwA.cons (Shw.nm h.2.1.2.1) (ShwA.cons (Shw.nm h.2.2) ShwA.nil))))).up (by decide)
  | need m => exact (Shw.tup (ShwA.cons w (ShwA.cons (Shw.nm h.2.1) ShwA.nil))).up (by decide)
  | try_ m x => exact two (Shw.nm h.1.2.1) (Shw.vr h.2)
  | fail => exact (Shw.tup (ShwA.cons w ShwA.nil)).up (by decide)
theorem prog_shw {ns : List Str} {rk : Str → Nat} {r : Nat} {main : Bool} {p : List Stp} (w : WfP ns rk r main p) : Shw (progD p) 410 := by
  have h1 := ShwA.map (F := stpD) (k := 40) p fun s hs => by
    obtain ⟨i, hi, e⟩ := List.mem_iff_getElem.mp hs
    have q := w.at_ i s (by rw [List.getElem?_eq_getElem hi, e])
    have := w.len
    exact stp_shw (by omega) q
  have h2 := w.len
  exact (Shw.lst h1).up (by omega)
theorem stp_depth (s : Stp) : (stpD s).depth ≤ 1 := by
  unfold stpD
  rw [sv_eq]
  cases s <;> simp [its, pdV, PyData.depth, PyData.depthAll]
theorem prog_depth (p : List Stp) : (progD p).depth ≤ 2 := by
  have := depthAll_map stpD 1 p fun s _ => stp_depth s
  simp only [progD, PyData.depth]
  omega
end Cy

set_option Elab.async false
set_option linter.all false
set_option maxRecDepth 100000
set_option maxHeartbeats 4000000
/-! Dicts of programs, read and shown. -/
namespace Cy
open PySem PySem.Spec PyProof.Rows L2
theorem steps_reads {P : Program} {w : World} {H : Hp} {h : Heap} (ok : HOk P w H h) : ∀ {xs : List V} {p : List Stp} {us : List Value}, Steps H xs p → Vals xs us → ReadsAll h us (p.map stpD) []
  | _, _, _, .nil, r => by cases r; exact .nil
  | _, _, _, .cons a t, r => by
    cases r with
    | cons r1 r2 => exact .cons ((stp_dp a).reads ok r1) (steps_reads ok t r2)
theorem prog_reads {P : Program} {w : World} {H : Hp} {h : Heap} (ok : HOk P w H h) {v : V} {p : List Stp} {u : Value} (hp : ProgL H v p) (r : RelV v u) : ∃ as, Reads h u (progD p) as := by
  obtain ⟨a, xs, rfl, e, st⟩ := hp
  obtain rfl : u = Value.ref a := r
  obtain ⟨_, its, n, rv, g⟩ := (show ObjOk P w H h a (.lst xs) from ok a _ e)
  exact ⟨_, .list g rfl rfl (steps_reads ok st rv)⟩
abbrev keysP (L : Lib) : List PyData := L.map fun q => PyData.str q.1
abbrev valsP (L : Lib) : List PyData := L.map fun q => progD q.2
theorem entries_read {P : Program} {w : World} {H : Hp} {h : Heap} (ok : HOk P w H h) : ∀ {kvs : List (Key × V)} {L : Lib} {vs : List (Key × Value)} {es : List DictEntry}, KvP (ProgL H) kvs L → KV kvs vs → Pairs (mixKind P w) es vs →
    (∃ as, ReadsAll h (es.map (·.key)) (keysP L) as) ∧ ∃ bs, ReadsAll h (es.map (·.val)) (valsP L) bs
  | [], [], _, _, .nil, r, q => by
    cases r
    cases q
    exact ⟨⟨_, .nil⟩, ⟨_, .nil⟩⟩
  | kv :: kvs, mp :: L, vs, es, .cons r0 t, r, q => by
    cases r with
    | @cons _ k2 _ vs2 r1 r2 =>
      cases q with
      | @cons en _ es2 _ q1 q2 q3 =>
        obtain ⟨⟨as, i1⟩, ⟨bs, i2⟩⟩ := entries_read ok t r2 q3
        obtain ⟨cs, i3⟩ := prog_reads ok r0.2 r1.2
        rw [← q2] at i3
        have q1' : keyIs k2.1 en.key = true := q1
        rw [← r1.1, r0.1] at q1'
        have hk : ∃ t, en.key = Value.str mp.1 t := by
          rcases keyIs_shape q1' with ⟨i, t, z, _⟩ | ⟨x, t, z, ek⟩
          · cases z
          · cases z
            exact ⟨t, ek⟩
        obtain ⟨t, ek⟩ := hk
        refine ⟨⟨[] ++ as, ?_⟩, ⟨cs ++ bs, .cons i3 i2⟩⟩
        rw [List.map_cons, ek]
        exact .cons (.str _ t) i1
/-- programs that can be shown -/
structure LShw (L : Lib) : Prop where
  nd : (names L).Nodup
  len : L.length ≤ 9
  nm : ∀ q ∈ L, IsName q.1
  pr : ∀ q ∈ L, Shw (progD q.2) 410
def libT (L : Lib) : Str := dictText (List.zipWith (fun k v : Str => k ++ ": " ++ v) (PyData.shownAll (keysP L)) (PyData.shownAll (valsP L)))
theorem LShw.keys {L : Lib} (h : LShw L) : ShwA (keysP L) 100 := by
  have h1 := ShwA.map (F := fun q : Str × List Stp => PyData.str q.1) (k := 8) L fun q hq => Shw.nm (h.nm q hq)
  have := h.len
  exact h1.up (by omega)
theorem LShw.vals {L : Lib} (h : LShw L) : ShwA (valsP L) 4000 := by
  have h1 := ShwA.map (F := fun q : Str × List Stp => progD q.2) (k := 410) L fun q hq => h.pr q hq
  have := h.len
  exact h1.up (by omega)
theorem each_len {ds : List PyData} {b : Nat} (h : ShwA ds b) (hb : b ≤ 10000) : ∀ t ∈ PyData.shownAll ds, t.length ≤ sizeLine := by
  induction ds generalizing b with
  | nil => intro t ht; simp only [PyData.shownAll] at ht; cases ht
  | cons d ds ih =>
    intro t ht
    have h1 : d.showable = true ∧ PyData.showableAll ds = true := by simpa [PyData.showableAll] using h.sh
    have h2 : d.leavesShort 300 = true ∧ PyData.leavesShortAll 300 ds = true := by simpa only [PyData.leavesShortAll, Bool.and_eq_true] using h.lv
    have h3 : d.bulk + 1 + PyData.bulkAll ds ≤ b := by simpa only [PyData.bulkAll] using h.bk
    simp only [PyData.shownAll, List.mem_cons] at ht
    rcases ht with rfl | ht
    · have := Shw.len (d := d) (b := b) ⟨h1.1, h2.1, by omega⟩ hb
      rw [sizeLine_eq]
      omega
    · exact ih (b := b) ⟨h1.2, h2.2, by omega⟩ hb t ht
theorem libT_len {L : Lib} (h : LShw L) : (libT L).length ≤ 3100000 := by
  have e : libT L = (PyData.dict (L.map fun q => (PyData.str q.1, progD q.2))).shown := by
    simp only [PyData.shown, PyData.shownKv_eq, List.map_map]
    rfl
  rw [e]
  have gen : ∀ L : Lib, (∀ q ∈ L, IsName q.1) → (∀ q ∈ L, Shw (progD q.2) 410) → PyData.leavesShortKv 300 (L.map fun q => (PyData.str q.1, progD q.2)) = true ∧ PyData.bulkKv (L.map fun q => (PyData.str q.1, progD q.2)) ≤ L.length * 420 := by
    intro L
    induction L with
    | nil => intro _ _; exact ⟨by simp only [List.map_nil, PyData.leavesShortKv], by simp [PyData.bulkKv]⟩
    | cons q L ih =>
      intro h1 h2
      obtain ⟨i1, i2⟩ := ih (fun x hx => h1 x (List.mem_cons_of_mem _ hx)) fun x hx => h2 x (List.mem_cons_of_mem _ hx)
      have a := Shw.nm (h1 q List.mem_cons_self)
      have b := h2 q List.mem_cons_self
      refine ⟨by simp only [List.map_cons, PyData.leavesShortKv, a.lv, b.lv, i1, Bool.and_self], ?_⟩
      have a1 := a.bk
      have b1 := b.bk
      simp only [List.map_cons, PyData.bulkKv, List.length_cons]
      omega
  obtain ⟨i1, i2⟩ := gen L h.nm h.pr
  have h1 := PyData.shown_le_bulk 300 (by decide) (PyData.dict (L.map fun q => (PyData.str q.1, progD q.2))) (by simp only [PyData.leavesShort]; exact i1)
  have h2 : (PyData.dict (L.map fun q => (PyData.str q.1, progD q.2))).bulk ≤ 10000 := by
    simp only [PyData.bulk]
    have := h.len
    omega
  have h3 : (300 + 2) * (PyData.dict (L.map fun q => (PyData.str q.1, progD q.2))).bulk ≤ 302 * 10000 := Nat.mul_le_mul (by decide) h2
  omega
/-- a tracked dict of programs: its entries are shown -/
theorem dict_shows {P : Program} {w : World} {H : Hp} {h : Heap} (ok : HOk P w H h) {a : Addr} {kvs : List (Key × V)} {L : Lib} (e : H a = some (.dK kvs)) (kv : KvP (ProgL H) kvs L) (sh : LShw L) :
    ∃ o es n bs, h.get? a = some o ∧ o.cls = .type "dict" ∧ o.data = .dict es n ∧ (a == sysModules) = false ∧ a ∉ bs ∧ (∀ b ∈ a :: bs, ∃ d as, Reads h (.ref b) d as) ∧
      ReprEntriesK P w bs h 2 es.toList (List.zipWith (fun k v : Str => k ++ ": " ++ v) (PyData.shownAll (keysP L)) (PyData.shownAll (valsP L))) := by
  obtain ⟨_, ns, vs, rv, o, es, ep, g, xd, hd, _, pr, _⟩ := dk_of ok e
  obtain ⟨⟨as, r1⟩, ⟨bs, r2⟩⟩ := entries_read ok kv rv pr
  have rd : Reads h (.ref a) (.dict (L.map fun q => (PyData.str q.1, progD q.2))) (a :: as ++ bs) := by
    refine .dict g xd.1 hd ?_ ?_
    · rw [List.map_map]
      exact r1
    · rw [List.map_map]
      exact r2
  have nd1 : PyData.hasDictAll (keysP L) = false := PyData.hasDictAll_of_canLayAll _ (canLayAll_map _ _ fun q hq => by simp only [PyData.canLay0]; exact str_ok (sh.nm q hq))
  have nd2 : PyData.hasDictAll (valsP L) = false := by
    have gen : ∀ l : Lib, PyData.hasDictAll (valsP l) = false := by
      intro l
      induction l with
      | nil => simp only [List.map_nil, PyData.hasDictAll]
      | cons q l ih =>
        have h2 : ∀ p : List Stp, PyData.hasDictAll (p.map stpD) = false := by
          intro p
          induction p with
          | nil => simp only [List.map_nil, PyData.hasDictAll]
          | cons s p ihp =>
            have h3 : (stpD s).hasDict = false := by
              unfold stpD
              rw [sv_eq]
              cases s <;> simp [its, pdV, PyData.hasDict, PyData.hasDictAll]
            simp only [List.map_cons, PyData.hasDictAll, h3, ihp, Bool.or_self]
        simp only [valsP, List.map_cons, PyData.hasDictAll, progD, PyData.hasDict, h2, Bool.false_or]
        exact ih
    exact gen L
  obtain ⟨b1, hb1, k1⟩ := ReprAllK.of_readsAll (prog := P) (w := w) r1 sh.keys.sh (fun z => by rw [nd1] at z; cases z) (each_len sh.keys (by decide))
  obtain ⟨b2, hb2, k2⟩ := ReprAllK.of_readsAll (prog := P) (w := w) r2 sh.vals.sh (fun z => by rw [nd2] at z; cases z) (each_len sh.vals (by decide))
  have d1 : PyData.depthAll (keysP L) ≤ 2 := depthAll_map _ 2 L fun q _ => by simp [PyData.depth]
  have d2 : PyData.depthAll (valsP L) ≤ 2 := depthAll_map _ 2 L fun q _ => prog_depth q.2
  have hna : a ∉ b1 ++ b2 := by
    refine not_mem_of_deeper rd (n := PyData.depthKv (L.map fun q => (PyData.str q.1, progD q.2))) (by simp only [PyData.depth]; omega) ?_
    have m1 := PyData.depthAll_keys_le (L.map fun q => (PyData.str q.1, progD q.2))
    have m2 := PyData.depthAll_vals_le (L.map fun q => (PyData.str q.1, progD q.2))
    rw [List.map_map] at m1 m2
    exact (hb1.mono m1).append (hb2.mono m2)
  refine ⟨o, es, ep, b1 ++ b2, g, xd.1, hd, ns, hna, fun b hb => ?_, ReprEntriesK.of_two es.toList _ _ (k1.more_le (fun b hb => List.mem_append_left _ hb) d1) (k2.more_le (fun b hb => List.mem_append_right _ hb) d2)⟩
  rcases List.mem_cons.mp hb with rfl | hb
  · exact ⟨_, _, rd⟩
  · rcases List.mem_append.mp hb with hb | hb
    · obtain ⟨d, as, r, _⟩ := hb1 b hb
      exact ⟨d, as, r⟩
    · obtain ⟨d, as, r, _⟩ := hb2 b hb
      exact ⟨d, as, r⟩
end Cy

set_option Elab.async false
set_option linter.all false
set_option maxRecDepth 100000
set_option maxHeartbeats 4000000
/-! Promises that hold where the guards are known. -/
namespace Cy
open PySem PySem.Spec PyProof.Rows L2
/-- FnOk where G holds of what is around -/
def FnG (G : Around → Prop) (P : Program) (w : World) (K : PySem.W.Frag) (mg : Str → Option Value) (base : Heap) (k : Nat) (f : Addr) (fd : FuncData) (ps : List Str) (sp : Sp) : Prop :=
  ∀ (B : Around) (es : List Env) (t : Shared) (H : Hp) (as : Args) (us : List Value) (vs : List V) (Q : VK) (E : XK), G B → Room k B → Env0 P w K mg base B es t H → BindsTo t fd as (ps.zip us) → Vals vs us → sp vs H Q E →
    codeAny (model P w) B (.call (.ref f) as) (CR CX0 es P w H t Q E) t
section
variable {P : Program} {w : World} {K : PySem.W.Frag} {mg : Str → Option Value} {base : Heap} {x qual : Str} {params : Arguments} {body : List Stmt} {scope : Scope} {dvs : List V} {kws : List (Str × V)} {f : Addr} {fd : FuncData}
theorem FnG.of {G : Around → Prop} {N ps : List Str} {k : Nat} {sp : Sp} (F : FunD K x qual params body scope dvs kws f fd) (S : FnScope N ps scope) (ln : ∀ vs H Q E, sp vs H Q E → vs.length = ps.length)
    (hb : ∀ (cdv : Value) (B : Around) (es : List Env) (t : Shared) (H : Hp) (vs : List V) (Q : VK) (E : XK), G B → Room k (B.deeper (envOfC qual scope t.heap.objs.size f cdv)) → sp vs H Q E →
      ∃ r, PSs (cxOf CX0 P w K mg base N qual scope f cdv B es t H E).nox body r ∧ r { nx := fun _ H' => Q .non H', rt := Q } (start N vs) H) :
    FnG G P w K mg base (k + 1) f fd ps sp := by
  intro B es t H as us vs Q E g room env bt rv hs
  obtain ⟨oc, od, dV, kV, doc, pm, an, cdv, ct, osl, rfl, lk, hcd, _, _⟩ := F.ex
  have ll := ln _ _ _ _ hs
  have kin : K.In t.heap := env.mod.kin.keeps fun b o z => (env.bs b o z).1
  have nl : t.heap.NoLimit := env.mod.nolimit.keeps fun b o z => (env.bs b o z).1
  have kd : ∀ y ∈ ps.zip us, scope.names.lookup y.1 = some .local ∨ (scope.names.lookup y.1 = some .cell ∧ ((cellsFrom (t.heap.objs.size + 1) scope.names []).lookup y.1).isSome = true) := by
    rintro ⟨n, v⟩ hy
    exact (S.par n (List.of_mem_zip hy).1).imp id fun q => ⟨q, PySem.W.cellsFrom_some _ _ _ (.inl q)⟩
  refine codeAny_call_function room.depth (kin _ _ lk) rfl S.co S.gen rfl (PySem.W.codeRec_of kin hcd) (bt _ _ _ _ ?_)
  refine wpAny_newFunctionEnv_cells S.kind kd fun ev he t1 made => ?_
  subst he
  refine ⟨nl.keeps made.toInCall.keep, codeAny_func ?_⟩
  obtain ⟨r, hr, hq⟩ := hb cdv B es t H vs Q E g (room.deeper _) hs
  have I : Inv (cxOf CX0 P w K mg base N qual scope f cdv B es t H E) [] (start N vs) H t1 := inv_start S room.hd env ll rv made
  refine wpAny_mono (hr.nox.run [] t1 (start N vs) H _ I hq) (fun fl t2 z => ?_) fun e t2 z => z
  cases fl with
  | ret u =>
    obtain ⟨v, σ', H', J, q1, q2⟩ := z
    exact ⟨v, H', J.os, J.bare, J.base, J.hok, q1, q2⟩
  | next =>
    obtain ⟨σ', H', J, q2⟩ := z
    exact ⟨V.non, H', J.os, J.bare, J.base, J.hok, (rfl : RelV V.non Value.none), q2⟩
  | brk =>
    obtain ⟨_, _, _, q⟩ := z
    exact q.elim
  | cont =>
    obtain ⟨_, _, _, q⟩ := z
    exact q.elim
end
end Cy

set_option Elab.async false
set_option linter.all false
set_option maxRecDepth 100000
set_option maxHeartbeats 4000000
/-! repr: of data, of a dict of programs in an f-string, of an own instance in a list. -/
namespace Cy
open PySem PySem.Spec PyProof.Rows L2
open PySem.W (InstAt findIn isFn looks_findIn)
section
variable {M : Model} {A : Around} {E : Value → Shared → Prop} {s : Shared} {K : PySem.W.Frag} {x C f : Addr} {ox : Obj} {od : Option Obj}
/-- what repr asks of an instance whose class has its own __repr__ -/
theorem repr_own_under {base : Nat} {Q : Value → Shared → Prop} (hu : A.units < cLine) (X : K.In s.heap) (I : InstAt s.heap x ox C od) (hs : findIn K (.ref C) "__repr__" = some (some (.ref f))) (hf : isFn K (.ref f) = true)
    (h : wpAny M A (call (.ref f) [.ref x]) (fun v s' => ∃ y t, v = .str y t ∧ Q (.str y t) s') E s) : wpAny M A (pyReprObjUnder base (.ref x)) Q E s := by
  unfold pyReprObjUnder pyReprObjBy
  refine wpAny_bind (wpAny_cRoomFor hu ?_)
  refine wpAny_bind (m := specialOf (.ref x) "__repr__") (wpAny_bind (I.type.here ((looks_findIn X hs).here ?_)))
  refine wpAny_bind (m := callSpecialIfBoundBy? _ (.ref x) "__repr__") ?_
  simp only [callSpecialIfBoundBy?, bindSpecialIfBound?]
  refine wpAny_holding (wpAny_bind (wpAny_bind (wpAny_bind (I.type.here ((looks_findIn X hs).here ?_)))))
  have fin : wpAny M A (call (.ref f) ([.ref x] ++ [])) (fun v s' => wpAny M A (pure (some v) : Sem (Option Value)) (fun r s' => wpAny M A (match r with
    | some r => (do if ← isInstance r (.type "str") then pure r else raiseError "TypeError" s!"__repr__ returned non-string (type {← typeNameOf r})")
    | none => unsupported "repr:special-get-raises") Q E s') E s') E s := by
    refine wpAny_mono h (fun v s' z => ?_) fun _ _ z => z
    obtain ⟨y, t, rfl, q⟩ := z
    exact wpAny_pure (wpAny_bind (wpAny_isInstance (T := "str") (b := true) rfl isSubtype_str_str (wpAny_pure q)))
  refine wpAny_bind (wpAny_askSetting (wpAny_ite ?_))
  split
  · exact wpAny_bind ((PySem.W.bind_fn X _ (beq_iff_eq.mp hf)).here (wpAny_pure (wpAny_bind fin)))
  · exact wpAny_tryCatch (wpAny_bind ((PySem.W.bind_fn X _ (beq_iff_eq.mp hf)).here (wpAny_pure (wpAny_bind fin))))
end
end Cy

set_option Elab.async false
set_option linter.all false
set_option maxRecDepth 100000
set_option maxHeartbeats 4000000
/-! repr of data; of a dict of programs in an f-string; the loop of list.__repr__, a turn. -/
namespace Cy
open PySem PySem.Spec PyProof.Rows L2
open PySem.W (InstAt findIn isFn looks_findIn)
open Builtin Builtin.List
/-- nothing reads this list as data: an instance stands in it -/
def NoRd (l : Addr) (H : Hp) : Prop := ∃ xs b C dx fs, H l = some (.lst xs) ∧ V.ref b ∈ xs ∧ H b = some (.ins C dx fs)
theorem readsAll_has {h : Heap} : ∀ {vs : List Value} {ds : List PyData} {as : List Addr}, ReadsAll h vs ds as → ∀ u ∈ vs, ∃ d bs, Reads h u d bs
  | _, _, _, .nil, u, hu => by cases hu
  | _, _, _, .cons a t, u, hu => by
    rcases List.mem_cons.mp hu with rfl | hu
    · exact ⟨_, _, a⟩
    · exact readsAll_has t u hu
theorem vals_has : ∀ {xs : List V} {us : List Value}, Vals xs us → ∀ b, V.ref b ∈ xs → Value.ref b ∈ us
  | _, _, .nil, b, h => by cases h
  | _, _, .cons r t, b, h => by
    rcases List.mem_cons.mp h with e | h
    · subst e
      obtain rfl : _ = Value.ref b := r
      exact List.mem_cons_self
    · exact List.mem_cons_of_mem _ (vals_has t b h)
theorem NoRd.no {P : Program} {w : World} {H : Hp} {h : Heap} (ok : HOk P w H h) {l : Addr} (n : NoRd l H) : ¬ ∃ d as, Reads h (.ref l) d as := by
  rintro ⟨d, as, r⟩
  obtain ⟨xs, b, C, dx, fs, e1, e2, e3⟩ := n
  obtain ⟨_, its, k, rv, g⟩ := (show ObjOk P w H h l (.lst xs) from ok l _ e1)
  obtain ⟨_, _, _, gb, _⟩ := (show ObjOk P w H h b (.ins C dx fs) from ok b _ e3)
  have hb : ¬ ∃ d as, Reads h (.ref b) d as := by
    rintro ⟨d, as, r⟩
    cases r with
    | list h1 h2 h3 h4 => rw [gb] at h1; cases h1; cases h2
    | tuple h1 h2 h3 h4 => rw [gb] at h1; cases h1; cases h2
    | dict h1 h2 h3 h4 h5 => rw [gb] at h1; cases h1; cases h2
  cases r with
  | list h1 h2 h3 h4 =>
    rw [g] at h1
    cases h1
    cases h3
    exact hb (readsAll_has h4 _ (by simpa using vals_has rv b e2))
  | tuple h1 h2 h3 h4 => rw [g] at h1; cases h1; exact absurd h2 (by simp)
  | dict h1 h2 h3 h4 h5 => rw [g] at h1; cases h1; exact absurd h2 (by simp)
section
variable {X : Cx}
/-- {x!r} in a list's repr: x a dict of programs -/
def tFmtP (l : Addr) (te : TE) : TE := fun σ H Q => te σ H fun x H1 => ∃ a kvs L, x = .ref a ∧ H1 a = some (.dK kvs) ∧ KvP (ProgL H1) kvs L ∧ LShw L ∧ NoRd l H1 ∧ Q (.str (libT L)) H1
theorem pe_fmtP {e : Expr} {te : TE} {pos : Pos} {l : Addr} {rest : List Value} {kw : List (Str × Value)} (hu : X.A.units + 64 < cLine) (hg : X.A.guards = some [.builtin "list.__repr__.loop" ⟨.ref l :: rest, kw⟩]) (he : PE X e te) :
    PE X (.FormattedValue e 114 none pos) (tFmtP l te) := by
  refine ⟨fun pins s σ H Q I h => ?_⟩
  refine wpAny_FormattedValue_repr (thn (he.run pins s σ H _ I h) fun v s1 hv => ?_)
  obtain ⟨x, H1, I1, r1, a, kvs, L, rfl, hd, kv, sh, nr, q⟩ := hv
  obtain rfl : v = Value.ref a := r1
  obtain ⟨o, es, n, bs, g, hc, hdat, hsys, hna, hrd, hE⟩ := dict_shows I1.hok hd kv sh
  have hl : (libT L).length ≤ sizeLine := by
    have := libT_len sh
    rw [sizeLine_eq]
    omega
  refine wpAny_pyReprObj_dictK g hc hdat hsys hna hE hg (fun b hb => ?_) (by omega) (fun _ _ e => e) (fun h' u tk keep => ?_) hl
  · refine (Clear.nil b).cons fun e => nr.no I1.hok ?_
    rw [e]
    exact hrd b hb
  · have I2 := I1.kept (t' := tk) keep
    exact wpAny_formatField_str ⟨.str (libT L), H1, I2, ⟨u, rfl⟩, q⟩ ⟨.str (libT L), H1, I2.tok _, ⟨_, rfl⟩, q⟩ hl
/-- repr(t), t a tuple of data -/
def rReprT : List V → Hp → VK → Prop := fun vs H Q => ∃ v ds b, vs = [v] ∧ Dp H v (.tuple ds) ∧ (PyData.tuple ds).canLay0 = true ∧ (PyData.tuple ds).depth ≤ 60 ∧ Shw (.tuple ds) b ∧ b ≤ 10000 ∧ Q (.str (PyData.tuple ds).shown) H
theorem call_reprT (hu : X.A.units + 64 < cLine) (hg : X.A.guards = some []) : CallR X (.builtin "repr") rReprT := by
  intro pins s σ H xs us Q I r h
  obtain ⟨v, ds, b, rfl, hd, lay, dep, sh, hb, q⟩ := h
  obtain ⟨u, rfl, rx⟩ := vals1 r
  have rd := hd.reads I.hok rx
  obtain ⟨a, vs, rfl, _, _⟩ := hd.tupD
  obtain rfl : u = Value.ref a := rx
  refine repr_of_reads' rd sh.sh (PyData.noDict_hsm (PyData.hasDict_of_canLay _ lay)) hg (by omega) (fun _ _ e => e) (fun h' t tk keep => ⟨.str (PyData.tuple ds).shown, H, I.kept keep, ⟨t, rfl⟩, q⟩) ?_
  have := sh.len hb
  rw [sizeLine_eq]
  omega
end
section
variable {P : Program} {w : World} {A : Around} {s : Shared} {R : Result → Shared → Prop}
/-- a turn of the loop -/
theorem loop_turn {l L : Addr} {items : Array Value} {ol : Obj} {n i sg : Nat} {x : Value} {t : Str} (hl : s.heap.get? l = some ol) (hd : ol.data = .seq items n) (hx : items[i]? = some x) (ht : t.length ≤ sizeLine)
    (h : wpAny (model P w) (A.under (.builtin "list.__repr__.loop" ⟨[.ref l, rawInt i, .ref L, rawInt sg], []⟩)) (pyReprUnder (sg + 1) x)
      (fun y s1 => y = t ∧ ∃ acc c, s1.heap.get? L = some { cls := .type "list", dict := none, data := .seq acc c, slots := #[] } ∧ acc.size ≤ sizeLine ∧
        codeAny (model P w) A (.builtin "list.__repr__.loop" ⟨[.ref l, rawInt (i + 1 : Nat), .ref L, rawInt (sg + (t.length + 2) : Nat)], []⟩) R { s1 with heap := s1.heap.update L (Obj.mapSeq (·.push (.str t s1.toks))), toks := s1.toks + 1 }) (fun e s1 => R (.error e) s1) s) :
    codeAny (model P w) A (.builtin "list.__repr__.loop" ⟨[.ref l, rawInt i, .ref L, rawInt sg], []⟩) R s := by
  refine codeAny_builtin F.entry_list_repr_loop ?_
  show wpAny _ _ («list.__repr__.loop» ⟨[.ref l, .int i 0, .ref L, .int (sg : Nat) 0], []⟩) _ _ s
  rw [repr_loop_tree]
  refine wpAny_bind (wpAny_listItems hl hd ?_)
  have e0 : items[(i : Int).toNat]? = some x := by rw [Int.toNat_natCast]; exact hx
  simp only [e0]
  rw [Int.toNat_natCast]
  refine wpAny_bind (wpAny_holding (wpAny_mono h (fun y s1 z => ?_) fun _ _ z => z))
  obtain ⟨rfl, acc, c, hL, hz, hnext⟩ := z
  refine wpAny_bind (wpAny_mkStr ?_ ht)
  refine wpAny_bind ?_
  show wpAny _ _ (updateSeq L _) _ _ _
  exact wpAny_updateSeq hL rfl (wpAny_pure ⟨F.quiet_list_repr_loop _, hnext⟩) hz
/-- the loop's end -/
theorem loop_end {l L : Addr} {items : Array Value} {ol : Obj} {n i sg c : Nat} {acc : Array Value} {done : List (Str × Tok)} (hl : s.heap.get? l = some ol) (hd : ol.data = .seq items n) (hi : items[i]? = none)
    (hL : s.heap.get? L = some { cls := .type "list", dict := none, data := .seq acc c, slots := #[] }) (ha : acc.toList = strValues done) (hz : (listText (done.map (·.1))).length ≤ sizeLine)
    (h : ∀ u tk, R (.ok (.ret (.str (listText (done.map (·.1))) u))) { s with toks := tk }) :
    codeAny (model P w) A (.builtin "list.__repr__.loop" ⟨[.ref l, rawInt i, .ref L, rawInt sg], []⟩) R s := by
  refine codeAny_builtin F.entry_list_repr_loop ?_
  show wpAny _ _ («list.__repr__.loop» ⟨[.ref l, .int i 0, .ref L, .int (sg : Nat) 0], []⟩) _ _ s
  rw [repr_loop_tree]
  refine wpAny_bind (wpAny_listItems hl hd ?_)
  have e0 : items[(i : Int).toNat]? = none := by rw [Int.toNat_natCast]; exact hi
  simp only [e0]
  unfold reprEnd
  refine wpAny_bind (wpAny_listItems hL rfl ?_)
  rw [ha, repr_fold]
  refine wpAny_bind (wpAny_pure ?_)
  refine wpAny_bind (wpAny_mkStr (wpAny_pure ?_) hz)
  exact h _ _
end
end Cy

set_option Elab.async false
set_option linter.all false
set_option maxRecDepth 100000
set_option maxHeartbeats 4000000
/-! repr of a list of a dict of programs and a library. -/
namespace Cy
open PySem PySem.Spec PyProof.Rows L2
open PySem.W (InstAt findIn isFn looks_findIn)
open Builtin Builtin.List
/-- what a library shows -/
def reprL (LS : Lib) : Str := Str.empty ++ "Library(" ++ libT LS ++ ")"
theorem reprL_len {LS : Lib} (h : LShw LS) : (reprL LS).length ≤ 3100100 := by
  have h1 := libT_len h
  unfold reprL
  rw [strLen_append, strLen_append, strLen_append]
  have e1 : (Str.empty).length = 0 := rfl
  have e2 : ("Library(" : Str).length = 8 := by decide +kernel
  have e3 : (")" : Str).length = 1 := by decide +kernel
  omega
/-- under the loop over the list at l, and no other loop -/
def GLoop (l : Addr) : Around → Prop := fun B => ∃ rest kw, B.guards = some [.builtin "list.__repr__.loop" ⟨.ref l :: rest, kw⟩]
def spRepr (CL l : Addr) : Sp := fun vs H Q _ => ∃ (lb d : Addr) (LS : Lib), vs = [.ref lb] ∧ LibAt CL H lb d LS ∧ LShw LS ∧ NoRd l H ∧ ∀ H', Same H H' → Q (.str (reprL LS)) H'
def rRepr2 (CL : Addr) : List V → Hp → VK → Prop := fun vs H Q => ∃ (l dm lb d : Addr) (kvs : List (Key × V)) (M LS : Lib), vs = [.ref l] ∧ H l = some (.lst [.ref dm, .ref lb]) ∧ H dm = some (.dK kvs) ∧ KvP (ProgL H) kvs M ∧ LShw M ∧ LibAt CL H lb d LS ∧ LShw LS ∧
  ∀ H', Same H H' → Q (.str (listText [libT M, reprL LS])) H'
theorem under_depth (A : Around) (args : Args) : (A.under (.builtin "list.__repr__.loop" args)).depth ≤ A.depth + 2 := by
  show A.depth + (Code.builtin "list.__repr__.loop" args).weight ≤ A.depth + 2
  simp [Code.weight, Code.isCreation, Code.isGuard, Code.isCaller, Code.frames, Code.isFrame, guardIds]
theorem under_frames (A : Around) (args : Args) {fr : List Env} (h : A.frames = some fr) : (A.under (.builtin "list.__repr__.loop" args)).frames = some fr := by
  simpa [Around.under, Code.envs, Code.isFrame, pushEnvs] using h
theorem under_room {A : Around} {k : Nat} (h : Room (k + 2) A) (args : Args) : Room k (A.in1.under (.builtin "list.__repr__.loop" args)) := by
  refine ⟨h.hd, ?_, ?_⟩
  · have h1 := under_depth A.in1 args
    have h2 := h.dp
    have h3 : A.in1.depth = A.depth := rfl
    omega
  · have h2 := h.un
    rw [units_under_list_loop]
    have h3 : A.in1.units = A.units + 1 := rfl
    omega
theorem one_vals {x : Str} {its : List Value} (h : Vals [V.str x] its) : ∃ t, its = [Value.str x t] := by
  cases h with
  | cons r t =>
    cases t
    obtain ⟨t, rfl⟩ := r
    exact ⟨t, rfl⟩
section
variable {X : Cx} {k : Nat} {CL f : Addr} {fd : FuncData}
theorem call_repr2 (hr : Room (k + 2) X.A) (hg : X.A.guards = some []) (FG : ∀ l, FnG (GLoop l) X.prog X.w X.K X.mg X.base k f fd ["self"] (spRepr CL l)) (hb : Binds X.K fd ["self"] [])
    (hs : findIn X.K (.ref CL) "__repr__" = some (some (.ref f))) (hf : isFn X.K (.ref f) = true) : CallR X (.builtin "repr") (rRepr2 CL) := by
  intro pins s σ H xs us Q I r h
  obtain ⟨l, dm, lb, d, kvs, M, LS, rfl, hl, hdm, kv, shM, lib, shL, q⟩ := h
  obtain ⟨u, rfl, rx⟩ := vals1 r
  obtain rfl : u = Value.ref l := rx
  obtain ⟨_, its, n, rv, g⟩ := (show ObjOk X.prog X.w H s.heap l (.lst [.ref dm, .ref lb]) from I.hok l _ hl)
  have ei : its = [.ref dm, .ref lb] := by
    cases rv with
    | cons r1 rv =>
      cases rv with
      | cons r2 rv =>
        cases rv
        rw [show _ = Value.ref dm from r1, show _ = Value.ref lb from r2]
  subst ei
  have hun := hr.un
  have lM := libT_len shM
  have lL := reprL_len shL
  have hsz := sizeLine_eq
  refine call_repr_slot (by omega) ⟨_, g, rfl⟩ F.slot_list_repr.toG ?_
  refine wpAny_call (codeAny_call_builtin F.slot_list_repr.plain F.entry_list_repr (F.slot_list_repr.check _ _ _ _ _ _ _ _ ⟨_, g, rfl⟩ (F.args_list_repr_1 _) ?_))
  refine wpAny_list_repr_head (A := X.A.in1.in1) (b := 0) hg (fun v rest kw hm => nomatch hm) g rfl ?_
  refine wpAny_bind (m := newList []) (wpAny_newObj_type ?_)
  refine wpAny_pure ⟨F.quiet_list_repr_loop _, ?_⟩
  have nL : H s.heap.objs.size = none := I.hok.fresh (Nat.le_refl _)
  have I1 := I.laid (a := s.heap.objs.size) (o := .lst []) (h' := s.heap.push { cls := .type "list", data := .seq #[] }) (t' := s.toks) (fun _ _ e => Heap.get?_push_of_some _ e) (Nat.le_refl _)
    (show ObjOk X.prog X.w _ _ _ (.lst []) from ⟨Nat.zero_le _, [], 0, .nil, Heap.get?_push_size _ rfl⟩)
  have nL' : ∀ b o, H b = some o → b ≠ s.heap.objs.size := fun b o e z => by rw [z, nL] at e; cases e
  generalize hL : s.heap.objs.size = L at nL nL' I1 ⊢
  have same1 : Same H (upd H L (.lst [])) := Same.new nL _
  have hL1 : (upd H L (.lst [])) L = some (.lst []) := upd_same
  generalize upd H L (.lst []) = H1 at I1 same1 hL1
  have g1 : (s.heap.push { cls := .type "list", data := .seq #[] }).get? l = some { cls := .type "list", data := .seq [Value.ref dm, Value.ref lb].toArray n } := Heap.get?_push_of_some _ g
  generalize s.heap.push { cls := .type "list", data := .seq #[] } = h1 at I1 g1 ⊢
  -- the dict
  have nr1 : NoRd l H1 := by
    obtain ⟨dx, ob⟩ := lib.ob
    exact ⟨_, lb, CL, dx, _, same1 _ _ hl, by simp, same1 _ _ ob⟩
  obtain ⟨o, es, ne, bs, gd, hc, hdat, hsys, hna, hrd, hE⟩ := dict_shows I1.hok (same1 _ _ hdm) (kv.imp fun _ _ z => z.same same1) shM
  refine loop_turn (i := 0) (sg := 0) (x := .ref dm) (t := libT M) g1 rfl rfl (by omega) ?_
  refine ReprK.dict gd hc hdat hsys hna hE (0 + 1) (show 0 + 1 + (libT M).length ≤ sizeLine by omega) _ _ _ _ _ (guards_under_guard (isGuard_list_loop _) (show X.A.in1.guards = some [] from hg)) (fun b hb => ?_) (by rw [units_under_list_loop]; show X.A.units + 1 + 1 + 3 < cLine; omega) (fun _ _ e => e) (fun h2 tk keep => ?_)
  · refine (Clear.nil b).cons fun e => nr1.no I1.hok ?_
    rw [e]
    exact hrd b hb
  have I2 := I1.kept (t' := tk) keep
  obtain ⟨_, il, nl, rl, gl⟩ := (show ObjOk X.prog X.w H1 h2 L (.lst []) from I2.hok L _ hL1)
  have el : il = [] := by cases rl; rfl
  subst el
  refine ⟨rfl, #[], nl, gl, Nat.zero_le _, ?_⟩
  have g2 := keep _ _ g1
  have I3 := I2.lset (l := L) (its := []) (its' := [.str (libT M) tk]) (ys := [.str (libT M)]) (f := fun a => a.push (.str (libT M) tk)) (t' := tk + 1) hL1 gl rfl (.cons ⟨_, rfl⟩ .nil) (by show 1 ≤ sizeLine; omega)
  have lL' : l ≠ L := nL' l _ hl
  have g3 : (h2.update L (Obj.mapSeq fun a => a.push (.str (libT M) tk))).get? l = some { cls := .type "list", data := .seq [Value.ref dm, Value.ref lb].toArray n } := (Heap.get?_update_other h2 _ (Ne.symm lL')).trans g2
  have same3 : Same H (upd H1 L (.lst [.str (libT M)])) := fun b o e => by
    rw [upd_ne (nL' b o e)]
    exact same1 _ _ e
  have hL3 : (upd H1 L (.lst [.str (libT M)])) L = some (.lst [.str (libT M)]) := upd_same
  generalize upd H1 L (.lst [.str (libT M)]) = H3 at I3 same3 hL3
  generalize h2.update L (Obj.mapSeq fun a => a.push (.str (libT M) tk)) = h3 at I3 g3 ⊢
  -- the library
  have nr3 : NoRd l H3 := by
    obtain ⟨dx, ob⟩ := lib.ob
    exact ⟨_, lb, CL, dx, _, same3 _ _ hl, by simp, same3 _ _ ob⟩
  refine loop_turn (i := 1) (sg := 0 + ((libT M).length + 2)) (x := .ref lb) (t := reprL LS) g3 rfl rfl (by omega) ?_
  obtain ⟨dx, ob⟩ := lib.ob
  obtain ⟨mA, om, _, _, _, _⟩ := ins_get I3.hok (same3 _ _ ob)
  obtain ⟨od, inst, _⟩ := om.look
  refine wpAny_pyReprUnder_ref (by omega) (repr_own_under (by rw [units_under_list_loop]; show X.A.units + 1 + 1 < cLine; omega) I3.kIn inst hs hf ?_)
  have env := I3.env0
  refine wpAny_call (codeAny_mono (FG l (X.A.in1.under _) X.stack _ H3 ⟨[.ref lb], []⟩ [.ref lb] [.ref lb] (fun v H' => v = .str (reprL LS) ∧ Same H3 H') E0 ⟨_, _, guards_under_guard (isGuard_list_loop _) (show X.A.in1.guards = some [] from hg)⟩ (under_room hr _)
    ⟨under_frames _ _ env.in1.frames, env.mod, env.bs, env.bsz, env.funs, env.frf, env.hok, env.bare⟩ (hb _ [.ref lb] I3.kIn rfl) (.cons rfl .nil) ⟨lb, d, LS, rfl, lib.same same3, shL, nr3, fun H' z => ⟨rfl, z⟩⟩) fun r s4 hq => ?_)
  cases r with
  | error e => exact hq.elim
  | ok fl =>
    cases fl with
    | next => exact hq.elim
    | brk => exact hq.elim
    | cont => exact hq.elim
    | ret u =>
      obtain ⟨v, H4, I4, ru, rfl, same4⟩ := I3.after hq
      obtain ⟨tu, rfl⟩ : ∃ t, u = Value.str (reprL LS) t := ru
      refine ⟨_, _, rfl, _, _, rfl, rfl, ?_⟩
      have hL4 := same4 _ _ hL3
      obtain ⟨_, il, nl, rl, gl⟩ := (show ObjOk X.prog X.w H4 s4.heap L (.lst [.str (libT M)]) from I4.hok L _ hL4)
      obtain ⟨t0, rfl⟩ := one_vals rl
      obtain ⟨_, jt, nj, rj, gj⟩ := (show ObjOk X.prog X.w H4 s4.heap l (.lst [.ref dm, .ref lb]) from I4.hok l _ (same4 _ _ (same3 _ _ hl)))
      have ej : jt = [.ref dm, .ref lb] := by
        cases rj with
        | cons r1 rj =>
          cases rj with
          | cons r2 rj =>
            cases rj
            rw [show _ = Value.ref dm from r1, show _ = Value.ref lb from r2]
      subst ej
      refine ⟨_, nl, gl, by show 1 ≤ sizeLine; omega, ?_⟩
      have I5 := I4.lset (l := L) (its := [.str (libT M) t0]) (its' := [.str (libT M) t0, .str (reprL LS) s4.toks]) (ys := [.str (libT M), .str (reprL LS)]) (f := fun a => a.push (.str (reprL LS) s4.toks)) (t' := s4.toks + 1) hL4 gl rfl (.cons ⟨_, rfl⟩ (.cons ⟨_, rfl⟩ .nil)) (by show 2 ≤ sizeLine; omega)
      have g5 : (s4.heap.update L (Obj.mapSeq fun a => a.push (.str (reprL LS) s4.toks))).get? l = some { cls := .type "list", data := .seq [Value.ref dm, Value.ref lb].toArray nj } := (Heap.get?_update_other s4.heap _ (Ne.symm lL')).trans gj
      have same5 : Same H (upd H4 L (.lst [.str (libT M), .str (reprL LS)])) := fun b o e => by
        rw [upd_ne (nL' b o e)]
        exact same4 _ _ (same3 _ _ e)
      have hL5 : (upd H4 L (.lst [.str (libT M), .str (reprL LS)])) L = some (.lst [.str (libT M), .str (reprL LS)]) := upd_same
      have gL5 := PySem.IsL.update gl fun a => a.push (.str (reprL LS) s4.toks)
      generalize upd H4 L (.lst [.str (libT M), .str (reprL LS)]) = H5 at I5 same5 hL5
      refine loop_end (i := 2) (done := [(libT M, t0), (reprL LS, s4.toks)]) g5 rfl rfl gL5 rfl ?_ fun u tk5 => ?_
      · have h1 := listText_len_le [libT M, reprL LS]
        have h2 : ([libT M, reprL LS].map (·.length)).sum = (libT M).length + ((reprL LS).length + 0) := rfl
        have h3 : [libT M, reprL LS].length = 2 := rfl
        show (listText [libT M, reprL LS]).length ≤ sizeLine
        omega
      · exact ⟨_, _, rfl, .str (listText [libT M, reprL LS]), H5, I5.tok _, ⟨_, rfl⟩, q _ same5⟩
end
end Cy

set_option Elab.async false
set_option linter.all false
set_option maxRecDepth 100000
set_option maxHeartbeats 4000000
/-! library.py: __repr__. -/
namespace Cy
open PySem PySem.Spec PyProof.Rows L2
abbrev sLibRepr : Stmt := inClass (top 43) 8
theorem scLibRepr : FnScope ["self", "module", "steps", "programs"] ["self"] (defScope sLibRepr) := ⟨rfl, rfl, rfl, by decide +kernel, rfl, by decide +kernel, by decide +kernel⟩
theorem NoRd.same {l : Addr} {H H' : Hp} (n : NoRd l H) (e : Same H H') : NoRd l H' := by
  obtain ⟨xs, b, C, dx, fs, e1, e2, e3⟩ := n
  exact ⟨xs, b, C, dx, fs, e _ _ e1, e2, e _ _ e3⟩
def rListOf (K : PySem.W.Frag) : List V → Hp → VK → Prop := fun xs H Q => ∃ p ys, xs = [.ref p] ∧ (SqL K H p ys ∨ SqT K H p ys) ∧ ∀ l, H l = none → Q (.ref l) (upd H l (.lst ys))
section
variable {X : Cx} {kx vx tg it : Expr} {fs : List Expr} {sc : Scope} {own : List (Str × Nat)} {q0 q1 q2 : Pos} {ti : TI} {g : TG} {tt : TT} {tk tv : TE} {i : Nat} {y : Str}
theorem sw_dict {gs : List Comprehension} {l : Nat} {env : Env} (kf : env.scope.kind = .function) (loc : env.scope.names.lookup y = some .local) (ln : (q2.line == q0.line) = true)
    (no : (sc.names.any fun (n, k) => n == y && (k == .local || k == .cell)) = false) : swapsWith (.DictComp kx vx gs sc q0) (some (.Name y q2)) l env = pure true := by
  have h1 : env.kindOf y = some .local := loc
  have h2 : env.blockKind = .function := by
    unfold Env.blockKind
    rw [kf]
    rfl
  unfold swapsWith
  simp only [h2, h1, no, Expr.pos, ln]
  rfl
/-- name = {..} on one line, the name a local -/
theorem ps_setDc (calm : X.calm = true) (nd : X.N.Nodup) (hy : X.N[i]? = some y) (loc : X.env.scope.names.lookup y = some .local) (sw : swapsWith (.DictComp kx vx [⟨tg, it, fs, 0⟩] sc q0) (some (.Name y q2)) q1.line X.env = pure true)
    (hi : PI X tg it ti) (ok : BlkOk X.N X.env.scope sc own) (hg : ∀ s H C cl fp, PG (X.blk s H sc (compEnvC sc cl C X.env) fp) tg g) (ht : ∀ s H C cl fp, PTs (X.blk s H sc (compEnvC sc cl C X.env) fp) fs tt)
    (hk : ∀ s H C cl fp, PE (X.blk s H sc (compEnvC sc cl C X.env) fp) kx tk) (hv : ∀ s H C cl fp, PE (X.blk s H sc (compEnvC sc cl C X.env) fp) vx tv) (fo : ∀ x, foldedSetIterable it X.env x = pure x := by intro _; rfl) :
    PS X (.Assign [.Name y q2] (.DictComp kx vx [⟨tg, it, fs, 0⟩] sc q0) q1) (tAsg (tDc ti g tt tk tv (own.map (·.2))) (gName i)) := by
  constructor
  intro pins s σ H D I h
  rw [exec_Assign_Name_used _ _ _ _ sw]
  refine wpAny_bind (wpAny_standAt ?_)
  refine wpAny_bind ?_
  show wpAny _ X.A (do let _ ← comprehension (.DictComp kx vx [⟨tg, it, fs, 0⟩] sc q0) sc X.env (firstIterPos [⟨tg, it, fs, 0⟩] q0) newDict false (eval it X.env) (some (assign (.Name y q2) X.env))) _ _ s
  have h0 : tDc ti g tt tk tv (own.map (·.2)) σ H (fun x H1 => gName i x σ H1 D.nx) := h
  refine wpAny_bind (thn (dc_core (Qf := fun _ t => SP X pins D .next t) calm nd I hi ok hg ht hk hv fo h0 fun L C t m H1 I1 q hn fr => ?_) fun _ t z => wpAny_pure (wpAny_pure z))
  show wpAny _ _ (assign (.Name y q2) X.env (.ref L)) _ _ _
  obtain ⟨f0, f1, f2, f3, f4, f5⟩ := fr
  refine wpAny_assign_Name (store_ok2 (v := V.ref L) I1 nd hy (.inl loc) rfl (fun t2 I2 ⟨a, sb, z⟩ => ?_) (.inr loc))
  have ne : C ≠ a := z.elim (fun e => by rw [e]; exact f1) fun e w => f4 y a e w.symm
  refine ⟨m, hn.sameBut sb ne, fun h3 k3 => ⟨_, H1, I2.turned (t' := t2.toks) (fun b o n e => (k3.2 b n).trans e) f0 f1 f3 f4 f5, q⟩⟩
end
section
variable {P : Program} {w : World} {K : PySem.W.Frag} {mg : Str → Option Value} {base : Heap} {aV aP aF CL CF CP : Addr} {fk : Str → Addr} {fa : Addr} {fd : FuncData}
theorem ok_lib_repr (l : Addr) (F : FnM K CL "__repr__" "Library.__repr__" sLibRepr [] [] fa fd) (T : G0 K mg aV aP) (GL : GLib K mg CL) : FnG (GLoop l) P w K mg base 1 fa fd ["self"] (spRepr CL l) := by
  refine FnG.of F.fn scLibRepr (fun vs H Q E h => ?_) (fun cdv A outer s H vs Q E gl hr h => ?_)
  · obtain ⟨lb, d, LS, rfl, _⟩ := h
    rfl
  · obtain ⟨lb, d, LS, rfl, lib, sh, nr, q⟩ := h
    obtain ⟨rest, kw, hg⟩ := gl
    have hu64 := hu64_of hr
    refine ⟨_, pss_cons (ps_lock (ps_setDc (i := 3) (own := [("module", 1), ("steps", 2)]) (g := gTwo K 1 2) (tt := tYes) (tk := tVar 1) (tv := tCB (rListOf K) (tCons (tVar 2) tNil)) rfl scLibRepr.nd rfl rfl (sw_dict rfl rfl rfl (by rfl)) (pi_items (pe_fld (pv 0) rfl))
          (blkOk_by (N := ["self", "module", "steps", "programs"]) (sc := defScope sLibRepr) (by decide +kernel))
          (fun _ _ _ _ _ => pg_tup rfl (pgs_cons (pg_name (i := 1) scLibRepr.nd rfl (Or.inl rfl)) (pgs_cons (pg_name (i := 2) scLibRepr.nd rfl (Or.inl rfl)) pgs_nil))) (fun _ _ _ _ _ => pts_nil) (fun _ _ _ _ _ => pv 1)
          (fun _ _ _ _ _ => pe_callTy call_list_of rfl T.list (by decide +kernel) (pa_cons (pv 2) pa_nil))))
      (pss_one (ps_ret (pe_joined (.cons pe_str (.cons (pe_fmtP (l := l) (rest := rest) (kw := kw) hu64 hg (pv 3)) (.cons pe_str .nil)))))), ?_⟩
    have hsz := sizeLine_eq
    have lT := libT_len sh
    obtain ⟨dx, ob⟩ := lib.ob
    obtain ⟨kvs, hd, kv⟩ := lib.dc
    have el : kvs.length = LS.length := Paired.len kv
    have lLS := sh.len
    refine ⟨d, .dK kvs, hd, trivial, fun od => ?_⟩
    have k1 : Kp (fun b => b = d) H (upd H d (.frz od (.dK kvs))) := (Kp.refl H : Kp (fun b => b = d) _ _).upd (fun _ h => h) (.inl rfl) (nt_dK hd) _
    have hd1 : (upd H d (.frz od (.dK kvs))) d = some (.frz od (.dK kvs)) := upd_same
    have lb_d := lib.lb_d
    have ob1 := k1.at ob lb_d
    have kv1 : KvP (ProgT (upd H d (.frz od (.dK kvs)))) kvs LS := kv.imp fun _ _ r => r.kp k1
    generalize hH1 : upd H d (.frz od (.dK kvs)) = H1 at k1 hd1 ob1 kv1
    refine ⟨_, rfl, lb, CL, dx, _, _, rfl, ob1, GL.cl, GL.nP, libF_p d, d, od, kvs, rfl, hd1, fun D nD => ?_⟩
    have dD : d ≠ D := ne_of_none hd1 nD
    have nd : ∀ i, ∀ m p, LS[i]? = some (m, p) → (names LS).Nodup → m ∉ names (LS.take i) := by
      intro i m p e hn hm
      have e2 : names (LS.take i) = (names LS).take i := List.map_take
      rw [e2] at hm
      obtain ⟨j, ej⟩ := List.mem_iff_getElem?.mp hm
      have hj := (List.getElem?_eq_some_iff.mp ej).1
      rw [List.length_take] at hj
      rw [List.getElem?_take_of_lt (by omega)] at ej
      have ei2 : (names LS)[i]? = some m := by rw [List.getElem?_map, e]; rfl
      have := (List.getElem?_inj (by omega : j < (names LS).length) hn).mp (ej.trans ei2.symm)
      omega
    refine dc_it (walk_items (d := d) (o := od) (kvs := kvs)) (fun i H' => Same H1 H' ∧ ∃ ks, H' D = some (.dK ks) ∧ KvP (ProgL H') ks (LS.take i)) ⟨Same.new nD _, [], upd_same, .nil⟩ (fun i H' _ h => h.1 _ _ hd1) ?_ ?_
    · rintro i v H3 H2 hi ⟨t1, ks, hD, kp⟩ ⟨T0, y, z', rfl, nT, rfl, ey, ez⟩
      dsimp only at ey ez
      obtain ⟨e, ekv, rfl⟩ := Option.map_eq_some_iff.mp ey
      rw [ekv] at ez
      cases ez
      obtain ⟨⟨m, p⟩, emp, e1, e2⟩ := Paired.at kv1 i e ekv
      have e1' : e.1 = Sum.inr m := e1
      rw [e1']
      have s4 : Same H3 (upd H3 T0 (.tup [kV (Sum.inr m), e.2])) := Same.new nT _
      have hT4 : (upd H3 T0 (.tup [kV (Sum.inr m), e.2])) T0 = some (.tup [kV (Sum.inr m), e.2]) := upd_same
      have hD4 := s4 _ _ hD
      have kp4 := kp.imp fun _ _ r => r.same s4
      obtain ⟨a, xs, ea, ha, hx⟩ := e2
      have ea' : e.2 = V.ref a := ea
      rw [ea'] at s4 hT4 hD4 kp4 ⊢
      have t4 := t1.trans s4
      generalize upd H3 T0 (.tup [kV (Sum.inr m), .ref a]) = H4 at s4 hT4 hD4 kp4 t4
      refine ⟨T0, _, rfl, SqT.of hT4, rfl, _, _, rfl, ?_⟩
      refine ⟨_, _, rfl, rfl, rfl, ?_⟩
      refine ⟨_, rfl, _, rfl, a, xs, rfl, .inr (SqT.of (t4 _ _ ha)), fun L nL => ?_⟩
      have DL : D ≠ L := ne_of_none hD4 nL
      have s5 : Same H4 (upd H4 L (.lst xs)) := Same.new nL _
      have hL5 : (upd H4 L (.lst xs)) L = some (.lst xs) := upd_same
      have hD5 := s5 _ _ hD4
      have kp5 := kp4.imp fun _ _ r => r.same s5
      have t5 := t4.trans s5
      generalize upd H4 L (.lst xs) = H5 at s5 hL5 hD5 kp5 t5
      have lk : ks.length = (LS.take i).length := Paired.len kp
      refine ⟨ks, Sum.inr m, rfl, hD5, by rw [lk, List.length_take]; omega, t5.upd nD _, ?_⟩
      have k6 : Kp (fun b => b = D) H5 (upd H5 D (.dK (putK ks (Sum.inr m) (.ref L)))) := (Kp.refl H5 : Kp (fun b => b = D) _ _).upd (fun _ h => h) (.inl rfl) (nt_dK hD5) _
      have et : LS.take (i + 1) = LS.take i ++ [(m, p)] := by rw [List.take_add_one, emp]; rfl
      refine ⟨ks ++ [(Sum.inr m, .ref L)], ?_, ?_⟩
      · rw [upd_same, putK_new _ (KvP.none kp5 (nd i m p emp sh.nd))]
      · rw [et]
        have kp6 : KvP (ProgL (upd H5 D (.dK (putK ks (Sum.inr m) (.ref L))))) ks (LS.take i) := kp5.imp fun v q r => r.kp k6 fun a e z => by
          obtain ⟨b, ys, e3, e4, _⟩ := r
          rw [e3] at e
          cases e
          rw [z, hD5] at e4
          cases e4
        exact Paired.snoc kp6 ⟨rfl, L, xs, rfl, k6.at hL5 (Ne.symm DL), (hx.mono t5).monoK k6⟩
    · rintro H2 ⟨t1, ks, hD, kp⟩
      have e9 : LS.take kvs.length = LS := List.take_of_length_le (by rw [el]; exact Nat.le_refl _)
      rw [e9] at kp
      have hd2 := t1 _ _ hd1
      refine ⟨hd2, ?_⟩
      have s3 : Same H (upd H2 d (.dK kvs)) := unlock (x := .frz od (.dK kvs)) (by rw [hH1]; exact t1) hd
      have k3 : Kp (fun b => b = d) H2 (upd H2 d (.dK kvs)) := (Kp.refl H2 : Kp (fun b => b = d) _ _).upd (fun _ h => h) (.inl rfl) (by rw [hd2]; intro ys z; cases z) _
      have hD3 := k3.at hD (Ne.symm dD)
      have kp3 : KvP (ProgL (upd H2 d (.dK kvs))) ks LS := kp.imp fun v q r => r.kp k3 fun a e z => by
        obtain ⟨b, ys, e3, e4, _⟩ := r
        rw [e3] at e
        cases e
        rw [z, hd2] at e4
        cases e4
      generalize upd H2 d (.dK kvs) = H3 at s3 k3 hD3 kp3
      have z0 : (Str.empty).length = 0 := rfl
      have z1 : ("Library(" : Str).length = 8 := by decide +kernel
      have z2 : (")" : Str).length = 1 := by decide +kernel
      refine ⟨_, rfl, by rw [strLen_append]; omega, ?_⟩
      refine ⟨_, rfl, D, ks, LS, rfl, hD3, kp3, sh, nr.same s3, _, rfl, by rw [strLen_append, strLen_append]; omega, ?_⟩
      exact ⟨_, rfl, by rw [strLen_append, strLen_append, strLen_append]; omega, q _ s3⟩
end
end Cy

set_option Elab.async false
set_option linter.all false
set_option maxRecDepth 100000
set_option maxHeartbeats 4000000
/-! The law in plain: answers of runs over the same library, main programs turned. -/
namespace Cy
open PySem PySem.Spec PyProof.Rows L2
section
variable {L L' : Lib} {rk : Str → Nat} {M : Mains}
theorem WfL.shw (W : WfL L rk) : LShw L := ⟨W.nd, W.hi, fun q hq => W.nm q.1 (List.mem_map.mpr ⟨q, hq, rfl⟩), fun q hq => prog_shw (W.wf q.1 q.2 hq)⟩
theorem WfM.shw (WM : WfM L rk M) : LShw M := ⟨WM.nd, Nat.le_trans WM.len (by decide), fun q hq => WM.nm q.1 (List.mem_map.mpr ⟨q, hq, rfl⟩), fun q hq => prog_shw (WM.wf q.1 q.2 hq)⟩
theorem WfM.sort (WM : WfM L rk M) : WfM (sortL L) rk M := by
  refine ⟨WM.nd, WM.len, WM.nm, fun x p h => ?_⟩
  have e : names (sortL L) = srt (names L) := sortL_names L
  rw [e]
  exact (WM.wf x p h).names fun y hy => srt_mem.mpr hy
theorem RchM_eq (h : prg L = prg L') {x : Str} : RchM L rk M x ↔ RchM L' rk M x := by
  constructor
  · rintro ⟨q, hq, a, h1, h2⟩
    exact ⟨q, hq, a, by rw [← runP_prg h]; exact h1, Rch_prg h h2⟩
  · rintro ⟨q, hq, a, h1, h2⟩
    exact ⟨q, hq, a, by rw [runP_prg h]; exact h1, Rch_prg h.symm h2⟩
theorem mRow_eq (h : prg L = prg L') : mRow L rk = mRow L' rk := by
  funext m
  unfold mRow mRest
  rw [res_prg h]
theorem pRow_eq (h : prg L = prg L') : pRow L rk M = pRow L' rk M := by
  funext m
  unfold pRow pRest
  rw [runP_prg h]
theorem runD_eq (h : prg L = prg L') {Ks Ks' : List Str} (n1 : Ks.Nodup) (n2 : Ks'.Nodup) (h1 : ∀ x, x ∈ Ks ↔ RchM L rk M x) (h2 : ∀ x, x ∈ Ks' ↔ RchM L' rk M x) : runD L rk Ks M = runD L' rk Ks' M := by
  unfold runD rowsD mainsD
  rw [mRow_eq h, pRow_eq h, srt_set n1 n2 fun x => (h1 x).trans ((RchM_eq h).trans (h2 x).symm)]
/-- the main programs in another order -/
def turnM (M : Mains) (zs : List Str) : Mains := zs.map fun x => (x, prg M x)
theorem turnM_names (zs : List Str) : names (turnM M zs) = zs := by
  show (zs.map fun x => (x, prg M x)).map (·.1) = zs
  rw [List.map_map]
  exact List.map_id zs
theorem turnM_mem (nd : (names M).Nodup) {zs : List Str} (hz : zs.Perm (names M)) {q : Str × List Stp} : q ∈ turnM M zs ↔ q ∈ M := by
  unfold turnM
  constructor
  · intro h
    obtain ⟨x, hx, rfl⟩ := List.mem_map.mp h
    exact prg_mem (hz.mem_iff.mp hx) nd
  · intro h
    have hx : q.1 ∈ names M := List.mem_map.mpr ⟨q, h, rfl⟩
    refine List.mem_map.mpr ⟨q.1, hz.mem_iff.mpr hx, ?_⟩
    rw [prg_of (p := q.2) nd h]
theorem turnM_nd (nd : (names M).Nodup) {zs : List Str} (hz : zs.Perm (names M)) : (names (turnM M zs)).Nodup := by
  rw [turnM_names]
  exact hz.nodup_iff.mpr nd
theorem turnM_prg (nd : (names M).Nodup) {zs : List Str} (hz : zs.Perm (names M)) {x : Str} (hx : x ∈ names M) : prg (turnM M zs) x = prg M x :=
  prg_of (turnM_nd nd hz) ((turnM_mem nd hz).mpr (prg_mem hx nd))
theorem WfM.turn (W : WfM L rk M) {zs : List Str} (hz : zs.Perm (names M)) : WfM L rk (turnM M zs) := by
  refine ⟨turnM_nd W.nd hz, ?_, fun x hx => ?_, fun x p h => W.wf x p ((turnM_mem W.nd hz).mp h)⟩
  · have h1 := hz.length_eq
    have h2 := W.len
    unfold turnM
    rw [List.length_map, h1, List.length_map]
    exact h2
  · rw [turnM_names] at hx
    exact W.nm x (hz.mem_iff.mp hx)
theorem turnM_rch (nd : (names M).Nodup) {zs : List Str} (hz : zs.Perm (names M)) {x : Str} : RchM L rk (turnM M zs) x ↔ RchM L rk M x := by
  constructor
  · rintro ⟨q, hq, h⟩
    exact ⟨q, (turnM_mem nd hz).mp hq, h⟩
  · rintro ⟨q, hq, h⟩
    exact ⟨q, (turnM_mem nd hz).mpr hq, h⟩
theorem turnM_run (nd : (names M).Nodup) {zs : List Str} (hz : zs.Perm (names M)) {Ks Ks' : List Str} (n1 : Ks'.Nodup) (n2 : Ks.Nodup) (h1 : ∀ x, x ∈ Ks' ↔ RchM L rk (turnM M zs) x) (h2 : ∀ x, x ∈ Ks ↔ RchM L rk M x) :
    runD L rk Ks' (turnM M zs) = runD L rk Ks M := by
  unfold runD rowsD mainsD
  rw [srt_set n1 n2 fun x => (h1 x).trans ((turnM_rch nd hz).trans (h2 x).symm), turnM_names, srt_congr hz]
  have e : (srt (names M)).map (pRow L rk (turnM M zs)) = (srt (names M)).map (pRow L rk M) := List.map_congr_left fun x hx => by
    unfold pRow
    rw [turnM_prg nd hz (srt_mem.mp hx)]
  rw [e]
theorem WfM.nil : WfM L rk [] := ⟨List.nodup_nil, Nat.zero_le _, fun x h => (by cases h), fun x p h => (by cases h)⟩
theorem runD_nil {Ks : List Str} (h : ∀ x, x ∈ Ks ↔ RchM L rk [] x) : runD L rk Ks [] = .tuple [.tuple [], .tuple []] := by
  have e : Ks = [] := by
    cases Ks with
    | nil => rfl
    | cons x l =>
      obtain ⟨q, hq, _⟩ := (h x).mp List.mem_cons_self
      cases hq
  have e1 : srt ([] : List Str) = [] := List.perm_nil.mp (srt_perm _)
  rw [e]
  unfold runD rowsD mainsD names
  rw [List.map_nil, e1]
  rfl
end
end Cy

set_option Elab.async false
set_option linter.all false
set_option maxRecDepth 100000
set_option maxHeartbeats 4000000
/-! What stands in the heap while the law turns. -/
namespace Cy
open PySem PySem.Spec PyProof.Rows L2
structure LawAt (CL : Addr) (H : Hp) (p d lbl lb dd dm : Addr) (L : Lib) (rk : Str → Nat) (ls : List Str) (kv1 kvs : List (Key × V)) (M : Mains) : Prop where
  pot : PotAt H p
  md : H d = some (.dK kv1)
  k1 : KvP (ProgL H) kv1 L
  W : WfL L rk
  lab : LabAt H p lbl ls
  lib : LibAt CL H lb dd (sortL L)
  dm_ : H dm = some (.dK kvs)
  km : KvP (ProgL H) kvs M
  ne : d ≠ dm
  ne2 : dd ≠ dm
theorem ProgL.pot {H : Hp} {p a : Addr} {q : List Stp} (hp : PotAt H p) (h : ProgL H (.ref a) q) : a ≠ p := by
  obtain ⟨b, xs, e, hx, st⟩ := h
  cases e
  obtain ⟨x, y, e2, _⟩ := hp
  rintro rfl
  rw [e2] at hx
  cases hx
  cases st with
  | cons r t =>
    obtain ⟨c, e3, _⟩ := r
    cases e3
theorem ProgL.notD {H : Hp} {d a : Addr} {kvs : List (Key × V)} {q : List Stp} (hd : H d = some (.dK kvs)) (h : ProgL H (.ref a) q) : a ≠ d := by
  obtain ⟨b, xs, e, hx, st⟩ := h
  cases e
  exact ne_of hx hd (by intro z; cases z)
section
variable {CL : Addr} {H H' : Hp} {p d lbl lb dd dm : Addr} {L : Lib} {rk : Str → Nat} {ls : List Str} {kv1 kvs : List (Key × V)} {M : Mains}
theorem LawAt.d_p (h : LawAt CL H p d lbl lb dd dm L rk ls kv1 kvs M) : d ≠ p := by
  obtain ⟨x, y, e, _⟩ := h.pot
  exact ne_of h.md e (by intro z; cases z)
theorem LawAt.dm_p (h : LawAt CL H p d lbl lb dd dm L rk ls kv1 kvs M) : dm ≠ p := by
  obtain ⟨x, y, e, _⟩ := h.pot
  exact ne_of h.dm_ e (by intro z; cases z)
theorem LawAt.dd_p (h : LawAt CL H p d lbl lb dd dm L rk ls kv1 kvs M) : dd ≠ p := by
  obtain ⟨x, y, e, _⟩ := h.pot
  obtain ⟨ks, e2, _⟩ := h.lib.dc
  exact ne_of e2 e (by intro z; cases z)
theorem LawAt.lb_p (h : LawAt CL H p d lbl lb dd dm L rk ls kv1 kvs M) : lb ≠ p := by
  obtain ⟨x, y, e, _⟩ := h.pot
  obtain ⟨z, e2⟩ := h.lib.ob
  exact ne_of e2 e (by intro z; cases z)
theorem LawAt.lb_dm (h : LawAt CL H p d lbl lb dd dm L rk ls kv1 kvs M) : lb ≠ dm := by
  obtain ⟨z, e2⟩ := h.lib.ob
  exact ne_of e2 h.dm_ (by intro z; cases z)
theorem LawAt.kp (h : LawAt CL H p d lbl lb dd dm L rk ls kv1 kvs M) (e : Kp (fun c => c = p) H H') (hp : PotAt H' p) : LawAt CL H' p d lbl lb dd dm L rk ls kv1 kvs M := by
  refine ⟨hp, e.at h.md h.d_p, h.k1.imp fun v q r => r.kp e fun a ea z => ?_, h.W, h.lab.kp e, h.lib.mono e h.lb_p h.dd_p, e.at h.dm_ h.dm_p, h.km.imp fun v q r => r.kp e fun a ea z => ?_, h.ne, h.ne2⟩
  · rw [ea] at r
    exact ProgL.pot h.pot r z
  · rw [ea] at r
    exact ProgL.pot h.pot r z
theorem LawAt.same (h : LawAt CL H p d lbl lb dd dm L rk ls kv1 kvs M) (e : Same H H') : LawAt CL H' p d lbl lb dd dm L rk ls kv1 kvs M := h.kp (Kp.of e) (h.pot.same e)
theorem LawAt.args (h : LawAt CL H p d lbl lb dd dm L rk ls kv1 kvs M) (WM : WfM L rk M) : ArgsAt CL H lb dd dm (sortL L) rk kvs M := ⟨h.lib, h.W.sort, h.ne2, h.dm_, h.km, WM.sort⟩
/-- a main program more -/
theorem LawAt.put (h : LawAt CL H p d lbl lb dd dm L rk ls kv1 kvs M) {m : Str} {pl : Addr} {xs : List V} {prog : List Stp} (hl : H pl = some (.lst xs)) (st : Steps H xs prog) :
    LawAt CL (upd H dm (.dK (kvs ++ [(Sum.inr m, .ref pl)]))) p d lbl lb dd dm L rk ls kv1 (kvs ++ [(Sum.inr m, .ref pl)]) (M ++ [(m, prog)]) := by
  have k : Kp (fun c => c = dm) H (upd H dm (.dK (kvs ++ [(Sum.inr m, .ref pl)]))) := (Kp.refl H : Kp (fun c => c = dm) _ _).upd (fun _ h => h) (.inl rfl) (nt_dK h.dm_) _
  have lab_dm : lbl ≠ dm := ne_of h.lab.at_ h.dm_ (by intro z; cases z)
  have pl_dm : pl ≠ dm := ne_of hl h.dm_ (by intro z; cases z)
  have gen : ∀ {kv2 : List (Key × V)} {L2 : Lib}, KvP (ProgL H) kv2 L2 → KvP (ProgL (upd H dm (.dK (kvs ++ [(Sum.inr m, .ref pl)])))) kv2 L2 := fun h2 => h2.imp fun v q r => r.kp k fun a ea z => by
    rw [ea] at r
    exact ProgL.notD h.dm_ r z
  exact ⟨h.pot.mono k (fun e => h.dm_p e.symm), k.at h.md h.ne, gen h.k1, h.W, ⟨k.at h.lab.at_ lab_dm, h.lab.ne, h.lab.lo, h.lab.hi, h.lab.nm⟩, h.lib.mono k h.lb_dm h.ne2, upd_same, KvP.snoc (gen h.km) ⟨pl, xs, rfl, k.at hl pl_dm, st.monoK k⟩, h.ne, h.ne2⟩
end
theorem mergeK_app : ∀ (more acc : List (Key × V)), ((acc ++ more).map (·.1)).Nodup → mergeK acc more = acc ++ more
  | [], acc, _ => by rw [List.append_nil]; rfl
  | kv :: more, acc, h => by
    have hn : valV acc kv.1 = none := by
      have h1 : kv.1 ∉ acc.map (·.1) := by
        rw [List.map_append, List.nodup_append] at h
        intro hm
        exact h.2.2 _ hm _ (by simp) rfl
      have gen : ∀ l : List (Key × V), kv.1 ∉ l.map (·.1) → valV l kv.1 = none := by
        intro l
        induction l with
        | nil => intro _; rfl
        | cons x l ih =>
          intro hx
          rw [List.map_cons, List.mem_cons] at hx
          rw [valV_neg fun e => hx (.inl e.symm)]
          exact ih fun z => hx (.inr z)
      exact gen acc h1
    show mergeK (putK acc kv.1 kv.2) more = _
    rw [putK_new _ hn, mergeK_app more]
    · rw [List.append_assoc]
      rfl
    · rw [List.append_assoc]
      exact h
theorem mergeK_nd {kvs : List (Key × V)} (h : (kvs.map (·.1)).Nodup) : mergeK [] kvs = kvs := mergeK_app kvs [] h
theorem KvP.nodup {R : V → List Stp → Prop} {kvs : List (Key × V)} {L : Lib} (h : KvP R kvs L) (nd : (names L).Nodup) : (kvs.map (·.1)).Nodup := by
  rw [h.keys]
  exact List.pairwise_map.mpr (nd.imp fun h e => h (Sum.inr.inj e))
theorem KvP.strs {R : V → List Stp → Prop} {kvs : List (Key × V)} {L : Lib} (h : KvP R kvs L) : (kvs.map fun kv => kV kv.1) = (names L).map V.str := by
  have e : (kvs.map fun kv => kV kv.1) = (kvs.map (·.1)).map kV := by rw [List.map_map]; rfl
  rw [e, h.keys, List.map_map]
  rfl
/-- the number of the law's turns -/
theorem turns_le (n : Nat) : ∃ m : Nat, (if (if (4 : Int) < (n : Int) then (4 : Int) else (n : Int)) > (1 : Int) then (if (4 : Int) < (n : Int) then (4 : Int) else (n : Int)) else (1 : Int)) = (m : Int) ∧ m ≤ 4 := by
  by_cases h : (4 : Int) < (n : Int)
  · exact ⟨4, by rw [if_pos h]; rfl, by omega⟩
  · rw [if_neg h]
    by_cases h1 : (n : Int) > 1
    · exact ⟨n, by rw [if_pos h1], by omega⟩
    · exact ⟨1, by rw [if_neg h1]; rfl, by omega⟩
end Cy

set_option Elab.async false
set_option linter.all false
set_option maxRecDepth 100000
set_option maxHeartbeats 8000000
/-! The law. -/
namespace Cy
open PySem PySem.Spec PyProof.Rows L2
open PySem.W (InstAt findIn isFn looks_findIn)
abbrev sLaw : Stmt := top 60
section
variable {P : Program} {w : World} {K : PySem.W.Frag} {mg : Str → Option Value} {base : Heap} {aV aP aF CL CF CP : Addr} {fk : Str → Addr} {fa fr : Addr} {fd fdr : FuncData}
abbrev lawN : List Str := ["_law_script", "_law_index", "_law_pot_here", "_law_modules_here", "_law_labels", "_law_made", "_law_mains", "_law_name", "_law_kept", "_law_whole", "_law_turn", "_law_turned"]
def spLaw (K : PySem.W.Frag) : Sp := fun vs H Q _ => ∃ (a : Addr) (ns : List Int), vs = [.ref a] ∧ SqL K H a (ns.map V.int) ∧ ∀ H', Q (.bl true) H'
theorem scLaw : FnScope lawN ["_law_script"] (defScope sLaw) := ⟨rfl, rfl, rfl, by decide +kernel, rfl, by decide +kernel, by decide +kernel⟩
theorem KvP.kpC {H H' : Hp} {C : Addr} (k : Kp (fun b => b = C) H H') : ∀ {kvs : List (Key × V)} {L : Lib}, KvP (ProgL H) kvs L → (∀ kv ∈ kvs, kv.2 ≠ V.ref C) → KvP (ProgL H') kvs L
  | _, _, .nil, _ => .nil
  | _, _, .cons r t, h => .cons ⟨r.1, r.2.kp k fun a e z => h _ List.mem_cons_self (by rw [e, z])⟩ (KvP.kpC k t fun kv hk => h kv (List.mem_cons_of_mem _ hk))
theorem sql_same {K : PySem.W.Frag} {H H' : Hp} {a : Addr} {xs : List V} (h : SqL K H a xs) (e : Same H H') : SqL K H' a xs := h.imp (fun r => r.imp (e _ _) fun ⟨o, z⟩ => ⟨o, e _ _ z⟩) id
/-- no repr under way -/
def GNone : Around → Prop := fun B => B.guards = some []
theorem ok_law {k : Nat} (hk : 10 ≤ k) (F : FnF K mg "law" sLaw [] [] fa fd) (T : G0 K mg aV aP) (GL : GLib K mg CL) (h1 : Pr P w K mg base "_law_pot" ["_law_script", "_law_index"] [] 1 (spPot K))
    (h2 : Pr P w K mg base "_law_modules" ["_law_pot_here", "_law_most", "_law_longest", "_law_is_acyclic"] [] 5 spMods) (h3 : PrO P w K mg base "Library" CL ["self", "modules"] [] 7 (spLibInit CL))
    (h4 : Pr P w K mg base "_law_words" ["_law_pot_here", "_law_number"] [] 3 spWords) (h5 : Pr P w K mg base "_law_draw" ["_law_pot_here", "_law_bound"] [] 1 spDraw)
    (h6 : Pr P w K mg base "_law_program" ["_law_pot_here", "_law_targets", "_law_labels", "_law_most", "_law_is_main"] [] 4 spProgram) (h7 : Pr P w K mg base "plain_run" ["library", "mains"] [] k (spPlainRun CL))
    (h8 : Pr P w K mg base "_law_all_done" ["_law_modules_here", "_law_mains"] [] k spAllDone) (h9 : Pr P w K mg base "_law_mixed" ["_law_pot_here", "_law_options"] [] 2 spMixed) (h10 : Pr P w K mg base "_law_alone_right" ["_law_made", "_law_mains", "_law_whole"] [] k (spAlone CL))
    (FG : ∀ l, FnG (GLoop l) P w K mg base 1 fr fdr ["self"] (spRepr CL l)) (hb : Binds K fdr ["self"] []) (hs : findIn K (.ref CL) "__repr__" = some (some (.ref fr))) (hf : isFn K (.ref fr) = true) :
    FnG GNone P w K mg base (k + 1) fa fd ["_law_script"] (spLaw K) := by
  refine FnG.of F.fn scLaw (fun vs H Q E h => ?_) (fun cdv A outer s H vs Q E gn hr h => ?_)
  · obtain ⟨a, ns, rfl, _⟩ := h
    rfl
  · obtain ⟨a, ns, rfl, hS, q⟩ := h
    have hu := hu_of hr
    have hu64 := hu64_of hr
    have hr1 : Room 1 _ := hr.mono (Nat.le_trans (by decide) hk)
    have hr2 : Room 2 _ := hr.mono (Nat.le_trans (by decide) hk)
    have hr3 : Room 3 _ := hr.mono (Nat.le_trans (by decide) hk)
    have hr4 : Room 4 _ := hr.mono (Nat.le_trans (by decide) hk)
    have hr5 : Room 5 _ := hr.mono (Nat.le_trans (by decide) hk)
    have hr8 : Room 8 _ := hr.mono (Nat.le_trans (by decide) hk)
    have hg : (A.deeper (envOfC "law" (defScope sLaw) s.heap.objs.size fa cdv)).guards = some [] := gn
    refine ⟨_, pss_cons (ps_for (g := gName 1) PassesOwn.never rfl (pi_range1 rfl T.range (pa_cons (pe_callB (call_max2 rfl) rfl T.max (by decide +kernel) (pa_cons pe_int (pa_cons (pe_callB (call_min2 rfl) rfl T.min (by decide +kernel)
          (pa_cons (pe_callB call_len rfl T.len PySem.boot_len (pa_cons (pv 0) pa_nil)) (pa_cons pe_int pa_nil))) pa_nil))) pa_nil)) (pg_name (i := 1) scLaw.nd rfl (Or.inl rfl))
        (pss_cons (ps_set (i := 2) scLaw.nd rfl (Or.inl rfl) (pe_pr h1 hr1 rfl (pa_cons (pv 0) (pa_cons (pv 1) pa_nil))))
        (pss_cons (ps_asg (g := gTwo K 3 4) (pe_pr h2 hr5 rfl (pa_cons (pv 2) (pa_cons pe_int (pa_cons pe_int (pa_cons pe_bl pa_nil))))) (pg_tup rfl (pgs_cons (pg_name (i := 3) scLaw.nd rfl (Or.inl rfl)) (pgs_cons (pg_name (i := 4) scLaw.nd rfl (Or.inl rfl)) pgs_nil))))
        (pss_cons (ps_asg (g := gTwo K 5 6) (pe_tup (pa_cons (pe_pro h3 hr8 rfl (pa_cons (pv 3) pa_nil)) (pa_cons pe_dnewK pa_nil))) (pg_tup rfl (pgs_cons (pg_name (i := 5) scLaw.nd rfl (Or.inl rfl)) (pgs_cons (pg_name (i := 6) scLaw.nd rfl (Or.inr rfl)) pgs_nil))))
        (pss_cons (ps_for (g := gName 7) PassesOwn.never rfl (pi_list (pe_pr h4 hr3 rfl (pa_cons (pv 2) (pa_cons (pe_op op_add pe_int (pe_pr h5 hr1 rfl (pa_cons (pv 2) (pa_cons pe_int pa_nil)))) pa_nil)))) (pg_name (i := 7) scLaw.nd rfl (Or.inl rfl))
          (pss_one (ps_dput hu (pv 6) (pv 7) (pe_pr h6 hr4 rfl (pa_cons (pv 2) (pa_cons (pe_callTy (call_listD rfl) rfl T.list (by decide +kernel) (pa_cons (pv 3) pa_nil)) (pa_cons (pv 4) (pa_cons pe_int (pa_cons pe_bl pa_nil)))))) rfl)))
        (pss_cons (ps_par (i := 8) (j := 9) rfl scLaw.nd rfl rfl (by decide) rfl rfl (pa_cons (pe_callB (call_repr2 (k := 1) hr3 hg FG hb hs hf) rfl T.repr (by decide +kernel) (pa_cons (pe_lst (pa_cons (pv 6) (pa_cons (pv 5) pa_nil))) pa_nil))
          (pa_cons (pe_pr h7 hr rfl (pa_cons (pv 5) (pa_cons (pv 6) pa_nil))) pa_nil)) rfl)
        (pss_cons (ps_if (PW.pt (pw_or (pt_cmpR op_ne (pe_callB (call_reprT hu64 hg) rfl T.repr (by decide +kernel) (pa_cons (pv 9) pa_nil)) (pe_callB (call_reprT hu64 hg) rfl T.repr (by decide +kernel) (pa_cons (pe_ix ix_tup (pe_pr h8 hr rfl (pa_cons (pv 3) (pa_cons (pv 6) pa_nil))) pe_int (fun _ _ => rfl)) pa_nil)) (nomark _))
          (pw_or1 (pt_cmpR (op_neD hu64) (pe_pr h7 hr rfl (pa_cons (pv 5) (pa_cons (pv 6) pa_nil))) (pv 9) (nomark _))))) (pss_one ps_never) pss_nil)
        (pss_cons (ps_for (g := gName 10) PassesOwn.never rfl (pi_range1 rfl T.range (pa_cons pe_int pa_nil)) (pg_name (i := 10) scLaw.nd rfl (Or.inl rfl))
          (pss_cons (ps_set (i := 11) scLaw.nd rfl (Or.inl rfl) (pe_callTy (call_dictP rfl) rfl T.dict (by decide +kernel) (pa_cons (pe_lc (own := [("_law_name", 7)]) (g := gName 7) (tt := tYes) (te := tTup (tCons (tVar 7) (tCons (tCB (rListOf K) (tCons (tDGet (tVar 6) (tVar 7)) tNil)) tNil))) rfl scLaw.nd
              (pi_list (pe_pr h9 hr2 rfl (pa_cons (pv 2) (pa_cons (pe_callTy (call_listD rfl) rfl T.list (by decide +kernel) (pa_cons (pv 6) pa_nil)) pa_nil)))) (blkOk_by (N := lawN) (sc := defScope sLaw) (by decide +kernel))
              (fun _ _ _ _ _ => pg_name (i := 7) scLaw.nd rfl (Or.inl rfl)) (fun _ _ _ _ _ => pts_nil) (fun _ _ _ _ _ => pe_tup (pa_cons (pv 7) (pa_cons (pe_callTy call_list_of rfl T.list (by decide +kernel) (pa_cons (pe_dget hu (pv 6) (pv 7) (fun _ _ => rfl)) pa_nil)) pa_nil)))) pa_nil)))
          (pss_one (ps_if (pt_cmpR op_ne (pe_callB (call_reprT hu64 hg) rfl T.repr (by decide +kernel) (pa_cons (pe_pr h7 hr rfl (pa_cons (pv 5) (pa_cons (pv 11) pa_nil))) pa_nil)) (pe_callB (call_reprT hu64 hg) rfl T.repr (by decide +kernel) (pa_cons (pv 9) pa_nil)) (nomark _)) (pss_one ps_never) pss_nil))))
        (pss_one (ps_if (PW.pt (pw_or (pt_not (pt_val (pe_pr h10 hr rfl (pa_cons (pv 5) (pa_cons (pv 6) (pa_cons (pv 9) pa_nil))))))
          (pw_or (pt_cmpR (op_neD hu64) (pe_pr h7 hr rfl (pa_cons (pv 5) (pa_cons pe_dnewK pa_nil))) (pe_tup (pa_cons (pe_tup pa_nil) (pa_cons (pe_tup pa_nil) pa_nil))) (nomark _))
          (pw_or1 (pt_cmpR op_ne (pe_callB (call_repr2 (k := 1) hr3 hg FG hb hs hf) rfl T.repr (by decide +kernel) (pa_cons (pe_lst (pa_cons (pv 6) (pa_cons (pv 5) pa_nil))) pa_nil)) (pv 8) (nomark _)))))) (pss_one ps_never) pss_nil))))))))))
      (pss_one (ps_ret pe_bl)), ?_⟩
    --BODY
    have hsz : sizeLine = 2 ^ 24 := by rfl
    obtain ⟨m, em, hm⟩ := turns_le ns.length
    refine ⟨_, rfl, _, ns.length, rfl, Or.inl ⟨_, hS, (List.length_map _).symm⟩, _, _, rfl, _, _, rfl, (m : Int), ?_, by omega, by omega, ?_⟩
    · rw [← em]
    rw [show ((m : Int)).toNat = m from by omega]
    refine for_it (walk_range (lo := 0) (n := m)) (fun i σ H' => SqL K H' a (ns.map V.int) ∧ ∃ u1 u2 u3 u4 u5 u6 u7 u8 u9 u10 u11 : Option V, σ = [some (.ref a), u1, u2, u3, u4, u5, u6, u7, u8, u9, u10, u11])
      ⟨hS, none, none, none, none, none, none, none, none, none, none, none, rfl⟩ (fun _ _ _ _ _ => trivial) ?_ ?_
    · rintro i v σ H2 H1 hi ⟨hS1, u1, u2, u3, u4, u5, u6, u7, u8, u9, u10, u11, rfl⟩ ⟨rfl, rfl⟩
      refine ⟨_, rfl, _, rfl, a, ns, i, ?_, hS1, by omega, fun H2 p s2 hp2 np => ?_⟩
      · show [V.ref a, V.int ((0 : Int) + (i : Nat))] = _
        rw [Int.zero_add]
      refine ⟨_, rfl, p, rfl, hp2, fun H3 t d lbl kv1 L rk ls ht3 hd3 hkv3 W lab3 hp3 k3 hne => ?_⟩
      refine ⟨t, _, rfl, SqT.of ht3, rfl, _, _, rfl, _, _, rfl, rfl, ?_⟩
      -- the library and the empty dict
      refine ⟨_, rfl, fun lb z nlb nz zlb => ?_⟩
      have s4 := made_same (C := CL) nlb nz zlb
      refine ⟨lb, z, d, kv1, L, rk, rfl, upd_same, s4 _ _ hd3, hkv3.imp fun _ _ r => r.same s4, W, fun dd H5 lib5 k5 ndd => ⟨rfl, ?_⟩⟩
      have s35 : Same H3 H5 := ((Kp.of s4 : Kp (fun b => b = lb) H3 _).trans' k5).fresh fun c e => by rw [e]; exact nlb
      refine fun dm ndm => ?_
      have s6 : Same H5 (upd H5 dm (.dK [])) := Same.new ndm _
      have hdm6 : (upd H5 dm (.dK [])) dm = some (.dK []) := upd_same
      have s36 := s35.trans s6
      have at6 : LawAt CL (upd H5 dm (.dK [])) p d lbl lb dd dm L rk ls kv1 [] [] := by
        have lab6 : LabAt (upd H5 dm (.dK [])) p lbl ls := ⟨s36 _ _ lab3.at_, lab3.ne, lab3.lo, lab3.hi, lab3.nm⟩
        obtain ⟨ks, e2, _⟩ := lib5.dc
        exact ⟨hp3.same s36, s36 _ _ hd3, hkv3.imp fun _ _ r => r.same s36, W, lab6, lib5.same s6, hdm6, .nil, ne_of_none (s35 _ _ hd3) ndm, ne_of_none e2 ndm⟩
      have ndm1 : H1 dm = none := by
        have e3 := s35.free ndm
        have e2 : H2 dm = none := k3.free e3 (fun e => by
          obtain ⟨x, y, e4, _⟩ := hp3
          rw [e, e4] at e3
          cases e3)
        exact s2.free e2
      have np1 : H1 p = none := np
      have k16 : Kp (fun c => c = p ∨ c = dm) H1 (upd H5 dm (.dK [])) := (((Kp.of s2 : Kp (fun c => c = p ∨ c = dm) H1 H2)).trans k3 (fun _ h => h) (fun c e => .inl (.inl e))).same s36
      generalize upd H5 dm (.dK []) = H6 at s6 hdm6 s36 at6 k16
      refine ⟨by show 2 ≤ sizeLine; decide, fun t2 nt2 => ?_⟩
      have s7 : Same H6 (upd H6 t2 (.tup [.ref lb, .ref dm])) := Same.new nt2 _
      have ht7 : (upd H6 t2 (.tup [.ref lb, .ref dm])) t2 = some (.tup [.ref lb, .ref dm]) := upd_same
      have at7 := at6.same s7
      have k17 := k16.same s7
      generalize upd H6 t2 (.tup [.ref lb, .ref dm]) = H7 at s7 ht7 at7 k17
      refine ⟨t2, _, rfl, SqT.of ht7, rfl, _, _, rfl, _, _, rfl, rfl, ?_⟩
      -- the main programs
      refine ⟨_, rfl, _, rfl, p, 4, rfl, at7.pot, by decide, by decide +kernel, fun H8 c hc hp8 k8 => ?_⟩
      have at8 := at7.kp k8 hp8
      have e1 : (1 : Int) + (c : Int) = ((1 + c : Nat) : Int) := by omega
      refine ⟨_, _, rfl, rfl, p, 1 + c, ?_, hp8, by omega, fun H9 nl ws n1 n2 n3 hn9 nn9 hp9 k9 => ?_⟩
      · show [V.ref p, V.int ((1 : Int) + (c : Int))] = _
        rw [e1]
      have at9 := at8.kp k9 hp9
      have k19 : Kp (fun c => c = p ∨ c = dm) H1 H9 := (k17.trans k8 (fun _ h => h) (fun c e => .inl (.inl e))).trans k9 (fun _ h => h) (fun c e => .inl (.inl e))
      have nl_p : nl ≠ p := hp8.ne nn9
      have nl_dm : nl ≠ dm := ne_of hn9 at9.dm_ (by intro z; cases z)
      refine ⟨nl, rfl, ⟨_, SqL.of hn9⟩, ?_⟩
      refine for_it (walk_list (xs := ws.map V.str)) (fun i σ H' => H' nl = some (.lst (ws.map V.str)) ∧ Kp (fun c => c = p ∨ c = dm) H1 H' ∧ (∃ j w7 w8 w9 w10 w11, σ = [some (.ref a), some (.int j), some (.ref p), some (.ref d), some (.ref lbl), some (.ref lb), some (.ref dm), w7, w8, w9, w10, w11]) ∧
          ∃ kvs M, LawAt CL H' p d lbl lb dd dm L rk ls kv1 kvs M ∧ names M = ws.take i ∧ ∀ x q, (x, q) ∈ M → WfP (names L) rk 9 true q)
        ⟨hn9, k19, ⟨_, _, _, _, _, _, rfl⟩, [], [], at9, rfl, fun x q h => by cases h⟩ (fun i σ H' _ h => SqL.of h.1) ?_ ?_
      · rintro i2 v σ H11 H10 hi2 ⟨hn10, k10, ⟨j, w7, w8, w9, w10, w11, rfl⟩, kvs, M, at10, hnm, hwf⟩ ⟨rfl, ei⟩
        rw [List.getElem?_map] at ei
        obtain ⟨x, ex, rfl⟩ := Option.map_eq_some_iff.mp ei
        refine ⟨_, rfl, _, rfl, d, kv1, rfl, Rd.of at10.md, fun c2 nc2 => ?_⟩
        rw [at10.k1.strs]
        have s11 : Same H10 (upd H10 c2 (.lst ((names L).map V.str))) := Same.new nc2 _
        have hc11 : (upd H10 c2 (.lst ((names L).map V.str))) c2 = some (.lst ((names L).map V.str)) := upd_same
        have at11 := at10.same s11
        have hn11 := s11 _ _ hn10
        have k11 := k10.same s11
        generalize upd H10 c2 (.lst ((names L).map V.str)) = H11 at s11 hc11 at11 hn11 k11
        have c2p := at10.pot.ne nc2
        have hL9 := W.hi
        refine ⟨_, rfl, p, c2, lbl, 10, true, names L, ls, rfl, at11.pot, ⟨hc11, c2p, by rw [List.length_map]; omega, fun y hy => W.nm y hy⟩, at11.lab, Nat.le_refl _, fun H12 pl xs prog hwp hpl hst npl hp12 k12 => ?_⟩
        have at12 := at11.kp k12 hp12
        have hn12 := k12.at hn11 nl_p
        have k12' : Kp (fun c => c = p ∨ c = dm) H1 H12 := k11.trans k12 (fun _ h => h) (fun c e => .inl (.inl e))
        have eLk : kvs.length = M.length := Paired.len at10.km
        have x_no : x ∉ names M := by
          rw [hnm]
          intro hm2
          obtain ⟨j2, ej⟩ := List.mem_iff_getElem?.mp hm2
          have hj2 := (List.getElem?_eq_some_iff.mp ej).1
          rw [List.length_take] at hj2
          rw [List.getElem?_take_of_lt (by omega)] at ej
          have := (List.getElem?_inj (by omega : j2 < ws.length) n2).mp (ej.trans ex.symm)
          omega
        have hput : putK kvs (Sum.inr x) (.ref pl) = kvs ++ [(Sum.inr x, .ref pl)] := putK_new _ (KvP.none at10.km x_no)
        have hlk : kvs.length ≤ 5 := by
          have e9 : (names M).length = M.length := List.length_map _
          rw [eLk, ← e9, hnm, List.length_take]
          omega
        refine ⟨_, rfl, _, rfl, dm, _, rfl, dputS at12.dm_ (by omega) hput, ?_⟩
        have k13 : Kp (fun c => c = p ∨ c = dm) H12 (upd H12 dm (.dK (kvs ++ [(Sum.inr x, .ref pl)]))) := (Kp.refl H12 : Kp (fun c => c = p ∨ c = dm) _ _).upd (fun _ h => h) (.inl (.inr rfl)) (nt_dK at12.dm_) _
        refine ⟨by rw [upd_ne nl_dm]; exact hn12, k12'.trans' k13, ⟨_, _, _, _, _, _, rfl⟩, _, _, at12.put hpl hst, ?_, ?_⟩
        · have et : ws.take (i2 + 1) = ws.take i2 ++ [x] := by rw [List.take_add_one, ex]; rfl
          rw [et, ← hnm]
          exact List.map_append
        · intro y q' hq'
          rcases List.mem_append.mp hq' with h | h
          · exact hwf y q' h
          · cases List.mem_singleton.mp h
            exact hwp.lift fun y hy => ⟨hy, W.rk9 y hy⟩
      rintro σ H10 ⟨hn10, k10, ⟨j, w7, w8, w9, w10, w11, rfl⟩, kvs, M, at10, hnm, hwf⟩
      rw [List.length_map, List.take_length] at hnm
      have eM : (names M).length = M.length := List.length_map _
      have WM : WfM L rk M := ⟨by rw [hnm]; exact n2, by rw [← eM, hnm]; omega, fun x hx => n3 x (by rw [← hnm]; exact hx), hwf⟩
      -- the list shown; the whole run
      have fre : ∀ {H' : Hp}, Kp (fun c => c = p ∨ c = dm) H1 H' → Same H1 H' := fun k => k.fresh fun c e => by
        rcases e with e | e
        · rw [e]; exact np1
        · rw [e]; exact ndm1
      refine ⟨_, rfl, _, rfl, by show 2 ≤ sizeLine; decide, fun l nl11 => ?_⟩
      have s11 : Same H10 (upd H10 l (.lst [.ref dm, .ref lb])) := Same.new nl11 _
      have hl11 : (upd H10 l (.lst [.ref dm, .ref lb])) l = some (.lst [.ref dm, .ref lb]) := upd_same
      have at11 := at10.same s11
      have k11 := k10.same s11
      generalize upd H10 l (.lst [.ref dm, .ref lb]) = H11 at s11 hl11 at11 k11
      refine ⟨l, dm, lb, dd, kvs, M, sortL L, rfl, hl11, at11.dm_, at11.km, WM.shw, at11.lib, W.sort.shw, fun H12 s12 => ?_⟩
      have at12 := at11.same s12
      have k12 := k11.same s12
      refine ⟨_, rfl, _, rfl, lb, dd, dm, sortL L, rk, kvs, M, rfl, at12.args WM, fun H13 v Ks s13 ndK hK hv => ?_⟩
      have at13 := at12.same s13
      have k13 := k12.same s13
      refine ⟨_, _, rfl, ?_⟩
      have nmK : ∀ x ∈ Ks, x ∈ names (sortL L) := fun x hx => ((hK x).mp hx).names W.sort WM.sort
      have hvD : Dp H13 v (runD (sortL L) rk Ks M) := hv
      have lay : (runD (sortL L) rk Ks M).canLay0 = true := SeqAt.canLay_of_shaped (runD_shaped W.sort nmK WM.nm)
      have dep : (runD (sortL L) rk Ks M).depth ≤ 60 := by
        have h1 := rowsD_depth (L := sortL L) (rk := rk) Ks
        have h2 := mainsD_depth (L := sortL L) (rk := rk) (M := M)
        simp only [runD, PyData.depth, PyData.depthAll]
        omega
      have shw := runD_shw W.sort WM.sort ndK nmK
      have shp := runD_shaped W.sort nmK WM.nm
      have prgE : prg L = prg (sortL L) := (prg_sort L).symm
      -- the first test
      refine ⟨_, rfl, v, _, 3000, rfl, hvD, lay, dep, shw, by decide, ?_⟩
      refine ⟨_, rfl, _, rfl, d, dm, kv1, L, rk, kvs, M, rfl, at13.md, at13.k1, W, at13.ne, at13.dm_, at13.km, WM, fun H14 t3 v2 o2 Ks2 s14 nd2 hK2 ht3' hv2 => ?_⟩
      have at14 := at13.same s14
      have k14 := k13.same s14
      have e2 : runD L rk Ks2 M = runD (sortL L) rk Ks M := runD_eq prgE nd2 ndK hK2 hK
      have hv2D : Dp H14 v2 (runD (sortL L) rk Ks M) := by rw [← e2]; exact hv2
      refine ⟨t3, _, _, _, rfl, rfl, SqT.of ht3', rfl, ?_⟩
      refine ⟨v2, _, 3000, rfl, hv2D, lay, dep, shw, by decide, ?_⟩
      refine ⟨rfl, _, rfl, ?_⟩
      show if (!decide (V.str (runD (sortL L) rk Ks M).shown = V.str (runD (sortL L) rk Ks M).shown)) = true then _ else _
      rw [decide_eq_true rfl]
      refine ⟨_, rfl, _, rfl, lb, dd, dm, sortL L, rk, kvs, M, rfl, at14.args WM, fun H15 v3 Ks3 s15 nd3 hK3 hv3 => ?_⟩
      have at15 := at14.same s15
      have k15 := k14.same s15
      have e3 : runD (sortL L) rk Ks3 M = runD (sortL L) rk Ks M := runD_eq rfl nd3 ndK hK3 hK
      have hv3D : Dp H15 v3 (runD (sortL L) rk Ks M) := by rw [← e3]; exact hv3
      have hv15 := (hvD.same s14).same s15
      refine ⟨_, rfl, ?_⟩
      refine ⟨_, _, hv3D.to K, hv15.to K, shp, shp, ?_⟩
      have eqv1 : PyData.eqv (runD (sortL L) rk Ks M) (runD (sortL L) rk Ks M) = true := SeqAt.eqv_refl _ lay
      rw [eqv1]
      refine ⟨_, rfl, ?_⟩
      -- the main programs turned
      refine ⟨4, rfl, by decide, by decide, ?_⟩
      refine for_it (walk_range (lo := 0) (n := 4)) (fun i σ H' => LawAt CL H' p d lbl lb dd dm L rk ls kv1 kvs M ∧ Kp (fun c => c = p ∨ c = dm) H1 H' ∧ Dp H' v (runD (sortL L) rk Ks M) ∧
          ∃ j w7 w10 w11, σ = [some (.ref a), some (.int j), some (.ref p), some (.ref d), some (.ref lbl), some (.ref lb), some (.ref dm), w7, some (.str (listText [libT M, reprL (sortL L)])), some v, w10, w11])
        ⟨at15, k15, hv15, _, _, _, _, rfl⟩ (fun _ _ _ _ _ => trivial) ?_ ?_
      · rintro i3 v0 σ H17 H16 hi3 ⟨at16, k16', hv16, j2, w7', w10', w11', rfl⟩ ⟨rfl, rfl⟩
        refine ⟨_, rfl, _, rfl, dm, kvs, rfl, Rd.of at16.dm_, fun c3 nc3 => ?_⟩
        rw [at16.km.strs]
        have s17 : Same H16 (upd H16 c3 (.lst ((names M).map V.str))) := Same.new nc3 _
        have hc17 : (upd H16 c3 (.lst ((names M).map V.str))) c3 = some (.lst ((names M).map V.str)) := upd_same
        have at17 := at16.same s17
        have k17 := k16'.same s17
        have hv17 := hv16.same s17
        generalize upd H16 c3 (.lst ((names M).map V.str)) = H17 at s17 hc17 at17 k17 hv17
        have lenM := WM.len
        refine ⟨p, c3, names M, rfl, at17.pot, hc17, WM.nm, by rw [eM]; omega, fun H18 zl zs perm hz18 nz18 hp18 k18 => ?_⟩
        have at18 := at17.kp k18 hp18
        have k18' : Kp (fun c => c = p ∨ c = dm) H1 H18 := k17.trans k18 (fun _ h => h) (fun c e => .inl (.inl e))
        have hv18 := hv17.kp k18
        refine ⟨zl, rfl, ⟨_, SqL.of hz18⟩, fun C nC => ?_⟩
        have ndz : zs.Nodup := perm.nodup_iff.mpr WM.nd
        refine lc_it (walk_list (xs := zs.map V.str)) (fun j H' => Same H18 H' ∧ ∃ (ps : List Addr) (kv2 : List (Key × V)), H' C = some (.lst (ps.map V.ref)) ∧ ps.length = j ∧ Paired (fun (a : Addr) (kv : Key × V) => H' a = some (.tup [kV kv.1, kv.2])) ps kv2 ∧ (∀ kv ∈ kv2, kv.2 ≠ V.ref C) ∧ KvP (ProgL H') kv2 (turnM M (zs.take j)))
          ⟨Same.new nC _, [], [], upd_same, rfl, .nil, (fun _ h => by cases h), .nil⟩ (fun j H' _ h => SqL.of (h.1 _ _ hz18)) ?_ ?_
        · rintro j v1 H20 H19 hj ⟨s19, ps, kv2, hC19, lps, pr, hne2, kp2⟩ ⟨rfl, ei⟩
          rw [List.length_map] at hj
          rw [List.getElem?_map] at ei
          obtain ⟨x, ex, rfl⟩ := Option.map_eq_some_iff.mp ei
          have hxM : x ∈ names M := perm.mem_iff.mp (List.mem_of_getElem? ex)
          have at19 := at18.same s19
          obtain ⟨u, eu, hu1⟩ := KvP.get at19.km WM.nd (prg_mem hxM WM.nd)
          obtain ⟨pa, xs, rfl, hpa, hst⟩ := hu1
          refine ⟨rfl, ?_⟩
          refine ⟨_, rfl, _, rfl, _, rfl, dm, _, rfl, dgetS at19.dm_ eu, ?_⟩
          refine ⟨pa, xs, rfl, .inl (SqL.of hpa), fun L2' nL2 => ?_⟩
          have s20 : Same H19 (upd H19 L2' (.lst xs)) := Same.new nL2 _
          have hL20 : (upd H19 L2' (.lst xs)) L2' = some (.lst xs) := upd_same
          have hC20 := s20 _ _ hC19
          have pr20 := Paired.imp (fun (a : Addr) (kv : Key × V) (r : H19 a = some (.tup [kV kv.1, kv.2])) => s20 _ _ r) pr
          have kp20 := kp2.imp fun _ _ r => r.same s20
          have hst20 := hst.mono s20
          have s20' := s19.trans s20
          generalize upd H19 L2' (.lst xs) = H20 at s20 hL20 hC20 pr20 kp20 hst20 s20'
          refine ⟨by show 2 ≤ sizeLine; decide, fun T3 nT3 => ?_⟩
          have s21 : Same H20 (upd H20 T3 (.tup [.str x, .ref L2'])) := Same.new nT3 _
          have hT21 : (upd H20 T3 (.tup [.str x, .ref L2'])) T3 = some (.tup [.str x, .ref L2']) := upd_same
          have hC21 := s21 _ _ hC20
          have hL21 := s21 _ _ hL20
          have pr21 := Paired.imp (fun (a : Addr) (kv : Key × V) (r : H20 a = some (.tup [kV kv.1, kv.2])) => s21 _ _ r) pr20
          have kp21 := kp20.imp fun _ _ r => r.same s21
          have hst21 := hst20.mono s21
          have s21' := s20'.trans s21
          generalize upd H20 T3 (.tup [.str x, .ref L2']) = H21 at s21 hT21 hC21 hL21 pr21 kp21 hst21 s21'
          have lz : zs.length ≤ 8 := by
            have := perm.length_eq
            omega
          refine ⟨_, hC21, by rw [List.length_map]; omega, s21'.upd nC _, ?_⟩
          have k22 : Kp (fun b => b = C) H21 (upd H21 C (.lst (ps.map V.ref ++ [.ref T3]))) := (Kp.refl H21 : Kp (fun b => b = C) _ _).upd (fun _ h => h) (.inl rfl) (nt_lst hC21) _
          have T_C : T3 ≠ C := ne_of hT21 hC21 (by intro z; cases z)
          have L_C : L2' ≠ C := (ne_of_none hC19 nL2).symm
          refine ⟨ps ++ [T3], kv2 ++ [(Sum.inr x, .ref L2')], ?_, by rw [List.length_append, lps]; rfl, ?_, ?_, ?_⟩
          · rw [upd_same, List.map_append]
            rfl
          · exact Paired.snoc (Paired.imp (fun (a : Addr) (kv : Key × V) (r : H21 a = some (.tup [kV kv.1, kv.2])) => k22.tup r) pr21) (k22.tup hT21)
          · intro kv hk
            rcases List.mem_append.mp hk with h | h
            · exact hne2 kv h
            · rw [List.mem_singleton.mp h]
              exact fun e => L_C (V.ref.inj e)
          · have et : zs.take (j + 1) = zs.take j ++ [x] := by rw [List.take_add_one, ex]; rfl
            have et2 : turnM M (zs.take j ++ [x]) = turnM M (zs.take j) ++ [(x, prg M x)] := by
              unfold turnM
              rw [List.map_append]
              rfl
            rw [et, et2]
            have kp22 := KvP.kpC k22 kp21 hne2
            exact KvP.snoc kp22 ⟨L2', xs, rfl, k22.at hL21 L_C, hst21.monoK k22⟩
        rintro H19 ⟨s19, ps, kv2, hC19, lps, pr, hne2, kp2⟩
        rw [List.length_map, List.take_length] at kp2
        have ndT := turnM_nd WM.nd perm
        have nd2' := kp2.nodup ndT
        refine ⟨C, ps, kv2, rfl, SqL.of hC19, Paired.imp (fun (a : Addr) (kv : Key × V) (r : H19 a = some (.tup [kV kv.1, kv.2])) => SqT.of r) pr, fun td ntd => ?_⟩
        rw [mergeK_nd nd2']
        have at19 := at18.same s19
        have hv19 := hv18.same s19
        have k19' := k18'.same s19
        have s20 : Same H19 (upd H19 td (.dK kv2)) := Same.new ntd _
        have htd : (upd H19 td (.dK kv2)) td = some (.dK kv2) := upd_same
        have at20 := at19.same s20
        have hv20 := hv19.same s20
        have k20' := k19'.same s20
        have kp20 := kp2.imp fun _ _ r => r.same s20
        have dd_td : dd ≠ td := by
          obtain ⟨ks, z, _⟩ := at19.lib.dc
          exact ne_of_none z ntd
        generalize upd H19 td (.dK kv2) = H20 at s20 htd at20 hv20 k20' kp20
        refine ⟨_, rfl, _, rfl, lb, dd, td, sortL L, rk, kv2, turnM M zs, rfl, ⟨at20.lib, W.sort, dd_td, htd, kp20, WM.sort.turn perm⟩, fun H21 v4 Ks4 s21 nd4 hK4 hv4 => ?_⟩
        have e4 : runD (sortL L) rk Ks4 (turnM M zs) = runD (sortL L) rk Ks M := turnM_run WM.nd perm nd4 ndK hK4 hK
        have hv4D : Dp H21 v4 (runD (sortL L) rk Ks M) := by rw [← e4]; exact hv4
        have hv21 := hv20.same s21
        refine ⟨v4, _, 3000, rfl, hv4D, lay, dep, shw, by decide, ?_⟩
        refine ⟨_, rfl, v, _, 3000, rfl, hv21, lay, dep, shw, by decide, ?_⟩
        refine ⟨rfl, _, rfl, ?_⟩
        show if (!decide (V.str (runD (sortL L) rk Ks M).shown = V.str (runD (sortL L) rk Ks M).shown)) = true then _ else _
        rw [decide_eq_true rfl]
        exact ⟨at20.same s21, k20'.same s21, hv21, _, _, _, _, rfl⟩
      rintro σ H16 ⟨at16, k16', hv16, j2, w7', w10', w11', rfl⟩
      -- the last tests
      refine ⟨_, rfl, _, rfl, _, rfl, lb, dd, dm, v, sortL L, rk, kvs, M, Ks, rfl, at16.args WM, ndK, hK, hv16, fun H17 s17 => ?_⟩
      have at17 := at16.same s17
      have k17' := k16'.same s17
      refine ⟨true, rfl, ?_⟩
      refine ⟨_, rfl, fun d0 nd0 => ?_⟩
      have s18 : Same H17 (upd H17 d0 (.dK [])) := Same.new nd0 _
      have hd18 : (upd H17 d0 (.dK [])) d0 = some (.dK []) := upd_same
      have at18 := at17.same s18
      have k18 := k17'.same s18
      have dd_d0 : dd ≠ d0 := by
        obtain ⟨ks, z, _⟩ := at17.lib.dc
        exact ne_of_none z nd0
      generalize upd H17 d0 (.dK []) = H18 at s18 hd18 at18 k18
      refine ⟨lb, dd, d0, sortL L, rk, [], [], rfl, ⟨at18.lib, W.sort, dd_d0, hd18, .nil, WfM.nil⟩, fun H19 v4 Ks4 s19 nd4 hK4 hv4 => ?_⟩
      have at19 := at18.same s19
      have k19' := k18.same s19
      have hv4D : Dp H19 v4 (.tuple [.tuple [], .tuple []]) := by
        have e4 := runD_nil hK4
        rw [← e4]
        exact hv4
      refine ⟨Nat.zero_le _, fun a1 na1 => ?_⟩
      have s20 : Same H19 (upd H19 a1 (.tup [])) := Same.new na1 _
      have ha20 : (upd H19 a1 (.tup [])) a1 = some (.tup []) := upd_same
      have at20 := at19.same s20
      have k20 := k19'.same s20
      have hv20 := hv4D.same s20
      generalize upd H19 a1 (.tup []) = H20 at s20 ha20 at20 k20 hv20
      refine ⟨Nat.zero_le _, fun a2 na2 => ?_⟩
      have s21 : Same H20 (upd H20 a2 (.tup [])) := Same.new na2 _
      have hb21 : (upd H20 a2 (.tup [])) a2 = some (.tup []) := upd_same
      have ha21 := s21 _ _ ha20
      have at21 := at20.same s21
      have k21 := k20.same s21
      have hv21 := hv20.same s21
      generalize upd H20 a2 (.tup []) = H21 at s21 hb21 ha21 at21 k21 hv21
      refine ⟨by show 2 ≤ sizeLine; decide, fun a3 na3 => ?_⟩
      have s22 : Same H21 (upd H21 a3 (.tup [.ref a1, .ref a2])) := Same.new na3 _
      have hc22 : (upd H21 a3 (.tup [.ref a1, .ref a2])) a3 = some (.tup [.ref a1, .ref a2]) := upd_same
      have at22 := at21.same s22
      have k22 := k21.same s22
      have hv22 := hv21.same s22
      have hw22 : Dp (upd H21 a3 (.tup [.ref a1, .ref a2])) (.ref a3) (.tuple [.tuple [], .tuple []]) := .tup hc22 (.cons (.tup (s22 _ _ ha21) .nil) (.cons (.tup (s22 _ _ hb21) .nil) .nil))
      generalize upd H21 a3 (.tup [.ref a1, .ref a2]) = H22 at s22 hc22 at22 k22 hv22 hw22
      have shp0 : SeqAt.shaped (.tuple [.tuple [], .tuple []]) = true := by decide +kernel
      refine ⟨_, _, hv22.to K, hw22.to K, shp0, shp0, ?_⟩
      have eqv0 : PyData.eqv (.tuple [.tuple [], .tuple []]) (.tuple [.tuple [], .tuple []]) = true := SeqAt.eqv_refl _ (SeqAt.canLay_of_shaped shp0)
      rw [eqv0]
      refine ⟨_, rfl, ?_⟩
      refine ⟨_, rfl, _, rfl, by show 2 ≤ sizeLine; decide, fun l2 nl2 => ?_⟩
      have s23 : Same H22 (upd H22 l2 (.lst [.ref dm, .ref lb])) := Same.new nl2 _
      have hl23 : (upd H22 l2 (.lst [.ref dm, .ref lb])) l2 = some (.lst [.ref dm, .ref lb]) := upd_same
      have at23 := at22.same s23
      have k23 := k22.same s23
      generalize upd H22 l2 (.lst [.ref dm, .ref lb]) = H23 at s23 hl23 at23 k23
      refine ⟨l2, dm, lb, dd, kvs, M, sortL L, rfl, hl23, at23.dm_, at23.km, WM.shw, at23.lib, W.sort.shw, fun H24 s24 => ?_⟩
      have k24 := k23.same s24
      refine ⟨_, rfl, ?_⟩
      refine ⟨rfl, _, rfl, ?_⟩
      show if (!decide (V.str (listText [libT M, reprL (sortL L)]) = V.str (listText [libT M, reprL (sortL L)]))) = true then _ else _
      rw [decide_eq_true rfl]
      exact ⟨sql_same hS1 (fre k24), _, _, _, _, _, _, _, _, _, _, _, rfl⟩
    · rintro σ H1 ⟨_, u1, u2, u3, u4, u5, u6, u7, u8, u9, u10, u11, rfl⟩
      exact q _
end
end Cy

set_option Elab.async false
set_option linter.all false
set_option maxRecDepth 100000
set_option maxHeartbeats 4000000
/-! The law's call at the end of the top, for a promise that wants the guards known. -/
namespace Cy
open PySem PySem.Spec PyProof.Rows L2
section
variable {P : Program} {w : World} {K : PySem.W.Frag} {mg mb : Str → Option Value} {k : Nat} {g a : Addr} {fd : FuncData} {x : Str} {sp : Sp} {t : Shared} {vs : List Value} {ns : List Int}
/-- from an abstract heap in which at most the script is tracked -/
theorem call_core {H : Hp} (kin : K.In t.heap) (n1 : t.heap.Ns mainGlobals mg) (n2 : t.heap.Ns builtinsNs mb) (bb : ∀ y : Str, y ≠ "__name__" → mb y = bootBuiltins y) (lim : t.heap.NoLimit) (ng : t.gens = #[])
    (ha : t.heap.get? a = some { cls := .type "list", data := .seq vs.toArray }) (room : Room k callerA) (F : ∀ b : Heap, K.In b → b.Ns mainGlobals mg → FnG GNone P w K mg b k g fd [x] sp)
    (bind : ∀ (s : Shared) (u : Value), BindsTo s fd ⟨[u], []⟩ [(x, u)]) (only : Only H) (hs : sp [.ref a] H (fun v _ => v = .bl true) fun _ _ _ => False) (ok : HOk P w H t.heap) (al : ∀ b, H b ≠ none → b = a) (nk : H a ≠ none → K.lookup a = none) :
    codeAny (model P w) callerA (.call (.ref g) ⟨[.ref a], []⟩) (fun r s => r = .ok (.ret (.bool true)) ∧ OldK t.heap s.heap ∧ s.os = t.os ∧ AllBare s.gens) t := by
  have isA : ∀ {b : Addr} {u : HO}, H b = some u → b = a := fun e => al _ (by rw [e]; simp)
  have away : ∀ {b : Addr} {o : Obj} {es : Array DictEntry} {ep : Nat}, t.heap.get? b = some o → o.data = .dict es ep → H b = none := by
    intro b o es ep e1 e2
    cases z : H b with
    | none => rfl
    | some u =>
      have := isA z
      subst this
      rw [ha] at e1
      cases e1
      exact absurd e2 (by simp)
  have ns_of : ∀ {b : Addr} {m : Str → Option Value}, t.heap.Ns b m → (hidT t.heap H).Ns b m := by
    rintro b m ⟨o, es, ep, e1, e2, e3⟩
    exact ⟨o, es, ep, hidT_get e1 (away e1 e2), e2, e3⟩
  have kin2 : K.In (hidT t.heap H) := by
    intro b o e1
    refine hidT_get (kin b o e1) ?_
    cases z : H b with
    | none => rfl
    | some u =>
      have := isA z
      subst this
      rw [nk (by rw [z]; simp)] at e1
      cases e1
  have md : Mod K mg (hidT t.heap H) := by
    obtain ⟨mc, l1, l2⟩ := lim
    exact ⟨kin2, ns_of n1, ⟨mb, ns_of n2, bb⟩, ⟨mc, ns_of l1, l2⟩⟩
  have env : Env0 P w K mg (hidT t.heap H) callerA [] t H := ⟨rfl, md, fun b o e => of_hidT e, Nat.le_of_eq (hidT_size _ _), trivial, (fun b z => by cases z), ok, .of_eq ng⟩
  refine codeAny_mono (F _ kin2 (ns_of n1) callerA [] t H ⟨[.ref a], []⟩ [.ref a] [.ref a] _ _ (show callerA.guards = some [] from rfl) room env (bind t (.ref a)) (.cons rfl .nil) hs) fun r s z => ?_
  cases r with
  | error e => exact z.elim
  | ok fl =>
    cases fl with
    | next => exact z.elim
    | brk => exact z.elim
    | cont => exact z.elim
    | ret u =>
      obtain ⟨v, H2, os, bare, un, ok2, rv, q⟩ := z
      obtain rfl : v = .bl true := q
      obtain rfl : u = Value.bool true := rv
      refine ⟨rfl, OldK.of_keep fun b o e => ?_, os, bare⟩
      cases z : H b with
      | none => exact un.keep b o e z (fun y => by cases y) (by simp)
      | some u =>
        rcases only b with y | ⟨ob, xs, y⟩
        · rw [z] at y
          cases y
        · obtain ⟨e1, _⟩ := ok b _ y
          obtain ⟨e2, _⟩ := ok2 b _ (un.frzs b ob _ y)
          rw [e] at e1
          cases e1
          exact e2
/-- the law's promise, at the heap behind the top -/
theorem law_callG (kin : K.In t.heap) (n1 : t.heap.Ns mainGlobals mg) (n2 : t.heap.Ns builtinsNs mb) (bb : ∀ y : Str, y ≠ "__name__" → mb y = bootBuiltins y) (lim : t.heap.NoLimit) (ng : t.gens = #[])
    (ha : t.heap.get? a = some { cls := .type "list", data := .seq vs.toArray }) (hi : IntsAre vs ns) (hl : ns.length ≤ sizeLine) (room : Room k callerA) (F : ∀ b : Heap, K.In b → b.Ns mainGlobals mg → FnG GNone P w K mg b k g fd [x] sp)
    (bind : ∀ (s : Shared) (u : Value), BindsTo s fd ⟨[u], []⟩ [(x, u)]) (hs : ∀ H : Hp, Only H → SqL K H a (ns.map V.int) → sp [.ref a] H (fun v _ => v = .bl true) fun _ _ _ => False) :
    codeAny (model P w) callerA (.call (.ref g) ⟨[.ref a], []⟩) (fun r s => r = .ok (.ret (.bool true)) ∧ OldK t.heap s.heap ∧ s.os = t.os ∧ AllBare s.gens) t := by
  have rv := vals_ints hi
  have lv := hi.length
  cases hk : K.lookup a with
  | some o =>
    have e := kin a o hk
    rw [ha] at e
    cases e
    have only0 : Only (fun _ => none) := fun _ => .inl rfl
    refine call_core (H := fun _ => none) kin n1 n2 bb lim ng ha room F bind only0 (hs _ only0 (.inr ⟨_, vs.toArray, _, hk, rfl, rfl, rfl, ?_, by simpa using rv⟩)) (fun b u z => by cases z) (fun b z => absurd rfl z) fun z => absurd rfl z
    rw [List.size_toArray, lv]
    exact hl
  | none =>
    have at_ : ∀ b, (upd (fun _ => none) a (.frz { cls := .type "list", data := .seq vs.toArray } (.lst (ns.map V.int))) : Hp) b ≠ none → b = a := by
      intro b z
      refine Classical.byContradiction fun ne => z ?_
      rw [upd_ne ne]
    have only1 : Only (upd (fun _ => none) a (.frz { cls := .type "list", data := .seq vs.toArray } (.lst (ns.map V.int)))) := by
      intro b
      by_cases e : b = a
      · subst e
        exact .inr ⟨_, _, upd_same⟩
      · exact .inl (by rw [upd_ne e])
    refine call_core kin n1 n2 bb lim ng ha room F bind only1 (hs _ only1 (.inl (.inr ⟨{ cls := .type "list", data := .seq vs.toArray }, upd_same⟩))) ?_ at_ fun _ => hk
    intro b u z
    have e := at_ b (by rw [z]; simp)
    subst e
    rw [upd_same] at z
    cases z
    exact ⟨ha, by rw [List.length_map]; exact hl, vs, _, rv, ha⟩
end
/-- the end over a head by facts -/
theorem walk_ofG {l : PySem.W.OpenLaw} {n k : Nat} {q : Program} {loose : List Str} {XP : (Str → Option Value) → Heap → Prop} {YP : World → Heap → Prop} {d : DefRec} {x : Str} (hn : l.most = some n) (hn2 : n ≤ sizeLine) (hdf : d.params.defaults = []) (room : Room k callerA)
    (F : ∀ (w : World) (mg : Str → Option Value) (g : Addr) (h : Heap), YP w h → h.Ns mainGlobals mg → mg d.name = some (.ref g) →
      ∃ (K : PySem.W.Frag) (fd : FuncData) (sp : Sp), K.In h ∧ (∀ (s : Shared) (u : Value), BindsTo s fd ⟨[u], []⟩ [(x, u)]) ∧ (∀ (H : Hp) (a : Addr) (ns : List Int), ns.length ≤ n → Only H → SqL K H a (ns.map V.int) → sp [.ref a] H (fun v _ => v = .bl true) fun _ _ _ => False) ∧
        ∀ b : Heap, K.In b → b.Ns mainGlobals mg → FnG GNone l.prog w K mg b k g fd [x] sp) :
    PySem.W.WalkO q loose XP YP l.row.toRowW d [] (fun f vs => PySem.call f vs) := by
  refine Att.attach_call hn hdf fun w s₀ s₁ mg mb g o pm cd doc a vs ns G Y ho hd hcd hmg hobj hints hlen hg => ?_
  obtain ⟨K, fd, sp, kin, bind, hs, hF⟩ := F w mg g _ Y G.T.g hmg
  exact law_callG kin G.T.g G.T.b G.T.builtins G.T.nolimit hg hobj hints (Nat.le_trans hlen hn2) room hF bind fun H o => hs H a ns hlen o
end Cy

set_option Elab.async false
set_option linter.all false
set_option maxRecDepth 100000
set_option maxHeartbeats 0
/-! The head's facts; the chain of the defs' promises. (printed by print_head.py) -/
namespace Cy
open PySem PySem.Spec PyProof.Rows L2
/-! ### tuples of texts, found by a path -/
def tupAt (K : PySem.W.Frag) (a : Addr) (l : List Str) : Bool := match K.lookup a with
  | some o => decide (o.cls = .type "tuple") && (match o.data with
    | .seq q _ => decide (q.size ≤ sizeLine) && He.relAll (l.map V.str) q.toList
    | _ => false)
  | none => false
theorem tupAt_ok {K : PySem.W.Frag} {a : Addr} {l : List Str} (h : tupAt K a l = true) (H : Hp) : SqT K H a (l.map V.str) := by
  unfold tupAt at h
  cases e : K.lookup a with
  | none =>
    rw [e] at h
    cases h
  | some o =>
    rw [e] at h
    obtain ⟨h1, h2⟩ := He.ba h
    cases d : o.data with
    | seq q n =>
      rw [d] at h2
      obtain ⟨h3, h4⟩ := He.ba h2
      exact .inr ⟨o, q, n, e, of_decide_eq_true h1, d, of_decide_eq_true h3, He.relAll_ok h4⟩
    | _ =>
      rw [d] at h2
      cases h2
/-- where FORMS keeps a word's kinds -/
def formAt (K : PySem.W.Frag) (x : Str) : Addr := match PySem.W.nsIn K (He.ga K "FORMS") x with
  | some (some (.ref a)) => a
  | _ => 0
def formOk (K : PySem.W.Frag) (x : Str) (l : List Str) : Bool := He.eqO (PySem.W.nsIn K (He.ga K "FORMS") x) (some (some (.ref (formAt K x)))) && tupAt K (formAt K x) l
def more (K : PySem.W.Frag) : Bool := tupAt K (He.ga K "VARIABLES") vrs && (tupAt K (He.ga K "PLAIN") ["set", "add", "skip"] && (formOk K "set" ["variable", "integer"] && (formOk K "add" ["variable", "variable"] && (formOk K "skip" ["variable", "amount"] &&
  (formOk K "export" ["name", "variable"] && (formOk K "read" ["variable", "module", "name"] && (formOk K "need" ["module"] && (formOk K "try" ["module", "variable"] && formOk K "fail" []))))))))
theorem formOk_ok {K : PySem.W.Frag} {x : Str} {l : List Str} (h : formOk K x l = true) : ∃ u, PySem.W.nsIn K (He.ga K "FORMS") x = some (some u) ∧ RelV (.ref (formAt K x)) u ∧ ∀ H, SqT K H (formAt K x) (l.map V.str) := by
  obtain ⟨h1, h2⟩ := He.ba h
  exact ⟨_, He.eqO_ok h1, rfl, tupAt_ok h2⟩
theorem more_forms {K : PySem.W.Frag} (h : more K = true) : ∀ s : Stp, ∃ u, PySem.W.nsIn K (He.ga K "FORMS") (word s) = some (some u) ∧ RelV (.ref (formAt K (word s))) u ∧ ∀ H, SqT K H (formAt K (word s)) ((kinds s).map V.str) := by
  obtain ⟨_, h⟩ := He.ba h
  obtain ⟨_, h⟩ := He.ba h
  obtain ⟨a1, h⟩ := He.ba h
  obtain ⟨a2, h⟩ := He.ba h
  obtain ⟨a3, h⟩ := He.ba h
  obtain ⟨a4, h⟩ := He.ba h
  obtain ⟨a5, h⟩ := He.ba h
  obtain ⟨a6, h⟩ := He.ba h
  obtain ⟨a7, a8⟩ := He.ba h
  intro s
  cases s with
  | set x n => exact formOk_ok a1
  | add x y => exact formOk_ok a2
  | skip x k => exact formOk_ok a3
  | exp l x => exact formOk_ok a4
  | read x m l => exact formOk_ok a5
  | need m => exact formOk_ok a6
  | try_ m x => exact formOk_ok a7
  | fail => exact formOk_ok a8
/-! ### the defs, the facts -/
def df0 : He.DefD := ⟨("is_name", none), "is_name", "is_name", defArgs sIsName, defBody sIsName, defScope sIsName, [], []⟩
def df1 : He.DefD := ⟨("is_integer", none), "is_integer", "is_integer", defArgs sIsInteger, defBody sIsInteger, defScope sIsInteger, [], []⟩
def df2 : He.DefD := ⟨("is_variable", none), "is_variable", "is_variable", defArgs sIsVariable, defBody sIsVariable, defScope sIsVariable, [], []⟩
def df3 : He.DefD := ⟨("is_item", none), "is_item", "is_item", defArgs sIsItem, defBody sIsItem, defScope sIsItem, [], []⟩
def df4 : He.DefD := ⟨("is_step", none), "is_step", "is_step", defArgs sIsStep, defBody sIsStep, defScope sIsStep, [], []⟩
def df5 : He.DefD := ⟨("is_plain", none), "is_plain", "is_plain", defArgs sIsPlain, defBody sIsPlain, defScope sIsPlain, [], []⟩
def df6 : He.DefD := ⟨("step_modules", none), "step_modules", "step_modules", defArgs sStepModules, defBody sStepModules, defScope sStepModules, [], []⟩
def df7 : He.DefD := ⟨("is_wrong", none), "is_wrong", "is_wrong", defArgs sIsWrong, defBody sIsWrong, defScope sIsWrong, [], []⟩
def df8 : He.DefD := ⟨("first_problem", none), "first_problem", "first_problem", defArgs sFirst, defBody sFirst, defScope sFirst, [], [("is_main", .bl false), ("known", .non)]⟩
def df9 : He.DefD := ⟨("check_program", none), "check_program", "check_program", defArgs sCheckProgram, defBody sCheckProgram, defScope sCheckProgram, [], [("is_main", .bl false)]⟩
def df10 : He.DefD := ⟨("check_mains", none), "check_mains", "check_mains", defArgs sCheckMains, defBody sCheckMains, defScope sCheckMains, [], []⟩
def df11 : He.DefD := ⟨("complete_run", none), "complete_run", "complete_run", defArgs sComplete, defBody sComplete, defScope sComplete, [], []⟩
def df12 : He.DefD := ⟨("plain_run", none), "plain_run", "plain_run", defArgs sPlainRun, defBody sPlainRun, defScope sPlainRun, [], []⟩
def df13 : He.DefD := ⟨("check_library", none), "check_library", "check_library", defArgs sCheckLib, defBody sCheckLib, defScope sCheckLib, [], []⟩
def df14 : He.DefD := ⟨("_law_pot", none), "_law_pot", "_law_pot", defArgs sPot, defBody sPot, defScope sPot, [], []⟩
def df15 : He.DefD := ⟨("_law_draw", none), "_law_draw", "_law_draw", defArgs sDraw, defBody sDraw, defScope sDraw, [], []⟩
def df16 : He.DefD := ⟨("_law_choice", none), "_law_choice", "_law_choice", defArgs sChoice, defBody sChoice, defScope sChoice, [], []⟩
def df17 : He.DefD := ⟨("_law_word", none), "_law_word", "_law_word", defArgs sWord, defBody sWord, defScope sWord, [], []⟩
def df18 : He.DefD := ⟨("_law_words", none), "_law_words", "_law_words", defArgs sWords, defBody sWords, defScope sWords, [], []⟩
def df19 : He.DefD := ⟨("_law_mixed", none), "_law_mixed", "_law_mixed", defArgs sMixed, defBody sMixed, defScope sMixed, [], []⟩
def df20 : He.DefD := ⟨("_law_integer", none), "_law_integer", "_law_integer", defArgs sInteger, defBody sInteger, defScope sInteger, [], []⟩
def df21 : He.DefD := ⟨("_law_local_step", none), "_law_local_step", "_law_local_step", defArgs sLocal, defBody sLocal, defScope sLocal, [], []⟩
def df22 : He.DefD := ⟨("_law_read_step", none), "_law_read_step", "_law_read_step", defArgs sReadS, defBody sReadS, defScope sReadS, [], []⟩
def df23 : He.DefD := ⟨("_law_program", none), "_law_program", "_law_program", defArgs sProgram, defBody sProgram, defScope sProgram, [], []⟩
def df24 : He.DefD := ⟨("_law_modules", none), "_law_modules", "_law_modules", defArgs sMods, defBody sMods, defScope sMods, [], []⟩
def df25 : He.DefD := ⟨("_law_done", none), "_law_done", "_law_done", defArgs sDone, defBody sDone, defScope sDone, [], []⟩
def df26 : He.DefD := ⟨("_law_started", none), "_law_started", "_law_started", defArgs sStarted, defBody sStarted, defScope sStarted, [], []⟩
def df27 : He.DefD := ⟨("_law_all_done", none), "_law_all_done", "_law_all_done", defArgs sAllDone, defBody sAllDone, defScope sAllDone, [], []⟩
def df28 : He.DefD := ⟨("_law_alone_right", none), "_law_alone_right", "_law_alone_right", defArgs sAlone, defBody sAlone, defScope sAlone, [], []⟩
def df29 : He.DefD := ⟨("law", none), "law", "law", defArgs sLaw, defBody sLaw, defScope sLaw, [], []⟩
def dm0 : He.DefD := ⟨("Frame", some "__init__"), "__init__", "Frame.__init__", defArgs sFrInit, defBody sFrInit, defScope sFrInit, [], []⟩
def dm1 : He.DefD := ⟨("Frame", some "is_over"), "is_over", "Frame.is_over", defArgs sIsOver, defBody sIsOver, defScope sIsOver, [], []⟩
def dm2 : He.DefD := ⟨("Frame", some "next_step"), "next_step", "Frame.next_step", defArgs sNextStep, defBody sNextStep, defScope sNextStep, [], []⟩
def dm3 : He.DefD := ⟨("Frame", some "variables"), "variables", "Frame.variables", defArgs sVariables, defBody sVariables, defScope sVariables, [], []⟩
def dm4 : He.DefD := ⟨("Frame", some "move"), "move", "Frame.move", defArgs sMove, defBody sMove, defScope sMove, [], []⟩
def dm5 : He.DefD := ⟨("Frame", some "run_plain"), "run_plain", "Frame.run_plain", defArgs sRunPlain, defBody sRunPlain, defScope sRunPlain, [], []⟩
def dm6 : He.DefD := ⟨("Frame", some "pass_step"), "pass_step", "Frame.pass_step", defArgs sPassStep, defBody sPassStep, defScope sPassStep, [], [("value", .non)]⟩
def dm7 : He.DefD := ⟨("PlainRun", some "__init__"), "__init__", "PlainRun.__init__", defArgs sPlInit, defBody sPlInit, defScope sPlInit, [], []⟩
def dm8 : He.DefD := ⟨("PlainRun", some "is_ready_after"), "is_ready_after", "PlainRun.is_ready_after", defArgs sReadyAfter, defBody sReadyAfter, defScope sReadyAfter, [], []⟩
def dm9 : He.DefD := ⟨("PlainRun", some "initialize"), "initialize", "PlainRun.initialize", defArgs sInitialize, defBody sInitialize, defScope sInitialize, [], []⟩
def dm10 : He.DefD := ⟨("PlainRun", some "value_for"), "value_for", "PlainRun.value_for", defArgs sValueFor, defBody sValueFor, defScope sValueFor, [], []⟩
def dm11 : He.DefD := ⟨("PlainRun", some "pass_request"), "pass_request", "PlainRun.pass_request", defArgs sPassReq, defBody sPassReq, defScope sPassReq, [], []⟩
def dm12 : He.DefD := ⟨("PlainRun", some "execute"), "execute", "PlainRun.execute", defArgs sExecute, defBody sExecute, defScope sExecute, [], []⟩
def dm13 : He.DefD := ⟨("PlainRun", some "execute_main"), "execute_main", "PlainRun.execute_main", defArgs sExecMain, defBody sExecMain, defScope sExecMain, [], []⟩
def dm14 : He.DefD := ⟨("PlainRun", some "rows"), "rows", "PlainRun.rows", defArgs sRowsM, defBody sRowsM, defScope sRowsM, [], []⟩
def dm15 : He.DefD := ⟨("Library", some "__init__"), "__init__", "Library.__init__", defArgs sLibInit, defBody sLibInit, defScope sLibInit, [], []⟩
def dm16 : He.DefD := ⟨("Library", some "modules"), "modules", "Library.modules", defArgs sModules, defBody sModules, defScope sModules, [], []⟩
def dm17 : He.DefD := ⟨("Library", some "has_module"), "has_module", "Library.has_module", defArgs sHasModule, defBody sHasModule, defScope sHasModule, [], []⟩
def dm18 : He.DefD := ⟨("Library", some "initializer"), "initializer", "Library.initializer", defArgs sInitializer, defBody sInitializer, defScope sInitializer, [], []⟩
def dm19 : He.DefD := ⟨("Library", some "__repr__"), "__repr__", "Library.__repr__", defArgs sLibRepr, defBody sLibRepr, defScope sLibRepr, [], []⟩
def fnL : List He.DefD := [df0, df1, df2, df3, df4, df5, df6, df7, df8, df9, df10, df11, df12, df13, df14, df15, df16, df17, df18, df19, df20, df21, df22, df23, df24, df25, df26, df27, df28, df29, dm0, dm1, dm2, dm3, dm4, dm5, dm6, dm7, dm8, dm9, dm10, dm11, dm12, dm13, dm14, dm15, dm16, dm17, dm18, dm19]
def faL : List He.Fa := [.free "isinstance", .free "str", .free "int", .free "bool", .free "list", .free "tuple", .free "dict", .free "len", .free "all", .free "zip", .free "enumerate", .free "range", .free "sorted", .free "repr", .free "abs", .free "max", .free "min", .free "divmod", .int "MOST_LETTERS" 8, .int "MOST_STEPS" 30, .int "MOST_MAINS" 8, .int "MOST_MODULES" 40, .int "MISSING" (-1), .str "LETTERS" letters, .str "READY" "ready", .str "FAILED" "failed", .str "ENDED" "ended", .glo "VARIABLES", .glo "PLAIN", .glo "FORMS", .glo "Frame", .glo "PlainRun", .glo "Library", .cls "Frame", .mkr "Frame", .noat "Frame" "own_steps", .noat "Frame" "own_index", .noat "Frame" "own_values", .noat "Frame" "own_executed", .cls "PlainRun", .mkr "PlainRun", .noat "PlainRun" "own_library", .noat "PlainRun" "own_states", .noat "PlainRun" "own_exports", .noat "PlainRun" "own_started", .cls "Library", .mkr "Library", .noat "Library" "own_programs", .glo "is_name", .glo "is_integer", .glo "is_variable", .glo "is_item", .glo "is_step", .glo "is_plain", .glo "step_modules", .glo "is_wrong", .glo "first_problem", .glo "check_program", .glo "check_mains", .glo "complete_run", .glo "plain_run", .glo "check_library", .glo "_law_pot", .glo "_law_draw", .glo "_law_choice", .glo "_law_word", .glo "_law_words", .glo "_law_mixed", .glo "_law_integer", .glo "_law_local_step", .glo "_law_read_step", .glo "_law_program", .glo "_law_modules", .glo "_law_done", .glo "_law_started", .glo "_law_all_done", .glo "_law_alone_right", .glo "law", .meth "Frame" "__init__", .meth "Frame" "is_over", .meth "Frame" "next_step", .meth "Frame" "variables", .meth "Frame" "move", .meth "Frame" "run_plain", .meth "Frame" "pass_step", .meth "PlainRun" "__init__", .meth "PlainRun" "is_ready_after", .meth "PlainRun" "initialize", .meth "PlainRun" "value_for", .meth "PlainRun" "pass_request", .meth "PlainRun" "execute", .meth "PlainRun" "execute_main", .meth "PlainRun" "rows", .meth "Library" "__init__", .meth "Library" "modules", .meth "Library" "has_module", .meth "Library" "initializer", .meth "Library" "__repr__"]
def tsL : List He.Tab := [(fun K => He.ga K "FORMS", ["set", "add", "skip", "export", "read", "need", "try", "fail"])]
theorem chain {P : Program} {w : World} {K : PySem.W.Frag} {h : Heap} {mg : Str → Option Value} (X : K.In h) (G : h.Ns mainGlobals mg) (c : He.SaysX faL fnL tsL [] more w h K) :
    mg "law" = some (.ref (He.ga K "law")) ∧ ∃ fd : FuncData, (∀ (s : Shared) (v : Value), BindsTo s fd ⟨[v], []⟩ [("_law_script", v)]) ∧ ∀ base : Heap, K.In base → base.Ns mainGlobals mg → FnG GNone P w K mg base 51 (He.ga K "law") fd ["_law_script"] (spLaw K) := by
  have cd := c.t.d
  have mo := c.more
  obtain ⟨gf0, Ef0⟩ := cd.def_ 0 (d := df0) rfl
  have f_is_name : FnF K mg "is_name" sIsName [] [] (He.ga K "is_name") gf0 := ⟨He.glo_ok X G (cd.fact 48 (f := .glo "is_name") rfl), Ef0⟩
  obtain ⟨gf1, Ef1⟩ := cd.def_ 1 (d := df1) rfl
  have f_is_integer : FnF K mg "is_integer" sIsInteger [] [] (He.ga K "is_integer") gf1 := ⟨He.glo_ok X G (cd.fact 49 (f := .glo "is_integer") rfl), Ef1⟩
  obtain ⟨gf2, Ef2⟩ := cd.def_ 2 (d := df2) rfl
  have f_is_variable : FnF K mg "is_variable" sIsVariable [] [] (He.ga K "is_variable") gf2 := ⟨He.glo_ok X G (cd.fact 50 (f := .glo "is_variable") rfl), Ef2⟩
  obtain ⟨gf3, Ef3⟩ := cd.def_ 3 (d := df3) rfl
  have f_is_item : FnF K mg "is_item" sIsItem [] [] (He.ga K "is_item") gf3 := ⟨He.glo_ok X G (cd.fact 51 (f := .glo "is_item") rfl), Ef3⟩
  obtain ⟨gf4, Ef4⟩ := cd.def_ 4 (d := df4) rfl
  have f_is_step : FnF K mg "is_step" sIsStep [] [] (He.ga K "is_step") gf4 := ⟨He.glo_ok X G (cd.fact 52 (f := .glo "is_step") rfl), Ef4⟩
  obtain ⟨gf5, Ef5⟩ := cd.def_ 5 (d := df5) rfl
  have f_is_plain : FnF K mg "is_plain" sIsPlain [] [] (He.ga K "is_plain") gf5 := ⟨He.glo_ok X G (cd.fact 53 (f := .glo "is_plain") rfl), Ef5⟩
  obtain ⟨gf6, Ef6⟩ := cd.def_ 6 (d := df6) rfl
  have f_step_modules : FnF K mg "step_modules" sStepModules [] [] (He.ga K "step_modules") gf6 := ⟨He.glo_ok X G (cd.fact 54 (f := .glo "step_modules") rfl), Ef6⟩
  obtain ⟨gf7, Ef7⟩ := cd.def_ 7 (d := df7) rfl
  have f_is_wrong : FnF K mg "is_wrong" sIsWrong [] [] (He.ga K "is_wrong") gf7 := ⟨He.glo_ok X G (cd.fact 55 (f := .glo "is_wrong") rfl), Ef7⟩
  obtain ⟨gf8, Ef8⟩ := cd.def_ 8 (d := df8) rfl
  have f_first_problem : FnF K mg "first_problem" sFirst [] [("is_main", V.bl false), ("known", V.non)] (He.ga K "first_problem") gf8 := ⟨He.glo_ok X G (cd.fact 56 (f := .glo "first_problem") rfl), Ef8⟩
  obtain ⟨gf9, Ef9⟩ := cd.def_ 9 (d := df9) rfl
  have f_check_program : FnF K mg "check_program" sCheckProgram [] [("is_main", V.bl false)] (He.ga K "check_program") gf9 := ⟨He.glo_ok X G (cd.fact 57 (f := .glo "check_program") rfl), Ef9⟩
  obtain ⟨gf10, Ef10⟩ := cd.def_ 10 (d := df10) rfl
  have f_check_mains : FnF K mg "check_mains" sCheckMains [] [] (He.ga K "check_mains") gf10 := ⟨He.glo_ok X G (cd.fact 58 (f := .glo "check_mains") rfl), Ef10⟩
  obtain ⟨gf11, Ef11⟩ := cd.def_ 11 (d := df11) rfl
  have f_complete_run : FnF K mg "complete_run" sComplete [] [] (He.ga K "complete_run") gf11 := ⟨He.glo_ok X G (cd.fact 59 (f := .glo "complete_run") rfl), Ef11⟩
  obtain ⟨gf12, Ef12⟩ := cd.def_ 12 (d := df12) rfl
  have f_plain_run : FnF K mg "plain_run" sPlainRun [] [] (He.ga K "plain_run") gf12 := ⟨He.glo_ok X G (cd.fact 60 (f := .glo "plain_run") rfl), Ef12⟩
  obtain ⟨gf13, Ef13⟩ := cd.def_ 13 (d := df13) rfl
  have f_check_library : FnF K mg "check_library" sCheckLib [] [] (He.ga K "check_library") gf13 := ⟨He.glo_ok X G (cd.fact 61 (f := .glo "check_library") rfl), Ef13⟩
  obtain ⟨gf14, Ef14⟩ := cd.def_ 14 (d := df14) rfl
  have f_law_pot : FnF K mg "_law_pot" sPot [] [] (He.ga K "_law_pot") gf14 := ⟨He.glo_ok X G (cd.fact 62 (f := .glo "_law_pot") rfl), Ef14⟩
  obtain ⟨gf15, Ef15⟩ := cd.def_ 15 (d := df15) rfl
  have f_law_draw : FnF K mg "_law_draw" sDraw [] [] (He.ga K "_law_draw") gf15 := ⟨He.glo_ok X G (cd.fact 63 (f := .glo "_law_draw") rfl), Ef15⟩
  obtain ⟨gf16, Ef16⟩ := cd.def_ 16 (d := df16) rfl
  have f_law_choice : FnF K mg "_law_choice" sChoice [] [] (He.ga K "_law_choice") gf16 := ⟨He.glo_ok X G (cd.fact 64 (f := .glo "_law_choice") rfl), Ef16⟩
  obtain ⟨gf17, Ef17⟩ := cd.def_ 17 (d := df17) rfl
  have f_law_word : FnF K mg "_law_word" sWord [] [] (He.ga K "_law_word") gf17 := ⟨He.glo_ok X G (cd.fact 65 (f := .glo "_law_word") rfl), Ef17⟩
  obtain ⟨gf18, Ef18⟩ := cd.def_ 18 (d := df18) rfl
  have f_law_words : FnF K mg "_law_words" sWords [] [] (He.ga K "_law_words") gf18 := ⟨He.glo_ok X G (cd.fact 66 (f := .glo "_law_words") rfl), Ef18⟩
  obtain ⟨gf19, Ef19⟩ := cd.def_ 19 (d := df19) rfl
  have f_law_mixed : FnF K mg "_law_mixed" sMixed [] [] (He.ga K "_law_mixed") gf19 := ⟨He.glo_ok X G (cd.fact 67 (f := .glo "_law_mixed") rfl), Ef19⟩
  obtain ⟨gf20, Ef20⟩ := cd.def_ 20 (d := df20) rfl
  have f_law_integer : FnF K mg "_law_integer" sInteger [] [] (He.ga K "_law_integer") gf20 := ⟨He.glo_ok X G (cd.fact 68 (f := .glo "_law_integer") rfl), Ef20⟩
  obtain ⟨gf21, Ef21⟩ := cd.def_ 21 (d := df21) rfl
  have f_law_local_step : FnF K mg "_law_local_step" sLocal [] [] (He.ga K "_law_local_step") gf21 := ⟨He.glo_ok X G (cd.fact 69 (f := .glo "_law_local_step") rfl), Ef21⟩
  obtain ⟨gf22, Ef22⟩ := cd.def_ 22 (d := df22) rfl
  have f_law_read_step : FnF K mg "_law_read_step" sReadS [] [] (He.ga K "_law_read_step") gf22 := ⟨He.glo_ok X G (cd.fact 70 (f := .glo "_law_read_step") rfl), Ef22⟩
  obtain ⟨gf23, Ef23⟩ := cd.def_ 23 (d := df23) rfl
  have f_law_program : FnF K mg "_law_program" sProgram [] [] (He.ga K "_law_program") gf23 := ⟨He.glo_ok X G (cd.fact 71 (f := .glo "_law_program") rfl), Ef23⟩
  obtain ⟨gf24, Ef24⟩ := cd.def_ 24 (d := df24) rfl
  have f_law_modules : FnF K mg "_law_modules" sMods [] [] (He.ga K "_law_modules") gf24 := ⟨He.glo_ok X G (cd.fact 72 (f := .glo "_law_modules") rfl), Ef24⟩
  obtain ⟨gf25, Ef25⟩ := cd.def_ 25 (d := df25) rfl
  have f_law_done : FnF K mg "_law_done" sDone [] [] (He.ga K "_law_done") gf25 := ⟨He.glo_ok X G (cd.fact 73 (f := .glo "_law_done") rfl), Ef25⟩
  obtain ⟨gf26, Ef26⟩ := cd.def_ 26 (d := df26) rfl
  have f_law_started : FnF K mg "_law_started" sStarted [] [] (He.ga K "_law_started") gf26 := ⟨He.glo_ok X G (cd.fact 74 (f := .glo "_law_started") rfl), Ef26⟩
  obtain ⟨gf27, Ef27⟩ := cd.def_ 27 (d := df27) rfl
  have f_law_all_done : FnF K mg "_law_all_done" sAllDone [] [] (He.ga K "_law_all_done") gf27 := ⟨He.glo_ok X G (cd.fact 75 (f := .glo "_law_all_done") rfl), Ef27⟩
  obtain ⟨gf28, Ef28⟩ := cd.def_ 28 (d := df28) rfl
  have f_law_alone_right : FnF K mg "_law_alone_right" sAlone [] [] (He.ga K "_law_alone_right") gf28 := ⟨He.glo_ok X G (cd.fact 76 (f := .glo "_law_alone_right") rfl), Ef28⟩
  obtain ⟨gf29, Ef29⟩ := cd.def_ 29 (d := df29) rfl
  have f_law : FnF K mg "law" sLaw [] [] (He.ga K "law") gf29 := ⟨He.glo_ok X G (cd.fact 77 (f := .glo "law") rfl), Ef29⟩
  obtain ⟨gm0, Em0⟩ := cd.def_ 30 (d := dm0) rfl
  have m_Frame_init : FnM K (He.ga K "Frame") "__init__" "Frame.__init__" sFrInit [] [] (He.ma K (He.ga K "Frame") "__init__") gm0 := ⟨He.meth_ok (cd.fact 78 (f := .meth "Frame" "__init__") rfl), Em0⟩
  obtain ⟨gm1, Em1⟩ := cd.def_ 31 (d := dm1) rfl
  have m_Frame_is_over : FnM K (He.ga K "Frame") "is_over" "Frame.is_over" sIsOver [] [] (He.ma K (He.ga K "Frame") "is_over") gm1 := ⟨He.meth_ok (cd.fact 79 (f := .meth "Frame" "is_over") rfl), Em1⟩
  obtain ⟨gm2, Em2⟩ := cd.def_ 32 (d := dm2) rfl
  have m_Frame_next_step : FnM K (He.ga K "Frame") "next_step" "Frame.next_step" sNextStep [] [] (He.ma K (He.ga K "Frame") "next_step") gm2 := ⟨He.meth_ok (cd.fact 80 (f := .meth "Frame" "next_step") rfl), Em2⟩
  obtain ⟨gm3, Em3⟩ := cd.def_ 33 (d := dm3) rfl
  have m_Frame_variables : FnM K (He.ga K "Frame") "variables" "Frame.variables" sVariables [] [] (He.ma K (He.ga K "Frame") "variables") gm3 := ⟨He.meth_ok (cd.fact 81 (f := .meth "Frame" "variables") rfl), Em3⟩
  obtain ⟨gm4, Em4⟩ := cd.def_ 34 (d := dm4) rfl
  have m_Frame_move : FnM K (He.ga K "Frame") "move" "Frame.move" sMove [] [] (He.ma K (He.ga K "Frame") "move") gm4 := ⟨He.meth_ok (cd.fact 82 (f := .meth "Frame" "move") rfl), Em4⟩
  obtain ⟨gm5, Em5⟩ := cd.def_ 35 (d := dm5) rfl
  have m_Frame_run_plain : FnM K (He.ga K "Frame") "run_plain" "Frame.run_plain" sRunPlain [] [] (He.ma K (He.ga K "Frame") "run_plain") gm5 := ⟨He.meth_ok (cd.fact 83 (f := .meth "Frame" "run_plain") rfl), Em5⟩
  obtain ⟨gm6, Em6⟩ := cd.def_ 36 (d := dm6) rfl
  have m_Frame_pass_step : FnM K (He.ga K "Frame") "pass_step" "Frame.pass_step" sPassStep [] [("value", V.non)] (He.ma K (He.ga K "Frame") "pass_step") gm6 := ⟨He.meth_ok (cd.fact 84 (f := .meth "Frame" "pass_step") rfl), Em6⟩
  obtain ⟨gm7, Em7⟩ := cd.def_ 37 (d := dm7) rfl
  have m_PlainRun_init : FnM K (He.ga K "PlainRun") "__init__" "PlainRun.__init__" sPlInit [] [] (He.ma K (He.ga K "PlainRun") "__init__") gm7 := ⟨He.meth_ok (cd.fact 85 (f := .meth "PlainRun" "__init__") rfl), Em7⟩
  obtain ⟨gm8, Em8⟩ := cd.def_ 38 (d := dm8) rfl
  have m_PlainRun_is_ready_after : FnM K (He.ga K "PlainRun") "is_ready_after" "PlainRun.is_ready_after" sReadyAfter [] [] (He.ma K (He.ga K "PlainRun") "is_ready_after") gm8 := ⟨He.meth_ok (cd.fact 86 (f := .meth "PlainRun" "is_ready_after") rfl), Em8⟩
  obtain ⟨gm9, Em9⟩ := cd.def_ 39 (d := dm9) rfl
  have m_PlainRun_initialize : FnM K (He.ga K "PlainRun") "initialize" "PlainRun.initialize" sInitialize [] [] (He.ma K (He.ga K "PlainRun") "initialize") gm9 := ⟨He.meth_ok (cd.fact 87 (f := .meth "PlainRun" "initialize") rfl), Em9⟩
  obtain ⟨gm10, Em10⟩ := cd.def_ 40 (d := dm10) rfl
  have m_PlainRun_value_for : FnM K (He.ga K "PlainRun") "value_for" "PlainRun.value_for" sValueFor [] [] (He.ma K (He.ga K "PlainRun") "value_for") gm10 := ⟨He.meth_ok (cd.fact 88 (f := .meth "PlainRun" "value_for") rfl), Em10⟩
  obtain ⟨gm11, Em11⟩ := cd.def_ 41 (d := dm11) rfl
  have m_PlainRun_pass_request : FnM K (He.ga K "PlainRun") "pass_request" "PlainRun.pass_request" sPassReq [] [] (He.ma K (He.ga K "PlainRun") "pass_request") gm11 := ⟨He.meth_ok (cd.fact 89 (f := .meth "PlainRun" "pass_request") rfl), Em11⟩
  obtain ⟨gm12, Em12⟩ := cd.def_ 42 (d := dm12) rfl
  have m_PlainRun_execute : FnM K (He.ga K "PlainRun") "execute" "PlainRun.execute" sExecute [] [] (He.ma K (He.ga K "PlainRun") "execute") gm12 := ⟨He.meth_ok (cd.fact 90 (f := .meth "PlainRun" "execute") rfl), Em12⟩
  obtain ⟨gm13, Em13⟩ := cd.def_ 43 (d := dm13) rfl
  have m_PlainRun_execute_main : FnM K (He.ga K "PlainRun") "execute_main" "PlainRun.execute_main" sExecMain [] [] (He.ma K (He.ga K "PlainRun") "execute_main") gm13 := ⟨He.meth_ok (cd.fact 91 (f := .meth "PlainRun" "execute_main") rfl), Em13⟩
  obtain ⟨gm14, Em14⟩ := cd.def_ 44 (d := dm14) rfl
  have m_PlainRun_rows : FnM K (He.ga K "PlainRun") "rows" "PlainRun.rows" sRowsM [] [] (He.ma K (He.ga K "PlainRun") "rows") gm14 := ⟨He.meth_ok (cd.fact 92 (f := .meth "PlainRun" "rows") rfl), Em14⟩
  obtain ⟨gm15, Em15⟩ := cd.def_ 45 (d := dm15) rfl
  have m_Library_init : FnM K (He.ga K "Library") "__init__" "Library.__init__" sLibInit [] [] (He.ma K (He.ga K "Library") "__init__") gm15 := ⟨He.meth_ok (cd.fact 93 (f := .meth "Library" "__init__") rfl), Em15⟩
  obtain ⟨gm16, Em16⟩ := cd.def_ 46 (d := dm16) rfl
  have m_Library_modules : FnM K (He.ga K "Library") "modules" "Library.modules" sModules [] [] (He.ma K (He.ga K "Library") "modules") gm16 := ⟨He.meth_ok (cd.fact 94 (f := .meth "Library" "modules") rfl), Em16⟩
  obtain ⟨gm17, Em17⟩ := cd.def_ 47 (d := dm17) rfl
  have m_Library_has_module : FnM K (He.ga K "Library") "has_module" "Library.has_module" sHasModule [] [] (He.ma K (He.ga K "Library") "has_module") gm17 := ⟨He.meth_ok (cd.fact 95 (f := .meth "Library" "has_module") rfl), Em17⟩
  obtain ⟨gm18, Em18⟩ := cd.def_ 48 (d := dm18) rfl
  have m_Library_initializer : FnM K (He.ga K "Library") "initializer" "Library.initializer" sInitializer [] [] (He.ma K (He.ga K "Library") "initializer") gm18 := ⟨He.meth_ok (cd.fact 96 (f := .meth "Library" "initializer") rfl), Em18⟩
  obtain ⟨gm19, Em19⟩ := cd.def_ 49 (d := dm19) rfl
  have m_Library_repr : FnM K (He.ga K "Library") "__repr__" "Library.__repr__" sLibRepr [] [] (He.ma K (He.ga K "Library") "__repr__") gm19 := ⟨He.meth_ok (cd.fact 97 (f := .meth "Library" "__repr__") rfl), Em19⟩
  have T : G0 K mg (He.ga K "VARIABLES") (He.ga K "PLAIN") := ⟨He.free_ok X G (cd.fact 0 (f := .free "isinstance") rfl), He.free_ok X G (cd.fact 1 (f := .free "str") rfl), He.free_ok X G (cd.fact 2 (f := .free "int") rfl), He.free_ok X G (cd.fact 3 (f := .free "bool") rfl), He.free_ok X G (cd.fact 4 (f := .free "list") rfl), He.free_ok X G (cd.fact 5 (f := .free "tuple") rfl), He.free_ok X G (cd.fact 6 (f := .free "dict") rfl), He.free_ok X G (cd.fact 7 (f := .free "len") rfl), He.free_ok X G (cd.fact 8 (f := .free "all") rfl), He.free_ok X G (cd.fact 9 (f := .free "zip") rfl), He.free_ok X G (cd.fact 10 (f := .free "enumerate") rfl), He.free_ok X G (cd.fact 11 (f := .free "range") rfl), He.free_ok X G (cd.fact 12 (f := .free "sorted") rfl), He.free_ok X G (cd.fact 13 (f := .free "repr") rfl), He.free_ok X G (cd.fact 14 (f := .free "abs") rfl), He.free_ok X G (cd.fact 15 (f := .free "max") rfl), He.free_ok X G (cd.fact 16 (f := .free "min") rfl), He.free_ok X G (cd.fact 17 (f := .free "divmod") rfl), He.int_ok X G (cd.fact 18 (f := .int "MOST_LETTERS" 8) rfl), He.str_ok X G (cd.fact 23 (f := .str "LETTERS" letters) rfl), He.int_ok X G (cd.fact 19 (f := .int "MOST_STEPS" 30) rfl), He.int_ok X G (cd.fact 20 (f := .int "MOST_MAINS" 8) rfl), He.int_ok X G (cd.fact 21 (f := .int "MOST_MODULES" 40) rfl), He.str_ok X G (cd.fact 24 (f := .str "READY" "ready") rfl), He.str_ok X G (cd.fact 25 (f := .str "FAILED" "failed") rfl), He.str_ok X G (cd.fact 26 (f := .str "ENDED" "ended") rfl), He.int_ok X G (cd.fact 22 (f := .int "MISSING" (-1)) rfl), He.glo_ok X G (cd.fact 27 (f := .glo "VARIABLES") rfl), tupAt_ok (He.ba mo).1, He.glo_ok X G (cd.fact 28 (f := .glo "PLAIN") rfl), tupAt_ok (He.ba (He.ba mo).2).1⟩
  have TF : GF K w mg (He.ga K "FORMS") (formAt K) := ⟨He.glo_ok X G (cd.fact 29 (f := .glo "FORMS") rfl), c.t.tab 0 (t := (fun K => He.ga K "FORMS", ["set", "add", "skip", "export", "read", "need", "try", "fail"])) rfl, more_forms mo⟩
  have GC : GFr K mg (He.ga K "Frame") := ⟨He.cls_ok (cd.fact 33 (f := .cls "Frame") rfl), He.glo_ok X G (cd.fact 30 (f := .glo "Frame") rfl), He.noat_ok (cd.fact 35 (f := .noat "Frame" "own_steps") rfl), He.noat_ok (cd.fact 36 (f := .noat "Frame" "own_index") rfl), He.noat_ok (cd.fact 37 (f := .noat "Frame" "own_values") rfl), He.noat_ok (cd.fact 38 (f := .noat "Frame" "own_executed") rfl)⟩
  have mkFrame := He.mkr_ok (cd.fact 34 (f := .mkr "Frame") rfl)
  have GP : GPl K mg (He.ga K "PlainRun") := ⟨He.cls_ok (cd.fact 39 (f := .cls "PlainRun") rfl), He.glo_ok X G (cd.fact 31 (f := .glo "PlainRun") rfl), He.noat_ok (cd.fact 41 (f := .noat "PlainRun" "own_library") rfl), He.noat_ok (cd.fact 42 (f := .noat "PlainRun" "own_states") rfl), He.noat_ok (cd.fact 43 (f := .noat "PlainRun" "own_exports") rfl), He.noat_ok (cd.fact 44 (f := .noat "PlainRun" "own_started") rfl)⟩
  have mkPlainRun := He.mkr_ok (cd.fact 40 (f := .mkr "PlainRun") rfl)
  have GL : GLib K mg (He.ga K "Library") := ⟨He.cls_ok (cd.fact 45 (f := .cls "Library") rfl), He.glo_ok X G (cd.fact 32 (f := .glo "Library") rfl), He.noat_ok (cd.fact 47 (f := .noat "Library" "own_programs") rfl)⟩
  have mkLibrary := He.mkr_ok (cd.fact 46 (f := .mkr "Library") rfl)
  have bL := FunD.bindsA (ps := ["_law_script"]) f_law.fn fun _ _ _ _ _ _ us hl => match us, hl with | [_], _ => rfl
  refine ⟨f_law.mg_, gf29, fun s v => bL s [v] rfl, fun base Xb Gb => ?_⟩
  have p_name := ok_is_name (P := P) (w := w) (base := base) f_is_name T
  have p_int := ok_is_integer (P := P) (w := w) (base := base) f_is_integer T
  have p_var := ok_is_variable (P := P) (w := w) (base := base) f_is_variable T
  have p_item := ok_is_item f_is_item p_var p_int p_name
  have p_step := ok_is_step f_is_step T TF p_item
  have p_plain := ok_is_plain f_is_plain T p_step
  have p_smods := ok_step_modules (P := P) (w := w) (base := base) f_step_modules T TF
  have p_wrong := ok_is_wrong f_is_wrong T p_step p_smods
  have q_first := fn_first f_first_problem T p_wrong
  have p_first_m := ok_first_m f_first_problem q_first
  have p_first_k := ok_first_k f_first_problem q_first
  have p_first_mk := ok_first_mk f_first_problem q_first
  have p_check := ok_check_program f_check_program p_first_m
  have p_frinit := (ok_fr_init m_Frame_init T GC p_check).pro GC.mgC mkFrame.makes mkFrame.kp
  have p_over := ok_is_over (P := P) (w := w) (base := base) m_Frame_is_over T GC
  have p_next := ok_next_step m_Frame_next_step GC p_over
  have p_vars := ok_variables (P := P) (w := w) (base := base) m_Frame_variables T GC
  have p_move := ok_move (P := P) (w := w) (base := base) m_Frame_move GC
  have p_rplain := ok_run_plain m_Frame_run_plain GC p_next p_plain p_move
  have q_pass := fn_pass_step m_Frame_pass_step GC p_next p_plain p_move p_int
  have p_pass0 := ok_pass0 m_Frame_pass_step q_pass
  have p_pass1 := ok_pass1 m_Frame_pass_step q_pass
  have p_clib := ok_check_library f_check_library T p_name p_first_k
  have p_libinit := (ok_lib_init m_Library_init T GL p_clib).pro GL.mgC mkLibrary.makes mkLibrary.kp
  have p_modules := ok_modules (P := P) (w := w) (base := base) m_Library_modules T GL
  have p_has := ok_has_module (P := P) (w := w) (base := base) m_Library_has_module T GL
  have p_initr := ok_initializer m_Library_initializer T GL p_has
  have p_plinit := (ok_pl_init (P := P) (w := w) (base := base) (CL := He.ga K "Library") m_PlainRun_init GP).pro GP.mgC mkPlainRun.makes mkPlainRun.kp
  have p_valfor := ok_value_for (P := P) (w := w) (base := base) (CL := He.ga K "Library") m_PlainRun_value_for T GP
  have p_exec := exec_all m_PlainRun_is_ready_after m_PlainRun_initialize m_PlainRun_pass_request m_PlainRun_execute T GP GC GL p_over p_next p_plain p_rplain p_vars p_pass0 p_pass1 p_valfor p_initr p_frinit 9
  have p_cmains := ok_check_mains f_check_mains T GL p_name p_first_mk p_modules
  have p_emain := ok_execute_main (k := 46) (by decide) m_PlainRun_execute_main T GP GC p_frinit p_exec p_vars
  have p_rows := ok_rows (P := P) (w := w) (base := base) (CL := He.ga K "Library") m_PlainRun_rows T GP
  have p_complete := ok_complete_run (k := 47) (by decide) f_complete_run T GP p_cmains p_plinit p_emain
  have p_run := ok_plain_run (k := 48) (by decide) f_plain_run GP p_complete p_rows
  have p_pot := ok_pot (P := P) (w := w) (base := base) f_law_pot T
  have p_draw := ok_draw (P := P) (w := w) (base := base) f_law_draw T
  have p_choice := ok_choice f_law_choice T p_draw
  have p_word := ok_word f_law_word T p_draw
  have p_words := ok_words f_law_words T p_word
  have p_mixed := ok_mixed f_law_mixed T p_draw
  have p_integer := ok_integer f_law_integer T p_draw
  have p_local := ok_local_step f_law_local_step T p_draw p_choice p_integer
  have p_read := ok_read_step f_law_read_step T p_choice
  have p_program := ok_program f_law_program T p_draw p_choice p_read p_local
  have p_mods := ok_modules_drawn f_law_modules T p_draw p_words p_mixed p_program
  have p_done := done_all (P := P) (w := w) (base := base) f_law_done f_law_started T 9
  have p_alldone := ok_all_done f_law_all_done T p_done
  have p_alone := ok_alone (k := 49) (by decide) f_law_alone_right T p_run
  have b_repr : Binds K gm19 ["self"] [] := m_Library_repr.fn.bindsN fun _ _ _ _ _ _ us hl => match us, hl with | [_], _ => rfl
  exact ok_law (k := 50) (by decide) f_law T GL p_pot p_mods p_libinit p_words p_draw p_program (p_run.mono (by decide)) (p_alldone.mono (by decide)) p_mixed (p_alone.mono (by decide))
    (fun l => ok_lib_repr l m_Library_repr T GL) b_repr m_Library_repr.meth.at_ m_Library_repr.meth.fn
end Cy

set_option Elab.async false
set_option linter.all false
set_option maxRecDepth 100000
set_option maxHeartbeats 0
/-! The top's run, and the law. -/
open PySem PySem.W PySem.Calls PyProof.Rows
namespace Cy
open PySem PySem.Spec PyProof.Rows PySem.W PySem.Calls L2
abbrev R0 : PySem.W.OpenRow := PySem.W.OpenLaw.row PySem.Challenge.rw_cycleready_k55_whole_order_of_main_progr
abbrev hkL : PySem.W.Hook := He.hookX 4 faL fnL tsL [] more
def obL (s : PySem.W.SharedT) : He.AlX := He.obsX 4 faL fnL tsL [] more (HandSHeadRun.getT s)
theorem ob_eqL (s : PySem.W.SharedT) : obL s = hkL.obs s.abs := He.obsX_eq (HandSHeadRun.getT_eq s)
def looseA : List PySem.Str := ["_wall", "__name__", "LoaderError", "InvalidProgram", "InvalidLibrary", "InvalidMains", "InvalidNumber", "UnknownModule", "WrongStep", "Cyclic", "VARIABLES", "MOST_LETTERS", "LETTERS", "is_name", "is_integer", "is_variable", "MOST_STEPS", "PLAIN", "FORMS", "is_item", "is_step", "is_plain", "step_modules", "is_wrong", "first_problem", "check_program", "Frame"]
def looseB : List PySem.Str := ["MOST_MAINS", "READY", "FAILED", "ENDED", "MISSING", "check_mains", "PlainRun", "complete_run", "plain_run", "MOST_MODULES", "check_library", "Library", "_law_pot", "_law_draw", "_law_choice", "_law_word", "_law_words", "_law_mixed", "_law_integer", "_law_local_step", "_law_read_step", "_law_program", "_law_modules", "_law_done", "_law_started", "_law_all_done", "_law_alone_right"]
def looseL : List PySem.Str := looseA ++ looseB
/-! the run's equation in two parts: what the walk's head sees, what the Hook looks at -/
theorem map_both {α β γ δ : Type _} {o : Option α} (f1 : α → β) (f2 : α → γ) (g : α → δ) {b : β} {c : γ} {d : δ} (h1 : o.map (fun s => (f1 s, f2 s)) = some (b, c)) (h2 : o.map g = some d) : o.map (fun s => (f1 s, f2 s, g s)) = some (b, c, d) := by
  cases o with
  | none => cases h1
  | some s =>
    have e1 : (f1 s, f2 s) = (b, c) := Option.some.inj h1
    have e2 : g s = d := Option.some.inj h2
    obtain ⟨e3, e4⟩ := Prod.mk.inj e1
    show some (f1 s, f2 s, g s) = _
    rw [e2, e3, e4]
noncomputable def seenL (s : PySem.W.SharedT) := HandSHeadRun.seenQ (PySem.W.view R0.prog [60]) looseL (PySem.importedModules R0.prog.main.body) (fun s => PySem.W.xlAt (PySem.W.view R0.prog [60]) [] s && PySem.W.recOk R0.toRowW.records s) s.abs
noncomputable def endL (w : World) (os : OsState) := HandSHeadRun.endF (HandSHeadRun.stepQ (HandSHeadRun.denQ HandSHeadRun.tabQ) R0.prog w) 6000 R0.prog w os
def SeenEq (w : World) : Prop := ∀ os : OsState, (endL w os).map (fun s => (HandSHeadRun.looksF R0.prog (boot_heap w.params) s.abs, seenL s)) = some (true, PySem.W.openGood (PySem.W.view R0.prog [60]) looseL)
def LookEq (w : World) : Prop := ∀ os : OsState, (endL w os).map obL = some (hkL.val w)
theorem run_of {w : World} (h1 : SeenEq w) (h2 : LookEq w) : HandSHeadRun.RunEq R0 (PySem.W.view R0.prog [60]) hkL obL 6000 looseL w := by
  intro os
  exact map_both (o := endL w os) (fun s => HandSHeadRun.looksF R0.prog (boot_heap w.params) s.abs) seenL obL (h1 os) (h2 os)
theorem seenF (w : World) : SeenEq (w.withFollow "special-get-raises" false) := by
  intro os
  kernel_rfl
theorem seenT (w : World) : SeenEq (w.withFollow "special-get-raises" true) := by
  intro os
  kernel_rfl
theorem lookF (w : World) : LookEq (w.withFollow "special-get-raises" false) := by
  intro os
  kernel_rfl
theorem lookT (w : World) : LookEq (w.withFollow "special-get-raises" true) := by
  intro os
  kernel_rfl
theorem runL (w : World) : HandSHeadRun.RunEq R0 (PySem.W.view R0.prog [60]) hkL obL 6000 looseL w := PySem.W.byRow2 "special-get-raises" (P := fun w => HandSHeadRun.RunEq R0 (PySem.W.view R0.prog [60]) hkL obL 6000 looseL w) (fun w => run_of (seenF w) (lookF w)) (fun w => run_of (seenT w) (lookT w)) w
end Cy

set_option Elab.async false
set_option linter.all false
set_option maxRecDepth 100000
set_option maxHeartbeats 0
/-! The law holds. -/
open PySem PySem.W PySem.Calls PyProof.Rows
theorem PySem.Challenge.cw_cycleready_k55_whole_order_of_main_progr_holds : PySem.Challenge.rw_cycleready_k55_whole_order_of_main_progr.Holds := by
  w_on; o_law
  refine HandSHeadRun.head_any (r := Cy.R0) (q := view Cy.R0.prog [60]) (H := Cy.hkL) (ob := Cy.obL) (M := 6000) (loose := Cy.looseL) (d := HandSHeadRun.topDef Cy.R0.prog 60) (kwd := []) Cy.ob_eqL
    (by kernel_rfl) (fun s => by kernel_rfl) Cy.runL (by kernel_rfl) (by kernel_rfl) (by kernel_rfl) (by rfl) (by first | assumption | decide +kernel) (by decide +kernel) ⟨rfl, rfl, rfl, rfl, rfl, by decide +kernel⟩ ?hw ?hc
  case hw => w_witness2
  case hc =>
    refine Cy.walk_ofG (l := PySem.Challenge.rw_cycleready_k55_whole_order_of_main_progr) (n := 63) (k := 51) (x := "_law_script") rfl (by decide) (by kernel_rfl) ⟨rfl, by decide, by decide⟩ ?F
    intro w mg fa h Y G hmg0
    obtain ⟨K, KX, c⟩ := Y
    obtain ⟨hlaw, fd, hb, hF⟩ := Cy.chain (P := (PySem.Challenge.rw_cycleready_k55_whole_order_of_main_progr).prog) KX G c
    have e : (HandSHeadRun.topDef Cy.R0.prog 60).name = ("law" : PySem.Str) := by kernel_rfl
    have hmg : mg ("law" : PySem.Str) = some (.ref fa) := by
      rw [← e]
      exact hmg0
    have ef : fa = He.ga K "law" := by
      rw [hlaw] at hmg
      cases hmg
      rfl
    subst ef
    exact ⟨K, fd, Cy.spLaw K, KX, hb, fun H a ns hl _ hS => ⟨a, ns, rfl, hS, fun _ => rfl⟩, hF⟩
