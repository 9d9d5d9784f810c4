import PyProof.Rows.All
import Wide.All
import OpenK.AllK
import Wide.FinOn
import KE.KStateDown
import HandS.Base
import HandS.Call
import HandS.List
import HandS.Comp
import HandS.Ends
import HandS.More
import HandS.Words
import HandS.Defaults
import HandS.Property
import HandS.Head0
import HandS.Head1
import HandS.Head2
import HandS.HeadEnd
import HandS.HeadHook1
import HandS.HeadHook2
import HandS.Dict
import HandS.Iter
import HandS.Text
import HandS.WordsList
import HandS.WordsDict
import HandS.Walk
import HandS.Deep
import HandS.IsInst
import HandS.MakeKw
import HandS.MakeKwOnly
import HandS.NoneIn
import HandS.Conv
import HandS.TupAny
import HandS.TupLen
import HandS.Wide
import HandS.Flow
import HandS.Codes
import HandS.Star
import KE.GoesEnum
import PyProof.AssignAttr
import KE.KRevSl
import HandS.DictComp
import KE.SortData
import KE.KDictWalk
import KE.KDictKeyed
import HandS.TupSets
import HandS.SetTxt0
import KE.KeyNested
import PySem.Challenge.RW_slipstold_k38_whole_far_rounds
set_option linter.all false
/-! FarMath: the plain law. A reader's reading of a token, of a row, of a row repeated; the closed forms of both programs; rings. -/
namespace Fz
inductive FAct (α : Type) where
  | skip
  | put (x : α)
  | take (x : α)
  | jump (s : α)
  | pass (ts : List α) (s : α)
  deriving DecidableEq
structure FCfg (α : Type) where
  st : α
  wt : List α
  q : Nat
  deriving DecidableEq
structure FRd (α : Type) where
  mv : α → α → Option α
  tb : α → α → Option (FAct α)
  hold : Nat
section
variable {α : Type} [DecidableEq α]

/-- the state at which the same token is looked at again -/
def again (R : FRd α) (t s : α) : Option α :=
  match R.mv s t with
  | some _ => none
  | none =>
    match R.tb s t with
    | some (.put x) => R.mv s x
    | some (.jump s') => some s'
    | some (.pass ts s') => if t ∈ ts then some s' else none
    | _ => none
/-- where it is not looked at again: state, waiting, errors -/
def lastStep (R : FRd α) (t s : α) : α × List α × Nat :=
  match R.mv s t with
  | some s' => (s', [], 0)
  | none =>
    match R.tb s t with
    | some (.take x) => ((R.mv s x).getD s, [], 1)
    | some (.pass ts s') => (s', ts, 1)
    | _ => (s, [], 1)
def look (R : FRd α) (t : α) : Nat → α → α × List α × Nat
  | 0, s => (s, [], 0)
  | n + 1, s =>
    match again R t s with
    | some s' => ((look R t n s').1, (look R t n s').2.1, (look R t n s').2.2 + 1)
    | none => lastStep R t s
def ends (R : FRd α) (t : α) : Nat → α → Bool
  | 0, _ => false
  | n + 1, s =>
    match again R t s with
    | some s' => ends R t n s'
    | none => true
/-- i times on -/
def chs (R : FRd α) (t s : α) : Nat → Option α
  | 0 => some s
  | i + 1 => (chs R t s i).bind (again R t)
theorem chs_succ (R : FRd α) (t s : α) : ∀ i, chs R t s (i + 1) = (again R t s).bind fun s' => chs R t s' i
  | 0 => by
    show again R t s = (again R t s).bind some
    cases again R t s <;> rfl
  | i + 1 => by
    show (chs R t s (i + 1)).bind (again R t) = (again R t s).bind fun s' => (chs R t s' i).bind (again R t)
    rw [chs_succ R t s i]
    cases again R t s <;> rfl
theorem ends_chs (R : FRd α) (t : α) : ∀ n s, ends R t n s = (chs R t s n).isNone
  | 0, s => rfl
  | n + 1, s => by
    rw [chs_succ]
    unfold ends
    cases h : again R t s with
    | none => rfl
    | some s' => exact ends_chs R t n s'
theorem ends_mono (R : FRd α) (t : α) : ∀ n s, ends R t n s = true → ends R t (n + 1) s = true
  | 0, s, h => by cases h
  | n + 1, s, h => by
    unfold ends at h ⊢
    cases e : again R t s with
    | none => rfl
    | some s' =>
      rw [e] at h
      exact ends_mono R t n s' h
theorem ends_step {R : FRd α} {t s s' : α} {n : Nat} (h : ends R t (n + 1) s = true) (e : again R t s = some s') : ends R t n s' = true := by
  unfold ends at h
  rw [e] at h
  exact h
theorem ends_step' {R : FRd α} {t s s' : α} {n : Nat} (h : ends R t n s = true) (e : again R t s = some s') : ends R t n s' = true := by
  cases n with
  | zero => cases h
  | succ n => exact ends_mono R t n s' (ends_step h e)
/-- how often it is looked at again -/
def dep (R : FRd α) (t : α) : Nat → α → Nat
  | 0, _ => 0
  | n + 1, s =>
    match again R t s with
    | some s' => dep R t n s' + 1
    | none => 0
theorem dep_more (R : FRd α) (t : α) : ∀ n s, ends R t n s = true → dep R t (n + 1) s = dep R t n s
  | 0, s, h => by cases h
  | n + 1, s, h => by
    unfold dep
    cases e : again R t s with
    | none => rfl
    | some s' => exact congrArg (· + 1) (dep_more R t n s' (ends_step h e))
theorem dep_step {R : FRd α} {t s s' : α} {n : Nat} (h : ends R t n s = true) (e : again R t s = some s') : dep R t n s = dep R t n s' + 1 := by
  cases n with
  | zero => cases h
  | succ n =>
    have h1 := ends_step h e
    rw [dep_more R t n s' h1]
    show (match again R t s with | some s' => dep R t n s' + 1 | none => 0) = _
    rw [e]
/-- looking again at one pair less -/
theorem ends_less {R R' : FRd α} {t : α} (h : ∀ s, again R' t s = none ∨ again R' t s = again R t s) : ∀ n s, ends R t n s = true → ends R' t n s = true
  | 0, s, e => by cases e
  | n + 1, s, e => by
    unfold ends at e ⊢
    rcases h s with q | q
    · rw [q]
    · rw [q]
      cases a : again R t s with
      | none => rfl
      | some s' =>
        rw [a] at e
        exact ends_less h n s' e
/-- .. which is set to end at once ends at once -/
theorem ends_none {R : FRd α} {t s : α} {n : Nat} (h : again R t s = none) : ends R t (n + 1) s = true := by
  unfold ends
  rw [h]
/-- more than enough turns -/
theorem look_more (R : FRd α) (t : α) : ∀ n s, ends R t n s = true → look R t (n + 1) s = look R t n s
  | 0, s, h => by cases h
  | n + 1, s, h => by
    show (match again R t s with | some s' => ((look R t (n + 1) s').1, (look R t (n + 1) s').2.1, (look R t (n + 1) s').2.2 + 1) | none => lastStep R t s) = (match again R t s with | some s' => ((look R t n s').1, (look R t n s').2.1, (look R t n s').2.2 + 1) | none => lastStep R t s)
    cases e : again R t s with
    | none => rfl
    | some s' =>
      have q := look_more R t n s' (ends_step h e)
      show ((look R t (n + 1) s').1, (look R t (n + 1) s').2.1, (look R t (n + 1) s').2.2 + 1) = _
      rw [q]
theorem look_some {R : FRd α} {t s s' : α} {n : Nat} (h : ends R t n s = true) (e : again R t s = some s') : look R t n s = ((look R t n s').1, (look R t n s').2.1, (look R t n s').2.2 + 1) := by
  cases n with
  | zero => cases h
  | succ n =>
    rw [look_more R t n s' (ends_step h e)]
    show (match again R t s with | some s' => ((look R t n s').1, (look R t n s').2.1, (look R t n s').2.2 + 1) | none => lastStep R t s) = _
    rw [e]
theorem look_none {R : FRd α} {t s : α} {n : Nat} (h : ends R t n s = true) (e : again R t s = none) : look R t n s = lastStep R t s := by
  cases n with
  | zero => cases h
  | succ n =>
    show (match again R t s with | some s' => ((look R t n s').1, (look R t n s').2.1, (look R t n s').2.2 + 1) | none => lastStep R t s) = _
    rw [e]
/-- i errors so far, at s -/
theorem look_chs {R : FRd α} {t s0 : α} {n : Nat} (h : ends R t n s0 = true) : ∀ (i : Nat) (s : α), chs R t s0 i = some s →
    ends R t n s = true ∧ look R t n s0 = ((look R t n s).1, (look R t n s).2.1, (look R t n s).2.2 + i)
  | 0, s, e => by
    cases e
    exact ⟨h, rfl⟩
  | i + 1, s, e => by
    have e' : (chs R t s0 i).bind (again R t) = some s := e
    cases q : chs R t s0 i with
    | none =>
      rw [q] at e'
      cases e'
    | some s1 =>
      rw [q] at e'
      have e1 : again R t s1 = some s := e'
      obtain ⟨h1, l1⟩ := look_chs h i s1 q
      refine ⟨ends_step' h1 e1, ?_⟩
      rw [l1, look_some h1 e1]
      refine congrArg (Prod.mk _) (congrArg (Prod.mk _) ?_)
      show (look R t n s).2.2 + 1 + i = (look R t n s).2.2 + (i + 1)
      omega

/-! ### a token, a row, a row repeated -/
def step (R : FRd α) (c : FCfg α) (t : α) : FCfg α × Nat × Nat :=
  if c.wt ≠ [] ∧ t ∉ c.wt then (⟨c.st, c.wt, c.q - 1⟩, 0, 1)
  else if 0 < (look R t 8 c.st).2.2 ∧ c.q = 0 then (⟨(look R t 8 c.st).1, (look R t 8 c.st).2.1, R.hold⟩, 1, (look R t 8 c.st).2.2)
  else (⟨(look R t 8 c.st).1, (look R t 8 c.st).2.1, c.q - 1⟩, 0, (look R t 8 c.st).2.2)
abbrev FP (α : Type) := FCfg α × Nat × Nat
def ov1 (R : FRd α) (p : FP α) (t : α) : FP α := ((step R p.1 t).1, p.2.1 + (step R p.1 t).2.1, p.2.2 + (step R p.1 t).2.2)
def ov (R : FRd α) (p : FP α) (row : List α) : FP α := row.foldl (ov1 R) p
def blk (R : FRd α) (c : FCfg α) (row : List α) : FP α := ov R (c, 0, 0) row
theorem ov_add (R : FRd α) (row : List α) : ∀ (c : FCfg α) (a b : Nat), ov R (c, a, b) row = ((blk R c row).1, a + (blk R c row).2.1, b + (blk R c row).2.2) := by
  induction row with
  | nil => intro c a b; rfl
  | cons t r ih =>
    intro c a b
    have h1 : ov R (c, a, b) (t :: r) = ov R ((step R c t).1, a + (step R c t).2.1, b + (step R c t).2.2) r := rfl
    have h2 : blk R c (t :: r) = ov R ((step R c t).1, 0 + (step R c t).2.1, 0 + (step R c t).2.2) r := rfl
    rw [h1, h2, ih, ih]
    refine congrArg (Prod.mk _) ?_
    show (_, _) = (_, _)
    rw [Nat.zero_add, Nat.zero_add, Nat.add_assoc, Nat.add_assoc]
theorem ov_take (R : FRd α) (p : FP α) {row : List α} {i : Nat} {t : α} (h : row[i]? = some t) : ov R p (row.take (i + 1)) = ov1 R (ov R p (row.take i)) t := by
  unfold ov
  rw [List.take_succ, h, List.foldl_append]
  rfl
def it {β : Type} (f : β → β) (c : β) : Nat → β
  | 0 => c
  | n + 1 => f (it f c n)
def psum (f : Nat → Nat) : Nat → Nat
  | 0 => 0
  | n + 1 => psum f n + f n
theorem it_add {β : Type} (f : β → β) (c : β) (k : Nat) : ∀ n, it f c (k + n) = it f (it f c k) n
  | 0 => rfl
  | n + 1 => congrArg f (it_add f c k n)
theorem psum_add (f : Nat → Nat) (k : Nat) : ∀ n, psum f (k + n) = psum f k + psum (fun i => f (k + i)) n
  | 0 => rfl
  | n + 1 => by
    show psum f (k + n) + f (k + n) = psum f k + (psum (fun i => f (k + i)) n + f (k + n))
    rw [psum_add f k n, Nat.add_assoc]
theorem psum_congr {f g : Nat → Nat} : ∀ n, (∀ i, i < n → f i = g i) → psum f n = psum g n
  | 0, _ => rfl
  | n + 1, h => by
    show psum f n + f n = psum g n + g n
    rw [psum_congr n fun i hi => h i (Nat.lt_succ_of_lt hi), h n (Nat.lt_succ_self n)]
theorem psum_round {g : Nat → Nat} {w : Nat} (h : ∀ i, g (w + i) = g i) (r : Nat) : ∀ q, psum g (q * w + r) = q * psum g w + psum g r
  | 0 => by simp
  | q + 1 => by
    have e : (q + 1) * w + r = w + (q * w + r) := by rw [Nat.succ_mul]; omega
    rw [e, psum_add, psum_congr (g := g) _ fun i _ => h i, psum_round h r q, Nat.succ_mul]
    omega
theorem it_round {β : Type} {f : β → β} {c : β} {w : Nat} (h : it f c w = c) (r : Nat) : ∀ q, it f c (q * w + r) = it f c r
  | 0 => by simp
  | q + 1 => by
    have e : (q + 1) * w + r = w + (q * w + r) := by rw [Nat.succ_mul]; omega
    rw [e, it_add, h]
    exact it_round h r q
/-- the round from k on, of the width w -/
structure Round {β : Type} (f : β → β) (c : β) (k w : Nat) : Prop where
  pos : 0 < w
  back : it f c (k + w) = it f c k
section
variable {β : Type} {f : β → β} {c : β} {k w n : Nat}
theorem Round.at_ (R : Round f c k w) (h : k ≤ n) : it f c n = it f c (k + (n - k) % w) := by
  have h1 : it f (it f c k) w = it f c k := by rw [← it_add]; exact R.back
  have h2 : n = k + ((n - k) / w * w + (n - k) % w) := by
    have q := Nat.div_add_mod (n - k) w
    rw [Nat.mul_comm] at q
    omega
  conv => lhs; rw [h2]
  rw [it_add, it_round h1, ← it_add]
theorem Round.sum (R : Round f c k w) (T : β → Nat) (h : k ≤ n) :
    psum (fun i => T (it f c i)) n = psum (fun i => T (it f c i)) k + (n - k) / w * psum (fun i => T (it f c (k + i))) w + psum (fun i => T (it f c (k + i))) ((n - k) % w) := by
  have h1 : it f (it f c k) w = it f c k := by rw [← it_add]; exact R.back
  have h2 : n = k + ((n - k) / w * w + (n - k) % w) := by
    have q := Nat.div_add_mod (n - k) w
    rw [Nat.mul_comm] at q
    omega
  conv => lhs; rw [h2]
  rw [psum_add, psum_round (fun i => ?_), Nat.add_assoc]
  show T (it f c (k + (w + i))) = T (it f c (k + i))
  rw [it_add f c k (w + i), it_add f (it f c k) w i, h1, ← it_add]
end
/-- the configurations behind i blocks -/
def cfs (R : FRd α) (v : List α) (c : FCfg α) (i : Nat) : FCfg α := it (fun c => (blk R c v).1) c i
def tls (R : FRd α) (v : List α) (c : FCfg α) (i : Nat) : Nat := (blk R (cfs R v c i) v).2.1
def mns (R : FRd α) (v : List α) (c : FCfg α) (i : Nat) : Nat := (blk R (cfs R v c i) v).2.2
/-- n times the row -/
def rep (R : FRd α) (v : List α) (p : FP α) (n : Nat) : FP α := (cfs R v p.1 n, p.2.1 + psum (tls R v p.1) n, p.2.2 + psum (mns R v p.1) n)
theorem rep_zero (R : FRd α) (v : List α) (p : FP α) : rep R v p 0 = p := rfl
theorem rep_succ (R : FRd α) (v : List α) (p : FP α) (n : Nat) : rep R v p (n + 1) = ov R (rep R v p n) v := by
  show _ = ov R (cfs R v p.1 n, p.2.1 + psum (tls R v p.1) n, p.2.2 + psum (mns R v p.1) n) v
  rw [ov_add]
  show (cfs R v p.1 (n + 1), p.2.1 + (psum (tls R v p.1) n + tls R v p.1 n), p.2.2 + (psum (mns R v p.1) n + mns R v p.1 n)) = _
  rw [← Nat.add_assoc, ← Nat.add_assoc]
  rfl
/-- the law's reckoning, behind L turns the configuration of the k-th again -/
theorem rep_law {R : FRd α} {v : List α} {p : FP α} {k L n : Nat} (hk : k < L) (hL : (rep R v p L).1 = (rep R v p k).1) (hn : k ≤ n) :
    rep R v p n = ((rep R v p (k + (n - k) % (L - k))).1, (rep R v p (k + (n - k) % (L - k))).2.1 + (n - k) / (L - k) * ((rep R v p L).2.1 - (rep R v p k).2.1),
      (rep R v p (k + (n - k) % (L - k))).2.2 + (n - k) / (L - k) * ((rep R v p L).2.2 - (rep R v p k).2.2)) := by
  have e : k + (L - k) = L := by omega
  have Z : Round (fun c => (blk R c v).1) p.1 k (L - k) := ⟨by omega, by rw [e]; exact hL⟩
  have s1 := Z.sum (fun c => (blk R c v).2.1) hn
  have s2 := Z.sum (fun c => (blk R c v).2.2) hn
  have d1 := psum_add (tls R v p.1) k (L - k)
  have d2 := psum_add (mns R v p.1) k (L - k)
  have r1 := psum_add (tls R v p.1) k ((n - k) % (L - k))
  have r2 := psum_add (mns R v p.1) k ((n - k) % (L - k))
  rw [e] at d1 d2
  have t1 : psum (tls R v p.1) n = psum (tls R v p.1) k + (n - k) / (L - k) * psum (fun i => tls R v p.1 (k + i)) (L - k) + psum (fun i => tls R v p.1 (k + i)) ((n - k) % (L - k)) := s1
  have t2 : psum (mns R v p.1) n = psum (mns R v p.1) k + (n - k) / (L - k) * psum (fun i => mns R v p.1 (k + i)) (L - k) + psum (fun i => mns R v p.1 (k + i)) ((n - k) % (L - k)) := s2
  have g1 : (rep R v p L).2.1 - (rep R v p k).2.1 = psum (fun i => tls R v p.1 (k + i)) (L - k) := by
    show p.2.1 + psum (tls R v p.1) L - (p.2.1 + psum (tls R v p.1) k) = _
    omega
  have g2 : (rep R v p L).2.2 - (rep R v p k).2.2 = psum (fun i => mns R v p.1 (k + i)) (L - k) := by
    show p.2.2 + psum (mns R v p.1) L - (p.2.2 + psum (mns R v p.1) k) = _
    omega
  rw [g1, g2]
  have c1 : cfs R v p.1 n = cfs R v p.1 (k + (n - k) % (L - k)) := Z.at_ hn
  show (cfs R v p.1 n, p.2.1 + psum (tls R v p.1) n, p.2.2 + psum (mns R v p.1) n) = (cfs R v p.1 (k + (n - k) % (L - k)), p.2.1 + psum (tls R v p.1) (k + (n - k) % (L - k)) + _, p.2.2 + psum (mns R v p.1) (k + (n - k) % (L - k)) + _)
  rw [c1, t1, t2, r1, r2]
  generalize (n - k) / (L - k) * psum (fun i => tls R v p.1 (k + i)) (L - k) = A
  generalize (n - k) / (L - k) * psum (fun i => mns R v p.1 (k + i)) (L - k) = B
  refine congrArg (Prod.mk _) ?_
  rw [Prod.mk.injEq]
  constructor <;> omega
/-! ### lists that hold the same -/
theorem perm_of_sub {β : Type} : ∀ (l m : List β), l.Nodup → (∀ x ∈ l, x ∈ m) → m.length ≤ l.length → m.Perm l
  | [], m, _, _, hl => by
    have e : m = [] := List.eq_nil_of_length_eq_zero (Nat.le_zero.mp hl)
    rw [e]
  | x :: l, m, nd, hs, hl => by
    obtain ⟨a, b, e⟩ := List.append_of_mem (hs x List.mem_cons_self)
    obtain ⟨hx, nd'⟩ := List.nodup_cons.mp nd
    have p : m.Perm (x :: (a ++ b)) := by rw [e]; exact List.perm_middle
    refine p.trans (List.Perm.cons x (perm_of_sub l (a ++ b) nd' (fun y hy => ?_) ?_))
    · rcases List.mem_cons.mp (p.mem_iff.mp (hs y (List.mem_cons_of_mem _ hy))) with z | z
      · exact absurd (z ▸ hy) hx
      · exact z
    · have q := p.length_eq
      rw [List.length_cons] at q hl
      omega
theorem nodup_le {β : Type} : ∀ (l m : List β), l.Nodup → (∀ x ∈ l, x ∈ m) → l.length ≤ m.length
  | [], m, _, _ => Nat.zero_le _
  | x :: l, m, nd, hs => by
    obtain ⟨a, b, e⟩ := List.append_of_mem (hs x List.mem_cons_self)
    obtain ⟨hx, nd'⟩ := List.nodup_cons.mp nd
    have p : m.Perm (x :: (a ++ b)) := by rw [e]; exact List.perm_middle
    have q := nodup_le l (a ++ b) nd' fun y hy => by
      rcases List.mem_cons.mp (p.mem_iff.mp (hs y (List.mem_cons_of_mem _ hy))) with z | z
      · exact absurd (z ▸ hy) hx
      · exact z
    have r := p.length_eq
    rw [List.length_cons] at r ⊢
    omega
end
end Fz

set_option linter.all false
/-! FarMath2: a reader that is in order; what an action does; the configurations it can meet -/
namespace Fz
section
variable {α : Type} [DecidableEq α]
structure RdOk (R : FRd α) (S T : List α) (W : List (List α)) : Prop where
  tot : ∀ s ∈ S, ∀ t ∈ T, R.mv s t = none → ∃ a, R.tb s t = some a
  mvS : ∀ s t s', R.mv s t = some s' → s' ∈ S
  put : ∀ s t x, R.tb s t = some (.put x) → ∃ s', R.mv s x = some s'
  tak : ∀ s t x, R.tb s t = some (.take x) → ∃ s', R.mv s x = some s'
  jmp : ∀ s t s', R.tb s t = some (.jump s') → s' ∈ S
  pas : ∀ s t ts s', R.tb s t = some (.pass ts s') → s' ∈ S ∧ ts ∈ W
  nil : [] ∈ W
  wl : ∀ ts ∈ W, ts.length ≤ 4
  fin : ∀ s ∈ S, ∀ t ∈ T, ends R t 8 s = true
  hld : R.hold ≤ 3
/-- an action's state, whether it waits, whether it looks again -/
def actD (R : FRd α) (s t : α) : FAct α → α × Bool × Bool
  | .skip => (s, false, false)
  | .put x => ((R.mv s x).getD s, false, true)
  | .take x => ((R.mv s x).getD s, false, false)
  | .jump s' => (s', false, true)
  | .pass ts s' => if t ∈ ts then (s', false, true) else (s', true, false)
def tsOf : FAct α → List α
  | .pass ts _ => ts
  | _ => []
variable {R : FRd α} {S T : List α} {W : List (List α)}
theorem actD_again (ok : RdOk R S T W) {s t : α} {a : FAct α} (h : R.mv s t = none) (ha : R.tb s t = some a) (hg : (actD R s t a).2.2 = true) : again R t s = some (actD R s t a).1 := by
  unfold again
  rw [h, ha]
  cases a with
  | skip => cases hg
  | put x =>
    obtain ⟨s', e⟩ := ok.put _ _ _ ha
    show R.mv s x = some ((R.mv s x).getD s)
    rw [e] <;> rfl
  | take x => cases hg
  | jump s' => rfl
  | pass ts s' =>
    by_cases ht : t ∈ ts
    · show (if t ∈ ts then some s' else none) = some (if t ∈ ts then (s', false, true) else (s', true, false)).1
      rw [if_pos ht, if_pos ht]
    · have hg' : (if t ∈ ts then (s', false, true) else (s', true, false)).2.2 = true := hg
      rw [if_neg ht] at hg'
      cases hg'
theorem actD_last {s t : α} {a : FAct α} (h : R.mv s t = none) (ha : R.tb s t = some a) (hg : (actD R s t a).2.2 = false) : again R t s = none ∧ lastStep R t s = ((actD R s t a).1, (if (actD R s t a).2.1 = true then tsOf a else []), 1) := by
  unfold again lastStep
  rw [h, ha]
  cases a with
  | skip => exact ⟨rfl, rfl⟩
  | put x => cases hg
  | take x => exact ⟨rfl, rfl⟩
  | jump s' => cases hg
  | pass ts s' =>
    by_cases ht : t ∈ ts
    · have hg' : (if t ∈ ts then (s', false, true) else (s', true, false)).2.2 = false := hg
      rw [if_pos ht] at hg'
      cases hg'
    · show (if t ∈ ts then some s' else none) = none ∧ (s', ts, 1) = ((if t ∈ ts then (s', false, true) else (s', true, false)).1, (if (if t ∈ ts then (s', false, true) else (s', true, false)).2.1 = true then ts else []), 1)
      rw [if_neg ht, if_neg ht]
      exact ⟨rfl, rfl⟩
theorem again_move {s t s' : α} (h : R.mv s t = some s') : again R t s = none ∧ lastStep R t s = (s', [], 0) := by
  unfold again lastStep
  rw [h]
  exact ⟨rfl, rfl⟩
theorem again_in (ok : RdOk R S T W) {s t s' : α} (h : again R t s = some s') : s' ∈ S := by
  unfold again at h
  split at h
  · cases h
  · split at h
    · exact ok.mvS _ _ _ h
    · rename_i e
      cases h
      exact ok.jmp _ _ _ e
    · rename_i e
      split at h
      · cases h
        exact (ok.pas _ _ _ _ e).1
      · cases h
    · cases h
theorem last_in (ok : RdOk R S T W) {s t : α} (hs : s ∈ S) : (lastStep R t s).1 ∈ S ∧ (lastStep R t s).2.1 ∈ W := by
  unfold lastStep
  split
  · rename_i e
    exact ⟨ok.mvS _ _ _ e, ok.nil⟩
  · split
    · rename_i x e
      refine ⟨?_, ok.nil⟩
      obtain ⟨s', e2⟩ := ok.tak _ _ _ e
      show (R.mv s x).getD s ∈ S
      rw [e2]
      exact ok.mvS _ _ _ e2
    · rename_i e
      exact ok.pas _ _ _ _ e
    · exact ⟨hs, ok.nil⟩
theorem look_in (ok : RdOk R S T W) {t : α} : ∀ n s, s ∈ S → (look R t n s).1 ∈ S ∧ (look R t n s).2.1 ∈ W
  | 0, s, hs => ⟨hs, ok.nil⟩
  | n + 1, s, hs => by
    unfold look
    split
    · rename_i e
      exact look_in ok n _ (again_in ok e)
    · exact last_in ok hs
theorem look_le (R : FRd α) (t : α) : ∀ n s, (look R t n s).2.2 ≤ n
  | 0, s => Nat.le_refl _
  | n + 1, s => by
    unfold look
    split
    · exact Nat.succ_le_succ (look_le R t n _)
    · unfold lastStep
      split
      · exact Nat.zero_le _
      · split <;> exact Nat.succ_le_succ (Nat.zero_le n)
/-- a configuration that it can meet -/
structure CfIn (S : List α) (W : List (List α)) (c : FCfg α) : Prop where
  st : c.st ∈ S
  wt : c.wt ∈ W
  q : c.q ≤ 3
theorem step_in (ok : RdOk R S T W) {c : FCfg α} {t : α} (h : CfIn S W c) : CfIn S W (step R c t).1 := by
  obtain ⟨h1, h2, h3⟩ := h
  obtain ⟨l1, l2⟩ := look_in ok (t := t) 8 c.st h1
  unfold step
  split
  · exact ⟨h1, h2, Nat.le_trans (Nat.sub_le _ _) h3⟩
  · split
    · exact ⟨l1, l2, ok.hld⟩
    · exact ⟨l1, l2, Nat.le_trans (Nat.sub_le _ _) h3⟩
theorem step_le (R : FRd α) (c : FCfg α) (t : α) : (step R c t).2.1 ≤ 1 ∧ (step R c t).2.2 ≤ 8 := by
  unfold step
  split
  · exact ⟨Nat.zero_le _, (by decide : 1 ≤ 8)⟩
  · split
    · exact ⟨Nat.le_refl _, look_le R t 8 _⟩
    · exact ⟨Nat.zero_le _, look_le R t 8 _⟩
theorem ov_in (ok : RdOk R S T W) : ∀ (row : List α) (p : FP α), CfIn S W p.1 → CfIn S W (ov R p row).1
  | [], p, h => h
  | t :: row, p, h => ov_in ok row (ov1 R p t) (step_in ok h)
theorem cfs_in (ok : RdOk R S T W) (v : List α) (c : FCfg α) (h : CfIn S W c) : ∀ i, CfIn S W (cfs R v c i)
  | 0 => h
  | i + 1 => ov_in ok v _ (cfs_in ok v c h i)
def univ (S : List α) (W : List (List α)) : List (FCfg α) := S.flatMap fun s => W.flatMap fun w => (List.range 4).map fun q => ⟨s, w, q⟩
theorem in_univ {c : FCfg α} (h : CfIn S W c) : c ∈ univ S W := by
  obtain ⟨s, w, q⟩ := c
  exact List.mem_flatMap.mpr ⟨s, h.st, List.mem_flatMap.mpr ⟨w, h.wt, List.mem_map.mpr ⟨q, List.mem_range.mpr (Nat.lt_succ_of_le h.q), rfl⟩⟩⟩
theorem len_flatMap {β γ : Type} (g : β → List γ) (n : Nat) : ∀ l : List β, (∀ x ∈ l, (g x).length = n) → (l.flatMap g).length = l.length * n
  | [], _ => by simp
  | x :: l, h => by
    rw [List.flatMap_cons, List.length_append, h x List.mem_cons_self, len_flatMap g n l fun y hy => h y (List.mem_cons_of_mem _ hy), List.length_cons, Nat.succ_mul]
    omega
theorem univ_len (S : List α) (W : List (List α)) : (univ S W).length = S.length * (W.length * 4) := by
  unfold univ
  refine len_flatMap _ _ S fun s _ => ?_
  refine len_flatMap _ _ W fun w _ => ?_
  rw [List.length_map, List.length_range]
/-- so many different ones at most -/
theorem cfs_few (ok : RdOk R S T W) (v : List α) (c : FCfg α) (h : CfIn S W c) (hS : S.length ≤ 6) (hW : W.length ≤ 25) {n : Nat} (hn : ((List.range n).map (cfs R v c)).Nodup) : n ≤ 600 := by
  have z := nodup_le _ (univ S W) hn fun x hx => by
    obtain ⟨i, _, rfl⟩ := List.mem_map.mp hx
    exact in_univ (cfs_in ok v c h i)
  rw [List.length_map, List.length_range, univ_len] at z
  have z2 : S.length * (W.length * 4) ≤ 6 * (25 * 4) := Nat.mul_le_mul hS (Nat.mul_le_mul hW (Nat.le_refl _))
  omega
end
end Fz

set_option linter.all false
/-! FarMath3: Course.total is the sum over all turns -/
namespace Fz
def totalD (ns : List Nat) (n k : Nat) : Nat := if n ≤ ns.length then (ns.take n).sum else (ns.take k).sum + (n - k) / (ns.length - k) * (ns.drop k).sum + ((ns.drop k).take ((n - k) % (ns.length - k))).sum
theorem sum_range (g : Nat → Nat) : ∀ n, ((List.range n).map g).sum = psum g n
  | 0 => rfl
  | n + 1 => by
    rw [List.range_succ, List.map_append, List.sum_append, sum_range g n]
    show psum g n + (g n + 0) = psum g n + g n
    rw [Nat.add_zero]
theorem take_range (g : Nat → Nat) {n L : Nat} (h : n ≤ L) : ((List.range L).map g).take n = (List.range n).map g := by
  rw [← List.map_take, List.take_range, Nat.min_eq_left h]
theorem drop_range (g : Nat → Nat) (k L : Nat) : ((List.range L).map g).drop k = (List.range (L - k)).map fun i => g (k + i) := by
  apply List.ext_getElem?
  intro i
  rw [List.getElem?_drop, List.getElem?_map, List.getElem?_map]
  by_cases h : k + i < L
  · rw [List.getElem?_range h, List.getElem?_range (by omega)]
    rfl
  · rw [List.getElem?_eq_none (by rw [List.length_range]; omega), List.getElem?_eq_none (by rw [List.length_range]; omega)]
    rfl
theorem total_eq {β : Type} {f : β → β} {c : β} {k L n : Nat} (T : β → Nat) (hk : k < L) (hb : it f c L = it f c k) : totalD ((List.range L).map fun i => T (it f c i)) n k = psum (fun i => T (it f c i)) n := by
  unfold totalD
  rw [List.length_map, List.length_range]
  by_cases h : n ≤ L
  · rw [if_pos h, take_range _ h, sum_range]
  · rw [if_neg h]
    have Z : Round f c k (L - k) := ⟨by omega, by rw [show k + (L - k) = L by omega]; exact hb⟩
    rw [Z.sum T (show k ≤ n by omega), take_range _ (Nat.le_of_lt hk), sum_range, drop_range, sum_range, take_range _ (Nat.le_of_lt (Nat.mod_lt _ (by omega))), sum_range]
theorem fold_at {β : Type} {f : β → β} {c : β} {k L n : Nat} (hk : k < L) (hb : it f c L = it f c k) : it f c (if n < L then n else k + (n - k) % (L - k)) = it f c n := by
  by_cases h : n < L
  · rw [if_pos h]
  · rw [if_neg h]
    have Z : Round f c k (L - k) := ⟨by omega, by rw [show k + (L - k) = L by omega]; exact hb⟩
    exact (Z.at_ (show k ≤ n by omega)).symm
theorem sum_le (B : Nat) : ∀ ns : List Nat, (∀ x ∈ ns, x ≤ B) → ns.sum ≤ ns.length * B
  | [], _ => Nat.zero_le _
  | x :: ns, h => by
    have := sum_le B ns fun y hy => h y (List.mem_cons_of_mem _ hy)
    have := h x List.mem_cons_self
    rw [List.sum_cons, List.length_cons, Nat.succ_mul]
    omega
theorem blk_le {α : Type} [DecidableEq α] (R : FRd α) : ∀ (row : List α) (p : FP α), (ov R p row).2.1 ≤ p.2.1 + row.length ∧ (ov R p row).2.2 ≤ p.2.2 + 8 * row.length
  | [], p => ⟨Nat.le_refl _, Nat.le_refl _⟩
  | t :: row, p => by
    obtain ⟨h1, h2⟩ := blk_le R row (ov1 R p t)
    obtain ⟨s1, s2⟩ := step_le R p.1 t
    have e1 : (ov1 R p t).2.1 = p.2.1 + (step R p.1 t).2.1 := rfl
    have e2 : (ov1 R p t).2.2 = p.2.2 + (step R p.1 t).2.2 := rfl
    have e : ov R p (t :: row) = ov R (ov1 R p t) row := rfl
    rw [e, List.length_cons]
    omega
end Fz

set_option Elab.async false
set_option linter.all false
set_option maxRecDepth 100000
set_option maxHeartbeats 4000000

namespace Far
open PySem PySem.Spec PyProof.Rows L2
def top (i : Nat) : Stmt := PySem.Challenge.pw_slipstold_k38_whole_far_rounds.main.body.getD i (.Pass ⟨0, 0, 0, 0⟩)
abbrev s_is_integer : Stmt := top 9
abbrev s_is_items : Stmt := top 10
abbrev s_is_name : Stmt := top 11
abbrev s_are_names : Stmt := top 12
abbrev s_is_within : Stmt := top 13
abbrev s_are_moves : Stmt := top 16
abbrev s_leading : Stmt := top 17
abbrev s_Machine_init : Stmt := inClass (top 18) 0
abbrev s_Machine_start : Stmt := inClass (top 18) 5
abbrev s_Machine_getitem : Stmt := inClass (top 18) 6
abbrev s_bad_place : Stmt := top 19
abbrev s_first : Stmt := top 23
abbrev s_act : Stmt := top 24
abbrev s_work : Stmt := top 25
abbrev s_take : Stmt := top 26
abbrev s_finish : Stmt := top 27
abbrev s_need_far : Stmt := top 31
abbrev s_pass_over : Stmt := top 32
abbrev s_Course_init : Stmt := inClass (top 33) 0
abbrev s_Course_folded : Stmt := inClass (top 33) 1
abbrev s_Course_total : Stmt := inClass (top 33) 2
abbrev s_Course_counts : Stmt := inClass (top 33) 3
abbrev s_Course_many_told : Stmt := inClass (top 33) 4
abbrev s_course : Stmt := top 34
abbrev s_told_far : Stmt := top 35
abbrev s_mends_far : Stmt := top 36
abbrev s_arrive_far : Stmt := top 37
abbrev s_told_action : Stmt := top 39
abbrev s_blank_table : Stmt := top 40
abbrev s_told_table : Stmt := top 41
abbrev s_looks_at : Stmt := top 42
abbrev s_rings : Stmt := top 43
abbrev s_Reader_init : Stmt := inClass (top 44) 0
abbrev s_Reader_machine : Stmt := inClass (top 44) 1
abbrev s_Reader_hold : Stmt := inClass (top 44) 2
abbrev s_law_purse : Stmt := top 46
abbrev s_law_draw : Stmt := top 47
abbrev s_law_name : Stmt := top 48
abbrev s_law_names : Stmt := top 49
abbrev s_law_reached : Stmt := top 50
abbrev s_law_parts : Stmt := top 51
abbrev s_law_states : Stmt := top 52
abbrev s_law_action : Stmt := top 53
abbrev s_law_again : Stmt := top 54
abbrev s_law_rings : Stmt := top 55
abbrev s_law_wild : Stmt := top 56
abbrev s_law_table : Stmt := top 57
abbrev s_law_copy : Stmt := top 58
abbrev s_law_row : Stmt := top 60
abbrev s_law_reader : Stmt := top 61
abbrev s_law_far : Stmt := top 62
abbrev s_law_take : Stmt := top 63
abbrev s_law_same : Stmt := top 64
abbrev s_law_over : Stmt := top 65
abbrev s_law_turns : Stmt := top 66
abbrev s_law : Stmt := top 67

/-! ### the hook: facts by names, and where each def stands -/
/-- the getter of the property f of the class at C -/
def gAd (K : PySem.W.Frag) (C : Addr) (f : Str) : Addr := match PySem.W.recIn K (He.ma K C f) "property" with
  | some (.ref g :: _) => g
  | _ => 0
structure FDef where
  ad : PySem.W.Frag → Addr
  name : Str
  qual : Str
  params : Arguments
  body : List Stmt
  scope : Scope
  kwd : List (Str × He.Dv) := []
def fnA (K : PySem.W.Frag) (a : Addr) : He.FnW := match K.lookup a with
  | some ⟨_, _, .func fd, _⟩ => some (fd.name, fd.qualname, fd.params, fd.body, fd.scope, fd.globals, fd.closure, fd.builtins)
  | _ => none
def FDef.val (d : FDef) : He.FnW := some (d.name, d.qual, d.params, .stmts d.body, d.scope, mainGlobals, [], builtinsNs)
def FDef.kws (K : PySem.W.Frag) (d : FDef) : List (Str × V) := d.kwd.map fun q => (q.1, q.2.v K)
def FDef.ok (K : PySem.W.Frag) (d : FDef) : Bool := PySem.W.keepIn K (.ref (d.ad K)) && (match K.lookup (d.ad K) with
  | some ⟨_, _, .func fd, _⟩ => PySem.W.codeIn K fd.code d.qual && (He.dflB K fd.defaults [] && He.kwdB K fd.kwdefaults (d.kws K))
  | _ => false)
theorem FDef.funD {K : PySem.W.Frag} {d : FDef} (e : fnA K (d.ad K) = d.val) (c : d.ok K = true) : ∃ fd, FunD K d.name d.qual d.params d.body d.scope [] (d.kws K) (d.ad K) fd := by
  obtain ⟨kp, c2⟩ := He.ba c
  unfold fnA at e
  generalize d.ad K = a at *
  cases q : K.lookup a with
  | none => rw [q] at c2; cases c2
  | some o =>
    obtain ⟨oc, od, dt, osl⟩ := o
    rw [q] at c2 e
    cases dt with
    | func fd =>
      obtain ⟨n1, n2, n3, n4, n5, n6, n7, n8, n9, n10, n11, n12, n13, n14, n15⟩ := fd
      have e2 : (some (n1, n2, n3, n4, n5, n6, n7, n15) : He.FnW) = some (d.name, d.qual, d.params, .stmts d.body, d.scope, mainGlobals, [], builtinsNs) := e
      simp only [Option.some.injEq, Prod.mk.injEq] at e2
      obtain ⟨h1, h2, h3, h4, h5, h6, h7, h8⟩ := e2
      subst h1 h2 h3 h4 h5 h6 h7 h8
      obtain ⟨k1, k2⟩ := He.ba (show (PySem.W.codeIn K n13 d.qual && (He.dflB K n8 [] && He.kwdB K n9 (d.kws K))) = true from c2)
      obtain ⟨k3, k4⟩ := He.ba k2
      exact ⟨_, ⟨oc, od, n8, n9, n10, n11, n12, n13, n14, osl, rfl, q, k1, He.dflB_ok k3, He.kwdB_ok k4⟩, kp⟩
    | _ => cases c2
def propB (K : PySem.W.Frag) (C f : Str) : Bool :=
  He.eqO (PySem.W.findIn K (.ref (He.ga K C)) f) (some (some (.ref (He.ma K (He.ga K C) f)))) &&
  (He.eqO (PySem.W.specialIn K (.ref (He.ma K (He.ga K C) f)) "__get__") (some (some (.builtin "property.__get__"))) &&
  (decide (PySem.W.takesIn K (.ref (He.ma K (He.ga K C) f)) = some true) && (match PySem.W.recIn K (He.ma K (He.ga K C) f) "property" with
    | some (.ref g :: _) => decide (g = gAd K (He.ga K C) f)
    | _ => false)))
theorem propB_ok {K : PySem.W.Frag} {C f : Str} (h : propB K C f = true) : PropOf K (He.ga K C) f (He.ma K (He.ga K C) f) (gAd K (He.ga K C) f) := by
  obtain ⟨h1, h⟩ := He.ba h
  obtain ⟨h2, h⟩ := He.ba h
  obtain ⟨h3, h4⟩ := He.ba h
  refine ⟨He.eqO_ok h1, He.eqO_ok h2, of_decide_eq_true h3, ?_⟩
  cases e : PySem.W.recIn K (He.ma K (He.ga K C) f) "property" with
  | none => rw [e] at h4; cases h4
  | some l =>
    cases l with
    | nil => rw [e] at h4; cases h4
    | cons v r =>
      cases v with
      | ref g =>
        rw [e] at h4
        have e5 : g = gAd K (He.ga K C) f := of_decide_eq_true h4
        exact ⟨r, by rw [e5]⟩
      | _ => rw [e] at h4; cases h4
abbrev AlF : Type := Bool × List He.FnW
def obsF (fa : List He.Fa) (ex : PySem.W.Frag → Bool) (fn : List FDef) (K : PySem.W.Frag) : AlF := ((fa.all fun f => f.ok K) && (ex K && fn.all fun d => d.ok K), fn.map fun d => fnA K (d.ad K))
def valF (fn : List FDef) : AlF := (true, fn.map FDef.val)
def obsFG (n : Nat) (fa : List He.Fa) (ex : PySem.W.Frag → Bool) (fn : List FDef) (g : Addr → Option Obj) : AlF := obsF fa ex fn (He.frG g (mainGlobals :: List.range' 11 n))
def hookF (n : Nat) (fa : List He.Fa) (ex : PySem.W.Frag → Bool) (fn : List FDef) : PySem.W.Hook where
  α := AlF
  obs := fun s => obsFG n fa ex fn s.heap.get?
  val := fun _ => valF fn
  says := fun _ h => ∃ K : PySem.W.Frag, K.In h ∧ obsF fa ex fn K = valF fn
  of := fun _ _ e => ⟨_, He.frG_in, e⟩
  keeps := fun _ _ _ ⟨K, hK, c⟩ k => ⟨K, PySem.W.Frag.In.keeps hK k, c⟩
theorem obsFG_eq {n : Nat} {fa : List He.Fa} {ex : PySem.W.Frag → Bool} {fn : List FDef} {g : Addr → Option Obj} {s : Shared} (h : ∀ a, g a = s.heap.get? a) : obsFG n fa ex fn g = (hookF n fa ex fn).obs s := by
  have e : g = s.heap.get? := funext h
  rw [e] <;> rfl
section
variable {fa : List He.Fa} {ex : PySem.W.Frag → Bool} {fn : List FDef} {K : PySem.W.Frag}
theorem says_fact (c : obsF fa ex fn K = valF fn) (i : Nat) {f : He.Fa} (h : fa[i]? = some f := by rfl) : f.ok K = true := by
  have c1 := (He.ba (show ((fa.all fun f => f.ok K) && (ex K && fn.all fun d => d.ok K)) = true from congrArg (fun z : AlF => z.1) c)).1
  exact List.all_eq_true.mp c1 f (List.mem_of_getElem? h)
theorem says_ex (c : obsF fa ex fn K = valF fn) : ex K = true :=
  (He.ba (He.ba (show ((fa.all fun f => f.ok K) && (ex K && fn.all fun d => d.ok K)) = true from congrArg (fun z : AlF => z.1) c)).2).1
theorem says_def (c : obsF fa ex fn K = valF fn) (i : Nat) {d : FDef} (h : fn[i]? = some d := by rfl) : ∃ fd, FunD K d.name d.qual d.params d.body d.scope [] (d.kws K) (d.ad K) fd := by
  have c2 := (He.ba (He.ba (show ((fa.all fun f => f.ok K) && (ex K && fn.all fun d => d.ok K)) = true from congrArg (fun z : AlF => z.1) c)).2).2
  have e : fn.map (fun d => fnA K (d.ad K)) = fn.map FDef.val := congrArg (fun z : AlF => z.2) c
  have e2 : (fn.map fun d => fnA K (d.ad K))[i]? = (fn.map FDef.val)[i]? := by rw [e]
  rw [List.getElem?_map, List.getElem?_map, h] at e2
  exact FDef.funD (Option.some.inj e2) (List.all_eq_true.mp c2 d (List.mem_of_getElem? h))
end

def fas : List He.Fa := [.glo "is_integer",
  .glo "is_items",
  .glo "is_name",
  .glo "are_names",
  .glo "is_within",
  .glo "are_moves",
  .glo "leading",
  .glo "bad_place",
  .glo "first",
  .glo "act",
  .glo "work",
  .glo "take",
  .glo "finish",
  .glo "need_far",
  .glo "pass_over",
  .glo "course",
  .glo "told_far",
  .glo "mends_far",
  .glo "arrive_far",
  .glo "told_action",
  .glo "blank_table",
  .glo "told_table",
  .glo "looks_at",
  .glo "rings",
  .glo "_law_purse",
  .glo "_law_draw",
  .glo "_law_name",
  .glo "_law_names",
  .glo "_law_reached",
  .glo "_law_parts",
  .glo "_law_states",
  .glo "_law_action",
  .glo "_law_again",
  .glo "_law_rings",
  .glo "_law_wild",
  .glo "_law_table",
  .glo "_law_copy",
  .glo "_law_row",
  .glo "_law_reader",
  .glo "_law_far",
  .glo "_law_take",
  .glo "_law_same",
  .glo "_law_over",
  .glo "_law_turns",
  .glo "law",
  .glo "Machine",
  .cls "Machine",
  .mkr "Machine",
  .noat "Machine" "alphabet",
  .noat "Machine" "origin",
  .noat "Machine" "edges",
  .noat "Machine" "ending",
  .noat "Machine" "places",
  .glo "Course",
  .cls "Course",
  .mkr "Course",
  .noat "Course" "shift",
  .noat "Course" "width",
  .noat "Course" "turns",
  .noat "Course" "extent",
  .noat "Course" "head",
  .noat "Course" "head_mends",
  .noat "Course" "begins",
  .noat "Course" "blocks",
  .noat "Course" "fixes",
  .noat "Course" "back",
  .noat "Course" "goal",
  .noat "Course" "tail",
  .noat "Course" "tail_mends",
  .noat "Course" "closing",
  .glo "Reader",
  .cls "Reader",
  .mkr "Reader",
  .noat "Reader" "engine",
  .noat "Reader" "actions",
  .noat "Reader" "span",
  .noat "Reader" "passes",
  .meth "Machine" "__getitem__",
  .meth "Course" "folded",
  .meth "Course" "total",
  .meth "Course" "counts",
  .meth "Course" "many_told",
  .free "isinstance",
  .free "len",
  .free "enumerate",
  .free "sorted",
  .free "list",
  .free "range",
  .free "set",
  .free "tuple",
  .free "int",
  .free "max",
  .free "min",
  .free "sum",
  .free "abs",
  .free "divmod",
  .free "str",
  .free "dict",
  .free "bool",
  .free "all",
  .int "MOST_TOKENS" 2000,
  .int "MOST_TURNS" 1000000000000000000000000000000,
  .int "MOST_PART" 200,
  .str "LETTERS" "abcdefghijklmnopqrstuvwxyz",
  .glo "MENDS"]
def exs (K : PySem.W.Frag) : Bool := propB K "Machine" "start" && (propB K "Reader" "machine" && (propB K "Reader" "hold" && (He.tupB K "MENDS" [.str "over", .str "skip", .str "put", .str "take", .str "jump", .str "pass"] && PySem.W.noSeq K (He.ga K "Machine"))))
def fns : List FDef := [⟨fun K => He.ga K "is_integer", "is_integer", "is_integer", defArgs s_is_integer, defBody s_is_integer, defScope s_is_integer, []⟩,
  ⟨fun K => He.ga K "is_items", "is_items", "is_items", defArgs s_is_items, defBody s_is_items, defScope s_is_items, []⟩,
  ⟨fun K => He.ga K "is_name", "is_name", "is_name", defArgs s_is_name, defBody s_is_name, defScope s_is_name, []⟩,
  ⟨fun K => He.ga K "are_names", "are_names", "are_names", defArgs s_are_names, defBody s_are_names, defScope s_are_names, []⟩,
  ⟨fun K => He.ga K "is_within", "is_within", "is_within", defArgs s_is_within, defBody s_is_within, defScope s_is_within, []⟩,
  ⟨fun K => He.ga K "are_moves", "are_moves", "are_moves", defArgs s_are_moves, defBody s_are_moves, defScope s_are_moves, []⟩,
  ⟨fun K => He.ga K "leading", "leading", "leading", defArgs s_leading, defBody s_leading, defScope s_leading, []⟩,
  ⟨fun K => He.ma K (He.ga K "Machine") "__init__", "__init__", "Machine.__init__", defArgs s_Machine_init, defBody s_Machine_init, defScope s_Machine_init, []⟩,
  ⟨fun K => gAd K (He.ga K "Machine") "start", "start", "Machine.start", defArgs s_Machine_start, defBody s_Machine_start, defScope s_Machine_start, []⟩,
  ⟨fun K => He.ma K (He.ga K "Machine") "__getitem__", "__getitem__", "Machine.__getitem__", defArgs s_Machine_getitem, defBody s_Machine_getitem, defScope s_Machine_getitem, []⟩,
  ⟨fun K => He.ga K "bad_place", "bad_place", "bad_place", defArgs s_bad_place, defBody s_bad_place, defScope s_bad_place, []⟩,
  ⟨fun K => He.ga K "first", "first", "first", defArgs s_first, defBody s_first, defScope s_first, []⟩,
  ⟨fun K => He.ga K "act", "act", "act", defArgs s_act, defBody s_act, defScope s_act, []⟩,
  ⟨fun K => He.ga K "work", "work", "work", defArgs s_work, defBody s_work, defScope s_work, []⟩,
  ⟨fun K => He.ga K "take", "take", "take", defArgs s_take, defBody s_take, defScope s_take, []⟩,
  ⟨fun K => He.ga K "finish", "finish", "finish", defArgs s_finish, defBody s_finish, defScope s_finish, []⟩,
  ⟨fun K => He.ga K "need_far", "need_far", "need_far", defArgs s_need_far, defBody s_need_far, defScope s_need_far, []⟩,
  ⟨fun K => He.ga K "pass_over", "pass_over", "pass_over", defArgs s_pass_over, defBody s_pass_over, defScope s_pass_over, []⟩,
  ⟨fun K => He.ma K (He.ga K "Course") "__init__", "__init__", "Course.__init__", defArgs s_Course_init, defBody s_Course_init, defScope s_Course_init, []⟩,
  ⟨fun K => He.ma K (He.ga K "Course") "folded", "folded", "Course.folded", defArgs s_Course_folded, defBody s_Course_folded, defScope s_Course_folded, []⟩,
  ⟨fun K => He.ma K (He.ga K "Course") "total", "total", "Course.total", defArgs s_Course_total, defBody s_Course_total, defScope s_Course_total, []⟩,
  ⟨fun K => He.ma K (He.ga K "Course") "counts", "counts", "Course.counts", defArgs s_Course_counts, defBody s_Course_counts, defScope s_Course_counts, []⟩,
  ⟨fun K => He.ma K (He.ga K "Course") "many_told", "many_told", "Course.many_told", defArgs s_Course_many_told, defBody s_Course_many_told, defScope s_Course_many_told, []⟩,
  ⟨fun K => He.ga K "course", "course", "course", defArgs s_course, defBody s_course, defScope s_course, []⟩,
  ⟨fun K => He.ga K "told_far", "told_far", "told_far", defArgs s_told_far, defBody s_told_far, defScope s_told_far, []⟩,
  ⟨fun K => He.ga K "mends_far", "mends_far", "mends_far", defArgs s_mends_far, defBody s_mends_far, defScope s_mends_far, []⟩,
  ⟨fun K => He.ga K "arrive_far", "arrive_far", "arrive_far", defArgs s_arrive_far, defBody s_arrive_far, defScope s_arrive_far, []⟩,
  ⟨fun K => He.ga K "told_action", "told_action", "told_action", defArgs s_told_action, defBody s_told_action, defScope s_told_action, []⟩,
  ⟨fun K => He.ga K "blank_table", "blank_table", "blank_table", defArgs s_blank_table, defBody s_blank_table, defScope s_blank_table, []⟩,
  ⟨fun K => He.ga K "told_table", "told_table", "told_table", defArgs s_told_table, defBody s_told_table, defScope s_told_table, []⟩,
  ⟨fun K => He.ga K "looks_at", "looks_at", "looks_at", defArgs s_looks_at, defBody s_looks_at, defScope s_looks_at, []⟩,
  ⟨fun K => He.ga K "rings", "rings", "rings", defArgs s_rings, defBody s_rings, defScope s_rings, []⟩,
  ⟨fun K => He.ma K (He.ga K "Reader") "__init__", "__init__", "Reader.__init__", defArgs s_Reader_init, defBody s_Reader_init, defScope s_Reader_init, [("hold", .int 0)]⟩,
  ⟨fun K => gAd K (He.ga K "Reader") "machine", "machine", "Reader.machine", defArgs s_Reader_machine, defBody s_Reader_machine, defScope s_Reader_machine, []⟩,
  ⟨fun K => gAd K (He.ga K "Reader") "hold", "hold", "Reader.hold", defArgs s_Reader_hold, defBody s_Reader_hold, defScope s_Reader_hold, []⟩,
  ⟨fun K => He.ga K "_law_purse", "_law_purse", "_law_purse", defArgs s_law_purse, defBody s_law_purse, defScope s_law_purse, []⟩,
  ⟨fun K => He.ga K "_law_draw", "_law_draw", "_law_draw", defArgs s_law_draw, defBody s_law_draw, defScope s_law_draw, []⟩,
  ⟨fun K => He.ga K "_law_name", "_law_name", "_law_name", defArgs s_law_name, defBody s_law_name, defScope s_law_name, []⟩,
  ⟨fun K => He.ga K "_law_names", "_law_names", "_law_names", defArgs s_law_names, defBody s_law_names, defScope s_law_names, []⟩,
  ⟨fun K => He.ga K "_law_reached", "_law_reached", "_law_reached", defArgs s_law_reached, defBody s_law_reached, defScope s_law_reached, []⟩,
  ⟨fun K => He.ga K "_law_parts", "_law_parts", "_law_parts", defArgs s_law_parts, defBody s_law_parts, defScope s_law_parts, []⟩,
  ⟨fun K => He.ga K "_law_states", "_law_states", "_law_states", defArgs s_law_states, defBody s_law_states, defScope s_law_states, []⟩,
  ⟨fun K => He.ga K "_law_action", "_law_action", "_law_action", defArgs s_law_action, defBody s_law_action, defScope s_law_action, []⟩,
  ⟨fun K => He.ga K "_law_again", "_law_again", "_law_again", defArgs s_law_again, defBody s_law_again, defScope s_law_again, []⟩,
  ⟨fun K => He.ga K "_law_rings", "_law_rings", "_law_rings", defArgs s_law_rings, defBody s_law_rings, defScope s_law_rings, []⟩,
  ⟨fun K => He.ga K "_law_wild", "_law_wild", "_law_wild", defArgs s_law_wild, defBody s_law_wild, defScope s_law_wild, []⟩,
  ⟨fun K => He.ga K "_law_table", "_law_table", "_law_table", defArgs s_law_table, defBody s_law_table, defScope s_law_table, []⟩,
  ⟨fun K => He.ga K "_law_copy", "_law_copy", "_law_copy", defArgs s_law_copy, defBody s_law_copy, defScope s_law_copy, []⟩,
  ⟨fun K => He.ga K "_law_row", "_law_row", "_law_row", defArgs s_law_row, defBody s_law_row, defScope s_law_row, []⟩,
  ⟨fun K => He.ga K "_law_reader", "_law_reader", "_law_reader", defArgs s_law_reader, defBody s_law_reader, defScope s_law_reader, []⟩,
  ⟨fun K => He.ga K "_law_far", "_law_far", "_law_far", defArgs s_law_far, defBody s_law_far, defScope s_law_far, []⟩,
  ⟨fun K => He.ga K "_law_take", "_law_take", "_law_take", defArgs s_law_take, defBody s_law_take, defScope s_law_take, []⟩,
  ⟨fun K => He.ga K "_law_same", "_law_same", "_law_same", defArgs s_law_same, defBody s_law_same, defScope s_law_same, []⟩,
  ⟨fun K => He.ga K "_law_over", "_law_over", "_law_over", defArgs s_law_over, defBody s_law_over, defScope s_law_over, []⟩,
  ⟨fun K => He.ga K "_law_turns", "_law_turns", "_law_turns", defArgs s_law_turns, defBody s_law_turns, defScope s_law_turns, []⟩,
  ⟨fun K => He.ga K "law", "law", "law", defArgs s_law, defBody s_law, defScope s_law, []⟩]
/-- what the walk asks of the top -/
structure Txt (K : PySem.W.Frag) (mg : Str → Option Value) : Prop where
  g_is_integer : mg "is_integer" = some (.ref (He.ga K "is_integer"))
  g_is_items : mg "is_items" = some (.ref (He.ga K "is_items"))
  g_is_name : mg "is_name" = some (.ref (He.ga K "is_name"))
  g_are_names : mg "are_names" = some (.ref (He.ga K "are_names"))
  g_is_within : mg "is_within" = some (.ref (He.ga K "is_within"))
  g_are_moves : mg "are_moves" = some (.ref (He.ga K "are_moves"))
  g_leading : mg "leading" = some (.ref (He.ga K "leading"))
  g_bad_place : mg "bad_place" = some (.ref (He.ga K "bad_place"))
  g_first : mg "first" = some (.ref (He.ga K "first"))
  g_act : mg "act" = some (.ref (He.ga K "act"))
  g_work : mg "work" = some (.ref (He.ga K "work"))
  g_take : mg "take" = some (.ref (He.ga K "take"))
  g_finish : mg "finish" = some (.ref (He.ga K "finish"))
  g_need_far : mg "need_far" = some (.ref (He.ga K "need_far"))
  g_pass_over : mg "pass_over" = some (.ref (He.ga K "pass_over"))
  g_course : mg "course" = some (.ref (He.ga K "course"))
  g_told_far : mg "told_far" = some (.ref (He.ga K "told_far"))
  g_mends_far : mg "mends_far" = some (.ref (He.ga K "mends_far"))
  g_arrive_far : mg "arrive_far" = some (.ref (He.ga K "arrive_far"))
  g_told_action : mg "told_action" = some (.ref (He.ga K "told_action"))
  g_blank_table : mg "blank_table" = some (.ref (He.ga K "blank_table"))
  g_told_table : mg "told_table" = some (.ref (He.ga K "told_table"))
  g_looks_at : mg "looks_at" = some (.ref (He.ga K "looks_at"))
  g_rings : mg "rings" = some (.ref (He.ga K "rings"))
  g_law_purse : mg "_law_purse" = some (.ref (He.ga K "_law_purse"))
  g_law_draw : mg "_law_draw" = some (.ref (He.ga K "_law_draw"))
  g_law_name : mg "_law_name" = some (.ref (He.ga K "_law_name"))
  g_law_names : mg "_law_names" = some (.ref (He.ga K "_law_names"))
  g_law_reached : mg "_law_reached" = some (.ref (He.ga K "_law_reached"))
  g_law_parts : mg "_law_parts" = some (.ref (He.ga K "_law_parts"))
  g_law_states : mg "_law_states" = some (.ref (He.ga K "_law_states"))
  g_law_action : mg "_law_action" = some (.ref (He.ga K "_law_action"))
  g_law_again : mg "_law_again" = some (.ref (He.ga K "_law_again"))
  g_law_rings : mg "_law_rings" = some (.ref (He.ga K "_law_rings"))
  g_law_wild : mg "_law_wild" = some (.ref (He.ga K "_law_wild"))
  g_law_table : mg "_law_table" = some (.ref (He.ga K "_law_table"))
  g_law_copy : mg "_law_copy" = some (.ref (He.ga K "_law_copy"))
  g_law_row : mg "_law_row" = some (.ref (He.ga K "_law_row"))
  g_law_reader : mg "_law_reader" = some (.ref (He.ga K "_law_reader"))
  g_law_far : mg "_law_far" = some (.ref (He.ga K "_law_far"))
  g_law_take : mg "_law_take" = some (.ref (He.ga K "_law_take"))
  g_law_same : mg "_law_same" = some (.ref (He.ga K "_law_same"))
  g_law_over : mg "_law_over" = some (.ref (He.ga K "_law_over"))
  g_law_turns : mg "_law_turns" = some (.ref (He.ga K "_law_turns"))
  g_law : mg "law" = some (.ref (He.ga K "law"))
  g_Machine : mg "Machine" = some (.ref (He.ga K "Machine"))
  cl_Machine : Cls K (He.ga K "Machine")
  mk_Machine : Mk K (He.ga K "Machine") (He.ma K (He.ga K "Machine") "__init__")
  n_Machine_alphabet : NoAttr K (He.ga K "Machine") "alphabet"
  n_Machine_origin : NoAttr K (He.ga K "Machine") "origin"
  n_Machine_edges : NoAttr K (He.ga K "Machine") "edges"
  n_Machine_ending : NoAttr K (He.ga K "Machine") "ending"
  n_Machine_places : NoAttr K (He.ga K "Machine") "places"
  g_Course : mg "Course" = some (.ref (He.ga K "Course"))
  cl_Course : Cls K (He.ga K "Course")
  mk_Course : Mk K (He.ga K "Course") (He.ma K (He.ga K "Course") "__init__")
  n_Course_shift : NoAttr K (He.ga K "Course") "shift"
  n_Course_width : NoAttr K (He.ga K "Course") "width"
  n_Course_turns : NoAttr K (He.ga K "Course") "turns"
  n_Course_extent : NoAttr K (He.ga K "Course") "extent"
  n_Course_head : NoAttr K (He.ga K "Course") "head"
  n_Course_head_mends : NoAttr K (He.ga K "Course") "head_mends"
  n_Course_begins : NoAttr K (He.ga K "Course") "begins"
  n_Course_blocks : NoAttr K (He.ga K "Course") "blocks"
  n_Course_fixes : NoAttr K (He.ga K "Course") "fixes"
  n_Course_back : NoAttr K (He.ga K "Course") "back"
  n_Course_goal : NoAttr K (He.ga K "Course") "goal"
  n_Course_tail : NoAttr K (He.ga K "Course") "tail"
  n_Course_tail_mends : NoAttr K (He.ga K "Course") "tail_mends"
  n_Course_closing : NoAttr K (He.ga K "Course") "closing"
  g_Reader : mg "Reader" = some (.ref (He.ga K "Reader"))
  cl_Reader : Cls K (He.ga K "Reader")
  mk_Reader : Mk K (He.ga K "Reader") (He.ma K (He.ga K "Reader") "__init__")
  n_Reader_engine : NoAttr K (He.ga K "Reader") "engine"
  n_Reader_actions : NoAttr K (He.ga K "Reader") "actions"
  n_Reader_span : NoAttr K (He.ga K "Reader") "span"
  n_Reader_passes : NoAttr K (He.ga K "Reader") "passes"
  m_Machine_getitem : Meth K (He.ga K "Machine") "__getitem__" (He.ma K (He.ga K "Machine") "__getitem__")
  m_Course_folded : Meth K (He.ga K "Course") "folded" (He.ma K (He.ga K "Course") "folded")
  m_Course_total : Meth K (He.ga K "Course") "total" (He.ma K (He.ga K "Course") "total")
  m_Course_counts : Meth K (He.ga K "Course") "counts" (He.ma K (He.ga K "Course") "counts")
  m_Course_many_told : Meth K (He.ga K "Course") "many_told" (He.ma K (He.ga K "Course") "many_told")
  b_isinstance : mg "isinstance" = none
  b_len : mg "len" = none
  b_enumerate : mg "enumerate" = none
  b_sorted : mg "sorted" = none
  b_list : mg "list" = none
  b_range : mg "range" = none
  b_set : mg "set" = none
  b_tuple : mg "tuple" = none
  b_int : mg "int" = none
  b_max : mg "max" = none
  b_min : mg "min" = none
  b_sum : mg "sum" = none
  b_abs : mg "abs" = none
  b_divmod : mg "divmod" = none
  b_str : mg "str" = none
  b_dict : mg "dict" = none
  b_bool : mg "bool" = none
  b_all : mg "all" = none
  i_MOST_TOKENS : ∃ t, mg "MOST_TOKENS" = some (.int 2000 t)
  i_MOST_TURNS : ∃ t, mg "MOST_TURNS" = some (.int 1000000000000000000000000000000 t)
  i_MOST_PART : ∃ t, mg "MOST_PART" = some (.int 200 t)
  s_LETTERS : ∃ t, mg "LETTERS" = some (.str "abcdefghijklmnopqrstuvwxyz" t)
  g_MENDS : mg "MENDS" = some (.ref (He.ga K "MENDS"))
  p_start : PropOf K (He.ga K "Machine") "start" (He.ma K (He.ga K "Machine") "start") (gAd K (He.ga K "Machine") "start")
  p_machine : PropOf K (He.ga K "Reader") "machine" (He.ma K (He.ga K "Reader") "machine") (gAd K (He.ga K "Reader") "machine")
  p_hold : PropOf K (He.ga K "Reader") "hold" (He.ma K (He.ga K "Reader") "hold") (gAd K (He.ga K "Reader") "hold")
  t_MENDS : ∀ H : Hp, SqT K H (He.ga K "MENDS") [.str "over", .str "skip", .str "put", .str "take", .str "jump", .str "pass"]
  q_Machine : PySem.W.noSeq K (He.ga K "Machine") = true
  f_is_integer : ∃ fd, FunD K "is_integer" "is_integer" (defArgs s_is_integer) (defBody s_is_integer) (defScope s_is_integer) [] [] (He.ga K "is_integer") fd
  f_is_items : ∃ fd, FunD K "is_items" "is_items" (defArgs s_is_items) (defBody s_is_items) (defScope s_is_items) [] [] (He.ga K "is_items") fd
  f_is_name : ∃ fd, FunD K "is_name" "is_name" (defArgs s_is_name) (defBody s_is_name) (defScope s_is_name) [] [] (He.ga K "is_name") fd
  f_are_names : ∃ fd, FunD K "are_names" "are_names" (defArgs s_are_names) (defBody s_are_names) (defScope s_are_names) [] [] (He.ga K "are_names") fd
  f_is_within : ∃ fd, FunD K "is_within" "is_within" (defArgs s_is_within) (defBody s_is_within) (defScope s_is_within) [] [] (He.ga K "is_within") fd
  f_are_moves : ∃ fd, FunD K "are_moves" "are_moves" (defArgs s_are_moves) (defBody s_are_moves) (defScope s_are_moves) [] [] (He.ga K "are_moves") fd
  f_leading : ∃ fd, FunD K "leading" "leading" (defArgs s_leading) (defBody s_leading) (defScope s_leading) [] [] (He.ga K "leading") fd
  f_Machine_init : ∃ fd, FunD K "__init__" "Machine.__init__" (defArgs s_Machine_init) (defBody s_Machine_init) (defScope s_Machine_init) [] [] (He.ma K (He.ga K "Machine") "__init__") fd
  f_Machine_start : ∃ fd, FunD K "start" "Machine.start" (defArgs s_Machine_start) (defBody s_Machine_start) (defScope s_Machine_start) [] [] (gAd K (He.ga K "Machine") "start") fd
  f_Machine_getitem : ∃ fd, FunD K "__getitem__" "Machine.__getitem__" (defArgs s_Machine_getitem) (defBody s_Machine_getitem) (defScope s_Machine_getitem) [] [] (He.ma K (He.ga K "Machine") "__getitem__") fd
  f_bad_place : ∃ fd, FunD K "bad_place" "bad_place" (defArgs s_bad_place) (defBody s_bad_place) (defScope s_bad_place) [] [] (He.ga K "bad_place") fd
  f_first : ∃ fd, FunD K "first" "first" (defArgs s_first) (defBody s_first) (defScope s_first) [] [] (He.ga K "first") fd
  f_act : ∃ fd, FunD K "act" "act" (defArgs s_act) (defBody s_act) (defScope s_act) [] [] (He.ga K "act") fd
  f_work : ∃ fd, FunD K "work" "work" (defArgs s_work) (defBody s_work) (defScope s_work) [] [] (He.ga K "work") fd
  f_take : ∃ fd, FunD K "take" "take" (defArgs s_take) (defBody s_take) (defScope s_take) [] [] (He.ga K "take") fd
  f_finish : ∃ fd, FunD K "finish" "finish" (defArgs s_finish) (defBody s_finish) (defScope s_finish) [] [] (He.ga K "finish") fd
  f_need_far : ∃ fd, FunD K "need_far" "need_far" (defArgs s_need_far) (defBody s_need_far) (defScope s_need_far) [] [] (He.ga K "need_far") fd
  f_pass_over : ∃ fd, FunD K "pass_over" "pass_over" (defArgs s_pass_over) (defBody s_pass_over) (defScope s_pass_over) [] [] (He.ga K "pass_over") fd
  f_Course_init : ∃ fd, FunD K "__init__" "Course.__init__" (defArgs s_Course_init) (defBody s_Course_init) (defScope s_Course_init) [] [] (He.ma K (He.ga K "Course") "__init__") fd
  f_Course_folded : ∃ fd, FunD K "folded" "Course.folded" (defArgs s_Course_folded) (defBody s_Course_folded) (defScope s_Course_folded) [] [] (He.ma K (He.ga K "Course") "folded") fd
  f_Course_total : ∃ fd, FunD K "total" "Course.total" (defArgs s_Course_total) (defBody s_Course_total) (defScope s_Course_total) [] [] (He.ma K (He.ga K "Course") "total") fd
  f_Course_counts : ∃ fd, FunD K "counts" "Course.counts" (defArgs s_Course_counts) (defBody s_Course_counts) (defScope s_Course_counts) [] [] (He.ma K (He.ga K "Course") "counts") fd
  f_Course_many_told : ∃ fd, FunD K "many_told" "Course.many_told" (defArgs s_Course_many_told) (defBody s_Course_many_told) (defScope s_Course_many_told) [] [] (He.ma K (He.ga K "Course") "many_told") fd
  f_course : ∃ fd, FunD K "course" "course" (defArgs s_course) (defBody s_course) (defScope s_course) [] [] (He.ga K "course") fd
  f_told_far : ∃ fd, FunD K "told_far" "told_far" (defArgs s_told_far) (defBody s_told_far) (defScope s_told_far) [] [] (He.ga K "told_far") fd
  f_mends_far : ∃ fd, FunD K "mends_far" "mends_far" (defArgs s_mends_far) (defBody s_mends_far) (defScope s_mends_far) [] [] (He.ga K "mends_far") fd
  f_arrive_far : ∃ fd, FunD K "arrive_far" "arrive_far" (defArgs s_arrive_far) (defBody s_arrive_far) (defScope s_arrive_far) [] [] (He.ga K "arrive_far") fd
  f_told_action : ∃ fd, FunD K "told_action" "told_action" (defArgs s_told_action) (defBody s_told_action) (defScope s_told_action) [] [] (He.ga K "told_action") fd
  f_blank_table : ∃ fd, FunD K "blank_table" "blank_table" (defArgs s_blank_table) (defBody s_blank_table) (defScope s_blank_table) [] [] (He.ga K "blank_table") fd
  f_told_table : ∃ fd, FunD K "told_table" "told_table" (defArgs s_told_table) (defBody s_told_table) (defScope s_told_table) [] [] (He.ga K "told_table") fd
  f_looks_at : ∃ fd, FunD K "looks_at" "looks_at" (defArgs s_looks_at) (defBody s_looks_at) (defScope s_looks_at) [] [] (He.ga K "looks_at") fd
  f_rings : ∃ fd, FunD K "rings" "rings" (defArgs s_rings) (defBody s_rings) (defScope s_rings) [] [] (He.ga K "rings") fd
  f_Reader_init : ∃ fd, FunD K "__init__" "Reader.__init__" (defArgs s_Reader_init) (defBody s_Reader_init) (defScope s_Reader_init) [] [("hold", V.int 0)] (He.ma K (He.ga K "Reader") "__init__") fd
  f_Reader_machine : ∃ fd, FunD K "machine" "Reader.machine" (defArgs s_Reader_machine) (defBody s_Reader_machine) (defScope s_Reader_machine) [] [] (gAd K (He.ga K "Reader") "machine") fd
  f_Reader_hold : ∃ fd, FunD K "hold" "Reader.hold" (defArgs s_Reader_hold) (defBody s_Reader_hold) (defScope s_Reader_hold) [] [] (gAd K (He.ga K "Reader") "hold") fd
  f_law_purse : ∃ fd, FunD K "_law_purse" "_law_purse" (defArgs s_law_purse) (defBody s_law_purse) (defScope s_law_purse) [] [] (He.ga K "_law_purse") fd
  f_law_draw : ∃ fd, FunD K "_law_draw" "_law_draw" (defArgs s_law_draw) (defBody s_law_draw) (defScope s_law_draw) [] [] (He.ga K "_law_draw") fd
  f_law_name : ∃ fd, FunD K "_law_name" "_law_name" (defArgs s_law_name) (defBody s_law_name) (defScope s_law_name) [] [] (He.ga K "_law_name") fd
  f_law_names : ∃ fd, FunD K "_law_names" "_law_names" (defArgs s_law_names) (defBody s_law_names) (defScope s_law_names) [] [] (He.ga K "_law_names") fd
  f_law_reached : ∃ fd, FunD K "_law_reached" "_law_reached" (defArgs s_law_reached) (defBody s_law_reached) (defScope s_law_reached) [] [] (He.ga K "_law_reached") fd
  f_law_parts : ∃ fd, FunD K "_law_parts" "_law_parts" (defArgs s_law_parts) (defBody s_law_parts) (defScope s_law_parts) [] [] (He.ga K "_law_parts") fd
  f_law_states : ∃ fd, FunD K "_law_states" "_law_states" (defArgs s_law_states) (defBody s_law_states) (defScope s_law_states) [] [] (He.ga K "_law_states") fd
  f_law_action : ∃ fd, FunD K "_law_action" "_law_action" (defArgs s_law_action) (defBody s_law_action) (defScope s_law_action) [] [] (He.ga K "_law_action") fd
  f_law_again : ∃ fd, FunD K "_law_again" "_law_again" (defArgs s_law_again) (defBody s_law_again) (defScope s_law_again) [] [] (He.ga K "_law_again") fd
  f_law_rings : ∃ fd, FunD K "_law_rings" "_law_rings" (defArgs s_law_rings) (defBody s_law_rings) (defScope s_law_rings) [] [] (He.ga K "_law_rings") fd
  f_law_wild : ∃ fd, FunD K "_law_wild" "_law_wild" (defArgs s_law_wild) (defBody s_law_wild) (defScope s_law_wild) [] [] (He.ga K "_law_wild") fd
  f_law_table : ∃ fd, FunD K "_law_table" "_law_table" (defArgs s_law_table) (defBody s_law_table) (defScope s_law_table) [] [] (He.ga K "_law_table") fd
  f_law_copy : ∃ fd, FunD K "_law_copy" "_law_copy" (defArgs s_law_copy) (defBody s_law_copy) (defScope s_law_copy) [] [] (He.ga K "_law_copy") fd
  f_law_row : ∃ fd, FunD K "_law_row" "_law_row" (defArgs s_law_row) (defBody s_law_row) (defScope s_law_row) [] [] (He.ga K "_law_row") fd
  f_law_reader : ∃ fd, FunD K "_law_reader" "_law_reader" (defArgs s_law_reader) (defBody s_law_reader) (defScope s_law_reader) [] [] (He.ga K "_law_reader") fd
  f_law_far : ∃ fd, FunD K "_law_far" "_law_far" (defArgs s_law_far) (defBody s_law_far) (defScope s_law_far) [] [] (He.ga K "_law_far") fd
  f_law_take : ∃ fd, FunD K "_law_take" "_law_take" (defArgs s_law_take) (defBody s_law_take) (defScope s_law_take) [] [] (He.ga K "_law_take") fd
  f_law_same : ∃ fd, FunD K "_law_same" "_law_same" (defArgs s_law_same) (defBody s_law_same) (defScope s_law_same) [] [] (He.ga K "_law_same") fd
  f_law_over : ∃ fd, FunD K "_law_over" "_law_over" (defArgs s_law_over) (defBody s_law_over) (defScope s_law_over) [] [] (He.ga K "_law_over") fd
  f_law_turns : ∃ fd, FunD K "_law_turns" "_law_turns" (defArgs s_law_turns) (defBody s_law_turns) (defScope s_law_turns) [] [] (He.ga K "_law_turns") fd
  f_law : ∃ fd, FunD K "law" "law" (defArgs s_law) (defBody s_law) (defScope s_law) [] [] (He.ga K "law") fd
theorem txt_of {K : PySem.W.Frag} {h : Heap} {mg : Str → Option Value} (X : K.In h) (G : h.Ns mainGlobals mg) (c : obsF fas exs fns K = valF fns) : Txt K mg := by
  obtain ⟨e1, e⟩ := He.ba (says_ex c)
  obtain ⟨e2, e⟩ := He.ba e
  obtain ⟨e3, e⟩ := He.ba e
  obtain ⟨e4, e5⟩ := He.ba e
  exact {
    g_is_integer := He.glo_ok X G (says_fact c 0),
    g_is_items := He.glo_ok X G (says_fact c 1),
    g_is_name := He.glo_ok X G (says_fact c 2),
    g_are_names := He.glo_ok X G (says_fact c 3),
    g_is_within := He.glo_ok X G (says_fact c 4),
    g_are_moves := He.glo_ok X G (says_fact c 5),
    g_leading := He.glo_ok X G (says_fact c 6),
    g_bad_place := He.glo_ok X G (says_fact c 7),
    g_first := He.glo_ok X G (says_fact c 8),
    g_act := He.glo_ok X G (says_fact c 9),
    g_work := He.glo_ok X G (says_fact c 10),
    g_take := He.glo_ok X G (says_fact c 11),
    g_finish := He.glo_ok X G (says_fact c 12),
    g_need_far := He.glo_ok X G (says_fact c 13),
    g_pass_over := He.glo_ok X G (says_fact c 14),
    g_course := He.glo_ok X G (says_fact c 15),
    g_told_far := He.glo_ok X G (says_fact c 16),
    g_mends_far := He.glo_ok X G (says_fact c 17),
    g_arrive_far := He.glo_ok X G (says_fact c 18),
    g_told_action := He.glo_ok X G (says_fact c 19),
    g_blank_table := He.glo_ok X G (says_fact c 20),
    g_told_table := He.glo_ok X G (says_fact c 21),
    g_looks_at := He.glo_ok X G (says_fact c 22),
    g_rings := He.glo_ok X G (says_fact c 23),
    g_law_purse := He.glo_ok X G (says_fact c 24),
    g_law_draw := He.glo_ok X G (says_fact c 25),
    g_law_name := He.glo_ok X G (says_fact c 26),
    g_law_names := He.glo_ok X G (says_fact c 27),
    g_law_reached := He.glo_ok X G (says_fact c 28),
    g_law_parts := He.glo_ok X G (says_fact c 29),
    g_law_states := He.glo_ok X G (says_fact c 30),
    g_law_action := He.glo_ok X G (says_fact c 31),
    g_law_again := He.glo_ok X G (says_fact c 32),
    g_law_rings := He.glo_ok X G (says_fact c 33),
    g_law_wild := He.glo_ok X G (says_fact c 34),
    g_law_table := He.glo_ok X G (says_fact c 35),
    g_law_copy := He.glo_ok X G (says_fact c 36),
    g_law_row := He.glo_ok X G (says_fact c 37),
    g_law_reader := He.glo_ok X G (says_fact c 38),
    g_law_far := He.glo_ok X G (says_fact c 39),
    g_law_take := He.glo_ok X G (says_fact c 40),
    g_law_same := He.glo_ok X G (says_fact c 41),
    g_law_over := He.glo_ok X G (says_fact c 42),
    g_law_turns := He.glo_ok X G (says_fact c 43),
    g_law := He.glo_ok X G (says_fact c 44),
    g_Machine := He.glo_ok X G (says_fact c 45),
    cl_Machine := He.cls_ok (says_fact c 46),
    mk_Machine := He.mkr_ok (says_fact c 47),
    n_Machine_alphabet := He.noat_ok (says_fact c 48),
    n_Machine_origin := He.noat_ok (says_fact c 49),
    n_Machine_edges := He.noat_ok (says_fact c 50),
    n_Machine_ending := He.noat_ok (says_fact c 51),
    n_Machine_places := He.noat_ok (says_fact c 52),
    g_Course := He.glo_ok X G (says_fact c 53),
    cl_Course := He.cls_ok (says_fact c 54),
    mk_Course := He.mkr_ok (says_fact c 55),
    n_Course_shift := He.noat_ok (says_fact c 56),
    n_Course_width := He.noat_ok (says_fact c 57),
    n_Course_turns := He.noat_ok (says_fact c 58),
    n_Course_extent := He.noat_ok (says_fact c 59),
    n_Course_head := He.noat_ok (says_fact c 60),
    n_Course_head_mends := He.noat_ok (says_fact c 61),
    n_Course_begins := He.noat_ok (says_fact c 62),
    n_Course_blocks := He.noat_ok (says_fact c 63),
    n_Course_fixes := He.noat_ok (says_fact c 64),
    n_Course_back := He.noat_ok (says_fact c 65),
    n_Course_goal := He.noat_ok (says_fact c 66),
    n_Course_tail := He.noat_ok (says_fact c 67),
    n_Course_tail_mends := He.noat_ok (says_fact c 68),
    n_Course_closing := He.noat_ok (says_fact c 69),
    g_Reader := He.glo_ok X G (says_fact c 70),
    cl_Reader := He.cls_ok (says_fact c 71),
    mk_Reader := He.mkr_ok (says_fact c 72),
    n_Reader_engine := He.noat_ok (says_fact c 73),
    n_Reader_actions := He.noat_ok (says_fact c 74),
    n_Reader_span := He.noat_ok (says_fact c 75),
    n_Reader_passes := He.noat_ok (says_fact c 76),
    m_Machine_getitem := He.meth_ok (says_fact c 77),
    m_Course_folded := He.meth_ok (says_fact c 78),
    m_Course_total := He.meth_ok (says_fact c 79),
    m_Course_counts := He.meth_ok (says_fact c 80),
    m_Course_many_told := He.meth_ok (says_fact c 81),
    b_isinstance := He.free_ok X G (says_fact c 82),
    b_len := He.free_ok X G (says_fact c 83),
    b_enumerate := He.free_ok X G (says_fact c 84),
    b_sorted := He.free_ok X G (says_fact c 85),
    b_list := He.free_ok X G (says_fact c 86),
    b_range := He.free_ok X G (says_fact c 87),
    b_set := He.free_ok X G (says_fact c 88),
    b_tuple := He.free_ok X G (says_fact c 89),
    b_int := He.free_ok X G (says_fact c 90),
    b_max := He.free_ok X G (says_fact c 91),
    b_min := He.free_ok X G (says_fact c 92),
    b_sum := He.free_ok X G (says_fact c 93),
    b_abs := He.free_ok X G (says_fact c 94),
    b_divmod := He.free_ok X G (says_fact c 95),
    b_str := He.free_ok X G (says_fact c 96),
    b_dict := He.free_ok X G (says_fact c 97),
    b_bool := He.free_ok X G (says_fact c 98),
    b_all := He.free_ok X G (says_fact c 99),
    i_MOST_TOKENS := He.int_ok X G (says_fact c 100),
    i_MOST_TURNS := He.int_ok X G (says_fact c 101),
    i_MOST_PART := He.int_ok X G (says_fact c 102),
    s_LETTERS := He.str_ok X G (says_fact c 103),
    g_MENDS := He.glo_ok X G (says_fact c 104),
    p_start := propB_ok e1,
    p_machine := propB_ok e2,
    p_hold := propB_ok e3,
    t_MENDS := fun H => He.tupB_ok e4 H,
    q_Machine := e5,
    f_is_integer := says_def c 0,
    f_is_items := says_def c 1,
    f_is_name := says_def c 2,
    f_are_names := says_def c 3,
    f_is_within := says_def c 4,
    f_are_moves := says_def c 5,
    f_leading := says_def c 6,
    f_Machine_init := says_def c 7,
    f_Machine_start := says_def c 8,
    f_Machine_getitem := says_def c 9,
    f_bad_place := says_def c 10,
    f_first := says_def c 11,
    f_act := says_def c 12,
    f_work := says_def c 13,
    f_take := says_def c 14,
    f_finish := says_def c 15,
    f_need_far := says_def c 16,
    f_pass_over := says_def c 17,
    f_Course_init := says_def c 18,
    f_Course_folded := says_def c 19,
    f_Course_total := says_def c 20,
    f_Course_counts := says_def c 21,
    f_Course_many_told := says_def c 22,
    f_course := says_def c 23,
    f_told_far := says_def c 24,
    f_mends_far := says_def c 25,
    f_arrive_far := says_def c 26,
    f_told_action := says_def c 27,
    f_blank_table := says_def c 28,
    f_told_table := says_def c 29,
    f_looks_at := says_def c 30,
    f_rings := says_def c 31,
    f_Reader_init := says_def c 32,
    f_Reader_machine := says_def c 33,
    f_Reader_hold := says_def c 34,
    f_law_purse := says_def c 35,
    f_law_draw := says_def c 36,
    f_law_name := says_def c 37,
    f_law_names := says_def c 38,
    f_law_reached := says_def c 39,
    f_law_parts := says_def c 40,
    f_law_states := says_def c 41,
    f_law_action := says_def c 42,
    f_law_again := says_def c 43,
    f_law_rings := says_def c 44,
    f_law_wild := says_def c 45,
    f_law_table := says_def c 46,
    f_law_copy := says_def c 47,
    f_law_row := says_def c 48,
    f_law_reader := says_def c 49,
    f_law_far := says_def c 50,
    f_law_take := says_def c 51,
    f_law_same := says_def c 52,
    f_law_over := says_def c 53,
    f_law_turns := says_def c 54,
    f_law := says_def c 55 }
def loose0 : List PySem.Str := ["_wall", "SlipError", "BadMachine", "BadReader", "BadRing", "NoFar", "LETTERS", "is_integer", "is_items", "is_name", "are_names", "is_within", "MOST_TOKENS", "are_moves", "leading", "Machine", "bad_place", "run", "MENDS", "first", "act", "work", "take", "finish", "MOST_TURNS", "MOST_PART", "need_far", "pass_over", "Course", "course"]
def loose1 : List PySem.Str := ["told_far", "mends_far", "arrive_far", "told_action", "blank_table", "told_table", "looks_at", "rings", "Reader", "_law_purse", "_law_draw", "_law_name", "_law_names", "_law_reached", "_law_parts", "_law_states", "_law_action", "_law_again", "_law_rings", "_law_wild", "_law_table", "_law_copy", "_law_turned", "_law_row", "_law_reader", "_law_far", "_law_take", "_law_same", "_law_over", "_law_turns"]
def loose : List PySem.Str := loose0 ++ loose1
end Far

set_option Elab.async false
set_option linter.all false
set_option maxRecDepth 100000
set_option maxHeartbeats 4000000
namespace Far
open PySem PySem.Spec PyProof.Rows L2 Fz
/-! ### a def of the text: its promise by its name -/
section
variable {P : Program} {w : World} {K : PySem.W.Frag} {mg : Str → Option Value} {base : Heap}
abbrev Cal := C8.Cal
abbrev Met := C8.Met
theorem cal_mk {x : Str} {pa : Arguments} {bd : List Stmt} {sc : Scope} {N ps : List Str} {k : Nat} {sp : Sp} (g : mg x = some (.ref (He.ga K x))) (F : ∃ fd, FunD K x x pa bd sc [] [] (He.ga K x) fd) (S : FnScope N ps sc)
    (len : ∀ vs H Q E, sp vs H Q E → vs.length = ps.length)
    (hb : ∀ (kV doc pm : Value) (an : Option Addr) (cdv ct : Value) (us : List Value), us.length = ps.length → bindArgs (PySem.W.fnOf x x pa bd sc .none kV doc pm an cdv ct) ⟨us, []⟩ = pure (ps.zip us))
    (hbody : ∀ (cdv : Value) (A : Around) (outer : List Env) (s : Shared) (H : Hp) (vs : List V) (Q : VK) (E : XK), Room k (A.deeper (envOfC x sc s.heap.objs.size (He.ga K x) cdv)) → sp vs H Q E →
      ∃ t, PSs (cxOf C8.CX0 P w K mg base N x sc (He.ga K x) cdv A outer s H E).nox bd t ∧ t { nx := fun _ H' => Q .non H', rt := Q } (start N vs) H) : Cal P w K mg base (k + 1) x sp [] := by
  obtain ⟨fd, F⟩ := F
  refine ⟨_, fd, ps, [], F.ok S len fun cdv A outer s H vs Q E hr h => ?_, g, F.kp, F.bindsN hb, .nil⟩
  obtain ⟨t, h1, h2⟩ := hbody cdv A outer s H vs Q E hr h
  exact ⟨t, h1.nox, h2⟩
theorem met_mk {C : Addr} {x qual : Str} {pa : Arguments} {bd : List Stmt} {sc : Scope} {N ps : List Str} {k : Nat} {sp : Sp} (c : Cls K C) (m : Meth K C x (He.ma K C x)) (F : ∃ fd, FunD K x qual pa bd sc [] [] (He.ma K C x) fd) (S : FnScope N ps sc)
    (len : ∀ vs H Q E, sp vs H Q E → vs.length = ps.length)
    (hb : ∀ (kV doc pm : Value) (an : Option Addr) (cdv ct : Value) (us : List Value), us.length = ps.length → bindArgs (PySem.W.fnOf x qual pa bd sc .none kV doc pm an cdv ct) ⟨us, []⟩ = pure (ps.zip us))
    (hbody : ∀ (cdv : Value) (A : Around) (outer : List Env) (s : Shared) (H : Hp) (vs : List V) (Q : VK) (E : XK), Room k (A.deeper (envOfC qual sc s.heap.objs.size (He.ma K C x) cdv)) → sp vs H Q E →
      ∃ t, PSs (cxOf C8.CX0 P w K mg base N qual sc (He.ma K C x) cdv A outer s H E).nox bd t ∧ t { nx := fun _ H' => Q .non H', rt := Q } (start N vs) H) : Met P w K mg base (k + 1) C x sp [] := by
  obtain ⟨fd, F⟩ := F
  refine ⟨_, fd, ps, [], c, m, F.ok S len fun cdv A outer s H vs Q E hr h => ?_, F.bindsN hb, .nil⟩
  obtain ⟨t, h1, h2⟩ := hbody cdv A outer s H vs Q E hr h
  exact ⟨t, h1.nox, h2⟩
theorem mak_mk {x C qual : Str} {pa : Arguments} {bd : List Stmt} {sc : Scope} {N ps : List Str} {k : Nat} {sp : Sp} (M : Mk K (He.ga K C) (He.ma K (He.ga K C) "__init__")) (g : mg C = some (.ref (He.ga K C))) (F : ∃ fd, FunD K "__init__" qual pa bd sc [] [] (He.ma K (He.ga K C) "__init__") fd) (S : FnScope N ps sc)
    (len : ∀ vs H Q E, sp vs H Q E → vs.length = ps.length)
    (hb : ∀ (kV doc pm : Value) (an : Option Addr) (cdv ct : Value) (us : List Value), us.length = ps.length → bindArgs (PySem.W.fnOf "__init__" qual pa bd sc .none kV doc pm an cdv ct) ⟨us, []⟩ = pure (ps.zip us))
    (hbody : ∀ (cdv : Value) (A : Around) (outer : List Env) (s : Shared) (H : Hp) (vs : List V) (Q : VK) (E : XK), Room k (A.deeper (envOfC qual sc s.heap.objs.size (He.ma K (He.ga K C) "__init__") cdv)) → sp vs H Q E →
      ∃ t, PSs (cxOf C8.CX0 P w K mg base N qual sc (He.ma K (He.ga K C) "__init__") cdv A outer s H E).nox bd t ∧ t { nx := fun _ H' => Q .non H', rt := Q } (start N vs) H) : C8.Mak P w K mg base (k + 1) C (He.ga K C) sp [] := by
  obtain ⟨fd, F⟩ := F
  refine ⟨_, fd, ps, [], M, F.ok S len fun cdv A outer s H vs Q E hr h => ?_, g, F.bindsN hb, .nil⟩
  obtain ⟨t, h1, h2⟩ := hbody cdv A outer s H vs Q E hr h
  exact ⟨t, h1.nox, h2⟩
end
/-! ### short words -/
section
variable {X : Cx}
/-- x = e, by the slot -/
theorem pset (i : Nat) {x : Str} {e : Expr} {te : TE} {pos pos' : Pos} (hN : X.N.Nodup) (he : PE X e te) (hi : X.N[i]? = some x := by rfl) (hx : Loc X.env.scope x := by first | exact Or.inl rfl | exact Or.inr rfl)
    (hs : swapsWith e (some (.Name x pos')) pos.line X.env = pure false := by rfl) (hf : X.fn x = true ∨ X.env.scope.names.lookup x = some .local := by first | exact .inl rfl | exact .inr rfl) : PS X (.Assign [.Name x pos'] e pos) (tAsg te (gName i)) := ps_set hN hi hx he hs hf
/-- the target x -/
theorem pgn (i : Nat) {x : Str} {pos : Pos} (hN : X.N.Nodup) (hi : X.N[i]? = some x := by rfl) (hx : Loc X.env.scope x := by first | exact Or.inl rfl | exact Or.inr rfl)
    (hf : X.fn x = true ∨ X.env.scope.names.lookup x = some .local := by first | exact .inl rfl | exact .inr rfl) : PG X (.Name x pos) (gName i) := pg_name hN hi hx hf
end
/-! ### what stands stays -/
section
variable {K : PySem.W.Frag} {H H' H2 : Hp} {a p : Addr} {xs : List V} {o u : HO}
theorem sm_rd (e : Same H H') (h : L2.Rd H a u) : L2.Rd H' a u := by
  rcases h with h | ⟨o, h⟩
  · exact .inl (e _ _ h)
  · exact .inr ⟨o, e _ _ h⟩
theorem sm_l (e : Same H H') (h : SqL K H a xs) : SqL K H' a xs := e.seq h
theorem sm_t (e : Same H H') (h : SqT K H a xs) : SqT K H' a xs := by
  rcases h with h | h
  · exact .inl (sm_rd e h)
  · exact .inr h
theorem sm_new (h : H p = none) : Same H (upd H p o) := fun b u e => by
  rw [upd_ne (ne_of_none e h)]
  exact e
theorem sm_mut (e : Same H H') (h : H p = none) : Same H (upd H' p o) := fun b u q => by
  rw [upd_ne (ne_of_none q h)]
  exact e b u q
theorem sm_trans (a : Same H H') (b : Same H' H2) : Same H H2 := a.trans b
end
/-! ### the same rules where the ground is named (within comprehensions) -/
section
variable {X : Cx} {K : PySem.W.Frag}
theorem op_inK (h : X.K = K := by rfl) : OpR X (compareOp .In) (rIn K false) := h ▸ op_in_seq
theorem op_notInK (h : X.K = K := by rfl) : OpR X (compareOp .NotIn) (rIn K true) := h ▸ op_notIn_seq
theorem ix_tupK (h : X.K = K := by rfl) : IxR X (rIxT K) := h ▸ ix_tup
theorem ix_listK (h : X.K = K := by rfl) : IxR X (rIxL K) := h ▸ ix_list
theorem pe_fldK {e : Expr} {f : Str} {ta : TE} {pos : Pos} (he : PE X e ta) (hb : attributeBase e f X.env (eval e X.env) = eval e X.env) (h : X.K = K := by rfl) : PE X (.Attribute e f pos) (tFld K ta f) := h ▸ pe_fld he hb
theorem call_lenK (h : X.K = K := by rfl) : CallR X (.builtin "len") (fun xs H Q => ∃ p ys, xs = [.ref p] ∧ (SqL K H p ys ∨ SqT K H p ys) ∧ Q (.int ys.length) H) := h ▸ call_len_seq
theorem pi_listK {tg l : Expr} {tl : TE} (hl : PE X l tl) (h : X.K = K := by rfl) : PI X tg l (iList K tl) := h ▸ pi_list hl
end
end Far

set_option Elab.async false
set_option linter.all false
set_option maxRecDepth 100000
set_option maxHeartbeats 4000000
/-! FarRules1: rules that the layer lacks: attributes in a tuple target, own subscripts, properties by their promise, enumerate over a tuple -/
namespace Far
open PySem PySem.Spec PyProof.Rows L2 Fz
section
variable {X : Cx}
/-- isinstance with one built-in class -/
theorem isi {K : PySem.W.Frag} {H : Hp} {x : V} {m n : String} {b : Bool} {Q : VK} (ty : TyX K H x (.type m)) (h : kitB m n = some b) (q : Q (.bl b) H) : rIsi K [x, .ty n] H Q :=
  ⟨x, .ty n, .type m, .type n, b, rfl, .ty n, ty, kit_ty h, q⟩
theorem tyx_l {K : PySem.W.Frag} {H : Hp} {a : Addr} {xs : List V} (h : SqL K H a xs) : TyX K H (.ref a) (.type "list") := by
  rcases h with (h | ⟨o, h⟩) | ⟨o, its, n, hk, hc, _⟩
  · exact .base (.lst h)
  · exact .base (.frz h)
  · exact .kList hk hc
theorem tyx_t {K : PySem.W.Frag} {H : Hp} {a : Addr} {xs : List V} (h : SqT K H a xs) : TyX K H (.ref a) (.type "tuple") := by
  rcases h with (h | ⟨o, h⟩) | ⟨o, its, n, hk, hc, _⟩
  · exact .base (.tup h)
  · exact .fTuple h
  · exact .kTuple hk hc
/-- o.f as a target within a tuple target -/
def gAttr (K : PySem.W.Frag) (ta : TE) (f : Str) : TG := fun v σ H Q => ta σ H fun x H1 => ∃ a C dx fs, x = .ref a ∧ H1 a = some (.ins C dx fs) ∧ Cls K C ∧ NoAttr K C f ∧ fs.length < 1000 ∧ Q σ (upd H1 a (.ins C dx (putF f v fs)))
theorem pg_attr {o : Expr} {f : Str} {ta : TE} {pos : Pos} (ho : PE X o ta) : PG X (.Attribute o f pos) (gAttr X.K ta f) := by
  refine ⟨fun pins s σ H v u Q I r h => ?_⟩
  rw [assign_Attribute]
  refine wpAny_bind (wpAny_holding (thn (ho.run pins s σ H _ I h) fun ov s1 ⟨x, H1, I1, rx, a, C, dx, fs, ex, ea, c, n, l, q⟩ => ?_))
  subst ex
  obtain rfl : ov = Value.ref a := rx
  exact wpAny_bind (wpAny_standAt (wpAny_bind (wpAny_holding (setattr_ok I1 ea c n l r fun s3 I3 => wpAny_release ⟨σ, _, I3, q⟩))))
/-- a property's getter by its promise -/
structure Prp (P : Program) (w : World) (K : PySem.W.Frag) (mg : Str → Option Value) (base : Heap) (k : Nat) (C : Addr) (f : Str) (sp : Sp) : Prop where
  ex : ∃ (p g : Addr) (fd : FuncData) (ps : List Str), Cls K C ∧ PropOf K C f p g ∧ FnOk P w K mg base C8.CX0 k g fd ps sp ∧ Binds K fd ps []
theorem pe_p {k j : Nat} {C : Addr} {f : Str} {sp : Sp} {e : Expr} {ta : TE} {pos : Pos} (D : Prp X.prog X.w X.K X.mg X.base k C f sp) (hr : Room j X.A) (hk : k + 1 ≤ j) (he : PE X e ta)
    (hab : attributeBase e f X.env (eval e X.env) = eval e X.env := by rfl) : PE X (.Attribute e f pos) (tProp C sp [] C8.E0 ta) := by
  obtain ⟨p, g, fd, ps, c, hp, F, b⟩ := D.ex
  exact pe_prop he c hp F (hr.mono hk) b .nil C8.pass0 hab
/-- o[i], o an instance of an own class -/
structure Gto (P : Program) (w : World) (K : PySem.W.Frag) (mg : Str → Option Value) (base : Heap) (k : Nat) (C : Addr) (sp : Sp) : Prop where
  ex : ∃ (f : Addr) (fd : FuncData) (ps : List Str), Cls K C ∧ Meth K C "__getitem__" f ∧ PySem.W.fnIn K f = true ∧ FnOk P w K mg base C8.CX0 k f fd ps sp ∧ Binds K fd ps []
def tGetOwn (C : Addr) (sp : Sp) (ta tb : TE) : TE := fun σ H Q => ta σ H fun x H1 => tb σ H1 fun y H2 => ∃ a dx fs, x = .ref a ∧ H2 a = some (.ins C dx fs) ∧ sp [.ref a, y] H2 Q C8.E0
theorem pe_getown {k j : Nat} {C : Addr} {sp : Sp} {a b : Expr} {ta tb : TE} {pos : Pos} (D : Gto X.prog X.w X.K X.mg X.base k C sp) (hr : Room j X.A) (hk : k + 1 ≤ j) (ha : PE X a ta) (hb : PE X b tb)
    (hsl : ∀ x i, subscripted b true (.ref x) i = runValue (.builtin "lifetime.subscript" ⟨[.ref x, i], []⟩) := by intro _ _; with_unfolding_all rfl) :
    PE X (.Subscript a b pos) (tGetOwn C sp ta tb) := by
  obtain ⟨f, fd, ps, c, hm, hfi, F, bd⟩ := D.ex
  refine ⟨fun pins s σ H Q I h => ?_⟩
  refine Subscript_ (binT ha hb I (R := fun x y H2 => ∃ p dx fs, x = .ref p ∧ H2 p = some (.ins C dx fs) ∧ sp [.ref p, y] H2 Q C8.E0) h fun v u s2 x y H2 I2 rx ry hq => ?_)
  obtain ⟨p, dx, fs, ex, ea, q⟩ := hq
  subst ex
  obtain rfl : v = Value.ref p := rx
  obtain ⟨mA, O, _, _, _, _⟩ := ins_get I2.hok ea
  obtain ⟨od, J, _⟩ := O.look
  have hr1 : Room k X.A.in1 := (hr.mono hk).in1
  obtain ⟨mm, Fr0⟩ := I2.fr
  have hl : ([Value.ref p, u] ++ []).length = ps.length := by
    rw [← F.len _ _ _ _ q]
    rfl
  refine PySem.W.sub_K Fr0 I2.ok.mod.kin J hm.at_ hfi hm.fn (wpAny_call ?_) (hsl p u)
  refine codeAny_mono (F.run X.A.in1 X.stack s2 H2 ⟨[.ref p, u], []⟩ [.ref p, u] [.ref p, y] Q C8.E0 hr1 I2.env0.in1 (bd _ [.ref p, u] I2.kIn hl) (.cons rfl (.cons ry .nil)) q) fun r s' hq => ?_
  cases r with
  | error er => exact hq.elim
  | ok fl =>
    cases fl with
    | ret u => exact I2.after hq
    | next => exact False.elim hq
    | brk => exact False.elim hq
    | cont => exact False.elim hq
end
/-! ### enumerate(t), t a tuple -/
section
set_option maxHeartbeats 2000000 in
theorem meets_enum1 {v : Value} {o : Obj} {G : Heap → Prop} (B : Begins v o G) :
    Meets (Builtin.«enumerate.__new__» ⟨[.type "enumerate", v], []⟩) (fun _ R s => G s.heap ∧
      R (.ok (.ret (.ref (s.heap.push o).objs.size))) { s with heap := (s.heap.push o).push { cls := .type "enumerate", data := .fields #[.none, .bool false, .ref s.heap.objs.size, rawInt 0, .none, .none] } }) :=
  .of_wp fun prog w A R s h => by
    obtain ⟨hp, g, d, tk, os⟩ := s
    obtain ⟨h1, h⟩ := h
    have hsub := sub_enumerate
    have q1 : ∀ {A' : Around} {E : Value → Shared → Prop} {Q : Value → Shared → Prop}, Q (.ref hp.objs.size) ⟨hp.push o, g, d, tk, os⟩ → wpAny (model prog w) A' (pyIter v) Q E ⟨hp, g, d, tk, os⟩ :=
      fun q => B.iter prog w _ _ ⟨hp, g, d, tk, os⟩ _ h1 q
    wp_walk using q1
    refine wpAny_stack_any fun st => wpAny_pure ?_
    split
    · rename_i c _ _ _ _ _
      cases (c == Value.type "enumerate") <;> (wp_walk using q1; exact ⟨_, rfl, h⟩)
    · wp_walk using q1
      exact ⟨_, rfl, h⟩
theorem call_enum1 {prog : Program} {w : World} {A : Around} {E : Value → Shared → Prop} {s : Shared} {v : Value} {o : Obj} {G : Heap → Prop} {Q : Value → Shared → Prop} (B : Begins v o G) (h1 : G s.heap)
    (h : ∀ h', IsEnum h' (s.heap.objs.size + 1) s.heap.objs.size 0 .none → h'.get? s.heap.objs.size = some o → (∀ b o, s.heap.get? b = some o → h'.get? b = some o) → Q (.ref (s.heap.objs.size + 1)) { s with heap := h' }) :
    wpAny (model prog w) A (call (.type "enumerate") [v]) Q E s := by
  refine callType_new F.called_enumerate (by decide) (F.typeCall_enumerate_1 _) (F.newCall_enumerate_1 _) (fun obj => F.args_object_init_2 obj _) F.entry_enumerate_new (meets_enum1 B) ⟨h1, ?_⟩
  have hz : (s.heap.push o).objs.size = s.heap.objs.size + 1 := Heap.size_push ..
  show _ ∧ _
  rw [hz]
  have he : IsEnum ((s.heap.push o).push { cls := .type "enumerate", data := .fields #[.none, .bool false, .ref s.heap.objs.size, rawInt 0, .none, .none] }) (s.heap.objs.size + 1) s.heap.objs.size 0 .none := by
    have z := Heap.get?_push_size (s.heap.push o) (o := { cls := .type "enumerate", data := .fields #[.none, .bool false, .ref s.heap.objs.size, rawInt 0, .none, .none] }) rfl
    rw [hz] at z
    exact z
  exact ⟨⟨_, he, rfl⟩, h _ he (Heap.get?_push_of_some _ (Heap.get?_push_size _ B.free)) fun b o x => Heap.get?_push_of_some _ (Heap.get?_push_of_some _ x)⟩
def Itet (K : PySem.W.Frag) (a : Addr) (xs : List V) : It :=
  ⟨fun i H => SqT K H a xs ∧ i < xs.length, fun i H v H' => ∃ T x, v = .ref T ∧ H T = none ∧ H' = upd H T (.tup [.int (i : Nat), x]) ∧ xs[i]? = some x, fun i H => SqT K H a xs ∧ i = xs.length⟩
end
section
theorem it_tup {h : Heap} {a : Addr} {its : Array Value} (p : IsTup h a its) : h.IsTuple a its := by
  obtain ⟨o, h1, h2, n, h3⟩ := p
  exact ⟨o, h1, h2, n, h3⟩
theorem turn_enumT {P : Program} {w : World} {K : PySem.W.Frag} {elts : List Expr} {kk : Nat} {tpos : Pos} (a e it : Addr) (xs : List V) :
    Turn P w K (.Tuple elts kk tpos) (Itet K a xs) [e, it] e (fun i h => (∃ old, IsEnum h e it ((i : Nat) : Int) old) ∧ h.IsTupleIter it a i ∧ e ≠ it ∧ a ≠ e ∧ a ≠ it) where
  mem := by simp
  obj := fun i h st b hb => by
    obtain ⟨⟨old, he⟩, ⟨o, ho, hc, hd⟩, _⟩ := st
    have e' : b = e ∨ b = it := by simpa using hb
    rcases e' with z | z
    · rw [z]; exact ⟨_, he, fun v q => nomatch q⟩
    · rw [z]; exact ⟨o, ho, fun v q => by rw [hd] at q; cases q⟩
  keep := fun i h h' st k => let ⟨⟨old, he⟩, hi, hne⟩ := st; ⟨⟨old, k e (by simp) _ he⟩, hi.at fun o q => k it (by simp) o q, hne⟩
  item := by
    intro X hP hw hK hc i pins s σ H E I hf st hg
    subst hP hw hK
    obtain ⟨⟨old, he⟩, hit, hne, hae, hai⟩ := st
    obtain ⟨hq, hx⟩ := hg
    obtain ⟨its, rv, p, hz⟩ := I.tuple hq
    have hlen := rv.length
    have hT := it_tup p
    have hel : e < s.heap.objs.size := Heap.lt_size he
    have hil : it < s.heap.objs.size := by obtain ⟨_, q, _⟩ := hit; exact Heap.lt_size q
    have D := Draws.tuple (prog := X.prog) (w := X.w) (A := X.A.in1) (show X.A.in1.handled = none from I.ok.hd hc) it a hai its.toArray
    refine wpAny_pyNext_enum_itemD D he ⟨hit, hT⟩ (by simp; omega) hne (by simp [hne, Ne.symm hae]) fun x h' tk hxi ho hst hT2 hsz hk => ?_
    have hxi' : its[i]? = some x := by simpa using hxi
    have hxv : xs[i]? = some xs[i] := List.getElem?_eq_getElem hx
    obtain ⟨u, hu, ru⟩ := rv.get hxv
    have eu : u = x := Option.some.inj (hu.symm.trans hxi')
    subst eu
    refine ⟨_, rfl, wpAny_letOwnedTupleGo_enum (s := { s with heap := h', toks := tk + 1 }) ho fun h'' he' sb => ?_⟩
    have hT3 : h''.get? s.heap.objs.size = some { cls := .type "tuple", data := .seq #[.int i tk, u] } := (sb.2 _ (Nat.ne_of_gt hel)).trans hT2
    have new : ObjOk X.prog X.w (upd H s.heap.objs.size (.tup [.int (i : Nat), xs[i]])) h'' s.heap.objs.size (.tup [.int (i : Nat), xs[i]]) :=
      ⟨by show 2 ≤ sizeLine; decide, [.int i tk, u], .cons ⟨_, rfl⟩ (.cons ru .nil), ⟨_, hT3, rfl, _, rfl⟩⟩
    have I1 : Inv X pins σ (upd H s.heap.objs.size (.tup [.int (i : Nat), xs[i]])) { s with heap := h'', toks := tk + 1 } :=
      I.turnedNew (ch := [e, it]) (fun b ob hb q => (sb.2 b (fun z => hb (by simp [z]))).trans (hk b ob (fun z => hb (by simp [z])) (fun z => hb (by simp [z])) q)) hf (Nat.le_refl _) new
    refine ⟨.ref s.heap.objs.size, _, I1, rfl, ⟨_, xs[i], rfl, I.hok.fresh (Nat.le_refl _), rfl, hxv⟩, ⟨⟨u, ?_⟩, hst.1.at fun o q => (sb.2 it (Ne.symm hne)).trans q, hne, hae, hai⟩, fun b hb => ?_⟩
    · have e1 : ((i + 1 : Nat) : Int) = (i : Int) + 1 := by omega
      rw [e1]; exact he'
    · have hb' : b < s.heap.objs.size := by
        have e' : b = e ∨ b = it := by simpa using hb
        rcases e' with z | z
        · rw [z]; exact hel
        · rw [z]; exact hil
      rw [upd_ne (Nat.ne_of_lt hb')]
      exact (hf b hb).1
  done := by
    intro X hP hw hK hc i pins s σ H E I hf st hg
    subst hP hw hK
    obtain ⟨⟨old, he⟩, hit, hne, hae, hai⟩ := st
    obtain ⟨hq, hx⟩ := hg
    obtain ⟨its, rv, p, hz⟩ := I.tuple hq
    obtain ⟨f0, f1, f2, f3, f4, f5⟩ := hf it (by simp)
    have hlen := rv.length
    have hT := it_tup p
    have D := Draws.tuple (prog := X.prog) (w := X.w) (A := X.A.in1) (show X.A.in1.handled = none from I.ok.hd hc) it a hai its.toArray
    have hi : i = its.toArray.size := by simp; omega
    subst hi
    exact wpAny_pyNext_enum_endD D he ⟨hit, hT⟩ fun h' eb => ⟨rfl, I.turned (t' := s.toks) (fun b o hb q => eb b o hb q) f0 f1 f3 f4 f5⟩
  self := fun A i s Q E st h => let ⟨⟨_, he⟩, _⟩ := st; wpAny_pyIter_enum he h
def iEnumT (K : PySem.W.Frag) (ta : TA) : TI := fun σ H R => ta σ H fun vs H1 => ∃ a xs, vs = [.ref a] ∧ SqT K H1 a xs ∧ R (Itet K a xs) H1
theorem pi_enumT {X : Cx} {e : Expr} {ta : TA} {p pos tpos : Pos} {elts : List Expr} {kk : Nat} (hg : Gl X "enumerate") (hm : X.mg "enumerate" = none) (ha : PA X [e] ta) (hs : starEach [e] X.env = [(false, eval e X.env)] := by rfl) :
    PI X (.Tuple elts kk tpos) (.Call (.Name "enumerate" p) [e] [] pos) (iEnumT X.K ta) := by
  refine ⟨fun pins s σ H R I h => ?_⟩
  refine Call_ (ld_blt I hg hm boot_enumerate (PyProof.Rows.callWith_type1 (thn (ha.run pos pins s σ H _ I h) fun us s1 ⟨vs, H1, I1, r1, q1⟩ => ?_) hs rfl))
  obtain ⟨a, xs, ex, hq, q⟩ := q1
  subst ex
  cases r1 with
  | cons r rr =>
    cases rr
    cases r
    obtain ⟨its, rv, p', hz⟩ := I1.tuple hq
    have hal : a < s1.heap.objs.size := p'.lt
    refine call_enum1 (begins_tuple a its.toArray) (it_tup p') fun h' he hit hk => wpAny_pyIter_enum he ?_
    have I2 : Inv X pins σ H1 { s1 with heap := h' } := I1.kept (t' := s1.toks) hk
    refine ⟨s1.heap.objs.size + 1, [s1.heap.objs.size + 1, s1.heap.objs.size], _, _, H1, rfl, I2, turn_enumT a (s1.heap.objs.size + 1) s1.heap.objs.size xs,
      ⟨⟨.none, he⟩, ⟨_, hit, rfl, rfl⟩, Nat.succ_ne_self _, Nat.ne_of_lt (Nat.lt_succ_of_lt hal), Nat.ne_of_lt hal⟩, fun b hb => ?_, q⟩
    have hle : s1.heap.objs.size ≤ b := by
      rcases (by simpa using hb : b = s1.heap.objs.size + 1 ∨ b = s1.heap.objs.size) with z | z
      · rw [z]; exact Nat.le_succ _
      · rw [z]; exact Nat.le_refl _
    exact I1.fpOk hle (I1.hok.fresh hle)
theorem walk_enumT {K : PySem.W.Frag} {a : Addr} {xs : List V} : Walk (Itet K a xs) xs.length (fun H => SqT K H a xs) (YPair (fun i => some (.int (i : Nat))) (fun i => xs[i]?)) := by
  refine ⟨fun i _ hi q => ⟨q, hi⟩, fun _ q => ⟨q, rfl⟩, fun i H v H' _ q y => ?_⟩
  obtain ⟨T, x, h1, h2, h3, h4⟩ := y
  exact ⟨T, .int (i : Nat), x, h1, h2, h3, rfl, h4⟩
end
end Far

set_option Elab.async false
set_option linter.all false
set_option maxRecDepth 100000
set_option maxHeartbeats 4000000
/-! FarRules2: t[::-1] of a tuple; dict comprehensions whatever the keys are -/
namespace Far
open PySem PySem.Spec PyProof.Rows L2 Fz
section
variable {prog : Program} {w : World} {A : Around} {E : Value → Shared → Prop} {s : Shared}
theorem adj_rev (n : Nat) : Builtin.Slice.sliceAdjust none none (-1) (n : Int) = ((n : Int) - 1, -1) := by
  unfold Builtin.Slice.sliceAdjust
  simp
theorem places_rev (n : Nat) : Builtin.Slice.slicePlaces ((n : Int) - 1) (-1) (-1) = n := by
  unfold Builtin.Slice.slicePlaces
  have h1 : ¬ ((-1 : Int) > 0) := by omega
  simp only [h1, if_false]
  have e2 : (-(-1 : Int)) = 1 := by omega
  rw [e2, Int.ediv_one]
  split <;> omega
theorem applied_rev {sl : Addr} {n : Nat} {tk : Tok} {Q : Int × Int × Nat → Shared → Prop} (hs : s.heap.IsSliceOf sl .none .none (.int (-1) tk)) (h : Q ((n : Int) - 1, -1, n) s) :
    wpAny (model prog w) A (Builtin.Slice.sliceApplied (.ref sl) (pure (n : Int))) Q E s := by
  obtain ⟨os, hos, hcs, hds⟩ := id hs
  unfold Builtin.Slice.sliceApplied Builtin.Slice.sliceFields
  refine wpAny_bind (wpAny_bind (wpAny_field hos hds (x := .none) rfl (wpAny_bind (wpAny_field hos hds (x := .none) rfl (wpAny_bind (wpAny_field hos hds (x := .int (-1) tk) rfl (wpAny_pure ?_)))))))
  refine wpAny_bind (HT.slicePart_ (.int _ _) ?_)
  show wpAny _ _ (if ((-1 : Int) == 0) = true then _ else _) _ _ s
  rw [if_neg (by decide)]
  refine wpAny_bind (HT.slicePart_ .none (wpAny_bind (HT.slicePart_ .none (wpAny_bind (wpAny_pure ?_)))))
  show wpAny _ _ (match Builtin.Slice.sliceAdjust none none (-1) (n : Int) with | (lo, hi) => pure (lo, (-1 : Int), Builtin.Slice.slicePlaces lo hi (-1))) _ _ s
  rw [adj_rev n]
  show wpAny _ _ (pure ((n : Int) - 1, (-1 : Int), Builtin.Slice.slicePlaces ((n : Int) - 1) (-1) (-1))) _ _ s
  rw [places_rev]
  exact wpAny_pure h
theorem pick_rev (xs : Array Value) : ((List.range xs.size).filterMap fun (m : Nat) => xs[(((xs.size : Int) - 1) + (m : Int) * (-1)).toNat]?).toArray = xs.toList.reverse.toArray := by
  congr 1
  have e : (List.range xs.size).filterMap (fun (m : Nat) => xs[(((xs.size : Int) - 1) + (m : Int) * (-1)).toNat]?) = ((List.range xs.size).map fun k => xs.size - 1 - k).filterMap (xs[·]?) := by
    rw [List.filterMap_map]
    have key : ∀ l : List Nat, (∀ m ∈ l, m < xs.size) → l.filterMap (fun (m : Nat) => xs[(((xs.size : Int) - 1) + (m : Int) * (-1)).toNat]?) = l.filterMap ((fun x => xs[x]?) ∘ fun k => xs.size - 1 - k) := by
      intro l
      induction l with
      | nil => intro _; rfl
      | cons m r ih =>
        intro hm
        have h1 := hm m List.mem_cons_self
        have e1 : (((xs.size : Int) - 1) + (m : Int) * (-1)).toNat = xs.size - 1 - m := by omega
        rw [List.filterMap_cons, List.filterMap_cons, ih fun k hk => hm k (List.mem_cons_of_mem _ hk), e1]
        rfl
    exact key _ fun m hm => List.mem_range.mp hm
  rw [e, PySem.W.krv_range, List.filterMap_reverse, PySem.W.krv_all]
theorem getItem_tuple_rev {t sl : Addr} {items : Array Value} {tk : Tok} {Q : Value → Shared → Prop} (ht : IsTup s.heap t items) (hs : s.heap.IsSliceOf sl .none .none (.int (-1) tk))
    (h : Q (.ref s.heap.objs.size) { s with heap := s.heap.push { cls := .type "tuple", data := .seq items.toList.reverse.toArray } }) (hsz : items.size ≤ sizeLine) : wpAny (model prog w) A (getItem (.ref t) (.ref sl)) Q E s := by
  have hz : sizeOk (.seq items.toList.reverse.toArray) := by
    show items.toList.reverse.toArray.size ≤ sizeLine
    simpa using hsz
  obtain ⟨os, hos, hcs, hds⟩ := id hs
  have hTs : s.TypeIs (.ref sl) "slice" := ⟨os, hos, hcs⟩
  unfold getItem
  try with_reducible refine wpAny_holding ?_
  first | refine wpAny_bind (wpAny_pure ?_) | skip
  refine wpAny_bind (wpAny_sequenceKey ht.typeIs (by decide) ?_)
  refine wpAny_bind (wpAny_callSpecial?_slot (name := Str.ofString "__getitem__") ht.typeIs PyProof.Rows.slot_tuple_getitem (wpAny_call_entry PyProof.Rows.slot_tuple_getitem ht.typeIs entry_tuple_getitem ?_ (args_tuple_getitem _ _)))
  show wpAny _ _ (Builtin.Tuple.tupleItemsOf (.ref t) >>= _) _ _ s
  refine wpAny_bind (tupleItemsOf_ ht ?_)
  refine wpAny_bind (wpAny_typeOf hTs ?_)
  rw [if_pos (by decide)]
  refine wpAny_bind (applied_rev hs ?_)
  have hno : ¬ ((((items.size : Int) - 1) == 0 && (-1 : Int) == 1 && items.size == items.size) = true) := by simp
  show wpAny _ _ (if (((items.size : Int) - 1) == 0 && (-1 : Int) == 1 && items.size == items.size) = true then _ else _) _ _ s
  rw [if_neg hno, pick_rev]
  first
    | exact wpAny_bind (m := Builtin.Tuple.tupleExact _) (wpAny_newObj_type (wpAny_pure ⟨_, rfl, wpAny_pure h⟩) hz)
    | exact wpAny_bind (m := Builtin.Tuple.tupleExact _) (wpAny_newObj_type (wpAny_bind (wpAny_pure (wpAny_pure ⟨_, rfl, wpAny_pure h⟩))) hz)
    | exact wpAny_bind (wpAny_bind (m := Builtin.Tuple.tupleExact _) (wpAny_newObj_type (wpAny_pure (wpAny_pure ⟨_, rfl, wpAny_pure h⟩)) hz))
    | exact wpAny_bind (wpAny_bind (m := Builtin.Tuple.tupleExact _) (wpAny_newObj_type (wpAny_pure ⟨_, rfl, wpAny_pure h⟩) hz))
end
section
variable {X : Cx}
/-- t[::-1] -/
def tRevT (K : PySem.W.Frag) (te : TE) : TE := fun σ H Q => te σ H fun x H1 => ∃ a xs, x = .ref a ∧ SqT K H1 a xs ∧ ∀ p, H1 p = none → Q (.ref p) (upd H1 p (.tup xs.reverse))
theorem pe_revT {e : Expr} {te : TE} {k : Nat} {p1 p2 p3 pos : Pos} (he : PE X e te) : PE X (.Subscript e (.Slice none none (some (.UnaryOp .USub (.Constant (.int 1) k p1) p2)) p3) pos) (tRevT X.K te) := by
  refine ⟨fun pins s σ H Q I h => Subscript_ (thn (he.run pins s σ H _ I h) fun v s1 ⟨x, H1, I1, r1, a, xs, ex, hx, q⟩ => ?_)⟩
  subst ex
  cases r1
  refine wpAny_Slice (thn (po_none.run pins s1 σ H1 (fun o H2 => o = none ∧ H2 = H1) I1 ⟨rfl, rfl⟩) fun vl s2 ⟨l, H2, I2, pl, el, e2⟩ => ?_)
  subst el e2
  refine thn (po_none.run pins s2 σ H2 (fun o H3 => o = none ∧ H3 = H2) I2 ⟨rfl, rfl⟩) fun vu s3 ⟨u, H3, I3, pu, eu, e3⟩ => ?_
  subst eu e3
  have hst : PO X (some (.UnaryOp .USub (.Constant (.int 1) k p1) p2)) (tPart (tUn (rU fun i => .int (-i)) (tC (.int 1)))) := po_some (pe_un un_neg pe_int)
  refine thn (hst.run pins s3 σ H3 (fun o H4 => o = some (-1) ∧ H4 = H3) I3 ⟨1, rfl, -1, rfl, rfl, rfl⟩) fun vs s4 ⟨o, H4, I4, ps, eo, e4⟩ => ?_
  subst eo e4
  have I5 : Inv X pins σ H4 { s4 with heap := s4.heap.push { cls := .type "slice", data := .fields #[vl, vu, vs] } } := I4.kept (t' := s4.toks) fun b ob q => Heap.get?_push_of_some _ q
  obtain ⟨its, r, ht, hz⟩ := I5.tuple hx
  have hlen := r.length
  cases pl
  cases pu
  obtain ⟨tk, rfl⟩ : ∃ tk, vs = Value.int (-1) tk := by
    cases ps
    exact ⟨_, rfl⟩
  show wpAny (model X.prog X.w) X.A (subscriptTail e (.Slice none none (some (.UnaryOp .USub (.Constant (.int 1) k p1) p2)) p3) (.ref a) (.ref s4.heap.objs.size)) (EP X pins σ Q) X.xe { s4 with heap := s4.heap.push { cls := .type "slice", data := .fields #[.none, .none, .int (-1) tk] } }
  refine tail_any (ops := [.ref a, .ref s4.heap.objs.size]) ht.typeIs (PyProof.Rows.slot_tuple_getitem.lookup) ?_ (by with_unfolding_all rfl)
  refine getItem_tuple_rev ht (Heap.IsSliceOf.new _ .none .none (.int (-1) tk)) ?_ (by rw [List.size_toArray]; omega)
  refine ⟨.ref _, _, I5.laid (t' := s4.toks) (o := .tup xs.reverse) (fun b ob q => Heap.get?_push_of_some _ q) (Nat.le_refl _) ?_, rfl, q _ (I5.hok.fresh (Nat.le_refl _))⟩
  exact ⟨by rw [List.length_reverse]; exact hz, _, r.reverse, ⟨_, Heap.get?_push_size _ rfl, rfl, 0, by simp⟩⟩
/-! ### a dict comprehension, whatever the dict that grows -/
/-- what a store into the growing dict at D asks (R: key, value, the object that it becomes) -/
def DSt (X : Cx) (R : Hp → Addr → V → V → HO → Prop) : Prop := ∀ (Y : Cx) (pins : List (Addr × Obj)) (s : Shared) (σ : L2.St) (H : Hp) (D : Addr) (y z : V) (u r : Value) (o : HO) (E : Value → Shared → Prop) (Q : Unit → Shared → Prop), Y.prog = X.prog → Y.w = X.w → Y.A = X.A →
  Inv Y pins σ H s → R H D y z o → RelV y u → RelV z r → (∀ s', Inv Y pins σ (upd H D o) s' → Q () s') → wpAny (model X.prog X.w) X.A (dictSet D u r) Q E s
def DEm (X : Cx) (o0 : HO) : Prop := ∀ (H : Hp) (h : Heap), sysModules < h.objs.size → ObjOk X.prog X.w H (h.push { cls := .type "dict", data := .dict #[] }) h.objs.size o0
def tDg (o0 : HO) (R : Hp → Addr → V → V → HO → Prop) (wi : TI) (g : TG) (tt : TT) (tk tv : TE) (vs : List Nat) : TE := fun σ H Q => wi σ H fun J H1 => ∀ D, H1 D = none → ∃ W : Nat → Nat → Hp → Prop, (∃ m, W 0 m (upd H1 D o0)) ∧ ∀ i m H, W i m H →
  (J.stop i H ∧ Q (.ref D) H) ∨ (J.go i H ∧ ∃ Nx : Hp → Prop, (∀ H', Nx H' → ∃ m', m' < m ∧ W (i + 1) m' H') ∧ ∀ x H', J.yld i H x H' → g x (wipe σ vs) H' fun σ2 H2 => wipe σ2 vs = wipe σ vs ∧ tt σ2 H2 fun b H3 =>
    if b = true then tk σ2 H3 fun y H4 => tv σ2 H4 fun z H5 => ∃ o, R H5 D y z o ∧ Nx (upd H5 D o) else Nx H3)
theorem dg_core {o0 : HO} {R : Hp → Addr → V → V → HO → Prop} (hem : DEm X o0) (hst : DSt X R) {pins : List (Addr × Obj)} {s : Shared} {σ : L2.St} {H : Hp} {Q : VK} {kx vx tg iter : Expr} {ifs : List Expr} {scope : Scope} {own : List (Str × Nat)} {pos pos' : Pos} {wi : TI} {g : TG} {tt : TT} {tk tv : TE} {use : Option (Value → Sem Unit)} {Qf : Value → Shared → Prop}
    (hc : X.calm = true) (hN : X.N.Nodup) (I : Inv X pins σ H s) (hi : PI X tg iter wi) (ok : BlkOk X.N X.env.scope scope own)
    (hg : ∀ (s : Shared) (H : Hp) (C : Addr) (cl : List (Str × Addr)) (fp : List Addr), PG (X.blk s H scope (compEnvC scope cl C X.env) fp) tg g) (ht : ∀ (s : Shared) (H : Hp) (C : Addr) (cl : List (Str × Addr)) (fp : List Addr), PTs (X.blk s H scope (compEnvC scope cl C X.env) fp) ifs tt)
    (hk : ∀ (s : Shared) (H : Hp) (C : Addr) (cl : List (Str × Addr)) (fp : List Addr), PE (X.blk s H scope (compEnvC scope cl C X.env) fp) kx tk)
    (he : ∀ (s : Shared) (H : Hp) (C : Addr) (cl : List (Str × Addr)) (fp : List Addr), PE (X.blk s H scope (compEnvC scope cl C X.env) fp) vx tv) (hs : ∀ x, foldedSetIterable iter X.env x = pure x)
    (h : tDg o0 R wi g tt tk tv (own.map (·.2)) σ H Q)
    (back : ∀ D C s' m H', Inv X pins σ H' s' → Q (.ref D) H' → s'.heap.Ns C m → FpOk X pins H' C → compPost (model X.prog X.w) X.A X.xe use Qf (.ref D) C (.ok .next) s') :
    wpAny (model X.prog X.w) X.A (comprehension (.DictComp kx vx [⟨tg, iter, ifs, 0⟩] scope pos) scope X.env pos' newDict false (eval iter X.env) use) Qf X.xe s := by
  have hfree : ∀ y ∈ scope.names, y.2 = .free → ∃ c, X.env.cells.lookup y.1 = some c := fun y hy e => (ok.free y hy e).elim (fun k => I.ok.has _ (.inl k)) fun k => I.ok.has _ (.inr k)
  refine wpAny_comprehension_free (use := use) rfl hs (closure_ok hfree) ok.kind (fun y hy e => by rw [ok.uniq y hy, e]) (thn (hi.run pins s σ H _ I h) fun xv s1 hx => thn hx fun itv s2 h2 => ?_)
  obtain ⟨it, fp, tn, J, H2, e, I2, T, st2, f2, q⟩ := h2
  subst e
  refine wpAny_newObj_type (newEnv_comp ?_)
  generalize hD : s2.heap.objs.size = D
  obtain ⟨W, ⟨m0, w0⟩, turn⟩ := q D (I2.hok.fresh (Nat.le_of_eq hD))
  generalize hs3 : ({ s2 with heap := s2.heap.push { cls := .type "dict", data := .dict #[] } } : Shared) = s3
  have h3 : s3.heap = s2.heap.push { cls := .type "dict", data := .dict #[] } := by rw [← hs3]
  have I3 : Inv X pins σ (upd H2 D o0) s3 := by
    rw [← hs3]
    exact I2.laid (t' := s2.toks) (fun b o e => Heap.get?_push_of_some _ e) (Nat.le_of_eq hD) (hD ▸ hem _ s2.heap I2.big)
  have f3 : ∀ b ∈ fp, FpOk X pins (upd H2 D o0) b ∧ b < s3.heap.objs.size := fun b hb => by
    obtain ⟨o, e, _⟩ := T.obj _ _ st2 b hb
    have hlt := Heap.lt_size e
    refine ⟨⟨?_, (f2 b hb).2⟩, by rw [h3, Heap.size_push]; exact Nat.lt_succ_of_lt hlt⟩
    rw [upd_ne (by rw [← hD]; exact Nat.ne_of_lt hlt)]
    exact (f2 b hb).1
  have st3 : tn 0 s3.heap := T.keep _ _ _ st2 fun b _ o e => by rw [h3]; exact Heap.get?_push_of_some _ e
  have I4 := block_start I3 ok hN f3
  have pg := hg s3 (upd H2 D o0) s3.heap.objs.size (cellsFrom (s3.heap.objs.size + 1) scope.names (cloFrom X.env.cells scope.names [])) fp
  have pt := ht s3 (upd H2 D o0) s3.heap.objs.size (cellsFrom (s3.heap.objs.size + 1) scope.names (cloFrom X.env.cells scope.names [])) fp
  have pk := hk s3 (upd H2 D o0) s3.heap.objs.size (cellsFrom (s3.heap.objs.size + 1) scope.names (cloFrom X.env.cells scope.names [])) fp
  have pe := he s3 (upd H2 D o0) s3.heap.objs.size (cellsFrom (s3.heap.objs.size + 1) scope.names (cloFrom X.env.cells scope.names [])) fp
  show codeAny _ _ (.compStart (.DictComp kx vx [⟨tg, iter, ifs, 0⟩] scope pos) 0 (.ref it) (.ref D) (compEnvC scope (cellsFrom (s3.heap.objs.size + 1) scope.names (cloFrom X.env.cells scope.names [])) s3.heap.objs.size X.env)) (compPost (model X.prog X.w) X.A X.xe use Qf (.ref D) s3.heap.objs.size) { s3 with heap := pushCells (s3.heap.push { cls := .type "dict", data := .dict #[] }) scope.names }
  generalize hce : compEnvC scope (cellsFrom (s3.heap.objs.size + 1) scope.names (cloFrom X.env.cells scope.names [])) s3.heap.objs.size X.env = ce at I4 pg pt pk pe ⊢
  have cL : ce.locals = s3.heap.objs.size := by subst hce; rfl
  have nfp : ∀ b ∈ fp, (upd H2 D o0) b = none := fun b hb => (f3 b hb).1.1
  generalize hH3 : upd H2 D o0 = H3 at I3 I4 pg pt pk pe w0 nfp f3
  generalize hs4 : ({ s3 with heap := pushCells (s3.heap.push { cls := .type "dict", data := .dict #[] }) scope.names } : Shared) = s4 at I4 ⊢
  have st4 : tn 0 s4.heap := T.keep _ _ _ st3 fun b _ o e => by rw [← hs4]; exact pushCells_keeps _ _ _ _ (Heap.get?_push_of_some _ e)
  have stat : ∀ {σ' : L2.St} {H' : Hp} {s' : Shared}, Inv (X.blk s3 H3 scope ce fp) [] σ' H' s' → (∀ b ∈ fp, H' b = none) → ∀ b ∈ fp, FpOk (X.blk s3 H3 scope ce fp) [] H' b := fun {σ' H' s'} I' hn b hb =>
    ⟨hn b hb, (I'.ok.exf b hb).1, I'.ok.exfs b hb, .inl hb, fun x c e => (I'.ok.exf b hb).2 x c e, fun p hp => absurd (show p ∈ ([] : List (Addr × Obj)) ++ [] from hp) (by simp)⟩
  have loop : codeAny (model X.prog X.w) X.A (.compLoop (.DictComp kx vx [⟨tg, iter, ifs, 0⟩] scope pos) 0 (.ref it) (.ref D) ce) (compPost (model X.prog X.w) X.A X.xe use Qf (.ref D) s3.heap.objs.size) s4 := by
    refine compLoop_anyD (fun n s' => ∃ i H', Inv (X.blk s3 H3 scope ce fp) [] (wipe σ (own.map (·.2))) H' s' ∧ tn i s'.heap ∧ (∀ b ∈ fp, H' b = none) ∧ W i n H') ?_ m0 ⟨0, H3, I4, st4, nfp, w0⟩
    rintro n s5 ⟨i, H5, I5, st5, n5, w5⟩
    rcases turn i n H5 w5 with ⟨stop, qq⟩ | ⟨go, Nx, hNx, stp⟩
    · refine thnF (T.done (X.blk s3 H3 scope ce fp) rfl rfl rfl hc i [] s5 _ H5 (fun _ _ => False) I5 (stat I5 n5) st5 stop) fun r s6 ⟨hr, I6⟩ => ?_
      subst hr
      have I7 : Inv X pins σ H5 s6 := I3.call' (ch := fp) I6.os I6.base I6.hok I6.bare fun b hb => ⟨(f3 b hb).1.2.2.2.1, (f3 b hb).1.2.1, (f3 b hb).1.2.2.2.2.1, (f3 b hb).1.2.2.2.2.2⟩
      have nC : H5 s3.heap.objs.size = none := cL ▸ (show H5 ce.locals = none from I6.free)
      obtain ⟨m, hn, _⟩ := I6.loc
      have hn : s6.heap.Ns ce.locals m := hn
      rw [cL] at hn
      exact back D s3.heap.objs.size s6 m H5 I7 qq hn (I3.fpOk (Nat.le_refl _) nC)
    · refine thnF (T.item (X.blk s3 H3 scope ce fp) rfl rfl rfl hc i [] s5 _ H5 (fun _ _ => False) I5 (stat I5 n5) st5 go) fun r s6 ⟨u, hr, h6⟩ => ?_
      subst hr
      refine thnF h6 fun _ s7 ⟨x, H7, I7, r7, y7, st7, n7⟩ => ?_
      refine thnF (pg.run _ s7 _ H7 x u _ (I7.pinned (stat I7 n7) (T.obj _ _ st7)) r7 (stp x H7 y7)) fun _ s8 ⟨σ8, H8, I8, hw8, q8⟩ => ?_
      refine thnF (pt.run _ s8 σ8 H8 _ I8 q8) fun b s9 ⟨H9, I9, q9⟩ => ?_
      have fin : ∀ {s' : Shared} {H' : Hp}, Inv (X.blk s3 H3 scope ce fp) ([] ++ pinsAt fp s7.heap) σ8 H' s' → Nx H' → ∃ m, m < n ∧ ∃ i H', Inv (X.blk s3 H3 scope ce fp) [] (wipe σ (own.map (·.2))) H' s' ∧ tn i s'.heap ∧ (∀ b ∈ fp, H' b = none) ∧ W i m H' := fun {s' H'} I' nx => by
        obtain ⟨m', hm, w'⟩ := hNx H' nx
        have pin' : ∀ b ∈ fp, ∀ o, s7.heap.get? b = some o → s'.heap.get? b = some o ∧ H' b = none := fun b hb o e =>
          let z := I'.pin (b, o) (List.mem_append_right _ (List.mem_append_right _ (mem_pinsAt hb e)))
          ⟨z.1, z.2.1⟩
        have hl : (wipe σ (own.map (·.2))).length = σ8.length := by rw [← hw8, wipe_length]
        refine ⟨m', hm, i + 1, H', (I'.unpinned (pins := [])).weak hl (fun j v e => (wipe_some (hw8 ▸ e)).1), T.keep _ _ _ st7 fun b hb o e => (pin' b hb o e).1, fun b hb => ?_, w'⟩
        obtain ⟨o, e, _⟩ := T.obj _ _ st7 b hb
        exact (pin' b hb o e).2
      cases b with
      | false =>
        simp only [Bool.false_eq_true, if_false] at q9 ⊢
        exact fin I9 q9
      | true =>
        simp only [if_true] at q9 ⊢
        refine thnF (pk.run _ s9 σ8 H9 _ I9 q9) fun z s10 ⟨yk, H10, I10, r10, q10⟩ => ?_
        refine thnF (pe.run _ s10 σ8 H10 _ I10 q10) fun z2 s11 ⟨yv, H11, I11, r11, o, hR, nx⟩ => ?_
        exact hst (X.blk s3 H3 scope ce fp) _ _ _ _ _ _ _ _ _ _ _ _ rfl rfl rfl I11 hR r10 r11 fun s12 I12 => fin I12 nx
  exact codeAny_compStart_dict loop (T.self X.A 0 _ _ _ st4 loop)
theorem pe_dg {o0 : HO} {R : Hp → Addr → V → V → HO → Prop} (hem : DEm X o0) (hst : DSt X R) {kx vx tg iter : Expr} {ifs : List Expr} {scope : Scope} {own : List (Str × Nat)} {pos : Pos} {wi : TI} {g : TG} {tt : TT} {tk tv : TE} (hc : X.calm = true) (hN : X.N.Nodup) (hi : PI X tg iter wi) (ok : BlkOk X.N X.env.scope scope own)
    (hg : ∀ (s : Shared) (H : Hp) (C : Addr) (cl : List (Str × Addr)) (fp : List Addr), PG (X.blk s H scope (compEnvC scope cl C X.env) fp) tg g) (ht : ∀ (s : Shared) (H : Hp) (C : Addr) (cl : List (Str × Addr)) (fp : List Addr), PTs (X.blk s H scope (compEnvC scope cl C X.env) fp) ifs tt)
    (hk : ∀ (s : Shared) (H : Hp) (C : Addr) (cl : List (Str × Addr)) (fp : List Addr), PE (X.blk s H scope (compEnvC scope cl C X.env) fp) kx tk)
    (he : ∀ (s : Shared) (H : Hp) (C : Addr) (cl : List (Str × Addr)) (fp : List Addr), PE (X.blk s H scope (compEnvC scope cl C X.env) fp) vx tv) (hs : ∀ x, foldedSetIterable iter X.env x = pure x := by intro _; rfl) :
    PE X (.DictComp kx vx [⟨tg, iter, ifs, 0⟩] scope pos) (tDg o0 R wi g tt tk tv (own.map (·.2))) := by
  refine ⟨fun pins s σ H Q I h => ?_⟩
  rw [arm_eval_DictComp]
  refine dg_core hem hst hc hN I hi ok hg ht hk he hs h fun D C s' m H' I' q hn f => ⟨m, hn, fun h'' sb => ?_⟩
  obtain ⟨f0, f1, f2, f3, f4, f5⟩ := f
  exact ⟨.ref D, H', I'.turned (t' := s'.toks) (fun b o hb e => (sb.2 b hb).trans e) f0 f1 f3 f4 f5, rfl, q⟩
theorem sw_trueD {kx vx : Expr} {gs : List Comprehension} {scope : Scope} {pos py : Pos} {y : Str} {l : Nat} {env : Env} (hk : env.scope.kind = .function) (hy : env.scope.names.lookup y = some .local) (hl : (py.line == pos.line) = true)
    (ha : (scope.names.any fun (n, k) => n == y && (k == .local || k == .cell)) = false) : swapsWith (.DictComp kx vx gs scope pos) (some (.Name y py)) l env = pure true := by
  have ky : env.kindOf y = some .local := hy
  have hb : env.blockKind = .function := by unfold Env.blockKind; rw [hk]; rfl
  unfold swapsWith
  simp only [hb, ky, ha, Expr.pos, hl]
  rfl
/-- name = {..}, the name a local -/
theorem ps_setDg {o0 : HO} {R : Hp → Addr → V → V → HO → Prop} (hem : DEm X o0) (hst : DSt X R) {i : Nat} {y : Str} {py : Pos} {kx vx tg iter : Expr} {ifs : List Expr} {scope : Scope} {own : List (Str × Nat)} {pos spos : Pos} {wi : TI} {g : TG} {tt : TT} {tk tv : TE} (hc : X.calm = true) (hN : X.N.Nodup) (hy : X.N[i]? = some y) (hyl : X.env.scope.names.lookup y = some .local)
    (hsw : swapsWith (.DictComp kx vx [⟨tg, iter, ifs, 0⟩] scope pos) (some (.Name y py)) spos.line X.env = pure true) (hi : PI X tg iter wi) (ok : BlkOk X.N X.env.scope scope own)
    (hg : ∀ (s : Shared) (H : Hp) (C : Addr) (cl : List (Str × Addr)) (fp : List Addr), PG (X.blk s H scope (compEnvC scope cl C X.env) fp) tg g) (ht : ∀ (s : Shared) (H : Hp) (C : Addr) (cl : List (Str × Addr)) (fp : List Addr), PTs (X.blk s H scope (compEnvC scope cl C X.env) fp) ifs tt)
    (hk : ∀ (s : Shared) (H : Hp) (C : Addr) (cl : List (Str × Addr)) (fp : List Addr), PE (X.blk s H scope (compEnvC scope cl C X.env) fp) kx tk)
    (he : ∀ (s : Shared) (H : Hp) (C : Addr) (cl : List (Str × Addr)) (fp : List Addr), PE (X.blk s H scope (compEnvC scope cl C X.env) fp) vx tv) (hs : ∀ x, foldedSetIterable iter X.env x = pure x := by intro _; rfl) :
    PS X (.Assign [.Name y py] (.DictComp kx vx [⟨tg, iter, ifs, 0⟩] scope pos) spos) (tAsg (tDg o0 R wi g tt tk tv (own.map (·.2))) (gName i)) := by
  refine ⟨fun pins s σ H D I h => ?_⟩
  rw [exec_Assign_Name_used _ _ _ _ hsw]
  refine wpAny_bind (wpAny_standAt (wpAny_bind ?_))
  show wpAny _ X.A (do let _ ← comprehension (.DictComp kx vx [⟨tg, iter, ifs, 0⟩] scope pos) scope X.env (firstIterPos [⟨tg, iter, ifs, 0⟩] pos) newDict false (eval iter X.env) (some (assign (.Name y py) X.env))) _ _ s
  have h : tDg o0 R wi g tt tk tv (own.map (·.2)) σ H (fun x H1 => gName i x σ H1 D.nx) := h
  refine wpAny_bind (thn (dg_core (Qf := fun _ s' => SP X pins D .next s') hem hst hc hN I hi ok hg ht hk he hs h fun L C s' m H' I' q hn f => ?_) fun _ s' hq => wpAny_pure (wpAny_pure hq))
  show wpAny _ _ (assign (.Name y py) X.env (.ref L)) _ _ _
  refine wpAny_assign_Name (store_ok2 (v := V.ref L) I' hN hy (.inl hyl) rfl (fun s2 I2 ⟨a, sb, ha⟩ => ?_) (.inr hyl))
  obtain ⟨f0, f1, f2, f3, f4, f5⟩ := f
  have haC : C ≠ a := by
    rcases ha with z | z
    · rw [z]; exact f1
    · exact fun e => f4 y a z e.symm
  refine ⟨m, hn.sameBut sb haC, fun h3 sb3 => ?_⟩
  exact ⟨_, H', I2.turned (t' := s2.toks) (fun b o hb e => (sb3.2 b hb).trans e) f0 f1 f3 f4 f5, q⟩
/-- keys that are tuples of ints and texts -/
def RdT : Hp → Addr → V → V → HO → Prop := fun H D y z o => ∃ (kvs : List (List Key × V)) (k : List Key) (b : Addr), y = .ref b ∧ H b = some (.tup (k.map kV)) ∧ H D = some (.dT kvs) ∧ kvs.length < sizeLine ∧ o = .dT (putK kvs k z)
theorem dst_T (hu : X.A.units + 1 < cLine) : DSt X RdT := by
  intro Y pins s σ H D y z u r o E Q eP ew eA I hR ry rz h
  obtain ⟨kvs, k, b, rfl, eb, e, hl0, rfl⟩ := hR
  cases (show u = Value.ref b from ry)
  obtain ⟨hz, hd, xs, rel, dd⟩ := dt_of I.hok e
  have hxs : xs.length ≤ sizeLine := by rw [← Paired.length rel]; exact hz
  have hl : (putK kvs k z).length ≤ sizeLine := by have := length_putK kvs k z; omega
  rw [← eP, ← ew, ← eA]
  rw [← eA] at hu
  refine wpAny_dictSet_heap (hsz := hxs) (show (tupleKind (mixKind Y.prog Y.w)).room Y.A from Nat.lt_of_succ_lt hu) (key_of I.hok eb) dd fun h' dd' hs => h _ ?_
  obtain ⟨q, es, ep, hq, h2, h3, h4, _, h5⟩ := dd'
  refine d_write I (by rw [e]; exact True.intro) hs ⟨q, hq⟩ ⟨hl, hd, _, (rel.put k eb rz).keeps fun c ys ec => ?_, q, es, ep, hq, h2, h3, h4, h5⟩
  rw [upd_ne (ne_of ec e (fun z => nomatch z))]
  exact ec
theorem dem_T : DEm X (.dT []) := fun _ h hb => dt_empty h hb
end
/-- a comprehension of a dict over anything that is walked -/
theorem dg_it {o0 : HO} {R : Hp → Addr → V → V → HO → Prop} {J : It} {n : Nat} {G : Hp → Prop} {Y : Nat → Hp → V → Hp → Prop} (w : Walk J n G Y) {g : TG} {tt : TT} {tk tv : TE} {vs : List Nat} {σ : L2.St} {H1 : Hp} {D : Addr} {Qd : Hp → Prop} (Pv : Nat → Hp → Prop) (h0 : Pv 0 (upd H1 D o0)) (hG : ∀ i H, i ≤ n → Pv i H → G H)
    (hs : ∀ i x H H', i < n → Pv i H → Y i H x H' → g x (wipe σ vs) H' fun σ2 H2 => wipe σ2 vs = wipe σ vs ∧ tt σ2 H2 fun b H3 =>
      if b = true then tk σ2 H3 fun y H4 => tv σ2 H4 fun z H5 => ∃ o, R H5 D y z o ∧ Pv (i + 1) (upd H5 D o) else Pv (i + 1) H3) (hd : ∀ H, Pv n H → Qd H) :
    ∃ W : Nat → Nat → Hp → Prop, (∃ m, W 0 m (upd H1 D o0)) ∧ ∀ i m H, W i m H →
      (J.stop i H ∧ Qd H) ∨ (J.go i H ∧ ∃ Nx : Hp → Prop, (∀ H', Nx H' → ∃ m', m' < m ∧ W (i + 1) m' H') ∧ ∀ x H', J.yld i H x H' → g x (wipe σ vs) H' fun σ2 H2 => wipe σ2 vs = wipe σ vs ∧ tt σ2 H2 fun b H3 =>
        if b = true then tk σ2 H3 fun y H4 => tv σ2 H4 fun z H5 => ∃ o, R H5 D y z o ∧ Nx (upd H5 D o) else Nx H3) := by
  refine ⟨fun i m H => m = n - i ∧ i ≤ n ∧ Pv i H, ⟨n, by simp, Nat.zero_le _, h0⟩, ?_⟩
  rintro i m H ⟨rfl, hi, p⟩
  by_cases hlt : i < n
  · exact .inr ⟨w.goes i H hlt (hG i H hi p), Pv (i + 1), fun H' p' => ⟨n - (i + 1), by omega, rfl, hlt, p'⟩, fun x H' y => hs i x H H' hlt p (w.yields i H x H' hlt (hG i H hi p) y)⟩
  · obtain rfl : i = n := by omega
    exact .inl ⟨w.stops H (hG _ H hi p), hd H p⟩
end Far

set_option Elab.async false
set_option linter.all false
set_option maxRecDepth 100000
set_option maxHeartbeats 4000000
/-! FarRules3: d.values() of a dict with tuple keys; sorted(xs) of data of any depth -/
namespace Far
open PySem PySem.Spec PyProof.Rows L2 Fz
/-! ### d.values(), d's keys tuples -/
theorem frzT_val {X : Cx} {pins : List (Addr × Obj)} {σ : L2.St} {H : Hp} {s : Shared} {d : Addr} {o : Obj} {kvs : List (List Key × V)} (I : Inv X pins σ H s) (h : H d = some (.frz o (.dT kvs))) :
    (d == sysModules) = false ∧ ∃ (es : Array DictEntry) (ep : Nat), o.data = .dict es ep ∧ s.heap.DictRaw d es ep ∧ es.size = kvs.length ∧ ∀ (i : Nat) (k : List Key) (v : V), kvs[i]? = some (k, v) → ∃ (en : DictEntry), es[i]? = some en ∧ RelV v en.val := by
  obtain ⟨hd, z, hs, xs, pr, o', es, ep, ho, hx, hdt, he, _⟩ := I.hok d _ h
  rw [hd] at ho
  cases ho
  refine ⟨hs, es, ep, hdt, ⟨o, hd, hx, hdt⟩, ?_, fun i k v e => ?_⟩
  · have l1 : es.size = xs.length := size_of_entries he
    have l2 : kvs.length = xs.length := Paired.length pr
    omega
  · obtain ⟨b, hb, e1, _, e2⟩ := paired_get pr e
    have q := entry_at he i
    rw [hb] at q
    exact ⟨_, q, e2⟩
def Itdt (d : Addr) (o : Obj) (kvs : List (List Key × V)) : It :=
  ⟨fun i H => H d = some (.frz o (.dT kvs)) ∧ i < kvs.length, fun i H x H' => H' = H ∧ ∃ k, kvs[i]? = some (k, x), fun i H => H d = some (.frz o (.dT kvs)) ∧ kvs.length ≤ i⟩
theorem turn_valsT {P : Program} {w : World} {K : PySem.W.Frag} {tg : Expr} {d : Addr} {o : Obj} {es : Array DictEntry} {ep : Nat} {kvs : List (List Key × V)} (it : Addr) (hod : o.data = .dict es ep) :
    Turn P w K tg (Itdt d o kvs) [it] it (fun i h => h.IsValIter it d i kvs.length ep) where
  mem := by simp
  obj := fun i h st b hb => by
    obtain rfl : b = it := by simpa using hb
    obtain ⟨oi, e, c, dd⟩ := st
    exact ⟨oi, e, fun v z => by rw [dd] at z; cases z⟩
  keep := fun i h h' st k => st.at fun oi e => k it (by simp) oi e
  item := by
    intro X hP hw hK hc i pins s σ H E I hf st hg
    subst hP hw hK
    obtain ⟨hd, hi⟩ := hg
    obtain ⟨f0, f1, f2, f3, f4, f5⟩ := hf it (by simp)
    obtain ⟨hs, es', ep', hdt, hm, hsz, hv⟩ := frzT_val I hd
    obtain ⟨rfl, rfl⟩ := dict_ep hod hdt
    obtain ⟨⟨k, v⟩, hkv⟩ : ∃ p, kvs[i]? = some p := ⟨kvs[i], List.getElem?_eq_getElem hi⟩
    obtain ⟨en, hen, ru⟩ := hv i k v hkv
    have hi2 : i < es'.size := by omega
    rw [← hsz] at st
    refine wpAny_pyNext_values_item_raw st hm hi2 fun h' st' sb => ?_
    have e1 : es'[i] = en := by
      rw [Array.getElem?_eq_getElem hi2] at hen
      exact Option.some.inj hen
    rw [e1]
    have I1 : Inv X pins σ H { s with heap := h' } := I.turned (t' := s.toks) (fun b ob hb e => (sb.2 b hb).trans e) f0 f1 f3 f4 f5
    obtain ⟨oi, e, c, dd⟩ := id st'
    refine ⟨en.val, rfl, go_of (s := { s with heap := h' }) e c dd (by decide) ⟨v, H, I1, ru, ⟨rfl, k, hkv⟩, ?_, fun b hb => (hf b hb).1⟩⟩
    show h'.IsValIter it d (i + 1) kvs.length _
    rw [← hsz]
    exact st'
  done := by
    intro X hP hw hK hc i pins s σ H E I hf st hg
    subst hP hw hK
    obtain ⟨hd, hi⟩ := hg
    obtain ⟨f0, f1, f2, f3, f4, f5⟩ := hf it (by simp)
    obtain ⟨hs, es', ep', hdt, hm, hsz, hv⟩ := frzT_val I hd
    obtain ⟨rfl, rfl⟩ := dict_ep hod hdt
    rw [← hsz] at st
    exact wpAny_pyNext_values_end_raw (I.ok.hd hc) st hm (by omega) fun h' eb => ⟨rfl, I.turned (t' := s.toks) (fun b ob hb e => eb b ob hb e) f0 f1 f3 f4 f5⟩
  self := fun A i s Q E st h => wpAny_pyIter_valiter st h
def iValsT (td : TE) : TI := fun σ H R => td σ H fun x H1 => ∃ d o kvs, x = .ref d ∧ H1 d = some (.frz o (.dT kvs)) ∧ R (Itdt d o kvs) H1
theorem pi_valuesT {X : Cx} {tg e : Expr} {td : TE} {apos cpos : Pos} (he : PE X e td) (hbase : attributeBase e "values" X.env (eval e X.env) = eval e X.env := by rfl) (hline : (apos.endLine == cpos.line) = true := by rfl) : PI X tg (.Call (.Attribute e "values" apos) [] [] cpos) (iValsT td) := by
  refine ⟨fun pins s σ H R I h => ?_⟩
  refine wpAny_Call_method (T := "dict") (id := "dict.values") hbase rfl hline F.plainAttrs_dict F.slot_dict_values F.type_dict_values (thn (he.run pins s σ H _ I h) fun u s1 ⟨x, H1, I1, rx, d, o, kvs, ex, hd, q⟩ => ?_)
  subst ex
  obtain rfl : u = Value.ref d := rx
  obtain ⟨hs, es, ep, hdt, hm, hsz, hv⟩ := frzT_val I1 hd
  refine ⟨hm.typeIs, ?_, ?_⟩
  · obtain ⟨o', ho', hx, _⟩ := id hm
    intro a e
    cases e
    exact ⟨o', ho', hx.2.1⟩
  · have I2 : Inv X pins σ H1 { s1 with heap := s1.heap.push { cls := .type "dict_values", data := .fields #[.ref d] } } := I1.kept (t' := s1.toks) fun b ob q => Heap.get?_push_of_some _ q
    have fin : wpAny (model X.prog X.w) X.A (pyIter (.ref s1.heap.objs.size)) (PIE X pins σ tg R) X.xe { s1 with heap := s1.heap.push { cls := .type "dict_values", data := .fields #[.ref d] } } := by
      refine wpAny_pyIter_values_raw (d := d) ⟨_, Heap.get?_push_size _ rfl, rfl, rfl⟩ (hm.at fun ob q => Heap.get?_push_of_some _ q) (pi_one (tk := s1.toks) I2 _ (turn_valsT _ hdt) ⟨_, Heap.get?_push_size _ rfl, rfl, ?_⟩ q)
      rw [hsz] <;> rfl
    show wpAny _ _ (callWith cpos (.builtin "dict.values") [.ref d] [] []) _ X.xe s1
    exact method_meetsIn F.slot_dict_values F.entry_dict_values rfl (PySem.evalArgs_none ⟨rfl, hm.typeIs, F.args_dict_values_1 _, _, meets_dict_values_raw d hs, ⟨es, ep, hm⟩, fin⟩)
theorem walk_valsT {d : Addr} {o : Obj} {kvs : List (List Key × V)} : Walk (Itdt d o kvs) kvs.length (fun H => H d = some (.frz o (.dT kvs))) (fun i H x H' => H' = H ∧ ∃ k, kvs[i]? = some (k, x)) :=
  ⟨fun _ _ hi q => ⟨q, hi⟩, fun _ q => ⟨q, Nat.le_refl _⟩, fun _ _ _ _ _ _ y => y⟩
/-! ### sorted(xs), xs data of any depth -/
open PySem.W (EachIs AllAlike Sortable alike alikeAll dataLe) in
def rSortD (K : PySem.W.Frag) : List V → Hp → VK → Prop := fun vs H Q => ∃ (a : Addr) (ps : List (V × PyData)), vs = [.ref a] ∧ SqL K H a (ps.map (·.1)) ∧ (∀ p ∈ ps, Dp K H p.1 p.2) ∧ AllAlike (ps.map (·.2)) ∧ Sortable (ps.map (·.2)) ∧ (∀ p ∈ ps, p.2.depth ≤ 60) ∧
  ∀ (qs : List (V × PyData)) (p : Addr), qs.Perm ps → H p = none → Q (.ref p) (upd H p (.lst (qs.map (·.1))))
theorem each_of {X : Cx} {pins : List (Addr × Obj)} {σ : L2.St} {H : Hp} {s : Shared} (I : Inv X pins σ H s) : ∀ (ps : List (V × PyData)) (us : List Value), Vals (ps.map (·.1)) us → (∀ p ∈ ps, Dp X.K H p.1 p.2) →
    PySem.W.EachIs (fun v (b : V × PyData) => RelV b.1 v) us ps ∧ PySem.W.EachIs (fun v (b : V × PyData) => ∃ as, Reads s.heap v b.2 as) us ps
  | [], _, r, _ => by
    cases r
    exact ⟨.nil, .nil⟩
  | p :: ps, _, r, h => by
    cases r with
    | cons r1 r2 =>
      obtain ⟨e1, e2⟩ := each_of I ps _ r2 fun q hq => h q (List.mem_cons_of_mem _ hq)
      exact ⟨.cons r1 e1, .cons (Dp.reads I p.2 p.1 _ (h p List.mem_cons_self) r1) e2⟩
theorem vals_each : ∀ {us : List Value} {qs : List (V × PyData)}, PySem.W.EachIs (fun v (b : V × PyData) => RelV b.1 v) us qs → Vals (qs.map (·.1)) us
  | _, _, .nil => .nil
  | _, _, .cons h t => .cons h (vals_each t)
theorem cr_sortedD {X : Cx} (hu : X.A.units + 65 < cLine) : CallR X (.builtin "sorted") (rSortD X.K) := by
  intro pins s σ H vs us Q I r h
  obtain ⟨a, ps, rfl, hs, hd, hal, hso, hdp, q⟩ := h
  obtain ⟨its, rv, hl, hz⟩ := I.list hs
  rw [Vals.ref1 r]
  obtain ⟨e1, e2⟩ := each_of I ps its rv hd
  have hz' : ps.length ≤ sizeLine := by rw [List.length_map] at hz; exact hz
  refine PySem.W.sorted_data (enc := fun b : V × PyData => b.2) hl.isList e1 e2 hal hso hz' (fun b hb => by have := hdp b hb; omega) fun out ho hout => ?_
  have hp : (ps.mergeSort (PySem.W.dataLe false fun b : V × PyData => b.2)).Perm ps := List.mergeSort_perm ps _
  obtain ⟨ep, he'⟩ := PyProof.Rows.sortedAll_at s.heap its out.toArray
  have hlen : ((ps.mergeSort (PySem.W.dataLe false fun b : V × PyData => b.2)).map (·.1)).length ≤ sizeLine := by rw [List.length_map, hp.length_eq]; exact hz'
  exact ⟨.ref _, upd H (s.heap.objs.size + 1) (.lst _), I.laid (t' := s.toks) (fun _ _ => PyProof.Rows.sortedAll_old) (Nat.le_succ _) ⟨hlen, out, ep, vals_each hout, he'⟩, rfl, q _ _ hp (I.hok.fresh (Nat.le_succ _))⟩
end Far

set_option Elab.async false
set_option linter.all false
set_option maxRecDepth 100000
set_option maxHeartbeats 4000000
/-! FarSet: sets of tuples of ints and texts (the layer has those of ints alone): search for both askings, add; sets of texts -/
namespace Far
open PySem PySem.Spec PyProof.Rows L2 Fz
abbrev mhash (P : Program) (w : World) (k : List Key) : Int := tupleKeyHash (mixKind P w) k
abbrev IsM (P : Program) (w : World) (h : Heap) (k : List Key) (a : Addr) : Prop := IsTupleKey (mixKind P w) h k a
section
variable {P : Program} {w : World} {A : Around} {E : Value → Shared → Prop} {s : Shared}
theorem items_m {k : List Key} {vs : List Value} (h : ItemsAre (mixKind P w) k vs) : ∀ v ∈ vs, (∃ i t, v = Value.int i t) ∨ ∃ x t, v = Value.str x t := by
  induction h with
  | nil => intro v hv; cases hv
  | @cons k0 v' ks vs h1 _ ih =>
    intro v hv
    rcases List.mem_cons.mp hv with e | hv
    · rw [e]
      rcases keyIs_shape h1 with ⟨i, t, _, e2⟩ | ⟨x, t, _, e2⟩
      · exact .inl ⟨i, t, e2⟩
      · exact .inr ⟨x, t, e2⟩
    · exact ih v hv
theorem ofAClass_i (n : Nat) (i : Int) (t : Tok) : ofAClassStatement n (.int i t) = pure false := by
  cases n <;> rfl
theorem ofAClass_s (n : Nat) (i : Str) (t : Tok) : ofAClassStatement n (.str i t) = pure false := by
  cases n <;> rfl
theorem ofAClass_m {k : List Key} {b : Addr} {Q : Bool → Shared → Prop} (hk : IsM P w s.heap k b) (h : Q false s) : wpAny (model P w) A (ofAClassStatement 8 (.ref b)) Q E s := by
  have hT := hk.typeIs
  obtain ⟨o, items, n, ho, _, hd, hi⟩ := hk
  unfold ofAClassStatement
  refine wpAny_bind (wpAny_typeOf hT ?_)
  dsimp only
  have e : (("tuple" : String) == "tuple") = true := by decide
  simp only [e, if_true, Bool.not_true, Bool.false_eq_true, if_false]
  try refine wpAny_bind (wpAny_pure ?_)
  try simp only [Bool.not_true, Bool.false_eq_true, if_false]
  show wpAny _ _ (seqItems? (.ref b) >>= _) _ _ s
  refine wpAny_bind (wpAny_seqItems ho hd ?_)
  dsimp only
  refine wpAny_bind ?_
  show wpAny _ _ (forIn items _ _) _ _ s
  rw [← Array.forIn_toList]
  refine wpAny_forIn_list _ (fun rest r s' => r.1 = none ∧ s' = s ∧ ∀ v ∈ rest, (∃ i t, v = Value.int i t) ∨ ∃ x t, v = Value.str x t) _ ?_ ?_ _ _ ⟨rfl, rfl, items_m hi⟩
  · rintro v rest r s' ⟨hr, rfl, hall⟩
    have hv : ∀ n, ofAClassStatement n v = pure false := by
      rcases hall v List.mem_cons_self with ⟨i, t, rfl⟩ | ⟨i, t, rfl⟩
      · exact fun n => ofAClass_i n _ _
      · exact fun n => ofAClass_s n _ _
    rw [hv]
    refine wpAny_bind (wpAny_pure ?_)
    simp only [Bool.false_eq_true, if_false]
    exact wpAny_pure ⟨rfl, rfl, fun u hu' => hall u (List.mem_cons_of_mem _ hu')⟩
  · rintro ⟨r1, r2⟩ s' ⟨hr, rfl, _⟩
    simp only at hr
    subst hr
    exact wpAny_pure h
theorem hashBy_one (n : Nat) {v : Value} (h : (∃ i t, v = Value.int i t) ∨ ∃ x t, v = Value.str x t) : ∃ b, hashByValue n v = pure b := by
  rcases h with ⟨i, t, rfl⟩ | ⟨x, t, rfl⟩
  · exact ⟨true, by cases n <;> rfl⟩
  · exact ⟨false, by cases n <;> rfl⟩
theorem hashBy_m {k : List Key} {b : Addr} {Q : Bool → Shared → Prop} (hk : IsM P w s.heap k b) (h : ∀ r, Q r s) : wpAny (model P w) A (hashByValue 8 (.ref b)) Q E s := by
  have hT := hk.typeIs
  obtain ⟨o, items, n, ho, _, hd, hi⟩ := hk
  unfold hashByValue
  refine wpAny_bind (wpAny_specialOf hT F.slot_tuple_hash.lookup ?_)
  show wpAny _ _ (seqItems? (.ref b) >>= _) _ _ s
  refine wpAny_bind (wpAny_seqItems ho hd ?_)
  refine wpAny_bind ?_
  show wpAny _ _ (forIn items _ _) _ _ s
  rw [← Array.forIn_toList]
  refine wpAny_forIn_list _ (fun rest r s' => s' = s ∧ ∀ v ∈ rest, (∃ i t, v = Value.int i t) ∨ ∃ x t, v = Value.str x t) _ ?_ ?_ _ _ ⟨rfl, items_m hi⟩
  · rintro v rest r s' ⟨rfl, hall⟩
    obtain ⟨c, hv⟩ := hashBy_one 7 (hall v List.mem_cons_self)
    rw [hv]
    refine wpAny_bind (wpAny_pure ?_)
    cases c with
    | true =>
      simp only [Bool.not_true, Bool.false_eq_true, if_false]
      exact wpAny_pure ⟨rfl, fun u hu' => hall u (List.mem_cons_of_mem _ hu')⟩
    | false =>
      simp only [Bool.not_false, if_true]
      exact wpAny_pure (wpAny_pure (h false))
  · rintro ⟨r1, r2⟩ s' ⟨rfl, _⟩
    cases r1 with
    | none => exact wpAny_pure (h true)
    | some c => exact wpAny_pure (h c)
/-- a search among tuples shows nothing -/
theorem seen_m {k : List Key} {b : Addr} {Q : Bool → Shared → Prop} (hk : IsM P w s.heap k b) {ys : List Value} (hy : ∀ y ∈ ys, ∃ k' c, y = Value.ref c ∧ IsM P w s.heap k' c) (h : Q false s) :
    wpAny (model P w) A (searchCouldBeSeen (.ref b) ys) Q E s := by
  unfold searchCouldBeSeen
  refine wpAny_bind ?_
  refine wpAny_forIn_list _ (fun rest r s' => r.1 = none ∧ s' = s ∧ ∀ y ∈ rest, ∃ k' c, y = Value.ref c ∧ IsM P w s.heap k' c) _ ?_ ?_ _ _ ⟨rfl, rfl, hy⟩
  · rintro v rest r s' ⟨hr, rfl, hall⟩
    obtain ⟨k', c, rfl, hc⟩ := hall v List.mem_cons_self
    have rest' : ∀ y ∈ rest, ∃ k' c, y = Value.ref c ∧ IsM P w s'.heap k' c := fun u hu' => hall u (List.mem_cons_of_mem _ hu')
    dsimp only
    by_cases hv : (b == c || (carriedByValue (.ref b) && carriedByValue (.ref c))) = true
    · refine wp_if_pos hv ?_
      exact wpAny_pure ⟨rfl, rfl, rest'⟩
    · refine wp_if_neg hv ?_
      refine wpAny_bind (wpAny_eqIsQuiet_tuple hk ?_)
      simp only [Bool.not_true, Bool.false_eq_true, if_false]
      refine wpAny_bind (wpAny_eqIsQuiet_tuple hc ?_)
      simp only [Bool.not_true, Bool.false_eq_true, if_false]
      refine wpAny_bind (ofAClass_m hk ?_)
      simp only [Bool.false_eq_true, if_false]
      refine wpAny_bind (ofAClass_m hc ?_)
      simp only [Bool.false_eq_true, if_false]
      exact wpAny_pure ⟨rfl, rfl, rest'⟩
  · rintro ⟨r1, r2⟩ s' ⟨hr, rfl, _⟩
    simp only at hr
    subst hr
    exact wpAny_pure h

def rowsM (P : Program) (w : World) (L : List (Addr × List Key)) : List (Int × Value) := L.map fun p => (mhash P w p.2, Value.ref p.1)
structure SetM (P : Program) (w : World) (h : Heap) (a : Addr) (L : List (Addr × List Key)) (es : Array (Int × Value)) (ep : Nat) (t : SetTable) : Prop where
  ob : ∃ o, h.get? a = some o ∧ o.ExactSet ∧ o.data = .set es ep t
  rows : es.toList = rowsM P w L
  tab : TabOk t (L.map fun p => mhash P w p.2)
  nd : (L.map (·.2)).Nodup
  tup : ∀ p ∈ L, IsM P w h p.2 p.1
  led : w.params.followText "set-order" = true ∨ t.led = true
  room : L.length * 5 < t.mask * 3
  few : L.length < 64
theorem SetM.size (R : SetM P w s.heap a L es ep t) : es.size = L.length := by
  have h := congrArg List.length R.rows
  unfold rowsM at h
  rw [Array.length_toList, List.length_map] at h
  exact h
theorem SetM.fits (R : SetM P w s.heap a L es ep t) : t.fits es.size = true := by
  have h1 := R.tab.sz
  rw [List.length_map] at h1
  have h2 := R.size
  have h3 := R.room
  unfold SetTable.fits SetTable.fill
  rw [R.tab.dm, Bool.and_eq_true, beq_iff_eq, decide_eq_true_eq]
  show t.place.size = es.size ∧ t.place.size + 0 ≤ t.mask
  omega
theorem SetM.entry (R : SetM P w s.heap a L es ep t) {i : Nat} {p : Addr × List Key} (h : L[i]? = some p) : es[i]? = some (mhash P w p.2, Value.ref p.1) := by
  rw [← Array.getElem?_toList, R.rows]
  unfold rowsM
  rw [List.getElem?_map, h] <;> rfl
theorem SetM.gw (R : SetM P w s.heap a L es ep t) : ¬ t.gaveWay = true := by
  unfold SetTable.gaveWay
  rw [mask_odd R.tab.mok]
  decide
theorem searchM (R : SetM P w s.heap a L es ep t) {x : Addr} {k : List Key} (hx : IsM P w s.heap k x) (hu : A.units < cLine) {ad : Bool} {K : Nat} (hKf : K < 10 * SetTable.turns t.mask)
    (hK : way t.mask (mhash P w k) K ∉ t.place.toList) (hKb : ∀ c, c < K → way t.mask (mhash P w k) c ∈ t.place.toList) {Q : SetFound → Shared → Prop}
    (hin : k ∈ L.map (·.2) → ∀ r : Option Nat, (ad = false → r.isSome = true) → Q (.there r) s) (hout : k ∉ L.map (·.2) → Q (.free (way t.mask (mhash P w k) K) false) s) :
    ∀ (f c : Nat) (stand : Option SetTable.Probe), stand.getD (t.probeStart (mhash P w k)) = nth t.mask (runAt t.mask (SetTable.bits (mhash P w k) % (t.mask + 1)) (SetTable.bits (mhash P w k))) c → c ≤ K → K - c < f →
      (∀ (i : Nat) p, L[i]? = some p → p.2 = k → ∃ c', c ≤ c' ∧ c' < K ∧ t.place.toList[i]? = some (way t.mask (mhash P w k) c')) →
      wpAny (model P w) A (setSearchFrom a (.ref x) (mhash P w k) ad f stand) Q E s
  | 0, c, stand, _, _, hf, _ => absurd hf (Nat.not_lt_zero _)
  | f + 1, c, stand, hst, hc, hf, hre => by
    obtain ⟨o, ho, hex, hd⟩ := R.ob
    rw [setSearchFrom_succ]
    refine wpAny_bind (wpAny_setState_of ho hd R.fits ?_)
    dsimp only
    refine wp_if_neg R.gw ?_
    try refine wpAny_bind (wpAny_pure ?_)
    have hnd : (nth t.mask (runAt t.mask (SetTable.bits (mhash P w k) % (t.mask + 1)) (SetTable.bits (mhash P w k))) c).dummy = none := by
      have key : ∀ (n : Nat) (p : SetTable.Probe), p.dummy = none → (nth t.mask p n).dummy = none := by
        intro n
        induction n with
        | zero => intro p h; exact h
        | succ n ih =>
          intro p h
          refine ih (adv t.mask p) ?_
          unfold adv
          split <;> exact h
      exact key c _ rfl
    have sh : ∀ q, nth t.mask (nth t.mask (runAt t.mask (SetTable.bits (mhash P w k) % (t.mask + 1)) (SetTable.bits (mhash P w k))) c) q = nth t.mask (runAt t.mask (SetTable.bits (mhash P w k) % (t.mask + 1)) (SetTable.bits (mhash P w k))) (c + q) := fun q => (nth_add t.mask c _ q).symm
    have e1 : ∀ q, (nth t.mask (nth t.mask (runAt t.mask (SetTable.bits (mhash P w k) % (t.mask + 1)) (SetTable.bits (mhash P w k))) c) q).j = way t.mask (mhash P w k) (c + q) := fun q => congrArg SetTable.Probe.j (sh q)
    have spec := go_spec t R.tab.ris R.tab.dm (fun i => (es[i]?.map (·.1)).getD 0) (mhash P w k) (10 * SetTable.turns t.mask) (K - c) _ hnd (by omega)
      (fun q hq => by rw [e1]; exact hKb (c + q) (by omega)) (by rw [e1, show c + (K - c) = K by omega]; exact hK)
    have hashAt : ∀ (i : Nat) p, L[i]? = some p → (fun i => (es[i]?.map (·.1)).getD 0) i = mhash P w p.2 := fun i p hp => by
      show (es[i]?.map (·.1)).getD 0 = _
      rw [R.entry hp] <;> rfl
    rcases spec with ⟨q, i, hq, hi, hh, hno, hpr⟩ | ⟨hno, hpr⟩
    · -- a candidate
      have hpr' : t.probe (fun i => (es[i]?.map (·.1)).getD 0) (mhash P w k) (stand.getD (t.probeStart (mhash P w k))) = some (.candidate (way t.mask (mhash P w k) (c + q)) i (nth t.mask (runAt t.mask (SetTable.bits (mhash P w k) % (t.mask + 1)) (SetTable.bits (mhash P w k))) (c + (q + 1)))) := by
        rw [hst, ← e1, ← sh]
        exact hpr
      rw [hpr']
      dsimp only
      rw [e1] at hi
      -- the entry
      have hil : i < L.length := by
        have h1 : i < t.place.toList.length := (List.getElem?_eq_some_iff.mp hi).1
        have h2 := R.tab.sz
        rw [List.length_map] at h2
        rw [Array.length_toList] at h1
        omega
      have hp : L[i]? = some L[i] := List.getElem?_eq_getElem hil
      generalize hpe : L[i] = p at hp
      have hmem : p ∈ L := List.mem_of_getElem? hp
      have hpt := R.tup p hmem
      have rest : wpAny (model P w) A (searchRest a (.ref x) (mhash P w k) ad f es t (way t.mask (mhash P w k) (c + q)) i (nth t.mask (runAt t.mask (SetTable.bits (mhash P w k) % (t.mask + 1)) (SetTable.bits (mhash P w k))) (c + (q + 1)))) Q E s := by
        unfold searchRest
        rw [R.entry hp]
        dsimp only
        refine wpAny_bind (wpAny_holding (wpAny_eqBool_tuple hu hpt hx ?_))
        refine wpAny_bind (wpAny_setState_of ho hd R.fits ?_)
        dsimp only
        by_cases hkk : p.2 = k
        · have hml : k ∈ L.map (·.2) := List.mem_map.mpr ⟨p, hmem, hkk⟩
          cases ad with
          | true =>
            refine wp_if_pos (by simp [hkk]) ?_
            exact wpAny_pure (hin hml none fun z => nomatch z)
          | false =>
            refine wp_if_neg (by simp) ?_
            try refine wpAny_bind (wpAny_pure ?_)
            rw [sameMem]
            dsimp only
            have hsl : t.slot (way t.mask (mhash P w k) (c + q)) = .live i := slot_live R.tab.ris hi
            simp only [if_true, hsl, R.entry hp]
            refine wpAny_bind (wpAny_isSame_ref_self (wpAny_bind (wpAny_pure ?_)))
            simp only [if_true]
            refine wp_if_pos (by simp [hkk]) ?_
            exact wpAny_pure (hin hml (some i) fun _ => rfl)
        · refine wp_if_neg (by simp [hkk]) ?_
          try refine wpAny_bind (wpAny_pure ?_)
          rw [sameMem]
          dsimp only
          have hsl : t.slot (way t.mask (mhash P w k) (c + q)) = .live i := slot_live R.tab.ris hi
          simp only [if_true, hsl, R.entry hp]
          refine wpAny_bind (wpAny_isSame_ref_self (wpAny_bind (wpAny_pure ?_)))
          simp only [if_true]
          refine wp_if_neg (by simp [hkk]) ?_
          refine searchM R hx hu hKf hK hKb hin hout f (c + (q + 1)) _ rfl (by omega) (by omega) fun i0 p0 h0 hk0 => ?_
          obtain ⟨c', a1, a2, a3⟩ := hre i0 p0 h0 hk0
          refine ⟨c', ?_, a2, a3⟩
          -- it isn't passed
          rcases Nat.lt_or_ge c' (c + q) with z | z
          · exfalso
            refine hno (c' - c) i0 (by omega) (by rw [e1, show c + (c' - c) = c' by omega]; exact a3) ?_
            exact (hashAt i0 p0 h0).trans (congrArg (mhash P w) hk0)
          · rcases Nat.lt_or_ge (c + q) c' with y | y
            · omega
            · exfalso
              have ec : c' = c + q := Nat.le_antisymm y z
              rw [ec] at a3
              have s0 := slot_live R.tab.ris a3
              rw [hsl] at s0
              injection s0 with s0
              rw [← s0, hp] at h0
              exact hkk ((congrArg Prod.snd (Option.some.inj h0)).trans hk0)
      by_cases hl : t.led = true
      · refine wp_if_neg (by simp [hl]) ?_
        try refine wpAny_bind (wpAny_pure ?_)
        exact rest
      · refine wp_if_pos (by simp [hl]) ?_
        refine wpAny_bind (seen_m hx (fun y hy => ?_) ?_)
        · obtain ⟨e, he, ee⟩ := List.mem_map.mp hy
          have he1 : e ∈ es ∧ e.1 = mhash P w k := by simpa using he
          have he2 : e ∈ es.toList := by simpa using he1.1
          rw [R.rows] at he2
          obtain ⟨p2, hp2, e2⟩ := List.mem_map.mp he2
          refine ⟨p2.2, p2.1, ?_, R.tup p2 hp2⟩
          rw [← ee, ← e2]
        · refine wp_if_neg (by decide) ?_
          try refine wpAny_bind (wpAny_pure ?_)
          exact rest
    · -- the empty slot
      have hpr' : t.probe (fun i => (es[i]?.map (·.1)).getD 0) (mhash P w k) (stand.getD (t.probeStart (mhash P w k))) = some (.empty (way t.mask (mhash P w k) K) none) := by
        have e2 : way t.mask (mhash P w k) K = (nth t.mask (nth t.mask (runAt t.mask (SetTable.bits (mhash P w k) % (t.mask + 1)) (SetTable.bits (mhash P w k))) c) (K - c)).j := by
          rw [e1, show c + (K - c) = K by omega]
        rw [hst, e2]
        exact hpr
      rw [hpr']
      dsimp only
      refine wpAny_pure (hout fun hm => ?_)
      obtain ⟨p0, h0, hk0⟩ := List.mem_map.mp hm
      obtain ⟨i0, hi0, e0⟩ := List.getElem_of_mem h0
      have h00 : L[i0]? = some p0 := by rw [List.getElem?_eq_getElem hi0, e0]
      obtain ⟨c', a1, a2, a3⟩ := hre i0 p0 h00 hk0
      refine hno (c' - c) i0 (by omega) (by rw [e1, show c + (c' - c) = c' by omega]; exact a3) ?_
      exact (hashAt i0 p0 h00).trans (congrArg (mhash P w) hk0)

/-- the search as adding asks for it -/
theorem searchM_at (R : SetM P w s.heap a L es ep t) {x : Addr} {k : List Key} (hx : IsM P w s.heap k x) (hu : A.units < cLine) {Q : SetFound → Shared → Prop}
    {ad : Bool} (hin : k ∈ L.map (·.2) → ∀ r : Option Nat, (ad = false → r.isSome = true) → Q (.there r) s)
    (hout : ∀ K, k ∉ L.map (·.2) → way t.mask (mhash P w k) K ∉ t.place.toList → (∀ c, c < K → way t.mask (mhash P w k) c ∈ t.place.toList) → Q (.free (way t.mask (mhash P w k) K) false) s) :
    wpAny (model P w) A (setSearch a (.ref x) (mhash P w k) ad) Q E s := by
  have hroom := R.room
  obtain ⟨K, hKf, hK, hKb⟩ := R.tab.first (by rw [List.length_map]; omega) (mhash P w k)
  have hbig : K < 100000 := by
    have : 10 * SetTable.turns t.mask ≤ 1420 := by
      unfold SetTable.turns
      rcases R.tab.mok with e | e | e <;> omega
    omega
  unfold setSearch
  refine searchM R hx hu hKf hK hKb hin (fun hn => hout K hn hK hKb) 100000 0 none rfl (Nat.zero_le _) (by omega) fun i p hp hk => ?_
  have hi : (L.map fun p => mhash P w p.2)[i]? = some (mhash P w k) := by rw [List.getElem?_map, hp, ← hk] <;> rfl
  have hil : i < t.place.toList.length := by
    have h1 : i < L.length := (List.getElem?_eq_some_iff.mp hp).1
    have h2 := R.tab.sz
    rw [List.length_map] at h2
    rw [Array.length_toList]
    omega
  have hj := List.getElem?_eq_getElem hil
  obtain ⟨c, hc, e⟩ := R.tab.before hK hi hj
  exact ⟨c, Nat.zero_le _, hc, by rw [hj, e]⟩
end
section
variable {P : Program} {w : World} {A : Around} {E : Value → Shared → Prop} {s : Shared}
theorem isM_same {h h' : Heap} {k : List Key} {a b : Addr} {o : Obj} {es : Array (Int × Value)} {ep : Nat} {t : SetTable} (hb : IsM P w h k b) (ho : h.get? a = some o) (hd : o.data = .set es ep t) (hs : Heap.SameBut a h h') : IsM P w h' k b := by
  obtain ⟨o', items, n, ho', hc, hd', hi⟩ := hb
  have hne : b ≠ a := by
    rintro rfl
    obtain rfl : o' = o := Option.some.inj (ho'.symm.trans ho)
    rw [hd] at hd'
    exact nomatch hd'
  exact ⟨o', items, n, (hs.2 b hne).trans ho', hc, hd', hi⟩
theorem putM (L : List (Addr × List Key)) (p : Nat) (x : Addr) (k : List Key) : rowsM P w (L.take p ++ (x, k) :: L.drop p) = (rowsM P w L).take p ++ (mhash P w k, Value.ref x) :: (rowsM P w L).drop p := by
  unfold rowsM
  rw [List.map_append, List.map_cons, List.map_take, List.map_drop]
theorem orderM (L : List (Addr × List Key)) (es : Array (Int × Value)) (order : Array Nat) (hr : es.toList = rowsM P w L) (hp : order.toList.Perm (List.range L.length)) :
    ∃ L2, (order.filterMap (es[·]?)).toList = rowsM P w L2 ∧ L2.Perm L ∧ (L2.map fun p => mhash P w p.2) = order.toList.map fun i => (es.map (·.1)).getD i 0 := by
  have hsz : es.size = L.length := by
    have h := congrArg List.length hr
    unfold rowsM at h
    rw [Array.length_toList, List.length_map] at h
    exact h
  have ent : ∀ i (h : i < L.length), es[i]? = some (mhash P w (L[i]).2, Value.ref (L[i]).1) := fun i h => by
    rw [← Array.getElem?_toList, hr]
    unfold rowsM
    rw [List.getElem?_map, List.getElem?_eq_getElem h] <;> rfl
  have key : ∀ l : List Nat, (∀ i ∈ l, i < L.length) → ∃ L2 : List (Addr × List Key), l.filterMap (fun i => es[i]?) = rowsM P w L2 ∧ L2 = l.filterMap (fun i => L[i]?) ∧ (L2.map fun p => mhash P w p.2) = l.map fun i => (es.map (·.1)).getD i 0 := by
    intro l
    induction l with
    | nil => intro _; exact ⟨[], rfl, rfl, rfl⟩
    | cons i l ih =>
      intro hl
      have hi := hl i List.mem_cons_self
      obtain ⟨L2, e1, e2, e3⟩ := ih fun j hj => hl j (List.mem_cons_of_mem _ hj)
      refine ⟨L[i] :: L2, ?_, ?_, ?_⟩
      · rw [List.filterMap_cons_some (ent i hi), e1] <;> rfl
      · rw [List.filterMap_cons_some (List.getElem?_eq_getElem hi), e2]
      · rw [List.map_cons, List.map_cons, e3]
        have hi2 : i < (es.map (·.1)).size := by rw [Array.size_map, hsz]; exact hi
        have e4 : (es.map (·.1)).getD i 0 = mhash P w (L[i]).2 := by
          have e5 : (es.map (·.1))[i]? = some (mhash P w (L[i]).2) := by rw [Array.getElem?_map, ent i hi] <;> rfl
          simp [Array.getD_eq_getD_getElem?, e5]
        rw [e4]
  obtain ⟨L2, e1, e2, e3⟩ := key order.toList fun i hi => List.mem_range.mp (hp.mem_iff.mp hi)
  refine ⟨L2, by first | (rw [Array.toList_filterMap]; exact e1) | simpa using e1, ?_, e3⟩
  have h1 : L2.Perm ((List.range L.length).filterMap fun i => L[i]?) := by
    rw [e2]
    exact hp.filterMap _
  have h2 : (List.range L.length).filterMap (fun i => L[i]?) = L := by
    have key2 : ∀ n, n ≤ L.length → (List.range n).filterMap (fun i => L[i]?) = L.take n := by
      intro n
      induction n with
      | zero => intro _; rfl
      | succ n ih =>
        intro hn
        have hlt : n < L.length := hn
        rw [List.range_succ, List.filterMap_append, ih (Nat.le_of_lt hlt), List.take_succ, List.getElem?_eq_getElem hlt]
        rw [List.filterMap_cons_some (List.getElem?_eq_getElem hlt)] <;> rfl
    rw [key2 L.length (Nat.le_refl _), List.take_length]
  rw [h2] at h1
  exact h1

variable {a : Addr} {L : List (Addr × List Key)} {es : Array (Int × Value)} {ep : Nat} {t : SetTable}
theorem relayM {o : Obj} (ho : s.heap.get? a = some o) (hex : o.ExactSet) (hd : o.data = .set es ep t) (hrows : es.toList = rowsM P w L) (hsz : t.place.size = es.size) (hdm : t.dummies = #[]) (hfl : es.size ≤ t.mask)
    (nd : (L.map (·.2)).Nodup) (tup : ∀ p ∈ L, IsM P w s.heap p.2 p.1) (ld : w.params.followText "set-order" = true ∨ t.led = true) (few : L.length < 64) {wanted M : Nat}
    (hw : SetTable.sizeAbove wanted - 1 = M) (hM : MaskOk M) (hw2 : SetTable.sizeAbove wanted ≤ 128) (hn : L.length * 5 < M * 3) {Q : Unit → Shared → Prop}
    (hQ : ∀ h' L' es' ep' t', Heap.SameBut a s.heap h' → SetM P w h' a L' es' ep' t' → L'.Perm L → Q () { s with heap := h' }) : wpAny (model P w) A (setRelay a wanted) Q E s := by
  have hsl : es.size = L.length := by
    have h := congrArg List.length hrows
    unfold rowsM at h
    rw [Array.length_toList, List.length_map] at h
    exact h
  have hfits : t.fits es.size = true := by
    unfold SetTable.fits SetTable.fill
    rw [hdm, Bool.and_eq_true, beq_iff_eq, decide_eq_true_eq]
    show t.place.size = es.size ∧ t.place.size + 0 ≤ t.mask
    omega
  obtain ⟨t', order, e, hp, T, em, el, ep', ed⟩ := relaid_ok t (hs := es.map (·.1)) (wanted := wanted) hw hM (by rw [Array.size_map, hsl]; omega)
  rw [Array.size_map, hsl] at hp
  obtain ⟨L2, r1, r2, r3⟩ := orderM L es order hrows hp
  rw [← r3] at T
  have hs2 : (order.filterMap (es[·]?)).size = es.size := by
    have h := congrArg List.length r1
    unfold rowsM at h
    rw [Array.length_toList, List.length_map, r2.length_eq] at h
    rw [h, hsl]
  rw [setRelay_eq]
  refine wpAny_bind (wpAny_setState_of ho hd hfits ?_)
  dsimp only
  refine wp_if_neg (by rw [sizeLine_eq]; omega) ?_
  try refine wpAny_bind (wpAny_pure ?_)
  rw [e]
  dsimp only
  refine wpAny_bind ?_
  refine wp_if_neg (by rw [hs2]; simp) ?_
  try refine wpAny_bind (wpAny_pure ?_)
  refine wpAny_pure ?_
  dsimp only
  refine wpAny_storeSet_of ho hd ?_ (by rw [hs2, hsl, sizeLine_eq]; omega)
  have sb : Heap.SameBut a s.heap (s.heap.update a (Obj.putSet (order.filterMap (es[·]?)) t')) := Heap.SameBut.update ..
  refine hQ _ L2 (order.filterMap (es[·]?)) (ep + 1) t' sb ?_ r2
  refine ⟨⟨_, store_at ho hd, ⟨hex.1, hex.2.1, hex.2.2⟩, rfl⟩, r1, T, ?_, fun p hpm => isM_same (tup p (r2.mem_iff.mp hpm)) ho hd sb, by rw [el]; exact ld, ?_, by rw [r2.length_eq]; exact few⟩
  · exact (r2.map (·.2)).nodup_iff.mpr nd
  · rw [r2.length_eq, em]
    exact hn

/-- ADDING -/
theorem addM (R : SetM P w s.heap a L es ep t) {x : Addr} {k : List Key} (hx : IsM P w s.heap k x) (hu : A.units < cLine) (hfew : L.length + 1 < 64) {Q : Bool → Shared → Prop}
    (hQ : ∀ b h' L' es' ep' t', Heap.SameBut a s.heap h' → SetM P w h' a L' es' ep' t' → (k ∈ L.map (·.2) → L' = L) → (k ∉ L.map (·.2) → L'.Perm ((x, k) :: L)) → Q b { s with heap := h' }) :
    wpAny (model P w) A (setAddHashed a (.ref x) (mhash P w k)) Q E s := by
  obtain ⟨o, ho, hex, hd⟩ := R.ob
  have hsl := R.size
  have hroom := R.room
  unfold setAddHashed
  refine wpAny_holding ?_
  rw [show (100000 : Nat) = 99999 + 1 from rfl, setAddHashedIn_succ]
  refine wpAny_bind (wpAny_setState_of ho hd R.fits ?_)
  dsimp only
  refine wp_if_neg (by simp [byScan, Value.scannable]) ?_
  try refine wpAny_bind (wpAny_pure ?_)
  refine wpAny_bind (searchM_at R hx hu (ad := true) (fun hm r _ => ?_) fun K hm hK hb => ?_)
  · dsimp only
    exact wpAny_pure (hQ false s.heap L es ep t (Heap.SameBut.refl a s.heap) R (fun _ => rfl) fun z => absurd hm z)
  · dsimp only
    refine wpAny_bind (wpAny_setState_of ho hd R.fits ?_)
    dsimp only
    obtain ⟨q1, q2, q3, q4, q5, q6, q7, q8, q9⟩ := R.tab.put hK hb
    generalize hpt : t.put (way t.mask (mhash P w k) K) = pt at q1 q3 q4 q5 q6 q7 q8 q9 ⊢
    obtain ⟨t0, p⟩ := pt
    dsimp only at q1 q3 q4 q5 q6 q7 q8 q9 ⊢
    subst q1
    suffices key : ∀ bv : Bool, wpAny (model P w) A (storeSet a (SetTable.insertAt es (SetTable.below t.place (way t.mask (mhash P w k) K)) (mhash P w k, Value.ref x)) (if bv = true then t0 else { t0 with plain := false }) >>= fun _ =>
        if (!false && (if bv = true then t0 else { t0 with plain := false }).tooFull) = true then (setRelay a (SetTable.grown (es.size + 1)) >>= fun _ => pure true) else pure true) Q E s by
      by_cases hp : t0.plain = true
      · exact wp_if_pos hp (wpAny_bind (hashBy_m hx fun r => key r))
      · exact wp_if_neg hp (wpAny_bind (wpAny_pure (key true)))
    intro bv
    obtain ⟨t1, ht1, r3, r4, r5, r9⟩ : ∃ t1, (if bv = true then t0 else { t0 with plain := false }) = t1 ∧ TabOk t1 ((L.map fun p => mhash P w p.2).take (SetTable.below t.place (way t.mask (mhash P w k) K)) ++ mhash P w k :: (L.map fun p => mhash P w p.2).drop (SetTable.below t.place (way t.mask (mhash P w k) K))) ∧ t1.mask = t.mask ∧ t1.led = t.led ∧ t1.fill = (L.map fun p => mhash P w p.2).length + 1 := by
      cases bv
      · exact ⟨_, rfl, ⟨q3.ris, q3.dm, q3.sz, q3.mok, q3.bd, q3.reach⟩, q4, q5, q9⟩
      · exact ⟨_, rfl, q3, q4, q5, q9⟩
    rw [ht1]
    clear q3 q4 q5 q9
    have q3 := r3
    have q4 := r4
    have q5 := r5
    have q9 := r9
    have hin : (SetTable.insertAt es (SetTable.below t.place (way t.mask (mhash P w k) K)) (mhash P w k, Value.ref x)).toList = rowsM P w (L.take (SetTable.below t.place (way t.mask (mhash P w k) K)) ++ (x, k) :: L.drop (SetTable.below t.place (way t.mask (mhash P w k) K))) := by
      rw [SetTable.toList_insertAt, putM, R.rows]
    generalize hpp : SetTable.below t.place (way t.mask (mhash P w k) K) = p at q2 q3 hin ⊢
    have pm := put_perm L p (x, k)
    have hlen : (L.take p ++ (x, k) :: L.drop p).length = L.length + 1 := pm.length_eq
    have hhs : (L.take p ++ (x, k) :: L.drop p).map (fun p => mhash P w p.2) = (L.map fun p => mhash P w p.2).take p ++ mhash P w k :: (L.map fun p => mhash P w p.2).drop p := by
      rw [List.map_append, List.map_cons, List.map_take, List.map_drop]
    rw [← hhs] at q3
    have nd1 : ((L.take p ++ (x, k) :: L.drop p).map (·.2)).Nodup := by
      refine (pm.map (·.2)).nodup_iff.mpr ?_
      rw [List.map_cons]
      exact List.nodup_cons.mpr ⟨hm, R.nd⟩
    have hes : (SetTable.insertAt es p (mhash P w k, Value.ref x)).size = L.length + 1 := by
      have h := congrArg List.length hin
      unfold rowsM at h
      rw [Array.length_toList, List.length_map, hlen] at h
      exact h
    generalize SetTable.insertAt es p (mhash P w k, Value.ref x) = es1 at hin hes ⊢
    generalize L.take p ++ (x, k) :: L.drop p = L1 at pm hlen q3 nd1 hin
    refine wpAny_bind (wpAny_storeSet_of ho hd ?_ (by rw [hes, sizeLine_eq]; omega))
    have sb : Heap.SameBut a s.heap (s.heap.update a (Obj.putSet es1 t1)) := Heap.SameBut.update ..
    have ho1 := store_at (es' := es1) (t' := t1) ho hd
    generalize s.heap.update a (Obj.putSet es1 t1) = h1 at sb ho1 ⊢
    have tup1 : ∀ p ∈ L1, IsM P w h1 p.2 p.1 := fun p hp => by
      rcases List.mem_cons.mp (pm.mem_iff.mp hp) with e | hp
      · rw [e]; exact isM_same hx ho hd sb
      · exact isM_same (R.tup p hp) ho hd sb
    have ld1 : w.params.followText "set-order" = true ∨ t1.led = true := by rw [q5]; exact R.led
    by_cases hf : t1.tooFull = true
    · first
        | (refine wpAny_bind ?_; refine wp_if_pos (by simp [hf]) ?_)
        | (refine wp_if_pos (by simp [hf]) ?_; refine wpAny_bind ?_)
      have hfull : (L.length + 1) * 5 ≥ t1.mask * 3 := by
        have h := hf
        unfold SetTable.tooFull at h
        rw [decide_eq_true_eq, q9, List.length_map] at h
        exact h
      rw [hsl]
      have hsz1 : t1.place.size = es1.size := by
        have h := q3.sz
        rw [List.length_map, hlen] at h
        rw [h, hes]
      have cases2 : (t.mask = 7 ∧ L.length = 4) ∨ (t.mask = 31 ∧ L.length = 18) := by
        rcases R.tab.mok with e | e | e
        · left; rw [q4, e] at hfull; rw [e] at hroom; exact ⟨e, by omega⟩
        · right; rw [q4, e] at hfull; rw [e] at hroom; exact ⟨e, by omega⟩
        · exfalso; rw [q4, e] at hfull; omega
      have go : ∀ M, SetTable.sizeAbove (SetTable.grown (L.length + 1)) - 1 = M → MaskOk M → SetTable.sizeAbove (SetTable.grown (L.length + 1)) ≤ 128 → (L.length + 1) * 5 < M * 3 →
          wpAny (model P w) A (setRelay a (SetTable.grown (L.length + 1))) (fun _ s' => wpAny (model P w) A (pure true) Q E s') E { s with heap := h1 } := fun M h1' h2' h3' h4' => by
        refine relayM (s := { s with heap := h1 }) ho1 ⟨hex.1, hex.2.1, hex.2.2⟩ rfl hin hsz1 q3.dm (by rw [hes, q4]; rcases cases2 with ⟨e, e2⟩ | ⟨e, e2⟩ <;> omega) nd1 tup1 ld1 (by rw [hlen]; exact hfew) h1' h2' h3' (by rw [hlen]; exact h4') ?_
        intro h2 L2 es2 ep2 t2 sb2 R2 pm2
        refine wpAny_pure (hQ true h2 L2 es2 ep2 t2 (sb.trans sb2) R2 (fun z => absurd z hm) fun _ => pm2.trans pm)
      rcases cases2 with ⟨_, e2⟩ | ⟨_, e2⟩
      · refine go 31 (by rw [e2, size_20]) (.inr (.inl rfl)) (by rw [e2, size_20]; decide) (by omega)
      · refine go 127 (by rw [e2, size_76]) (.inr (.inr rfl)) (by rw [e2, size_76]; decide) (by omega)
    · first
        | refine wp_if_neg (by simp [hf]) ?_
        | (refine wpAny_bind ?_; refine wp_if_neg (by simp [hf]) ?_; refine wpAny_pure ?_)
      refine wpAny_pure (hQ true h1 L1 es1 (ep + 1) t1 sb ⟨⟨_, ho1, ⟨hex.1, hex.2.1, hex.2.2⟩, rfl⟩, hin, q3, nd1, tup1, ld1, ?_, by rw [hlen]; exact hfew⟩ (fun z => absurd z hm) fun _ => pm)
      have h := hf
      unfold SetTable.tooFull at h
      rw [decide_eq_true_eq, q9, List.length_map] at h
      rw [hlen]
      omega
end
/-! ### the set as it is tracked -/
section
variable {P : Program} {w : World} {A : Around} {E : Value → Shared → Prop} {s : Shared}
theorem isM_keep {h h' : Heap} {k : List Key} {b : Addr} (x : IsM P w h k b) (hk : ∀ c o, h.get? c = some o → h'.get? c = some o) : IsM P w h' k b := by
  obtain ⟨o, items, n, ho, r⟩ := x
  exact ⟨o, items, n, hk b o ho, r⟩
structure SetM0 (P : Program) (w : World) (h : Heap) (a : Addr) (L : List (Addr × List Key)) : Prop where
  ex : ∃ (es : Array (Int × Value)) (ep : Nat) (t : SetTable), (∃ o, h.get? a = some o ∧ o.ExactSet ∧ o.data = .set es ep t) ∧ es.toList = rowsM P w L ∧ TabOk t (L.map fun p => mhash P w p.2) ∧ (L.map (·.2)).Nodup ∧
    (w.params.followText "set-order" = true ∨ t.led = true) ∧ L.length * 5 < t.mask * 3 ∧ L.length < 64
def SetMO (P : Program) (w : World) (a : Addr) (L : List (Addr × List Key)) : HO := .ext fun h => SetM0 P w h a L
theorem SetM.t0 {h : Heap} {a : Addr} {L : List (Addr × List Key)} {es : Array (Int × Value)} {ep : Nat} {t : SetTable} (R : SetM P w h a L es ep t) : SetM0 P w h a L :=
  ⟨es, ep, t, R.ob, R.rows, R.tab, R.nd, R.led, R.room, R.few⟩
theorem SetM0.full {h : Heap} {a : Addr} {L : List (Addr × List Key)} (R : SetM0 P w h a L) (ht : ∀ p ∈ L, IsM P w h p.2 p.1) : ∃ es ep t, SetM P w h a L es ep t := by
  obtain ⟨es, ep, t, h1, h2, h3, h4, h6, h7, h8⟩ := R.ex
  exact ⟨es, ep, t, h1, h2, h3, h4, ht, h6, h7, h8⟩
theorem setMO_new {H : Hp} {h : Heap} {a : Addr} {L : List (Addr × List Key)} (R : SetM0 P w h a L) : ObjOk P w H h a (SetMO P w a L) := by
  have ⟨es, ep, t, ⟨o, ho, r⟩, q⟩ := R.ex
  refine ⟨R, ⟨o, ho⟩, fun h1 h2 p k => ?_⟩
  have ⟨es', ep', t', ⟨o', ho', r'⟩, q'⟩ := SetM0.ex p
  exact ⟨es', ep', t', ⟨o', k o' ho', r'⟩, q'⟩
theorem setM_fresh {h : Heap} {a : Addr} (ho : h.get? a = some { cls := .type "set", dict := none, data := .set #[] 0 (.fresh 0 0 (!w.params.followText "set-order")) }) : SetM P w h a [] #[] 0 (.fresh 0 0 (!w.params.followText "set-order")) where
  ob := ⟨_, ho, ⟨rfl, rfl, rfl⟩, rfl⟩
  rows := rfl
  tab := ⟨List.Pairwise.nil, rfl, rfl, .inl rfl, fun x hx => (by cases hx), fun i h j hi => (by simp at hi)⟩
  nd := List.nodup_nil
  tup := fun p hp => (by cases hp)
  led := by
    show _ ∨ (!w.params.followText "set-order") = true
    cases w.params.followText "set-order"
    · exact .inr rfl
    · exact .inl rfl
  room := by
    show 0 * 5 < 7 * 3
    decide
  few := by
    show 0 < 64
    decide
variable {a : Addr} {L : List (Addr × List Key)} {es : Array (Int × Value)} {ep : Nat} {t : SetTable}
/-- s.add(pair) -/
theorem addCallM (R : SetM P w s.heap a L es ep t) {x : Addr} {k : List Key} (hx : IsM P w s.heap k x) (hu : A.units + 8 < cLine) (hfew : L.length + 1 < 64) {Q : Value → Shared → Prop}
    (hQ : ∀ h' L' es' ep' t' tk, Heap.SameBut a s.heap h' → SetM P w h' a L' es' ep' t' → (k ∈ L.map (·.2) → L' = L) → (k ∉ L.map (·.2) → L'.Perm ((x, k) :: L)) → Q .none { s with heap := h', toks := tk }) :
    wpAny (model P w) A (call (.builtin "set.add") [.ref a, .ref x]) Q E s := by
  obtain ⟨o, ho, hex, hd⟩ := R.ob
  refine wpAny_call_entry F.slot_set_add ⟨o, ho, hex.1⟩ F.entry_set_add ?_ (F.args_set_add_2 _ _)
  unfold Builtin.«set.add» Builtin.Frozenset.oneOther
  simp only [List.isEmpty_nil, bind_assoc]
  unfold Builtin.Frozenset.addrOf setAdd
  refine wpAny_bind (wpAny_pure ?_)
  try dsimp only
  refine wpAny_bind (wpAny_pure ?_)
  try dsimp only
  refine wpAny_bind ?_
  refine wpAny_holding ?_
  have hu1 : A.in1.units < cLine := by show A.units + 1 < cLine; omega
  refine wpAny_bind (wpAny_pyHash_tuple hu1 hx ?_)
  refine addM (s := { s with toks := s.toks + (k.length + 1) }) ⟨R.ob, R.rows, R.tab, R.nd, R.tup, R.led, R.room, R.few⟩ hx hu1 hfew fun b h' L' es' ep' t' sb r c1 c2 => ?_
  show wpAny _ _ (ret Value.none) _ _ _
  exact wpAny_pure ⟨_, rfl, hQ h' L' es' ep' t' _ sb r c1 c2⟩
theorem containsM (R : SetM P w s.heap a L es ep t) {x : Addr} {k : List Key} (hx : IsM P w s.heap k x) (hu : A.units < cLine) {Q : Bool → Shared → Prop} (h : ∀ b tk, (b = true ↔ k ∈ L.map (·.2)) → Q b { s with toks := tk }) :
    wpAny (model P w) A (setContains a (.ref x)) Q E s := by
  obtain ⟨o, ho, hex, hd⟩ := R.ob
  unfold setContains
  refine wpAny_holding ?_
  refine wpAny_bind (wpAny_pyHash_tuple hu hx ?_)
  have R1 : SetM P w ({ s with toks := s.toks + (k.length + 1) } : Shared).heap a L es ep t := R
  refine wpAny_bind ?_
  unfold setFind
  rw [show (100000 : Nat) = 99999 + 1 from rfl]
  unfold setFindIn
  refine wpAny_bind (wpAny_setState_of (s := { s with toks := s.toks + (k.length + 1) }) ho hd R1.fits ?_)
  dsimp only
  refine wp_if_neg (by simp [byScan, Value.scannable]) ?_
  try refine wpAny_bind (wpAny_pure ?_)
  refine wpAny_bind (searchM_at (ad := false) R1 hx hu (fun hm r hr => ?_) fun K hm hK hb => ?_)
  · dsimp only
    refine wpAny_pure (wpAny_pure ?_)
    rw [hr rfl]
    exact h true (s.toks + (k.length + 1)) ⟨fun _ => hm, fun _ => rfl⟩
  · dsimp only
    refine wpAny_pure (wpAny_pure ?_)
    exact h false (s.toks + (k.length + 1)) ⟨fun z => (by cases z), fun z => absurd z hm⟩
theorem notInM (R : SetM P w s.heap a L es ep t) {x : Addr} {k : List Key} (hx : IsM P w s.heap k x) (hu : A.units + 8 < cLine) {Q : Value → Shared → Prop} (h : ∀ b tk, (b = true ↔ k ∈ L.map (·.2)) → Q (.bool (!b)) { s with toks := tk }) :
    wpAny (model P w) A (compareOp .NotIn (.ref x) (.ref a)) Q E s := by
  obtain ⟨o, ho, hex, hd⟩ := R.ob
  have hT : s.TypeIs (.ref a) "set" := ⟨o, ho, hex.1⟩
  show wpAny _ _ (do return .bool (!(← contains (.ref a) (.ref x)))) Q E s
  refine wpAny_bind ?_
  unfold contains
  try with_reducible refine wpAny_holding ?_
  refine wpAny_bind (wpAny_specialOf hT F.slot_set_contains.lookup ?_)
  show wpAny _ _ (if (some (Value.builtin "set.__contains__") == some Value.none) = true then _ else _) _ E s
  rw [if_neg (by rw [beq_builtin_none]; exact Bool.false_ne_true)]
  refine wpAny_bind (wpAny_callSpecialUnlessNone?_slot (name := Str.ofString "__contains__") hT F.slot_set_contains
    (wpAny_call_entry F.slot_set_contains hT entry_set_contains ?_ (F.args_set_contains_2 _ _)))
  unfold Builtin.«frozenset.__contains__» Builtin.Frozenset.oneOther
  simp only [List.isEmpty_nil, bind_assoc]
  unfold Builtin.Frozenset.addrOf Builtin.Frozenset.withSetAsKey
  refine wpAny_bind (wpAny_pure ?_)
  try dsimp only
  refine wpAny_bind (wpAny_pure ?_)
  try dsimp only
  have hu1 : A.in1.units < cLine := by show A.units + 1 < cLine; omega
  refine wpAny_bind (wpAny_tryCatch (containsM R hx hu1 fun b tk e => ?_))
  show wpAny _ _ (ret (Value.bool b)) _ _ _
  exact wpAny_pure ⟨_, rfl, wpAny_truthy_bool (wpAny_pure (h b tk e))⟩
end
section
variable {X : Cx}
/-- set() -/
def rSet0M (P : Program) (w : World) : List V → Hp → VK → Prop := fun xs H Q => xs = [] ∧ ∀ p, H p = none → Q (.ref p) (upd H p (SetMO P w p []))
theorem cr_set0M : CallR X (.type "set") (rSet0M X.prog X.w) := by
  intro pins s σ H xs us Q I r h
  obtain ⟨rfl, q⟩ := h
  cases r
  refine setR_new fun _ => ?_
  exact ⟨.ref _, upd H s.heap.objs.size (SetMO X.prog X.w s.heap.objs.size []), I.laid (t' := s.toks) (fun b u e => Heap.get?_push_of_some _ e) (Nat.le_refl _) (setMO_new (setM_fresh (Heap.get?_push_size _ rfl)).t0), rfl, q _ (I.hok.fresh (Nat.le_refl _))⟩
theorem setM_get {pins : List (Addr × Obj)} {σ : L2.St} {H : Hp} {s : Shared} {a : Addr} {L : List (Addr × List Key)} (I : Inv X pins σ H s) (ha : H a = some (SetMO X.prog X.w a L)) (ht : ∀ p ∈ L, H p.1 = some (.tup (p.2.map kV))) : ∃ es ep t, SetM X.prog X.w s.heap a L es ep t := by
  have R0 : SetM0 X.prog X.w s.heap a L := (I.hok a _ ha).1
  exact R0.full fun p hp => key_of I.hok (ht p hp)
def rSAddM (P : Program) (w : World) : V → List V → Hp → VK → Prop := fun x xs H Q => ∃ (a b : Addr) (k : List Key) (L : List (Addr × List Key)), x = V.ref a ∧ xs = [.ref b] ∧ H b = some (.tup (k.map kV)) ∧ H a = some (SetMO P w a L) ∧ (∀ p ∈ L, H p.1 = some (.tup (p.2.map kV))) ∧ L.length + 1 < 64 ∧ k ∉ L.map (·.2) ∧
  ∀ L', L'.Perm ((b, k) :: L) → Q .non (upd H a (SetMO P w a L'))
theorem mt_saddM (hu : X.A.units + 8 < cLine) : MtR X "set.add" (rSAddM X.prog X.w) := by
  intro pins s σ H x xs v us Q I rx rxs h
  obtain ⟨a, b, k, L, rfl, rfl, hb, ha, ht, room, hk, q⟩ := h
  cases rx
  rw [Vals.ref1 rxs]
  obtain ⟨es, ep, t, R⟩ := setM_get I ha ht
  refine addCallM R (key_of I.hok hb) hu room fun h' L' es' ep' t' tk sb R' c1 c2 => ?_
  obtain ⟨o, ho, _⟩ := R'.ob
  exact ⟨.non, upd H a (SetMO X.prog X.w a L'), I.write (e := a) (t' := tk) (by rw [ha]; trivial) (.inl rfl) (fun b u hb hu => (sb.2 b hb).trans hu) ⟨o, ho⟩ (setMO_new R'.t0), rfl, q L' (c2 hk)⟩
def tSAddM (P : Program) (w : World) (to : TE) (t : TA) : TE := fun σ H Q => to σ H fun x H1 => (∃ a L, x = V.ref a ∧ H1 a = some (SetMO P w a L)) ∧ t σ H1 fun xs H2 => rSAddM P w x xs H2 Q
variable {o e : Expr} {es : List Expr} {to : TE} {t : TA} {apos cpos : Pos}
theorem pe_saddT (hu : X.A.units + 8 < cLine) (ho : PE X o to) (ha : PA X (e :: es) t)
    (hbase : attributeBase o "add" X.env (eval o X.env) = eval o X.env := by rfl)
    (hfew : ((backTo cpos (starEach (e :: es) X.env)).all (fun x => !x.1) && (backToKw cpos (keywordEach [] X.env)).all (fun x => x.1.isSome)
      && decide ((e :: es).length + ([] : List Keyword).length + (if ([] : List Keyword).isEmpty then 0 else 1) < 30)) = true := by rfl)
    (hline : (apos.endLine == cpos.line) = true := by rfl) (hs : starEach (e :: es) X.env = (false, eval e X.env) :: starEach es X.env := by rfl) (hplain : (backTo cpos (starEach es X.env)).any (·.1) = false := by rfl) :
    PE X (.Call (.Attribute o "add" apos) (e :: es) [] cpos) (tSAddM X.prog X.w to t) := by
  refine ⟨fun pins s σ H Q I h => ?_⟩
  refine wpAny_Call_method_late hbase hfew hline rfl (thn (ho.run pins s σ H _ I h) fun v s1 ⟨x, H1, I1, r1, ty, q1⟩ => ?_)
  obtain ⟨a, L, rfl, hka⟩ := ty
  have R0 : SetM0 X.prog X.w s1.heap a L := (I1.hok a _ hka).1
  obtain ⟨_, _, _, ⟨ob, hob, hex, _⟩, _⟩ := R0.ex
  cases r1
  refine ⟨"set", "set.add", F.plainAttrs_set, F.slot_set_add, F.type_set_add, ⟨ob, hob, hex.1⟩, (fun b e => by cases e; exact ⟨ob, hob, hex.2.1⟩), ?_⟩
  have hA := ha.run cpos pins s1 σ H1 _ I1 q1
  rw [hs] at hA ⊢
  refine Calls.callWith_builtin (by show (false || (backTo cpos (starEach es X.env)).any (·.1)) = false; rw [hplain] <;> rfl) (Calls.evalArgs_plain ?_)
  exact thn hA fun us s2 ⟨vs, H2, I2, r2, q2⟩ => mt_saddM hu pins s2 σ H2 (.ref a) vs (.ref a) us Q I2 rfl r2 q2
/-- pair not in s -/
def rSNotInM (P : Program) (w : World) : V → V → Hp → VK → Prop := fun x y H Q => ∃ (b a : Addr) (k : List Key) (L : List (Addr × List Key)), x = .ref b ∧ y = V.ref a ∧ H b = some (.tup (k.map kV)) ∧ H a = some (SetMO P w a L) ∧ (∀ p ∈ L, H p.1 = some (.tup (p.2.map kV))) ∧
  ∀ c, (c = true ↔ k ∈ L.map (·.2)) → Q (.bl (!c)) H
theorem or_snotinM (hu : X.A.units + 8 < cLine) : OpR X (compareOp .NotIn) (rSNotInM X.prog X.w) := by
  intro pins s σ H x y v u Q I rx ry h
  obtain ⟨b, a, k, L, rfl, rfl, hb, ha, ht, q⟩ := h
  cases rx
  cases ry
  obtain ⟨es, ep, t, R⟩ := setM_get I ha ht
  exact notInM R (key_of I.hok hb) hu fun c tk e => ⟨.bl (!c), H, I.tok _, rfl, q c e⟩
end
end Far

set_option Elab.async false
set_option linter.all false
set_option maxRecDepth 100000
set_option maxHeartbeats 4000000
/-! FarSetS: sorted(set(xs)), xs a list of texts -/
namespace Far
open PySem PySem.Spec PyProof.Rows L2 Fz
open PySem.Froz (SD TxOk sObj addTx tailTx add_x add_ok is_str)
section
variable {P : Program} {w : World} {A : Around} {E : Value → Shared → Prop} {s : Shared} {a : Addr} {D : SD} {l : List Str} {k : Str} {u : Tok}
structure TxR (P : Program) (w : World) (D : SD) (l : List Str) : Prop where
  tx : TxOk P w D l
  ris : Ris D.2.2.place.toList
  led : w.params.followText "set-order" = true ∨ D.2.2.led = true
  nd : l.Nodup
theorem tail_ris {ep : Nat} {es1 : Array (Int × Value)} {t2 : SetTable} {wd : Bool} (h : Ris t2.place.toList) : Ris (tailTx ep es1 t2 wd).2.2.place.toList := by
  unfold tailTx
  by_cases c : (!wd && t2.tooFull) = true
  · rw [if_pos c]
    exact relayAll_ris _ _ _
  · rw [if_neg c]
    exact h
theorem tail_led {ep : Nat} {es1 : Array (Int × Value)} {t2 : SetTable} {wd : Bool} (h : t2.led = true) : (tailTx ep es1 t2 wd).2.2.led = true := by
  unfold tailTx
  by_cases c : (!wd && t2.tooFull) = true
  · rw [if_pos c]
    exact (relayAll_led _ _ _).trans h
  · rw [if_neg c]
    exact h
theorem add_r (F : TxR P w D l) (hk : k ∉ l) : TxR P w (addTx (hashStr w k) (.str k u) D) (k :: l) := by
  refine ⟨add_ok u F.tx, tail_ris ?_, F.led.imp id fun z => tail_led ?_, List.nodup_cons.mpr ⟨hk, F.nd⟩⟩
  · have q := layNew_ris D.2.2 D.1 (hashStr w k) (.str k u) F.ris
    by_cases c : (layNew D.2.2 D.1 (hashStr w k) (.str k u)).2.1.plain = true
    · rw [if_pos c]
      exact q
    · rw [if_neg c]
      exact q
  · have q : (layNew D.2.2 D.1 (hashStr w k) (.str k u)).2.1.led = true := (layNew_led _ _ _ _).trans z
    by_cases c : (layNew D.2.2 D.1 (hashStr w k) (.str k u)).2.1.plain = true
    · rw [if_pos c]
      exact q
    · rw [if_neg c]
      exact q
/-- a text that stands already -/
theorem add_old (ho : s.heap.get? a = some (sObj "set" D)) (F : TxOk P w D l) (hk : k ∈ l) (hb : l.length < scanBound) {Q : Bool → Shared → Prop} (h : Q false s) : wpAny (model P w) A (setAddHashed a (.str k u) (hashStr w k)) Q E s := by
  obtain ⟨es, ep, t⟩ := D
  have hd : (sObj "set" (es, ep, t)).data = .set es ep t := rfl
  have hf : t.fits es.size = true := F.fit
  have hel : ElemsOf (strKind P w) es.toList := F.el
  have hsz : es.size = l.length := F.sz
  have hkey : (strKind P w).is k (.str k u) = true := is_str k u
  unfold setAddHashed setAddHashedIn
  refine wpAny_holding (wpAny_bind (wpAny_setState_of ho hd hf ?_))
  dsimp only
  rw [byScan_of rfl (by omega) hel]
  simp only [↓reduceIte]
  unfold setAddByScan
  refine wpAny_bind ?_
  refine wpAny_bind (wpAny_rule ?_)
  refine wpAny_bind (wpAny_setScan_of (knd := strKind P w) (k := k) hkey ho hd hf hel ?_)
  cases hfi : List.findIdx? (fun e => (strKind P w).is k e.2) es.toList with
  | some j =>
    dsimp only
    exact wpAny_pure (wpAny_pure h)
  | none =>
    obtain ⟨e, he, q⟩ := (F.mem k).mp hk
    have c := List.findIdx?_eq_none_iff.mp hfi e he
    rw [q] at c
    cases c
/-- set.update's loop -/
theorem update_strs {I : Addr} {fp wr : List Addr} {G : Array GenState → Array GenState → Prop} {n : Nat} {Pv : Nat → Value → Prop} {St : Nat → Shared → Prop} {R : Result → Shared → Prop}
    (W : WalksS P w A.in1 I fp wr G n Pv St) (S : Addr) (hSf : S ∉ fp) (ns : List Str) (hn : n = ns.length) (hb : ns.length + 1 < scanBound) (hval : ∀ i v, Pv i v → ∃ k t, ns[i]? = some k ∧ v = .str k t) :
    ∀ (k i : Nat) (s : Shared), n - i = k → i ≤ n → St i s → (∃ D l, s.heap.get? S = some (sObj "set" D) ∧ TxR P w D l ∧ (∀ x, x ∈ l ↔ x ∈ ns.take i) ∧ l.length ≤ i) →
      (∀ s' D l, Moved (S :: wr) G s s' → s'.heap.get? S = some (sObj "set" D) → TxR P w D l → (∀ x, x ∈ l ↔ x ∈ ns) → l.length ≤ n → R (.ok (.ret .none)) s') →
      codeAny (model P w) A (.builtin "set.update.loop" ⟨[.ref S, .ref I], []⟩) R s := by
  have hSw : S ∉ wr := fun h => hSf (W.sub _ h)
  have hsub : ∀ b ∈ wr, b ∈ S :: wr := fun b hb => List.mem_cons_of_mem _ hb
  intro k
  induction k with
  | zero =>
    intro i s hk' hi hst ⟨D, l, ho, F, hm, hl⟩ hR
    have hin : i = n := by omega
    subst hin
    refine codeAny_builtin PyProof.Rows.F.entry_set_update_loop ?_
    rw [Around.under_plainId PyProof.Rows.F.plain_set_update_loop _]
    show wpAny _ A.in1 (pyNext (.ref I) >>= _) _ _ s
    refine wpAny_bind (W.done s _ _ hst fun s' hmv => ?_)
    show wpAny _ A.in1 (ret Value.none) _ _ s'
    rw [List.take_of_length_le (by omega)] at hm
    exact wpAny_pure (hR s' D l (hmv.mono hsub) (hmv.heap S _ hSw ho) F hm hl)
  | succ k ih =>
    intro i s hk' hi hst ⟨D, l, ho, F, hm, hl⟩ hR
    have hlt : i < n := by omega
    refine codeAny_builtin PyProof.Rows.F.entry_set_update_loop ?_
    rw [Around.under_plainId PyProof.Rows.F.plain_set_update_loop _]
    show wpAny _ A.in1 (pyNext (.ref I) >>= _) _ _ s
    refine wpAny_bind (W.item i s _ _ hlt hst fun v s' hP hst' hmv => ?_)
    obtain ⟨z, t, hz, rfl⟩ := hval i v hP
    have ho' := hmv.heap S _ hSw ho
    have et : ns.take (i + 1) = ns.take i ++ [z] := by rw [List.take_add_one, hz]; rfl
    show wpAny _ A.in1 (holding [Value.str z t] (setAdd S (.str z t)) >>= _) _ _ s'
    refine wpAny_bind (wpAny_holding ?_)
    unfold setAdd
    refine wpAny_holding ?_
    refine wpAny_bind ((strKind P w).pyHash (k := z) (is_str _ _) ?_)
    have fin : ∀ (b : Bool) (h' : Heap) D' l', Heap.SameBut S s'.heap h' → h'.get? S = some (sObj "set" D') → TxR P w D' l' → (∀ x, x ∈ l' ↔ x ∈ ns.take (i + 1)) → l'.length ≤ i + 1 →
        codeAny (model P w) A (.builtin "set.update.loop" ⟨[.ref S, .ref I], []⟩) R { s' with heap := h', toks := s'.toks + 1 } := fun b h' D' l' hsb ho2 F2 hm2 hl2 => by
      refine ih (i + 1) _ (by omega) hlt (W.frame _ s' _ _ hst' (Nat.le_succ _) fun b hb o e => ?_) ⟨D', l', ho2, F2, hm2, hl2⟩ fun s'' D2 l2 hm'' ho'' F'' h1 h2 => ?_
      · rw [hsb.2 b (fun h : b = S => hSf (by rw [← h]; exact hb))]; exact e
      · refine hR s'' D2 l2 (Moved.trans W.gtrans ((hmv.mono hsub).then_heap (Nat.le_succ _) fun b o hb e => ?_) hm'') ho'' F'' h1 h2
        rw [hsb.2 b (fun h : b = S => hb (by rw [h]; exact List.mem_cons_self))]; exact e
    by_cases hin : z ∈ l
    · refine add_old (s := { s' with toks := s'.toks + 1 }) ho' F.tx hin (by omega) (wpAny_pure ⟨plainId_quiet PyProof.Rows.F.plain_set_update_loop _, fin false s'.heap D l (Heap.SameBut.refl S s'.heap) ho' F (fun x => ?_) (by omega)⟩)
      rw [et, List.mem_append, List.mem_singleton, hm x]
      exact ⟨.inl, fun q => q.elim id fun e => by rw [e]; exact (hm z).mp hin⟩
    · refine add_x (s := { s' with toks := s'.toks + 1 }) ho' F.tx hin (by omega) (wpAny_pure ⟨plainId_quiet PyProof.Rows.F.plain_set_update_loop _, fin true _ _ (z :: l) (Heap.SameBut.update ..) (PySem.Froz.get_upd _ ho' rfl) (add_r F hin) (fun x => ?_) (by rw [List.length_cons]; omega)⟩)
      rw [et, List.mem_append, List.mem_singleton, List.mem_cons, hm x]
      exact Or.comm
end
section
variable {P : Program} {w : World} {A : Around} {E : Value → Shared → Prop} {s : Shared}
theorem str_get : ∀ {us : List Value} {xs : List Str}, StrsAre us xs → ∀ (i : Nat) (v : Value), us[i]? = some v → ∃ t, v = .str (xs.getD i Str.empty) t
  | _, _, .nil, i, v, h => by simp at h
  | _, _, .cons n t hr, 0, v, h => by simp at h; exact ⟨t, by rw [← h] <;> rfl⟩
  | _, _, .cons n t hr, i + 1, v, h => by
    simp only [List.getElem?_cons_succ] at h
    obtain ⟨t', e⟩ := str_get hr i v h
    exact ⟨t', by rw [e] <;> rfl⟩
theorem txR_fresh : TxR P w ((#[], 0, .fresh 0 0 (!w.params.followText "set-order")) : SD) [] :=
  ⟨PySem.Froz.TxOk.nil (by rfl), List.Pairwise.nil, by
    show _ ∨ (!w.params.followText "set-order") = true
    cases w.params.followText "set-order"
    · exact .inr rfl
    · exact .inl rfl, List.nodup_nil⟩
set_option maxHeartbeats 3200000 in
/-- set(xs) -/
theorem call_set_strs {l : Addr} {items : Array Value} {xs : List Str} {Q : Value → Shared → Prop} (hh : A.handled = none) (hl : s.heap.IsList l items) (hi : StrsAre items.toList xs) (hb : xs.length + 1 < scanBound)
    (h : ∀ (h' : Heap) (tk : Nat) D ys, h'.get? s.heap.objs.size = some (sObj "set" D) → TxR P w D ys → (∀ x, x ∈ ys ↔ x ∈ xs) → ys.length ≤ xs.length → (∀ b o, s.heap.get? b = some o → h'.get? b = some o) → Q (.ref s.heap.objs.size) { s with heap := h', toks := tk }) :
    wpAny (model P w) A (call (.type "set") [.ref l]) Q E s := by
  have hisz : items.size = xs.length := by rw [← hi.len_eq, Array.length_toList]
  obtain ⟨c, tl, hmro⟩ := PySem.F.called_set.mro
  have hmade := PySem.F.called_set.made
  have hsub := PySem.F.called_set.sub
  refine wpAny_call (codeAny_of_tree ?_)
  show wpAny _ _ (callAny (.type "set") _) _ _ _
  refine wpAny_pure ⟨Code.quiet_builtin _ (by decide +kernel), codeAny_builtin PySem.F.entry_type_call ?_⟩
  rw [Around.under_plain (weight_type_call_type "set" [.ref l] []) rfl]
  have h1 := PySem.F.called_set.notType
  have h2 := PySem.F.called_set.canCreate
  have hct := PySem.F.typeCall_set_1 (.ref l)
  repeat (any_goals (first | assumption | wp_step))

  refine codeAny_mono (code_set_led1 (.ref l) (E := E) (Q₁ := fun obj s₁ => obj = .ref s.heap.objs.size ∧ s₁ = { s with heap := s.heap.push { cls := .type "set", dict := none, data := .set #[] 0 (.fresh 0 0 (!w.params.followText "set-order")) } }) ⟨rfl, rfl⟩) fun r s₁ hr => ?_
  cases r with
  | error e => exact hr
  | ok fl =>
    cases fl with
    | ret obj =>
      obtain ⟨rfl, rfl⟩ := hr
      generalize hfr : ({ cls := .type "set", dict := none, data := .set #[] 0 (.fresh 0 0 (!w.params.followText "set-order")) } : Obj) = so
      have hso : so = sObj "set" ((#[], 0, .fresh 0 0 (!w.params.followText "set-order")) : SD) := hfr.symm
      have hnf : so.isFreed = false := by rw [← hfr]; rfl
      have hS : (s.heap.push so).get? s.heap.objs.size = some so := Heap.get?_push_size _ hnf
      have hT : Shared.TypeIs { s with heap := s.heap.push so } (.ref s.heap.objs.size) "set" := ⟨_, hS, by rw [← hfr]⟩
      have hli := PySem.F.called_set.init.lookup
      have hbi := PySem.F.called_set.init.bind (.ref s.heap.objs.size)
      repeat (any_goals (first | assumption | wp_step))

      refine codeAny_mono (codeAny_call_builtin (R := wants (fun r s₂ => r = .none ∧ ∃ h' tk D ys, s₂ = { s with heap := h', toks := tk } ∧ h'.get? s.heap.objs.size = some (sObj "set" D) ∧ TxR P w D ys ∧ (∀ x, x ∈ ys ↔ x ∈ xs) ∧ ys.length ≤ xs.length ∧
          (∀ b o, s.heap.get? b = some o → h'.get? b = some o)) E) PySem.F.called_set.init.plain PySem.F.entry_set_init (check_set_init_1 hT ?_)) fun r₂ s₂ hr₂ => ?_
      · obtain ⟨ol, hol, hcl, nl, hdl⟩ := hl
        obtain ⟨ocls, odict, odata, oslots⟩ := ol
        simp only at hcl hdl
        subst hcl; subst hdl
        have hol' : (s.heap.push so).get? l = some { cls := .type "list", dict := odict, data := .seq items nl, slots := oslots } := Heap.get?_push_of_some _ hol
        have hsls := PySem.F.sub_list_set
        have hslf := PySem.F.sub_list_frozenset
        have hne : (Value.type "list" == Value.type "dict") = false := by decide
        have hl1 : (s.heap.push so).IsList l items := ⟨_, hol', rfl, nl, rfl⟩
        have hlS : l < s.heap.objs.size := Heap.lt_size hol
        have hz1 : (s.heap.push so).objs.size = s.heap.objs.size + 1 := Heap.size_push ..
        have hneI : l ≠ (s.heap.push so).objs.size := by
          rw [hz1]
          exact Nat.ne_of_lt (Nat.lt_succ_of_lt hlS)
        have hSf : s.heap.objs.size ∉ [(s.heap.push so).objs.size, l] := by
          rw [hz1]; simp only [List.mem_cons, List.mem_singleton, List.not_mem_nil, or_false, not_or]
          exact ⟨Nat.ne_of_lt (Nat.lt_succ_self _), Nat.ne_of_gt hlS⟩
        subst hfr
        unfold Builtin.«set.__init__» noKeywords Builtin.Frozenset.updateFrom
        generalize hPI : pyIter = PI
        wp_walk
        subst hPI

        refine wpAny_pyIter_list hl1 ?_
        refine wpAny_bind (wpAny_runValue ?_)
        have hh3 : A.in1.in1.in1.handled = none := by simp [hh]
        have hval : ∀ (i : Nat) (v : Value), items[i]? = some v → ∃ z t, xs[i]? = some z ∧ v = .str z t := fun i v hv => by
          have hil : i < xs.length := by
            rw [← hisz]
            exact (Array.getElem?_eq_some_iff.mp hv).1
          obtain ⟨t, e⟩ := str_get hi i v (by rw [Array.getElem?_toList]; exact hv)
          refine ⟨xs[i], t, List.getElem?_eq_getElem hil, ?_⟩
          rw [e, List.getD_eq_getElem?_getD, List.getElem?_eq_getElem hil] <;> rfl
        refine update_strs ((Walks.list hh3 _ l hneI items).toS) s.heap.objs.size
          hSf xs hisz hb hval (items.size - 0) 0 _ (by omega) (Nat.zero_le _)
          ⟨⟨_, Heap.get?_push_size _ rfl, rfl, rfl⟩, (hl1.push _)⟩ ?hS0 ?hR
        case hS0 =>
          refine ⟨_, [], ?_, txR_fresh, fun x => by simp, Nat.le_refl _⟩
          exact Heap.get?_push_of_some _ hS
        case hR =>
          intro s' D ys hm ho F hmem hlen
          obtain ⟨h', g', d', tk', os'⟩ := s'
          have eg : g' = s.gens := hm.gens
          have ed : d' = s.drawn := hm.drawn
          have eo : os' = s.os := hm.os
          subst eg; subst ed; subst eo
          show wpAny _ _ _ _ _ _
          refine wpAny_pure ?_
          show wpAny _ _ (ret Value.none) _ _ _
          refine wpAny_pure ⟨rfl, h', tk', D, ys, rfl, ho, F, hmem, by omega, fun b o e => ?_⟩
          have hb0 : b < s.heap.objs.size := Heap.lt_size e
          refine hm.heap b o ?_ (Heap.get?_push_of_some _ (Heap.get?_push_of_some _ e))
          rw [hz1]
          simp only [List.mem_cons, List.mem_singleton, List.not_mem_nil, or_false, not_or]
          exact ⟨Nat.ne_of_lt hb0, Nat.ne_of_lt (Nat.lt_succ_of_lt hb0)⟩

      · cases r₂ with
        | error e => exact hr₂
        | ok fl₂ =>
          cases fl₂ with
          | ret r =>
            obtain ⟨rfl, h', tk, D, ys, rfl, h3, h4, h5, h6, h7⟩ := hr₂
            repeat (any_goals (first | assumption | wp_step))
            exact h _ _ _ _ h3 h4 h5 h6 h7
          | _ => exact hr₂.elim
    | _ => exact hr.elim
end
/-! ### the set of texts as it is tracked; sorted(set) -/
section
def SetSO (P : Program) (w : World) (a : Addr) (l : List Str) : HO := .ext fun h => ∃ D, h.get? a = some (sObj "set" D) ∧ TxR P w D l
theorem setSO_new {P : Program} {w : World} {H : Hp} {h : Heap} {a : Addr} {l : List Str} {D : SD} (ho : h.get? a = some (sObj "set" D)) (F : TxR P w D l) : ObjOk P w H h a (SetSO P w a l) :=
  ⟨⟨D, ho, F⟩, ⟨_, ho⟩, fun _ _ p k => by obtain ⟨D', ho', F'⟩ := p; exact ⟨D', k _ ho', F'⟩⟩
variable {X : Cx}
def rSetOfS (K : PySem.W.Frag) (P : Program) (w : World) : List V → Hp → VK → Prop := fun xs H Q => ∃ (l : Addr) (ks : List Str), xs = [V.ref l] ∧ SqL K H l (ks.map V.str) ∧ ks.length < 4000 ∧
  ∀ a ys, H a = none → (∀ x, x ∈ ys ↔ x ∈ ks) → ys.Nodup → Q (.ref a) (upd H a (SetSO P w a ys))
theorem cr_set (hc : X.calm = true) : CallR X (.type "set") (rSetOfS X.K X.prog X.w) := by
  intro pins s σ H xs us Q I r h
  obtain ⟨l, ks, rfl, hl, hf, q⟩ := h
  rw [Vals.ref1 r]
  obtain ⟨its, rv, pl, hz⟩ := I.list hl
  have hn : H s.heap.objs.size = none := I.hok.fresh (Nat.le_refl _)
  refine call_set_strs (P := X.prog) (w := X.w) (I.ok.hd hc) pl.isList (xs := ks) (by simpa using rv.strs) (by unfold scanBound; omega) fun h' tk D ys ho F hm hlen k => ?_
  exact ⟨.ref s.heap.objs.size, upd H s.heap.objs.size (SetSO X.prog X.w s.heap.objs.size ys), I.laid (t' := tk) k (Nat.le_refl _) (setSO_new ho F), rfl, q _ ys hn hm F.nd⟩
def rSortedSetS (P : Program) (w : World) : List V → Hp → VK → Prop := fun vs H Q => ∃ (a : Addr) (l : List Str), vs = [V.ref a] ∧ H a = some (SetSO P w a l) ∧ l.length < 4000 ∧
  ∀ (ys : List Str) (p : Addr), ys.Perm l → H p = none → Q (.ref p) (upd H p (.lst (ys.map V.str)))
theorem each_str : ∀ {vs : List Value} {ns : List Str}, PySem.W.EachIs (fun v (b : Str) => RelV (.str b) v) vs ns → Vals (ns.map V.str) vs
  | _, _, .nil => .nil
  | _, _, .cons h t => .cons h (each_str t)
theorem each_str_reads {h : Heap} : ∀ {vs : List Value} {ns : List Str} {a : Addr}, PySem.W.EachIs (fun v (b : Str) => RelV (.str b) v) vs ns → PySem.W.EachIs (fun v (b : Str) => ∃ as, Reads h v (PyData.str b) as ∧ a ∉ as) vs ns
  | _, _, _, .nil => .nil
  | _, _, _, .cons h t => .cons (by
      obtain ⟨tk, rfl⟩ := h
      exact ⟨_, Reads.str _ _, by simp⟩) (each_str_reads t)
def txV : Value → Str
  | .str x _ => x
  | _ => Str.empty
theorem cr_sortedSetS (hc : X.calm = true) (hu : X.A.units + 65 < cLine) : CallR X (.builtin "sorted") (rSortedSetS X.prog X.w) := by
  intro pins s σ H vs us Q I r h
  obtain ⟨a, l, rfl, ha, hlt, q⟩ := h
  obtain ⟨D, ho, F⟩ : ∃ D, s.heap.get? a = some (sObj "set" D) ∧ TxR X.prog X.w D l := (I.hok a _ ha).1
  rw [Vals.ref1 r]
  have hszD : D.1.size = l.length := F.tx.sz
  refine Calls.call_function_entry kind_sorted plain_sorted entry_sorted (args_sorted1 _) ?_
  unfold Builtin.«sorted»
  refine wpAny_bind (m := checkCount "sorted" 1 1 _) (wpAny_pure ?_)
  refine wpAny_bind (collect_set (A := X.A.in1) (I.ok.hd hc) ⟨_, ho, rfl, rfl⟩ F.tx.fit (by rw [hszD]; unfold scanBound; omega) F.ris F.led fun s1 vs k1 hz g1 o1 pm => ?_)
  have hvl : vs.length = l.length := by rw [pm.length_eq, List.length_map, Array.length_toList]; exact hszD
  obtain ⟨ns, en, pn⟩ : ∃ ns : List Str, PySem.W.EachIs (fun v (b : Str) => RelV (.str b) v) vs ns ∧ ns.Perm l := by
    have key : ∀ vs : List Value, (∀ v ∈ vs, ∃ x tk, v = Value.str x tk) → PySem.W.EachIs (fun v (b : Str) => RelV (.str b) v) vs (vs.map txV) := by
      intro vs
      induction vs with
      | nil => intro _; exact .nil
      | cons v vs ih =>
        intro h
        refine .cons ?_ (ih fun u hu => h u (List.mem_cons_of_mem _ hu))
        obtain ⟨x, tk, rfl⟩ := h v List.mem_cons_self
        exact ⟨tk, rfl⟩
    have isx : ∀ (e : Int × Value) (k : Str), (strKind X.prog X.w).is k e.2 = true → ∃ tk, e.2 = Value.str k tk := fun e k hk => by
      have hk' : Value.isStrOf k e.2 = true := hk
      cases hv : e.2 <;> rw [hv] at hk' <;> simp [Value.isStrOf] at hk'
      subst hk'
      exact ⟨_, rfl⟩
    have hall : ∀ v ∈ vs, ∃ x tk, v = Value.str x tk := fun v hv => by
      obtain ⟨e, he, rfl⟩ := List.mem_map.mp (pm.mem_iff.mp hv)
      obtain ⟨⟨k, hk, _⟩, _⟩ := F.tx.el e he
      obtain ⟨tk, q⟩ := isx e k hk
      exact ⟨k, tk, q⟩
    refine ⟨vs.map txV, key vs hall, perm_of_sub l _ F.nd (fun x hx => ?_) (by rw [List.length_map, hvl]; exact Nat.le_refl _)⟩
    obtain ⟨e, he, hk⟩ := (F.tx.mem x).mp hx
    obtain ⟨tk, q⟩ := isx e x hk
    exact List.mem_map.mpr ⟨e.2, pm.mem_iff.mpr (List.mem_map.mpr ⟨e, he, rfl⟩), by rw [q] <;> rfl⟩
  refine wpAny_bind (wpAny_newList ?_ (by rw [hvl, sizeLine_eq]; omega))
  have hoL : (s1.heap.push (seqObj "list" vs.toArray 0)).get? s1.heap.objs.size = some (seqObj "list" vs.toArray 0) := Heap.get?_push_size _ rfl
  refine wpAny_bind (wpAny_holding (PySem.W.list_sort_data (s := { s1 with heap := s1.heap.push (seqObj "list" vs.toArray 0) }) (enc := PyData.str) hoL en (each_str_reads en) (PySem.W.AllAlike.of fun _ _ => rfl) (PySem.W.Sortable.others fun _ => ⟨fun z => (by cases z), fun _ z => (by cases z)⟩) (by rw [pn.length_eq, sizeLine_eq]; omega)
    (fun b _ => by show X.A.units + 1 + 1 + 0 < cLine; omega) fun out ho2 eo => ?_))
  have hp : (ns.mergeSort (PySem.W.dataLe false PyData.str)).Perm l := (List.mergeSort_perm ns _).trans pn
  obtain ⟨c, hc2⟩ := sortedHeap_at (vs := vs) (out := out.toArray) hoL
  have hk2 : ∀ b u, s.heap.get? b = some u → (sortedHeap (s1.heap.push (seqObj "list" vs.toArray 0)) s1.heap.objs.size vs out.toArray).get? b = some u := fun b u e => by
    have z := k1 b u e
    have hltb := Heap.lt_size z
    rw [sortedHeap_old (Nat.ne_of_lt hltb) (by rw [size_push']; exact Nat.lt_succ_of_lt hltb)]
    exact Heap.get?_push_of_some _ z
  have hn : H s1.heap.objs.size = none := I.hok.fresh hz
  have hlen : ((ns.mergeSort (PySem.W.dataLe false PyData.str)).map V.str).length ≤ sizeLine := by rw [List.length_map, hp.length_eq, sizeLine_eq]; omega
  refine wpAny_pure ⟨_, rfl, .ref s1.heap.objs.size, _, ?_, rfl, q _ _ hp hn⟩
  have J : Inv X pins σ (upd H s1.heap.objs.size (.lst ((ns.mergeSort (PySem.W.dataLe false PyData.str)).map V.str))) { s with heap := sortedHeap (s1.heap.push (seqObj "list" vs.toArray 0)) s1.heap.objs.size vs out.toArray, gens := s1.gens, drawn := s1.drawn, toks := s1.toks } :=
    I.call (ch := []) (Un.laid hk2 hz hn) (I.hok.laid hk2 hz ⟨hlen, out, c, each_str eo, hc2⟩) (by rw [g1]; exact I.bare) (fun _ z => nomatch z)
  have e : s1.os = s.os := o1
  rw [← e] at J
  exact J
end
end Far

set_option Elab.async false
set_option linter.all false
set_option maxRecDepth 100000
set_option maxHeartbeats 4000000
/-! FarNest: a dict whose keys are (text, tuple of texts); its keys as a list; sorted -/
namespace Far
open PySem PySem.Spec PyProof.Rows L2 Fz
def nk (p : Str × List Str) : NestedKey := .tup [.text p.1, .tup (p.2.map .text)]
abbrev NKs := List ((Str × List Str) × Addr)
def KtN (H : Hp) (q : (Str × List Str) × Addr) : Prop := ∃ t, H q.2 = some (.tup [.str q.1.1, .ref t]) ∧ H t = some (.tup (q.1.2.map V.str))
def NdO (P : Program) (w : World) (d : Addr) (ks : NKs) : HO := .ext fun h => ∃ (o : Obj) (es : Array DictEntry) (ep : Nat) (xs : List (NestedKey × Addr × Value)), h.get? d = some o ∧ o.ExactDict ∧ o.data = .dict es ep ∧ es.toList = xs.map (entryOfKey (nestedKind P w)) ∧ (xs.map (·.1)).Nodup ∧
  xs.map (fun x => (x.1, x.2.1)) = ks.map (fun q => (nk q.1, q.2)) ∧ (d == sysModules) = false
theorem ndO_new {P : Program} {w : World} {H : Hp} {h : Heap} {d : Addr} {ks : NKs} {o : Obj} {es : Array DictEntry} {ep : Nat} {xs : List (NestedKey × Addr × Value)} (h1 : h.get? d = some o) (h2 : o.ExactDict) (h3 : o.data = .dict es ep)
    (h4 : es.toList = xs.map (entryOfKey (nestedKind P w))) (h5 : (xs.map (·.1)).Nodup) (h6 : xs.map (fun x => (x.1, x.2.1)) = ks.map (fun q => (nk q.1, q.2))) (h7 : (d == sysModules) = false) : ObjOk P w H h d (NdO P w d ks) :=
  ⟨⟨o, es, ep, xs, h1, h2, h3, h4, h5, h6, h7⟩, ⟨o, h1⟩, fun _ _ p k => by
    obtain ⟨o, es, ep, xs, h1, r⟩ := p
    exact ⟨o, es, ep, xs, k _ h1, r⟩⟩
theorem texts_depth : ∀ ts : List Str, NestedKey.depthAll (ts.map .text) = 0
  | [] => rfl
  | t :: ts => by
    show max (NestedKey.depth (.text t)) (NestedKey.depthAll (ts.map .text)) = 0
    rw [texts_depth ts] <;> rfl
theorem nk_depth (p : Str × List Str) : (nk p).depth ≤ 8 := by
  show max 0 (max (NestedKey.depthAll (p.2.map .text) + 1) 0) + 1 ≤ 8
  rw [texts_depth]
  decide
theorem texts_inj : ∀ {a b : List Str}, a.map NestedKey.text = b.map NestedKey.text → a = b
  | [], [], _ => rfl
  | [], _ :: _, h => by cases h
  | _ :: _, [], h => by cases h
  | x :: a, y :: b, h => by
    rw [List.map_cons, List.map_cons] at h
    injection h with h1 h2
    injection h1 with h1
    rw [h1, texts_inj h2]
theorem nk_inj {p q : Str × List Str} (h : nk p = nk q) : p = q := by
  unfold nk at h
  injection h with h
  injection h with h1 h2
  injection h1 with h1
  injection h2 with h2 _
  injection h2 with h2
  exact Prod.ext h1 (texts_inj h2)
section
variable {X : Cx} {pins : List (Addr × Obj)} {σ : L2.St} {H : Hp} {s : Shared}
theorem nested_texts {h : Heap} : ∀ {ts : List Str} {us : List Value}, Vals (ts.map V.str) us → NestedAll h (ts.map .text) us
  | [], _, .nil => .nil
  | t :: ts, _, .cons r rr => by
    obtain ⟨tk, rfl⟩ := r
    exact .cons (.text _ _) (nested_texts rr)
theorem ktN_is (I : Inv X pins σ H s) {q : (Str × List Str) × Addr} (h : KtN H q) : (nestedKind X.prog X.w).is s.heap (nk q.1) q.2 := by
  obtain ⟨t, h1, h2⟩ := h
  obtain ⟨_, its, rv, ⟨o, ho, hc, n, hd⟩⟩ := I.hok _ _ h1
  obtain ⟨its2, rv2, ⟨o2, ho2, hc2, n2, hd2⟩, _⟩ := I.tuple (SqT.of h2)
  refine ⟨?_, nk_depth _⟩
  cases rv with
  | cons r1 rr =>
    cases rr with
    | cons r2 rrr =>
      cases rrr
      obtain ⟨tk, rfl⟩ := r1
      cases r2
      exact .tup ho hc hd (.cons (.text _ _) (.cons (.tup ho2 hc2 hd2 (by simpa using nested_texts rv2)) .nil))
def putN (ks : NKs) (k : Str × List Str) (b : Addr) : NKs := if ks.any (fun q => decide (q.1 = k)) = true then ks else ks ++ [(k, b)]
def NdAt (P : Program) (w : World) (H : Hp) (D : Addr) (ks : NKs) : Prop := H D = some (NdO P w D ks) ∨ (ks = [] ∧ H D = some (.dT []))
def RdN (P : Program) (w : World) : Hp → Addr → V → V → HO → Prop := fun H D y z o => ∃ (ks : NKs) (k : Str × List Str) (b : Addr), y = .ref b ∧ KtN H (k, b) ∧ NdAt P w H D ks ∧ (∀ q ∈ ks, KtN H q) ∧ ks.length < 1000 ∧ o = NdO P w D (putN ks k b)
theorem ndAt_raw (I : Inv X pins σ H s) {D : Addr} {ks : NKs} (e : NdAt X.prog X.w H D ks) : ∃ (o : Obj) (es : Array DictEntry) (ep : Nat) (xs : List (NestedKey × Addr × Value)), s.heap.get? D = some o ∧ o.ExactDict ∧ o.data = .dict es ep ∧ es.toList = xs.map (entryOfKey (nestedKind X.prog X.w)) ∧ (xs.map (·.1)).Nodup ∧
    xs.map (fun x => (x.1, x.2.1)) = ks.map (fun q => (nk q.1, q.2)) ∧ (D == sysModules) = false := by
  rcases e with e | ⟨rfl, e⟩
  · exact (I.hok D _ e).1
  · obtain ⟨_, hd, xs, rel, o, es, ep, h1, h2, h3, h4, _⟩ := I.hok D _ e
    cases rel
    exact ⟨o, es, ep, [], h1, h2, h3, h4, List.nodup_nil, rfl, hd⟩
theorem atKey_any {xs : List (NestedKey × Addr × Value)} {ks : NKs} (h : xs.map (fun x => (x.1, x.2.1)) = ks.map (fun q => (nk q.1, q.2))) (k : Str × List Str) : (atKey xs (nk k)).isSome = ks.any (fun q => decide (q.1 = k)) := by
  induction xs generalizing ks with
  | nil =>
    cases ks with
    | nil => rfl
    | cons q ks => cases h
  | cons x xs ih =>
    cases ks with
    | nil => cases h
    | cons q ks =>
      rw [List.map_cons, List.map_cons] at h
      injection h with h1 h2
      injection h1 with h1 _
      rw [List.any_cons, ← ih h2]
      by_cases e : q.1 = k
      · have e2 : x.1 = nk k := by rw [h1, e]
        simp [atKey, e, e2]
      · have e2 : ¬ x.1 = nk k := fun z => e (nk_inj (h1.symm.trans z))
        simp [atKey, e, e2]
theorem put_at (xs : List (NestedKey × Addr × Value)) (k : NestedKey) (v : Value) : (xs.map (putAt k v)).map (fun x => (x.1, x.2.1)) = xs.map (fun x => (x.1, x.2.1)) := by
  rw [List.map_map]
  refine List.map_congr_left fun x _ => ?_
  show ((putAt k v x).1, (putAt k v x).2.1) = _
  unfold putAt
  split <;> rfl
theorem stored_put {xs : List (NestedKey × Addr × Value)} {ks : NKs} (h : xs.map (fun x => (x.1, x.2.1)) = ks.map (fun q => (nk q.1, q.2))) (k : Str × List Str) (b : Addr) (v : Value) :
    (storedH xs (nk k) b v).map (fun x => (x.1, x.2.1)) = (putN ks k b).map (fun q => (nk q.1, q.2)) := by
  unfold storedH putN
  rw [atKey_any h]
  split
  · rw [put_at, h]
  · rw [List.map_append, h, List.map_append] <;> rfl
theorem dst_N (hu : X.A.units + 65 < cLine) : DSt X (RdN X.prog X.w) := by
  intro Y pins s σ H D y z u r o E Q eP ew eA I hR ry rz h
  obtain ⟨ks, k, b, rfl, hk, e, hall, hl, rfl⟩ := hR
  cases (show u = Value.ref b from ry)
  have ed := e
  rw [← eP, ← ew] at e
  obtain ⟨od, es, ep, xs, h1, h2, h3, h4, h5, h6, h7⟩ := ndAt_raw I e
  have hxl : xs.length = ks.length := by
    have q := congrArg List.length h6
    rwa [List.length_map, List.length_map] at q
  rw [← eP, ← ew, ← eA]
  rw [← eA] at hu
  have his : ∀ x ∈ xs, (nestedKind Y.prog Y.w).is s.heap x.1 x.2.1 := fun x hx => by
    have hm : (x.1, x.2.1) ∈ xs.map (fun x => (x.1, x.2.1)) := List.mem_map.mpr ⟨x, hx, rfl⟩
    rw [h6] at hm
    obtain ⟨q, hq, eq⟩ := List.mem_map.mp hm
    have z1 : x.1 = nk q.1 := (congrArg Prod.fst eq).symm
    have z2 : x.2.1 = q.2 := (congrArg Prod.snd eq).symm
    rw [z1, z2]
    exact ktN_is I (hall q hq)
  refine wpAny_dictSet_heap (knd := nestedKind Y.prog Y.w) (hsz := by rw [hxl, sizeLine_eq]; omega) (show Y.A.units + 8 < cLine by omega) (ktN_is I hk) ⟨od, es, ep, h1, h2, h3, h4, his, h5⟩ fun h' dd' hs => ?_
  obtain ⟨o', es', ep', g1, g2, g3, g4, _, g5⟩ := dd'
  rw [← eP, ← ew] at h
  refine h _ (d_write I ?_ hs ⟨o', g1⟩ (ndO_new g1 g2 g3 g4 g5 (stored_put h6 k b r) h7))
  rcases ed with ed | ⟨_, ed⟩
  · rw [ed]; exact True.intro
  · rw [ed]; exact True.intro
/-- list(d) -/
theorem call_listN (hc : X.calm = true) : CallR X (.type "list") (fun xs H Q => ∃ d ks, xs = [V.ref d] ∧ NdAt X.prog X.w H d ks ∧ ks.length < 1000 ∧ ∀ p, H p = none → Q (.ref p) (upd H p (.lst (ks.map fun q => V.ref q.2)))) := by
  intro pins s σ H xs us Q I r h
  obtain ⟨d, ks, rfl, hd, hl, q⟩ := h
  obtain ⟨u, rfl, rx⟩ := r.one
  cases rx
  obtain ⟨o, es, ep, xs, ho, hx, hdt, he, hn, hks, hs⟩ := ndAt_raw I hd
  have l1 : es.size = xs.length := size_of_entries he
  have l2 : xs.length = ks.length := by
    have q := congrArg List.length hks
    rwa [List.length_map, List.length_map] at q
  refine PySem.W.kdl_call (kdl_raw hs hx hdt) (I.ok.hd hc) ho (by rw [l1, l2, sizeLine_eq]; omega) fun h' tk acc' c' kp e it => ?_
  have ea : acc'.toList = xs.map fun x => Value.ref x.2.1 := by
    have hl : acc'.toList.length = xs.length := by rw [Array.length_toList, it.1]; exact l1
    apply List.ext_getElem?
    intro j
    rw [List.getElem?_map]
    cases hj : acc'.toList[j]? with
    | none =>
      have h1 := List.getElem?_eq_none_iff.mp hj
      rw [List.getElem?_eq_none (by omega)]
      all_goals rfl
    | some v =>
      obtain ⟨en, hen, hv⟩ := it.2 j v (by rw [← Array.getElem?_toList]; exact hj)
      have qe := entry_at he j
      rw [hen] at qe
      cases hb : xs[j]? with
      | none =>
        rw [hb] at qe
        exact nomatch (show some en = none from qe)
      | some b =>
        rw [hb] at qe
        have e2 : en = entryOfKey (nestedKind X.prog X.w) b := Option.some.inj qe
        rw [hv, e2]
        all_goals rfl
  have ek : xs.map (fun x => x.2.1) = ks.map (·.2) := by
    have q := congrArg (List.map Prod.snd) hks
    rw [List.map_map, List.map_map] at q
    exact q
  have eb : acc'.toList = (ks.map (·.2)).map Value.ref := by rw [ea, ← ek, List.map_map]; all_goals rfl
  have rv : Vals (ks.map fun q => V.ref q.2) acc'.toList := by
    rw [eb, show (ks.map fun q => V.ref q.2) = (ks.map (·.2)).map V.ref by rw [List.map_map]; rfl]
    exact vals_refs _
  refine ⟨.ref s.heap.objs.size, _, I.laid (t' := tk) (o := .lst (ks.map fun q => V.ref q.2)) kp (Nat.le_refl _) ?_, rfl, q _ (I.hok.fresh (Nat.le_refl _))⟩
  exact ⟨by rw [List.length_map, sizeLine_eq]; omega, acc'.toList, c', rv, by rw [Array.toArray_toList]; exact e⟩
end
/-! ### what sorted asks of the pairs -/
def nkD (p : Str × List Str) : PyData := .tuple [.str p.1, .tuple (p.2.map .str)]
open PySem.W (AllAlike Sortable alike alikeAll) in
theorem alike_texts : ∀ a b : List Str, alikeAll (a.map .str) (b.map .str) = true
  | [], [] => rfl
  | [], _ :: _ => rfl
  | _ :: _, [] => rfl
  | _ :: a, _ :: b => by
    show (alike _ _ && alikeAll _ _) = true
    rw [alike_texts a b] <;> rfl
end Far

set_option Elab.async false
set_option linter.all false
set_option maxRecDepth 100000
set_option maxHeartbeats 4000000
/-! FarData: the data as they are tracked -/
namespace Far
open PySem PySem.Spec PyProof.Rows L2 Fz
theorem hu65_of {A : Around} {k : Nat} (hr : Room k A) : A.units + 65 < cLine := by have := hr.un; omega
theorem hu8_of {A : Around} {k : Nat} (hr : Room k A) : A.units + 8 < cLine := by have := hr.un; omega
/-! ### names -/
def LET : Str := "abcdefghijklmnopqrstuvwxyz"
structure NameOk (x : Str) : Prop where
  lo : 1 ≤ x.length
  hi : x.length ≤ 8
  all : ∀ c ∈ x.cps.toList, c ∈ LET.cps.toList
theorem flat_strs : ∀ xs : List Str, (xs.map V.str).all flatV = true
  | [] => rfl
  | x :: xs => by
    rw [List.map_cons, List.all_cons, flat_strs xs] <;> rfl
theorem inV_strs (x : Str) : ∀ xs : List Str, inV (.str x) (xs.map V.str) = decide (x ∈ xs)
  | [] => by simp [inV]
  | y :: xs => by
    have ih := inV_strs x xs
    unfold inV at ih ⊢
    rw [List.map_cons, List.any_cons, ih]
    show ((y == x) || decide (x ∈ xs)) = decide (x ∈ y :: xs)
    by_cases e : x = y
    · subst e
      simp
    · have e2 : (y == x) = false := by
        cases h : y == x with
        | false => rfl
        | true => exact absurd (eq_of_beq h).symm e
      rw [e2]
      simp [e]
theorem mem_take_nd {l : List Str} (hn : l.Nodup) {i : Nat} {x : Str} (h : l[i]? = some x) : x ∉ l.take i := fun hm => by
  obtain ⟨j, hj⟩ := List.mem_iff_getElem?.mp hm
  rw [List.getElem?_take] at hj
  split at hj
  · rename_i hlt
    have e : j = i := nd_ix hn hj h
    omega
  · cases hj
theorem maps_get {xs : List Str} {i : Nat} {v : V} (h : (xs.map V.str)[i]? = some v) : ∃ x, xs[i]? = some x ∧ v = .str x := by
  rw [List.getElem?_map] at h
  cases e : xs[i]? with
  | none => rw [e] at h; cases h
  | some x =>
    rw [e] at h
    exact ⟨x, rfl, (Option.some.inj h).symm⟩
theorem in_take {xs : List Str} (hn : xs.Nodup) {i : Nat} {x : Str} (h : xs[i]? = some x) (hi : i ≤ xs.length) : inV (.str x) (cutV (xs.map V.str) none (some (i : Int))) = false ∧ (cutV (xs.map V.str) none (some (i : Int))).all flatV = true := by
  have e : cutV (xs.map V.str) none (some (i : Int)) = (xs.take i).map V.str := by
    unfold cutV
    have e1 : HT.sIx (xs.map V.str).length 0 none = 0 := rfl
    have e2 : HT.sIx (xs.map V.str).length (xs.map V.str).length (some (i : Int)) = i := by
      rw [HT.sIx_nat, List.length_map]
      omega
    rw [e1, e2, List.drop_zero, List.map_take] <;> rfl
  rw [e, inV_strs, decide_eq_false (mem_take_nd hn h)]
  exact ⟨rfl, flat_strs _⟩
theorem cut_take (xs : List V) (k : Nat) (h : k ≤ xs.length) : cutV xs none (some (k : Int)) = xs.take k := by
  unfold cutV
  have e1 : HT.sIx xs.length 0 none = 0 := rfl
  have e2 : HT.sIx xs.length xs.length (some (k : Int)) = k := by
    rw [HT.sIx_nat]
    omega
  rw [e1, e2] <;> rfl
/-! ### a heap with some addresses hidden -/
def hid (L : List Addr) (H : Hp) : Hp := fun b => if b ∈ L then none else H b
theorem hid_in {L : List Addr} {H : Hp} {b : Addr} (h : b ∈ L) : hid L H b = none := by unfold hid; rw [if_pos h]
theorem hid_out {L : List Addr} {H : Hp} {b : Addr} (h : b ∉ L) : hid L H b = H b := by unfold hid; rw [if_neg h]
theorem same_hid (L : List Addr) (H : Hp) : Same (hid L H) H := fun b o e => by
  by_cases h : b ∈ L
  · rw [hid_in h] at e; cases e
  · rwa [hid_out h] at e
theorem hid_same {L : List Addr} {H H' : Hp} (s : Same H H') : Same (hid L H) (hid L H') := fun b o e => by
  by_cases h : b ∈ L
  · rw [hid_in h] at e; cases e
  · rw [hid_out h] at e ⊢; exact s b o e
theorem hid_new {L : List Addr} {H H' : Hp} (s : Same H H') (n : ∀ b ∈ L, H b = none) : Same H (hid L H') := fun b o e => by
  rw [hid_out fun h => by rw [n b h] at e; cases e]
  exact s b o e
theorem hid_upd {L : List Addr} {H : Hp} {d : Addr} {o : HO} (h : d ∈ L) : hid L (upd H d o) = hid L H := by
  funext b
  unfold hid
  split
  · rfl
  · rename_i hb
    rw [upd_ne (fun e : b = d => hb (by rw [e]; exact h))]
/-- all but those at L stays -/
def Ex (L : List Addr) (H H' : Hp) : Prop := Same (hid L H) (hid L H')
theorem Ex.refl (L : List Addr) (H : Hp) : Ex L H H := Same.refl _
theorem Ex.of {L : List Addr} {H H' : Hp} (s : Same H H') : Ex L H H' := hid_same s
theorem Ex.trans {L : List Addr} {H H1 H2 : Hp} (a : Ex L H H1) (b : Ex L H1 H2) : Ex L H H2 := Same.trans a b
theorem Ex.upd {L : List Addr} {H H' : Hp} {d : Addr} {o : HO} (a : Ex L H H') (h : d ∈ L) : Ex L H (upd H' d o) := by
  unfold Ex
  rw [hid_upd h]
  exact a
theorem Ex.new {L : List Addr} {H H' : Hp} {d : Addr} {o : HO} (a : Ex L H H') (h : H' d = none) : Ex L H (L2.upd H' d o) := a.trans (hid_same (sm_new h))
theorem Ex.get {L : List Addr} {H H' : Hp} {b : Addr} {o : HO} (a : Ex L H H') (h : b ∉ L) (e : H b = some o) : H' b = some o := by
  have q := a b o (by rw [hid_out h]; exact e)
  rwa [hid_out h] at q
theorem Ex.free {L : List Addr} {H H' : Hp} {b : Addr} (a : Ex L H H') (h : b ∉ L) (e : H' b = none) : H b = none := by
  cases q : H b with
  | none => rfl
  | some o => rw [a.get h q] at e; cases e
/-! ### pairs of texts as keys -/
abbrev Pt := Str × Str
def kp (p : Pt) : List Key := [.inr p.1, .inr p.2]
theorem kp_inj {p q : Pt} (h : kp p = kp q) : p = q := by
  unfold kp at h
  injection h with h1 h2
  injection h2 with h2 _
  injection h1 with h1
  injection h2 with h2
  exact Prod.ext h1 h2
theorem kp_V (p : Pt) : (kp p).map kV = [.str p.1, .str p.2] := rfl
theorem kp_nodup {ks : List Pt} (h : ks.Nodup) : (ks.map kp).Nodup := by
  induction ks with
  | nil => exact List.nodup_nil
  | cons a l ih =>
    obtain ⟨h1, h2⟩ := List.nodup_cons.mp h
    refine List.nodup_cons.mpr ⟨fun q => ?_, ih h2⟩
    obtain ⟨b, hb, e⟩ := List.mem_map.mp q
    exact h1 (kp_inj e ▸ hb)
theorem kp_mem {ks : List Pt} {p : Pt} : kp p ∈ ks.map kp ↔ p ∈ ks := by
  refine ⟨fun q => ?_, fun q => List.mem_map.mpr ⟨p, q, rfl⟩⟩
  obtain ⟨b, hb, e⟩ := List.mem_map.mp q
  exact kp_inj e ▸ hb
abbrev Kvs := List (List Key × V)
theorem val_some {kvs : Kvs} {ks : List Pt} (h : kvs.map (·.1) = ks.map kp) (p : Pt) : (valV kvs (kp p)).isSome = true ↔ p ∈ ks := by
  rw [← kp_mem, ← h]
  constructor
  · intro q
    obtain ⟨v, e⟩ := Option.isSome_iff_exists.mp q
    exact valV_in e
  · intro q
    cases e : valV kvs (kp p) with
    | none => exact absurd q (valV_not e)
    | some v => rfl
theorem val_at {kvs : Kvs} (hn : (kvs.map (·.1)).Nodup) {i : Nat} {k : List Key} {v : V} (h : kvs[i]? = some (k, v)) : valV kvs k = some v := by
  induction kvs generalizing i with
  | nil => simp at h
  | cons a l ih =>
    rw [List.map_cons] at hn
    obtain ⟨h1, h2⟩ := List.nodup_cons.mp hn
    cases i with
    | zero =>
      have e : a = (k, v) := by simpa using h
      rw [valV_pos (by rw [e]), e]
    | succ i =>
      have h' : l[i]? = some (k, v) := by simpa using h
      rw [valV_neg fun e => h1 (by rw [e]; exact List.mem_map.mpr ⟨(k, v), List.mem_of_getElem? h', rfl⟩)]
      exact ih h2 h'
/-- moves -/
structure MvK (kvs : Kvs) (ks : List Pt) (f : Str → Str → Option Str) : Prop where
  keys : kvs.map (·.1) = ks.map kp
  nd : ks.Nodup
  val : ∀ s t, valV kvs (kp (s, t)) = (f s t).map V.str
theorem MvK.mem {kvs : Kvs} {ks : List Pt} {f : Str → Str → Option Str} (m : MvK kvs ks f) (s t : Str) : (f s t).isSome = true ↔ (s, t) ∈ ks := by
  rw [← val_some m.keys, m.val s t, Option.isSome_map]
theorem MvK.at_ {kvs : Kvs} {ks : List Pt} {f : Str → Str → Option Str} (m : MvK kvs ks f) {i : Nat} {k : List Key} {v : V} (h : kvs[i]? = some (k, v)) : ∃ s t x, ks[i]? = some (s, t) ∧ k = kp (s, t) ∧ v = .str x ∧ f s t = some x := by
  have e : (kvs.map (·.1))[i]? = some k := by rw [List.getElem?_map, h]; rfl
  rw [m.keys, List.getElem?_map] at e
  cases hk : ks[i]? with
  | none => rw [hk] at e; cases e
  | some p =>
    rw [hk] at e
    obtain rfl : kp p = k := Option.some.inj e
    have q := val_at (by rw [m.keys]; exact kp_nodup m.nd) h
    have q2 := m.val p.1 p.2
    rw [show kp (p.1, p.2) = kp p from rfl, q] at q2
    cases hf : f p.1 p.2 with
    | none => rw [hf] at q2; cases q2
    | some x =>
      rw [hf] at q2
      exact ⟨p.1, p.2, x, rfl, rfl, Option.some.inj q2, hf⟩
/-- an action at a -/
def ActAt (H : Hp) (a : Addr) : FAct Str → Prop
  | .skip => H a = some (.tup [.str "skip"])
  | .put x => H a = some (.tup [.str "put", .str x])
  | .take x => H a = some (.tup [.str "take", .str x])
  | .jump s => H a = some (.tup [.str "jump", .str s])
  | .pass ts s => ∃ b, H a = some (.tup [.str "pass", .ref b, .str s]) ∧ H b = some (.tup (ts.map .str))
theorem ActAt.mono {H H' : Hp} {a : Addr} {c : FAct Str} (e : Same H H') (h : ActAt H a c) : ActAt H' a c := by
  cases c with
  | skip => exact e _ _ h
  | put x => exact e _ _ h
  | take x => exact e _ _ h
  | jump s => exact e _ _ h
  | pass ts s =>
    obtain ⟨b, h1, h2⟩ := h
    exact ⟨b, e _ _ h1, e _ _ h2⟩
structure TbK (H : Hp) (kvs : Kvs) (ks : List Pt) (f : Str → Str → Option (FAct Str)) : Prop where
  keys : kvs.map (·.1) = ks.map kp
  nd : ks.Nodup
  mem : ∀ s t, (f s t).isSome = true ↔ (s, t) ∈ ks
  val : ∀ s t c, f s t = some c → ∃ a, valV kvs (kp (s, t)) = some (.ref a) ∧ ActAt H a c
theorem TbK.mono {H H' : Hp} {kvs : Kvs} {ks : List Pt} {f : Str → Str → Option (FAct Str)} (e : Same H H') (h : TbK H kvs ks f) : TbK H' kvs ks f :=
  ⟨h.keys, h.nd, h.mem, fun s t c q => let ⟨a, h1, h2⟩ := h.val s t c q; ⟨a, h1, h2.mono e⟩⟩
/-- a configuration at a -/
def CfgAt (H : Hp) (a : Addr) (c : FCfg Str) : Prop := ∃ b, H a = some (.tup [.str c.st, .ref b, .int c.q]) ∧ H b = some (.tup (c.wt.map .str))
theorem CfgAt.mono {H H' : Hp} {a : Addr} {c : FCfg Str} (e : Same H H') (h : CfgAt H a c) : CfgAt H' a c := by
  obtain ⟨b, h1, h2⟩ := h
  exact ⟨b, e _ _ h1, e _ _ h2⟩
def cfgD (c : FCfg Str) : PyData := .tuple [.str c.st, .tuple (c.wt.map .str), .int c.q]
theorem dp_strs {K : PySem.W.Frag} {H : Hp} : ∀ xs : List Str, DpAll K H (xs.map V.str) (xs.map .str)
  | [] => .nil
  | x :: xs => .cons (.str x) (dp_strs xs)
theorem CfgAt.dp {K : PySem.W.Frag} {H : Hp} {a : Addr} {c : FCfg Str} (h : CfgAt H a c) : Dp K H (.ref a) (cfgD c) := by
  obtain ⟨b, h1, h2⟩ := h
  exact .tup (SqT.of h1) (.cons (.str _) (.cons (.tup (SqT.of h2) (dp_strs _)) (.cons (.int _) .nil)))
/-- the machine's object -/
structure MD where
  toks : List Str
  start : Str
  ks : List Pt
  mv : Str → Str → Option Str
  fins : List Str
  places : List Str
def MchAt (K : PySem.W.Frag) (H : Hp) (m : Addr) (M : MD) : Prop := ∃ (dx al ed en pl : Addr) (kvs : Kvs), H m = some (.ins (He.ga K "Machine") dx [("alphabet", .ref al), ("origin", .str M.start), ("edges", .ref ed), ("ending", .ref en), ("places", .ref pl)]) ∧
  H al = some (.lst (M.toks.map .str)) ∧ H ed = some (.dT kvs) ∧ MvK kvs M.ks M.mv ∧ H en = some (.lst (M.fins.map .str)) ∧ H pl = some (.lst (M.places.map .str))
theorem MchAt.mono {K : PySem.W.Frag} {H H' : Hp} {m : Addr} {M : MD} (e : Same H H') (h : MchAt K H m M) : MchAt K H' m M := by
  obtain ⟨dx, al, ed, en, pl, kvs, h1, h2, h3, h4, h5, h6⟩ := h
  exact ⟨dx, al, ed, en, pl, kvs, e _ _ h1, e _ _ h2, e _ _ h3, h4, e _ _ h5, e _ _ h6⟩
/-- the reader's object -/
def RdrAt (K : PySem.W.Frag) (H : Hp) (r : Addr) (M : MD) (R : FRd Str) : Prop := ∃ (dx m ac pa : Addr) (kvs : Kvs) (ks : List Pt), H r = some (.ins (He.ga K "Reader") dx [("engine", .ref m), ("actions", .ref ac), ("span", .int R.hold), ("passes", .ref pa)]) ∧
  MchAt K H m M ∧ H ac = some (.dT kvs) ∧ TbK H kvs ks R.tb ∧ R.mv = M.mv
theorem RdrAt.mono {K : PySem.W.Frag} {H H' : Hp} {r : Addr} {M : MD} {R : FRd Str} (e : Same H H') (h : RdrAt K H r M R) : RdrAt K H' r M R := by
  obtain ⟨dx, m, ac, pa, kvs, ks, h1, h2, h3, h4, h5⟩ := h
  exact ⟨dx, m, ac, pa, kvs, ks, e _ _ h1, h2.mono e, e _ _ h3, h4.mono e, h5⟩
/-! ### promises packed -/
section
variable {P : Program} {w : World} {K : PySem.W.Frag} {mg : Str → Option Value} {base : Heap}
theorem prp_mk {C p g : Addr} {x qual : Str} {pa : Arguments} {bd : List Stmt} {sc : Scope} {N ps : List Str} {k : Nat} {sp : Sp} (c : Cls K C) (m : PropOf K C x p g) (F : ∃ fd, FunD K x qual pa bd sc [] [] g fd) (S : FnScope N ps sc)
    (len : ∀ vs H Q E, sp vs H Q E → vs.length = ps.length)
    (hb : ∀ (kV doc pm : Value) (an : Option Addr) (cdv ct : Value) (us : List Value), us.length = ps.length → bindArgs (PySem.W.fnOf x qual pa bd sc .none kV doc pm an cdv ct) ⟨us, []⟩ = pure (ps.zip us))
    (hbody : ∀ (cdv : Value) (A : Around) (outer : List Env) (s : Shared) (H : Hp) (vs : List V) (Q : VK) (E : XK), Room k (A.deeper (envOfC qual sc s.heap.objs.size g cdv)) → sp vs H Q E →
      ∃ t, PSs (cxOf C8.CX0 P w K mg base N qual sc g cdv A outer s H E).nox bd t ∧ t { nx := fun _ H' => Q .non H', rt := Q } (start N vs) H) : Prp P w K mg base (k + 1) C x sp := by
  obtain ⟨fd, F⟩ := F
  refine ⟨_, g, fd, ps, c, m, F.ok S len fun cdv A outer s H vs Q E hr h => ?_, F.bindsN hb⟩
  obtain ⟨t, h1, h2⟩ := hbody cdv A outer s H vs Q E hr h
  exact ⟨t, h1.nox, h2⟩
theorem gto_mk {C : Addr} {qual : Str} {pa : Arguments} {bd : List Stmt} {sc : Scope} {N ps : List Str} {k : Nat} {sp : Sp} (c : Cls K C) (m : Meth K C "__getitem__" (He.ma K C "__getitem__")) (F : ∃ fd, FunD K "__getitem__" qual pa bd sc [] [] (He.ma K C "__getitem__") fd) (S : FnScope N ps sc)
    (len : ∀ vs H Q E, sp vs H Q E → vs.length = ps.length)
    (hb : ∀ (kV doc pm : Value) (an : Option Addr) (cdv ct : Value) (us : List Value), us.length = ps.length → bindArgs (PySem.W.fnOf "__getitem__" qual pa bd sc .none kV doc pm an cdv ct) ⟨us, []⟩ = pure (ps.zip us))
    (hbody : ∀ (cdv : Value) (A : Around) (outer : List Env) (s : Shared) (H : Hp) (vs : List V) (Q : VK) (E : XK), Room k (A.deeper (envOfC qual sc s.heap.objs.size (He.ma K C "__getitem__") cdv)) → sp vs H Q E →
      ∃ t, PSs (cxOf C8.CX0 P w K mg base N qual sc (He.ma K C "__getitem__") cdv A outer s H E).nox bd t ∧ t { nx := fun _ H' => Q .non H', rt := Q } (start N vs) H) : Gto P w K mg base (k + 1) C sp := by
  obtain ⟨fd, F⟩ := F
  have hfi : PySem.W.fnIn K (He.ma K C "__getitem__") = true := by
    obtain ⟨oc, od, dV, kV, doc, pm, an, cdv, ct, osl, rfl, lk, _⟩ := F.ex
    unfold PySem.W.fnIn
    rw [lk]
  refine ⟨_, fd, ps, c, m, hfi, F.ok S len fun cdv A outer s H vs Q E hr h => ?_, F.bindsN hb⟩
  obtain ⟨t, h1, h2⟩ := hbody cdv A outer s H vs Q E hr h
  exact ⟨t, h1.nox, h2⟩
end
/-! ### a dict while a loop walks it -/
section
variable {K : PySem.W.Frag} {H H' : Hp} {d a b : Addr} {od : Obj} {kvs : Kvs}
theorem lk_back (h : H d = some (.dT kvs)) (e : Same (upd H d (.frz od (.dT kvs))) H') : Same H (upd H' d (.dT kvs)) := fun b o q => by
  by_cases hb : b = d
  · subst hb
    rw [upd_same, ← h]
    exact q
  · rw [upd_ne hb]
    exact e b o (by rw [upd_ne hb]; exact q)
theorem lk_ne (h : H d = some (.dT kvs)) {o : HO} (e : H b = some o) (hn : ∀ k, o ≠ .dT k) : upd H d (.frz od (.dT kvs)) b = some o := by
  rw [upd_ne (ne_of e h (hn _))]
  exact e
theorem lk_tup (h : H d = some (.dT kvs)) {xs : List V} (e : H b = some (.tup xs)) : upd H d (.frz od (.dT kvs)) b = some (.tup xs) := lk_ne h e fun _ z => nomatch z
theorem lk_lst (h : H d = some (.dT kvs)) {xs : List V} (e : H b = some (.lst xs)) : upd H d (.frz od (.dT kvs)) b = some (.lst xs) := lk_ne h e fun _ z => nomatch z
theorem lk_l (h : H d = some (.dT kvs)) {xs : List V} (e : SqL K H a xs) : SqL K (upd H d (.frz od (.dT kvs))) a xs := by
  rcases e with (e | ⟨o, e⟩) | e
  · exact .inl (.inl (lk_ne h e fun _ z => nomatch z))
  · exact .inl (.inr ⟨o, lk_ne h e fun _ z => nomatch z⟩)
  · exact .inr e
theorem dg (h : L2.Rd H a (.dT kvs)) {s t : Str} (eb : H b = some (.tup [.str s, .str t])) : DGet H a (.ref b) (valV kvs (kp (s, t))) := .inr ⟨kvs, kp (s, t), b, h, rfl, eb, rfl⟩
end
theorem putF_neg {f g : Str} {v x : V} {r : List (Str × V)} (h : g ≠ f) : putF f v ((g, x) :: r) = (g, x) :: putF f v r := by
  show (if g = f then _ else _) = _
  rw [if_neg h]
theorem lk_ex {H H' : Hp} {d : Addr} {od : Obj} {kvs : Kvs} {L : List Addr} (h : H d = some (.dT kvs)) (hd : d ∉ L) (e : Ex L (upd H d (.frz od (.dT kvs))) H') : Ex L H (upd H' d (.dT kvs)) := fun b o q => by
  by_cases hb : b = d
  · subst hb
    rw [hid_out hd] at q ⊢
    rw [upd_same, ← h]
    exact q
  · by_cases hl : b ∈ L
    · rw [hid_in hl] at q; cases q
    · rw [hid_out hl] at q ⊢
      rw [upd_ne hb]
      exact e.get hl (by rw [upd_ne hb]; exact q)
theorem ex_same {H H1 H2 : Hp} {L : List Addr} (s : Same H H1) (e : Ex L H1 H2) (n : ∀ b ∈ L, H b = none) : Same H H2 := fun b o q => by
  refine e.get (fun z => ?_) (s b o q)
  rw [n b z] at q
  cases q
theorem strs_at {ys : List Str} {i : Nat} {y : Str} (h : ys[i]? = some y) : atI (ys.map V.str) ((i : Nat) : Int) = some (.str y) := at_of rfl (by rw [List.getElem?_map, h]; rfl)
/-! ### keys, orders, moves by a list -/
theorem perm_map_inv {α β : Type} {g : α → β} {l m : List β} (h : l.Perm m) : ∀ zs : List α, m = zs.map g → ∃ zs' : List α, zs'.Perm zs ∧ l = zs'.map g := by
  induction h with
  | nil =>
    intro zs e
    exact ⟨zs, .refl _, e⟩
  | cons x _ ih =>
    intro zs e
    cases zs with
    | nil => cases e
    | cons z zs =>
      rw [List.map_cons] at e
      injection e with e1 e2
      obtain ⟨zs', p, q⟩ := ih zs e2
      exact ⟨z :: zs', .cons z p, by rw [e1, q] <;> rfl⟩
  | swap x y l =>
    intro zs e
    cases zs with
    | nil => cases e
    | cons z zs =>
      cases zs with
      | nil => cases e
      | cons z2 zs =>
        rw [List.map_cons, List.map_cons] at e
        injection e with e1 e2
        injection e2 with e2 e3
        exact ⟨z2 :: z :: zs, .swap _ _ _, by rw [e1, e2, e3] <;> rfl⟩
  | trans _ _ ih1 ih2 =>
    intro zs e
    obtain ⟨z1, p1, q1⟩ := ih2 zs e
    obtain ⟨z2, p2, q2⟩ := ih1 z1 q1
    exact ⟨z2, p2.trans p1, q2⟩
/-- the keys' own tuples -/
theorem keys_zip {H : Hp} : ∀ {kvs : Kvs} {bs : List Addr} {ks : List Pt}, IsKeys H kvs bs → kvs.map (·.1) = ks.map kp → ∃ zs : List (Addr × Pt), zs.map (·.1) = bs ∧ zs.map (·.2) = ks ∧ ∀ z ∈ zs, H z.1 = some (.tup [.str z.2.1, .str z.2.2])
  | [], _, ks, .nil, e => by
    cases ks with
    | nil => exact ⟨[], rfl, rfl, fun z hz => (by cases hz)⟩
    | cons k ks => cases e
  | kv :: kvs, b :: bs, ks, .cons r t, e => by
    cases ks with
    | nil => cases e
    | cons k ks =>
      rw [List.map_cons, List.map_cons] at e
      injection e with e1 e2
      obtain ⟨zs, h1, h2, h3⟩ := keys_zip t e2
      refine ⟨(b, k) :: zs, by rw [List.map_cons, h1], by rw [List.map_cons, h2], fun z hz => ?_⟩
      rcases List.mem_cons.mp hz with q | q
      · rw [q]
        rw [e1] at r
        exact r
      · exact h3 z q
def ptD (p : Pt) : PyData := .tuple [.str p.1, .str p.2]
theorem ptD_dp {K : PySem.W.Frag} {H : Hp} {b : Addr} {p : Pt} (h : H b = some (.tup [.str p.1, .str p.2])) : Dp K H (.ref b) (ptD p) := .tup (SqT.of h) (.cons (.str _) (.cons (.str _) .nil))
theorem ptD_alike (zs : List (V × PyData)) (h : ∀ z ∈ zs, ∃ p, z.2 = ptD p) : PySem.W.AllAlike (zs.map (·.2)) ∧ PySem.W.Sortable (zs.map (·.2)) ∧ ∀ z ∈ zs, z.2.depth ≤ 60 := by
  have h2 : ∀ d ∈ zs.map (·.2), ∃ p, d = ptD p := fun d hd => by
    obtain ⟨z, hz, rfl⟩ := List.mem_map.mp hd
    exact h z hz
  refine ⟨fun d hd d' hd' => ?_, .inl fun d hd => ?_, fun z hz => ?_⟩
  · obtain ⟨p, rfl⟩ := h2 d hd
    obtain ⟨p', rfl⟩ := h2 d' hd'
    rfl
  · obtain ⟨p, rfl⟩ := h2 d hd
    exact ⟨_, _, rfl⟩
  · obtain ⟨p, e⟩ := h z hz
    rw [e]
    show max 0 (max 0 0) + 1 ≤ 60
    decide
def fv (f : Str → Str → Option Str) (p : Pt) : V := ((f p.1 p.2).map V.str).getD .non
theorem val_none {kvs : Kvs} {k : List Key} (h : k ∉ kvs.map (·.1)) : valV kvs k = none := by
  cases e : valV kvs k with
  | none => rfl
  | some v => exact absurd (valV_in e) h
theorem val_mem {kvs : Kvs} (hn : (kvs.map (·.1)).Nodup) {k : List Key} {v : V} (h : (k, v) ∈ kvs) : valV kvs k = some v := by
  obtain ⟨i, hi⟩ := List.mem_iff_getElem?.mp h
  exact val_at hn hi
theorem mk_keys {α : Type} (g : Pt → α) (ks : List Pt) : (ks.map fun p => (kp p, g p)).map (·.1) = ks.map kp := by
  rw [List.map_map] <;> rfl
theorem mk_mv {f : Str → Str → Option Str} {ks : List Pt} (hn : ks.Nodup) (hm : ∀ s t, (f s t).isSome = true ↔ (s, t) ∈ ks) : MvK (ks.map fun p => (kp p, fv f p)) ks f := by
  refine ⟨mk_keys _ ks, hn, fun s t => ?_⟩
  by_cases h : (s, t) ∈ ks
  · obtain ⟨x, hx⟩ := Option.isSome_iff_exists.mp ((hm s t).mpr h)
    rw [val_mem (by rw [mk_keys]; exact kp_nodup hn) (List.mem_map.mpr ⟨(s, t), h, rfl⟩), hx]
    show some (((f s t).map V.str).getD .non) = _
    rw [hx] <;> rfl
  · have e : f s t = none := by
      cases q : f s t with
      | none => rfl
      | some x => exact absurd ((hm s t).mp (by rw [q] <;> rfl)) h
    rw [e, val_none]
    · rfl
    · rw [mk_keys, kp_mem]
      exact h
theorem put_snoc {g : Pt → V} {ks : List Pt} (hn : ks.Nodup) {i : Nat} {p : Pt} (h : ks[i]? = some p) : putK ((ks.take i).map fun p => (kp p, g p)) (kp p) (g p) = (ks.take (i + 1)).map fun p => (kp p, g p) := by
  have e : ks.take (i + 1) = ks.take i ++ [p] := by rw [List.take_add_one, h]; rfl
  rw [e, List.map_append, putK_new]
  · rfl
  · refine val_none ?_
    rw [mk_keys, kp_mem]
    intro hm
    obtain ⟨j, hj⟩ := List.mem_iff_getElem?.mp hm
    rw [List.getElem?_take] at hj
    split at hj
    · have := nd_ix hn hj h
      omega
    · cases hj
inductive Reach (f : Str → Str → Option Str) : Str → Str → Prop
  | refl (s : Str) : Reach f s s
  | step {s t x y : Str} : f s t = some x → Reach f x y → Reach f s y
theorem reach_in {f : Str → Str → Option Str} {ys : List Str} (hc : ∀ s t x, f s t = some x → x ∈ ys → s ∈ ys) {a b : Str} (h : Reach f a b) (hb : b ∈ ys) : a ∈ ys := by
  induction h with
  | refl => exact hb
  | step e _ ih => exact hc _ _ _ e (ih hb)
theorem reach_snoc {f : Str → Str → Option Str} {a b c t : Str} (h : Reach f a b) (e : f b t = some c) : Reach f a c := by
  induction h with
  | refl => exact .step e (.refl _)
  | step e1 _ ih => exact .step e1 (ih e)
structure PartOk (toks : List Str) (start : Str) (f : Str → Str → Option Str) (fins : List Str) : Prop where
  tn : toks.Nodup
  t1 : 0 < toks.length
  t4 : toks.length ≤ 4
  tok : ∀ x ∈ toks, NameOk x
  st : NameOk start
  mv : ∀ s t x, f s t = some x → NameOk s ∧ NameOk t ∧ t ∈ toks ∧ NameOk x
  fn : fins.Nodup
  f1 : 0 < fins.length
  f6 : fins.length ≤ 6
  fnm : ∀ x ∈ fins, NameOk x
  rch : ∃ x ∈ fins, Reach f start x
  sz : ∃ S : List Str, S.length ≤ 6 ∧ start ∈ S ∧ (∀ x ∈ fins, x ∈ S) ∧ ∀ s t x, f s t = some x → s ∈ S ∧ x ∈ S
theorem get_map {α β : Type} {g : α → β} {l : List α} {i : Nat} {v : β} (h : (l.map g)[i]? = some v) : ∃ z, l[i]? = some z ∧ v = g z := by
  rw [List.getElem?_map] at h
  cases e : l[i]? with
  | none => rw [e] at h; cases h
  | some z =>
    rw [e] at h
    exact ⟨z, rfl, (Option.some.inj h).symm⟩
theorem take_snoc {α : Type} {l : List α} {i : Nat} {x : α} (h : l[i]? = some x) : l.take (i + 1) = l.take i ++ [x] := by
  rw [List.take_add_one, h]; rfl
theorem putF_new {f : Str} {v : V} : ∀ {fs : List (Str × V)}, fs.lookup f = none → putF f v fs = fs ++ [(f, v)]
  | [], _ => rfl
  | (g, x) :: r, h => by
    have hne : (f == g) = false := by
      cases e : f == g with
      | false => rfl
      | true => rw [List.lookup_cons, e] at h; cases h
    have h2 : r.lookup f = none := by
      rw [List.lookup_cons, hne] at h
      exact h
    show (if g = f then _ else _) = _
    rw [if_neg (fun e => by rw [e] at hne; simp at hne), putF_new h2] <;> rfl
/-! ### configurations as data -/
theorem name_strOk {x : Str} (h : NameOk x) : PyData.strOk x = true := by
  show x.cps.all (· < 0x110000) = true
  rw [Array.all_eq_true_iff_forall_mem]
  intro c hc
  have z := h.all c (by rw [Array.mem_toList_iff]; exact hc)
  have key : ∀ c ∈ LET.cps.toList, c < 0x110000 := by decide +kernel
  exact decide_eq_true (key c z)
structure CfOk (c : FCfg Str) : Prop where
  st : PyData.strOk c.st = true
  wt : ∀ x ∈ c.wt, PyData.strOk x = true
theorem strsD_lay : ∀ xs : List Str, (∀ x ∈ xs, PyData.strOk x = true) → PyData.canLayAll0 (xs.map .str) = true
  | [], _ => by simp [PyData.canLayAll0]
  | x :: xs, h => by simp [PyData.canLayAll0, PyData.canLay0, strsD_lay xs fun y hy => h y (List.mem_cons_of_mem _ hy), h x List.mem_cons_self]
theorem strsD_depth : ∀ xs : List Str, PyData.depthAll (xs.map .str) = 0
  | [] => by simp [PyData.depthAll]
  | x :: xs => by simp [PyData.depthAll, PyData.depth, strsD_depth xs]
theorem cfgD_lay {c : FCfg Str} (h : CfOk c) : (cfgD c).canLay0 = true := by simp [cfgD, PyData.canLay0, PyData.canLayAll0, strsD_lay c.wt h.wt, h.st]
theorem cfgD_depth (c : FCfg Str) : (cfgD c).depth = 2 := by simp [cfgD, PyData.depth, PyData.depthAll, strsD_depth]
theorem cfgDs_lay : ∀ zs : List (FCfg Str), (∀ z ∈ zs, CfOk z) → PyData.canLayAll0 (zs.map cfgD) = true
  | [], _ => by simp [PyData.canLayAll0]
  | z :: zs, h => by simp [PyData.canLayAll0, cfgD_lay (h z List.mem_cons_self), cfgDs_lay zs fun y hy => h y (List.mem_cons_of_mem _ hy)]
theorem cfgDs_depth : ∀ zs : List (FCfg Str), PyData.depthAll (zs.map cfgD) ≤ 2
  | [] => by simp [PyData.depthAll]
  | z :: zs => by
    have h1 := cfgDs_depth zs
    have h2 := cfgD_depth z
    simp only [List.map_cons, PyData.depthAll]
    omega
theorem cfgD_shaped {z : FCfg Str} (hz : CfOk z) : SeqAt.shaped (cfgD z) = true := by
  have h := cfgD_depth z
  show ((cfgD z).canLay0 && decide ((cfgD z).depth ≤ 64)) = true
  rw [Bool.and_eq_true]
  exact ⟨cfgD_lay hz, decide_eq_true (by omega)⟩
theorem cfgDs_shaped {zs : List (FCfg Str)} (hz : ∀ z ∈ zs, CfOk z) : SeqAt.shaped (.list (zs.map cfgD)) = true := by
  have h1 := cfgDs_depth zs
  have h2 : PyData.depth (.list (zs.map cfgD)) ≤ 64 := by
    simp only [PyData.depth]
    omega
  show (PyData.canLay0 (.list (zs.map cfgD)) && decide (PyData.depth (.list (zs.map cfgD)) ≤ 64)) = true
  rw [Bool.and_eq_true]
  exact ⟨by simp only [PyData.canLay0]; exact cfgDs_lay zs hz, decide_eq_true h2⟩
theorem beq_str (x y : Str) : (x == y) = decide (x = y) := by
  by_cases h : x = y
  · subst h
    simp
  · rw [decide_eq_false h]
    cases e : x == y with
    | false => rfl
    | true => exact absurd (eq_of_beq e) h
theorem strsD_eqv : ∀ xs ys : List Str, PyData.eqvAll (xs.map .str) (ys.map .str) = decide (xs = ys)
  | [], [] => by simp [PyData.eqvAll]
  | [], _ :: _ => by simp [PyData.eqvAll]
  | _ :: _, [] => by simp [PyData.eqvAll]
  | x :: xs, y :: ys => by
    have ih := strsD_eqv xs ys
    simp only [List.map_cons, PyData.eqvAll, PyData.eqv, ih, beq_str]
    by_cases h1 : x = y
    · by_cases h2 : xs = ys
      · simp [h1, h2]
      · simp [h1, h2]
    · simp [h1]
theorem cfgD_eqv (a b : FCfg Str) : PyData.eqv (cfgD a) (cfgD b) = decide (a = b) := by
  obtain ⟨s, w, q⟩ := a
  obtain ⟨s', w', q'⟩ := b
  have e : PyData.eqv (cfgD ⟨s, w, q⟩) (cfgD ⟨s', w', q'⟩) = ((s == s') && (PyData.eqvAll (w.map .str) (w'.map .str) && (((q : Int) == (q' : Int)) && true))) := by simp only [cfgD, PyData.eqv, PyData.eqvAll]
  have z : ((q : Int) == (q' : Int)) = decide (q = q') := by
    by_cases h : q = q'
    · subst h
      simp
    · rw [decide_eq_false h]
      exact beq_eq_false_iff_ne.mpr (by omega)
  rw [e, strsD_eqv, beq_str, z]
  by_cases h1 : s = s'
  · by_cases h2 : w = w'
    · by_cases h3 : q = q'
      · simp [h1, h2, h3]
      · simp [h1, h2, h3]
    · simp [h1, h2]
  · simp [h1]
theorem cfgs_dp {K : PySem.W.Frag} {H : Hp} : ∀ {bs : List Addr} {cs : List (FCfg Str)}, bs.length = cs.length → (∀ (j : Nat) (b : Addr) (c : FCfg Str), bs[j]? = some b → cs[j]? = some c → CfgAt H b c) → DpAll K H (bs.map V.ref) (cs.map cfgD)
  | [], [], _, _ => .nil
  | [], _ :: _, h, _ => by cases h
  | _ :: _, [], h, _ => by cases h
  | b :: bs, c :: cs, h, hc => .cons (hc 0 b c rfl rfl).dp (cfgs_dp (by simpa using h) fun j b' c' h1 h2 => hc (j + 1) b' c' (by simpa using h1) (by simpa using h2))
theorem any_cfg (c : FCfg Str) : ∀ cs : List (FCfg Str), ((cs.map cfgD).any fun z => PyData.eqv z (cfgD c)) = decide (c ∈ cs)
  | [] => by simp
  | a :: cs => by
    rw [List.map_cons, List.any_cons, any_cfg c cs, cfgD_eqv]
    by_cases h : a = c
    · subst h
      simp
    · rw [decide_eq_false h]
      have h2 : ¬ c = a := fun e => h e.symm
      simp [h2]
end Far

set_option Elab.async false
set_option linter.all false
set_option maxRecDepth 100000
set_option maxHeartbeats 4000000
/-! FarChecks: slipstold.checks -/
namespace Far
open PySem PySem.Spec PyProof.Rows L2 Fz
def spIsInt : Sp := fun vs H Q _ => ∃ i : Int, vs = [.int i] ∧ Q (.bl true) H
def spIsItems (K : PySem.W.Frag) : Sp := fun vs H Q _ => ∃ (a : Addr) (xs : List V), vs = [.ref a] ∧ (SqL K H a xs ∨ SqT K H a xs) ∧ ∀ H', Same H H' → Q (.bl true) H'
def spIsName : Sp := fun vs H Q _ => ∃ x : Str, vs = [.str x] ∧ NameOk x ∧ Q (.bl true) H
def spAreNames (K : PySem.W.Frag) : Sp := fun vs H Q _ => ∃ (a : Addr) (xs : List Str) (m : Nat), vs = [.ref a, .int m] ∧ (SqL K H a (xs.map V.str) ∨ SqT K H a (xs.map V.str)) ∧ 0 < xs.length ∧ xs.length ≤ m ∧ xs.length ≤ 1000 ∧ xs.Nodup ∧ (∀ x ∈ xs, NameOk x) ∧ ∀ H', Same H H' → Q (.bl true) H'
def spIsWithin : Sp := fun vs H Q _ => ∃ i lo hi : Int, vs = [.int i, .int lo, .int hi] ∧ lo ≤ i ∧ i ≤ hi ∧ Q (.bl true) H
section
variable {P : Program} {w : World} {K : PySem.W.Frag} {mg : Str → Option Value} {base : Heap}
theorem is_integer_ok (T : Txt K mg) : Cal P w K mg base 1 "is_integer" spIsInt [] := by
  have sc : FnScope ["value"] ["value"] (defScope s_is_integer) := ⟨rfl, rfl, rfl, by decide +kernel, rfl, by decide +kernel, by decide +kernel⟩
  have nd := sc.nd
  refine cal_mk T.g_is_integer T.f_is_integer sc (fun vs H Q E h => by obtain ⟨x, rfl, _⟩ := h; rfl) (fun _ _ _ _ _ _ us hl => match us, hl with | [_], _ => rfl) (fun cdv A outer s H vs Q E hr h => ?_)
  obtain ⟨i, rfl, q⟩ := h
  refine ⟨_, (pss_one (ps_ret (pe_and (pe_callB call_isi (by rfl) T.b_isinstance (by decide +kernel) (pa_cons (pv 0) (pa_cons (pe_bltn (v := .ty "int") (by rfl) T.b_int (by decide +kernel) rfl) pa_nil))) (pe_one (pe_not (pe_callB call_isi (by rfl) T.b_isinstance (by decide +kernel) (pa_cons (pv 0) (pa_cons (pe_bltn (v := .ty "bool") (by rfl) T.b_bool (by decide +kernel) rfl) pa_nil)))))))), ?_⟩
  refine ⟨_, rfl, _, _, _, _, true, rfl, .ty _, .base (.int i), kit_ty (by decide +kernel), true, rfl, iteT ?_⟩
  refine ⟨_, rfl, _, _, _, _, false, rfl, .ty _, .base (.int i), kit_ty (by decide +kernel), false, rfl, q⟩
theorem is_items_ok (T : Txt K mg) : Cal P w K mg base 1 "is_items" (spIsItems K) [] := by
  have sc : FnScope ["value"] ["value"] (defScope s_is_items) := ⟨rfl, rfl, rfl, by decide +kernel, rfl, by decide +kernel, by decide +kernel⟩
  have nd := sc.nd
  refine cal_mk T.g_is_items T.f_is_items sc (fun vs H Q E h => by obtain ⟨_, _, rfl, _⟩ := h; rfl) (fun _ _ _ _ _ _ us hl => match us, hl with | [_], _ => rfl) (fun cdv A outer s H vs Q E hr h => ?_)
  obtain ⟨a, xs, rfl, hx, q⟩ := h
  refine ⟨_, (pss_one (ps_ret (pe_callB call_isiT (by rfl) T.b_isinstance (by decide +kernel) (pa_cons (pv 0) (pa_cons (pe_tup (pa_cons (pe_bltn (v := .ty "list") (by rfl) T.b_list (by decide +kernel) rfl) (pa_cons (pe_bltn (v := .ty "tuple") (by rfl) T.b_tuple (by decide +kernel) rfl) pa_nil))) pa_nil))))), ?_⟩
  refine ⟨_, rfl, by show 2 ≤ sizeLine; decide, fun p hp => ?_⟩
  rcases hx with hx | hx
  · exact ⟨_, _, _, _, _, true, rfl, upd_same, .cons (.ty _) (.cons (.ty _) .nil), tyx_l (sm_l (sm_new hp) hx), kitAny_cons (b := true) (kit_ty (by decide +kernel)) (fun z => nomatch z) (fun _ => rfl), q _ (sm_new hp)⟩
  · exact ⟨_, _, _, _, _, true, rfl, upd_same, .cons (.ty _) (.cons (.ty _) .nil), tyx_t (sm_t (sm_new hp) hx), kitAny_cons (b := false) (kit_ty (by decide +kernel)) (fun _ => kitAny_cons (b := true) (kit_ty (by decide +kernel)) (fun z => nomatch z) (fun _ => rfl)) (fun z => nomatch z), q _ (sm_new hp)⟩
theorem is_name_ok (T : Txt K mg) : Cal P w K mg base 1 "is_name" spIsName [] := by
  have sc : FnScope ["value", "letter"] ["value"] (defScope s_is_name) := ⟨rfl, rfl, rfl, by decide +kernel, rfl, by decide +kernel, by decide +kernel⟩
  have nd := sc.nd
  refine cal_mk T.g_is_name T.f_is_name sc (fun vs H Q E h => by obtain ⟨x, rfl, _⟩ := h; rfl) (fun _ _ _ _ _ _ us hl => match us, hl with | [_], _ => rfl) (fun cdv A outer s H vs Q E hr h => ?_)
  obtain ⟨x, rfl, nx, q⟩ := h
  obtain ⟨tl, hl⟩ := T.s_LETTERS
  refine ⟨_, (pss_cons (ps_if (PW.pt (pw_or (pt_not (pt_val (pe_callB call_isi (by rfl) T.b_isinstance (by decide +kernel) (pa_cons (pv 0) (pa_cons (pe_bltn (v := .ty "str") (by rfl) T.b_str (by decide +kernel) rfl) pa_nil))))) (pw_or1 (pt_not (pt_chain op_le op_le pe_int (pe_callB call_len_str (by rfl) T.b_len (by decide +kernel) (pa_cons (pv 0) pa_nil)) pe_int))))) (pss_one (ps_ret pe_bl)) pss_nil)
      (pss_cons (ps_for PassesOwn.never rfl (pi_str (pv 0)) (pgn 1 nd) (pss_one (ps_if (pt_cmpR op_notIn_sign (pv 1) (pe_glob (v := .str LET) (by rfl) hl ⟨_, rfl⟩) (by rfl)) (pss_one (ps_ret pe_bl)) pss_nil)))
      (pss_one (ps_ret pe_bl)))), ?_⟩
  have h1 := nx.lo
  have h2 := nx.hi
  refine ⟨_, rfl, _, _, _, _, true, rfl, .ty _, .base (.str _), kit_ty (by decide +kernel), true, rfl, iteF ?_⟩
  refine ⟨_, rfl, x, rfl, by rw [sizeLine_eq]; omega, 1, _, rfl, rfl, _, rfl, ite2 (fun _ => ?_) (fun z => absurd (decide_eq_true (by omega)) z)⟩
  refine ⟨_, 8, rfl, rfl, _, rfl, ?_⟩
  have e : decide ((x.length : Int) ≤ 8) = true := decide_eq_true (by omega)
  show (if (!decide ((x.length : Int) ≤ 8)) = true then _ else _)
  rw [e]
  refine iteF ?_
  refine ⟨_, rfl, x, rfl, for_it walk_str (fun i σ H' => H' = H ∧ ∃ v, σ = [some (.str x), v]) ⟨rfl, none, rfl⟩ (fun _ _ _ _ _ => trivial) ?_ ?_⟩
  · rintro i y σ H0 H1 hi ⟨rfl, v, rfl⟩ ⟨rfl, c, hc, rfl⟩
    refine ⟨_, rfl, c, LET, rfl, rfl, _, rfl, ?_⟩
    have hm : c ∈ LET.cps.toList := nx.all c (by rw [Array.mem_toList_iff]; exact Array.mem_of_getElem? hc)
    show (if (!decide (c ∈ LET.cps.toList)) = true then _ else _)
    rw [decide_eq_true hm]
    exact iteF ⟨rfl, _, rfl⟩
  · rintro σ H0 ⟨rfl, v, rfl⟩
    exact q
theorem is_within_ok (T : Txt K mg) : Cal P w K mg base 2 "is_within" spIsWithin [] := by
  have c_is_integer := is_integer_ok (P := P) (w := w) (base := base) T
  have sc : FnScope ["value", "low", "high"] ["value", "low", "high"] (defScope s_is_within) := ⟨rfl, rfl, rfl, by decide +kernel, rfl, by decide +kernel, by decide +kernel⟩
  have nd := sc.nd
  refine cal_mk T.g_is_within T.f_is_within sc (fun vs H Q E h => by obtain ⟨_, _, _, rfl, _⟩ := h; rfl) (fun _ _ _ _ _ _ us hl => match us, hl with | [_, _, _], _ => rfl) (fun cdv A outer s H vs Q E hr h => ?_)
  obtain ⟨i, lo, hi, rfl, h1, h2, q⟩ := h
  refine ⟨_, (pss_one (ps_ret (pe_and (C8.pe_c c_is_integer hr (by decide) (by rfl) (pa_cons (pv 0) pa_nil)) (pe_one (pe_chain op_le op_le (pv 1) (pv 0) (pv 2)))))), ?_⟩
  refine ⟨_, rfl, i, rfl, true, rfl, iteT ?_⟩
  refine ⟨_, rfl, _, rfl, _, _, rfl, rfl, _, rfl, ite2 (fun _ => ?_) (fun z => absurd (decide_eq_true h1) z)⟩
  refine ⟨_, rfl, _, _, rfl, rfl, ?_⟩
  show Q (.bl (decide (i ≤ hi))) H
  rw [decide_eq_true h2]
  exact q
theorem are_names_ok (T : Txt K mg) : Cal P w K mg base 2 "are_names" (spAreNames K) [] := by
  have c_is_items := is_items_ok (P := P) (w := w) (base := base) T
  have c_is_name := is_name_ok (P := P) (w := w) (base := base) T
  have sc : FnScope ["value", "most", "k", "item"] ["value", "most"] (defScope s_are_names) := ⟨rfl, rfl, rfl, by decide +kernel, rfl, by decide +kernel, by decide +kernel⟩
  have nd := sc.nd
  refine cal_mk T.g_are_names T.f_are_names sc (fun vs H Q E h => by obtain ⟨_, _, _, rfl, _⟩ := h; rfl) (fun _ _ _ _ _ _ us hl => match us, hl with | [_, _], _ => rfl) (fun cdv A outer s H vs Q E hr h => ?_)
  obtain ⟨a, xs, m, rfl, hx, h0, hm, hk, hn, hall, q⟩ := h
  rcases hx with hx | hx
  · refine ⟨_, (pss_cons (ps_if (PW.pt (pw_or (pt_not (pt_val (C8.pe_c c_is_items hr (by decide) (by rfl) (pa_cons (pv 0) pa_nil)))) (pw_or1 (pt_not (pt_chain op_le op_le pe_int (pe_callB call_len_seq (by rfl) T.b_len (by decide +kernel) (pa_cons (pv 0) pa_nil)) (pv 1)))))) (pss_one (ps_ret pe_bl)) pss_nil)
      (pss_cons (ps_for PassesOwn.never rfl (pi_enum (by rfl) T.b_enumerate (pa_cons (pv 0) pa_nil)) (pg_tup rfl (pgs_cons (pgn 2 nd) (pgs_cons (pgn 3 nd) pgs_nil))) (pss_one (ps_if (PW.pt (pw_or (pt_not (pt_val (C8.pe_c c_is_name hr (by decide) (by rfl) (pa_cons (pv 3) pa_nil)))) (pw_or1 (pt_cmpR op_in_seq (pv 3) (pe_slice sl_list (pv 0) po_none (po_some (pv 2))) (by rfl))))) (pss_one (ps_ret pe_bl)) pss_nil)))
      (pss_one (ps_ret pe_bl)))), ?_⟩
    refine ⟨_, rfl, a, _, rfl, .inl hx, fun H1 e1 => ⟨true, rfl, iteF ?_⟩⟩
    refine ⟨_, rfl, a, _, rfl, .inl (sm_l e1 hx), 1, _, rfl, rfl, _, rfl, ite2 (fun _ => ?_) (fun z => absurd (decide_eq_true (by rw [List.length_map]; omega)) z)⟩
    refine ⟨_, rfl, _, _, rfl, rfl, _, rfl, ?_⟩
    rw [decide_eq_true (by rw [List.length_map]; omega)]
    refine iteF ?_
    refine ⟨_, rfl, a, _, rfl, sm_l e1 hx, for_it walk_enum (fun i σ H' => Same H H' ∧ ∃ v v', σ = [some (.ref a), some (.int m), v, v']) ⟨e1, none, none, rfl⟩ (fun i σ H2 _ p => sm_l p.1 hx) ?_ ?_⟩
    · rintro i y σ H2 H3 hi ⟨e2, v, v', rfl⟩ ⟨B, x1, x2, rfl, hB, rfl, hx1, hx2⟩
      cases hx1
      have hi' : i < xs.length := by rw [List.length_map] at hi; exact hi
      obtain ⟨x, hxi, rfl⟩ := maps_get hx2
      refine ⟨B, _, rfl, SqT.of upd_same, rfl, _, _, rfl, _, _, rfl, rfl, ?_⟩
      have e3 := e2.trans (sm_new hB (o := .tup [.int (i : Nat), .str x]))
      refine ⟨_, rfl, x, rfl, hall _ (List.mem_of_getElem? hxi), true, rfl, iteF ?_⟩
      obtain ⟨n1, n2⟩ := in_take hn hxi (Nat.le_of_lt hi')
      refine ⟨_, rfl, _, rfl, _, rfl, i, rfl, a, _, rfl, sm_l e3 hx, fun p hp => ?_⟩
      refine ⟨p, _, rfl, .inl (SqL.of upd_same), rfl, n2, _, rfl, ?_⟩
      show (if inV (.str x) (cutV (xs.map V.str) none (some (i : Int))) = true then _ else _)
      rw [n1]
      exact iteF ⟨e3.trans (sm_new hp), _, _, rfl⟩
    · rintro σ H2 ⟨e2, v, v', rfl⟩
      exact q _ e2
  · refine ⟨_, (pss_cons (ps_if (PW.pt (pw_or (pt_not (pt_val (C8.pe_c c_is_items hr (by decide) (by rfl) (pa_cons (pv 0) pa_nil)))) (pw_or1 (pt_not (pt_chain op_le op_le pe_int (pe_callB call_len_seq (by rfl) T.b_len (by decide +kernel) (pa_cons (pv 0) pa_nil)) (pv 1)))))) (pss_one (ps_ret pe_bl)) pss_nil)
      (pss_cons (ps_for PassesOwn.never rfl (pi_enumT (by rfl) T.b_enumerate (pa_cons (pv 0) pa_nil)) (pg_tup rfl (pgs_cons (pgn 2 nd) (pgs_cons (pgn 3 nd) pgs_nil))) (pss_one (ps_if (PW.pt (pw_or (pt_not (pt_val (C8.pe_c c_is_name hr (by decide) (by rfl) (pa_cons (pv 3) pa_nil)))) (pw_or1 (pt_cmpR op_in_seq (pv 3) (pe_slice sl_tupA (pv 0) po_none (po_some (pv 2))) (by rfl))))) (pss_one (ps_ret pe_bl)) pss_nil)))
      (pss_one (ps_ret pe_bl)))), ?_⟩
    refine ⟨_, rfl, a, _, rfl, .inr hx, fun H1 e1 => ⟨true, rfl, iteF ?_⟩⟩
    refine ⟨_, rfl, a, _, rfl, .inr (sm_t e1 hx), 1, _, rfl, rfl, _, rfl, ite2 (fun _ => ?_) (fun z => absurd (decide_eq_true (by rw [List.length_map]; omega)) z)⟩
    refine ⟨_, rfl, _, _, rfl, rfl, _, rfl, ?_⟩
    rw [decide_eq_true (by rw [List.length_map]; omega)]
    refine iteF ?_
    refine ⟨_, rfl, a, _, rfl, sm_t e1 hx, for_it walk_enumT (fun i σ H' => Same H H' ∧ ∃ v v', σ = [some (.ref a), some (.int m), v, v']) ⟨e1, none, none, rfl⟩ (fun i σ H2 _ p => sm_t p.1 hx) ?_ ?_⟩
    · rintro i y σ H2 H3 hi ⟨e2, v, v', rfl⟩ ⟨B, x1, x2, rfl, hB, rfl, hx1, hx2⟩
      cases hx1
      have hi' : i < xs.length := by rw [List.length_map] at hi; exact hi
      obtain ⟨x, hxi, rfl⟩ := maps_get hx2
      refine ⟨B, _, rfl, SqT.of upd_same, rfl, _, _, rfl, _, _, rfl, rfl, ?_⟩
      have e3 := e2.trans (sm_new hB (o := .tup [.int (i : Nat), .str x]))
      refine ⟨_, rfl, x, rfl, hall _ (List.mem_of_getElem? hxi), true, rfl, iteF ?_⟩
      obtain ⟨n1, n2⟩ := in_take hn hxi (Nat.le_of_lt hi')
      refine ⟨_, rfl, _, rfl, _, rfl, i, rfl, a, _, rfl, sm_t e3 hx, fun z => ?_, fun _ p hp => ?_⟩
      · have z2 := z.2
        rw [HT.sIx_nat, List.length_map] at z2
        omega
      refine ⟨p, _, rfl, .inr (SqT.of upd_same), rfl, n2, _, rfl, ?_⟩
      show (if inV (.str x) (cutV (xs.map V.str) none (some (i : Int))) = true then _ else _)
      rw [n1]
      exact iteF ⟨e3.trans (sm_new hp), _, _, rfl⟩
    · rintro σ H2 ⟨e2, v, v', rfl⟩
      exact q _ e2
end
end Far

set_option Elab.async false
set_option linter.all false
set_option maxRecDepth 100000
set_option maxHeartbeats 4000000
/-! FarMach1: are_moves, leading, bad_place, start, __getitem__ -/
namespace Far
open PySem PySem.Spec PyProof.Rows L2 Fz
def spAreMoves (K : PySem.W.Frag) : Sp := fun vs H Q _ => ∃ (d tk : Addr) (kvs : Kvs) (ks : List Pt) (f : Str → Str → Option Str) (toks : List Str), vs = [.ref d, .ref tk] ∧ H d = some (.dT kvs) ∧ MvK kvs ks f ∧ SqL K H tk (toks.map V.str) ∧
  (∀ s t x, f s t = some x → NameOk s ∧ NameOk t ∧ t ∈ toks ∧ NameOk x) ∧ ∀ H', Same H H' → Q (.bl true) H'
def spLeading (K : PySem.W.Frag) : Sp := fun vs H Q _ => ∃ (g d : Addr) (fins : List Str) (kvs : Kvs) (ks : List Pt) (f : Str → Str → Option Str), vs = [.ref g, .ref d] ∧ SqL K H g (fins.map V.str) ∧ H d = some (.dT kvs) ∧ MvK kvs ks f ∧ fins.length ≤ 100 ∧ ks.length ≤ 100 ∧
  ∀ (q : Addr) (ys : List Str) (H' : Hp), Same H H' → H' q = some (.lst (ys.map V.str)) → (∀ x ∈ fins, x ∈ ys) → (∀ s t x, f s t = some x → x ∈ ys → s ∈ ys) → Q (.ref q) H'
def spBad (K : PySem.W.Frag) : Sp := fun vs H Q _ => ∃ (m r : Addr) (M : MD) (row : List Str), vs = [.ref m, .ref r] ∧ MchAt K H m M ∧ SqT K H r (row.map V.str) ∧ row.length ≤ 200 ∧ (∀ x ∈ row, NameOk x ∧ x ∈ M.toks) ∧ ∀ H', Same H H' → Q .non H'
def spStart (K : PySem.W.Frag) : Sp := fun vs H Q _ => ∃ (m : Addr) (M : MD), vs = [.ref m] ∧ MchAt K H m M ∧ Q (.str M.start) H
def spGetitem (K : PySem.W.Frag) : Sp := fun vs H Q _ => ∃ (m b : Addr) (M : MD) (s t : Str), vs = [.ref m, .ref b] ∧ MchAt K H m M ∧ H b = some (.tup [.str s, .str t]) ∧ NameOk s ∧ NameOk t ∧ Q (((M.mv s t).map V.str).getD .non) H
section
variable {P : Program} {w : World} {K : PySem.W.Frag} {mg : Str → Option Value} {base : Heap}
theorem are_moves_ok (T : Txt K mg) : Cal P w K mg base 2 "are_moves" (spAreMoves K) [] := by
  have c_is_name := is_name_ok (P := P) (w := w) (base := base) T
  have sc : FnScope ["moves", "tokens", "pair"] ["moves", "tokens"] (defScope s_are_moves) := ⟨rfl, rfl, rfl, by decide +kernel, rfl, by decide +kernel, by decide +kernel⟩
  have nd := sc.nd
  refine cal_mk T.g_are_moves T.f_are_moves sc (fun vs H Q E h => by obtain ⟨_, _, _, _, _, _, rfl, _⟩ := h; rfl) (fun _ _ _ _ _ _ us hl => match us, hl with | [_, _], _ => rfl) (fun cdv A outer s H vs Q E hr h => ?_)
  obtain ⟨d, tk, kvs, ks, f, toks, rfl, hd, mv, htk, hok, q⟩ := h
  have hu := hu_of hr
  refine ⟨_, (pss_cons (ps_if (pt_not (pt_val (pe_callB call_isi (by rfl) T.b_isinstance (by decide +kernel) (pa_cons (pv 0) (pa_cons (pe_bltn (v := .ty "dict") (by rfl) T.b_dict (by decide +kernel) rfl) pa_nil))))) (pss_one (ps_ret pe_bl)) pss_nil)
      (pss_cons (ps_lock (ps_for PassesOwn.never rfl (pi_keys (pv 0)) (pgn 2 nd) (pss_cons (ps_if (PW.pt (pw_or (pt_not (pt_val (pe_callB call_isi (by rfl) T.b_isinstance (by decide +kernel) (pa_cons (pv 2) (pa_cons (pe_bltn (v := .ty "tuple") (by rfl) T.b_tuple (by decide +kernel) rfl) pa_nil))))) (pw_or1 (pt_cmpR op_ne (pe_callB call_len_seq (by rfl) T.b_len (by decide +kernel) (pa_cons (pv 2) pa_nil)) pe_int (nomark _))))) (pss_one (ps_ret pe_bl)) pss_nil)
      (pss_cons (ps_if (PW.pt (pw_or (pt_not (pt_val (C8.pe_c c_is_name hr (by decide) (by rfl) (pa_cons (pe_ix ix_tup (pv 2) pe_int (fun _ _ => rfl)) pa_nil)))) (pw_or (pt_not (pt_val (C8.pe_c c_is_name hr (by decide) (by rfl) (pa_cons (pe_ix ix_tup (pv 2) pe_int (fun _ _ => rfl)) pa_nil)))) (pw_or1 (pt_cmpR op_notIn_seq (pe_ix ix_tup (pv 2) pe_int (fun _ _ => rfl)) (pv 1) (by rfl)))))) (pss_one (ps_ret pe_bl)) pss_nil)
      (pss_one (ps_if (pt_not (pt_val (C8.pe_c c_is_name hr (by decide) (by rfl) (pa_cons (pe_dget hu (pv 0) (pv 2) (fun _ _ => rfl)) pa_nil)))) (pss_one (ps_ret pe_bl)) pss_nil))))))
      (pss_one (ps_ret pe_bl)))), ?_⟩
  refine ⟨_, rfl, _, _, _, _, true, rfl, .ty _, .base (.dT hd), kit_ty (by decide +kernel), true, rfl, iteF ?_⟩
  refine ⟨d, _, hd, trivial, fun od => ?_⟩
  refine ⟨_, rfl, d, od, rfl, .inr ⟨kvs, upd_same, for_it walk_keysT (fun i σ H' => Same (upd H d (.frz od (.dT kvs))) H' ∧ ∃ v, σ = [some (.ref d), some (.ref tk), v]) ⟨Same.refl _, none, rfl⟩ (fun i σ H2 _ p => p.1 _ _ upd_same) ?_ ?_⟩⟩
  · rintro i y σ H2 H3 hi ⟨e, v, rfl⟩ ⟨rfl, k, x, b, hk, rfl, hb⟩
    obtain ⟨sx, tx, ax, hks, rfl, rfl, hf⟩ := mv.at_ hk
    obtain ⟨n1, n2, n3, n4⟩ := hok _ _ _ hf
    refine ⟨_, rfl, _, _, _, _, true, rfl, .ty _, .base (.tup hb), kit_ty (by decide +kernel), true, rfl, iteF ?_⟩
    refine ⟨_, rfl, b, _, rfl, .inr (SqT.of hb), rfl, _, rfl, iteF ?_⟩
    refine ⟨_, rfl, b, _, _, _, rfl, rfl, SqT.of hb, rfl, sx, rfl, n1, true, rfl, iteF ?_⟩
    refine ⟨_, rfl, b, _, _, _, rfl, rfl, SqT.of hb, rfl, tx, rfl, n2, true, rfl, iteF ?_⟩
    refine ⟨_, rfl, b, _, _, _, rfl, rfl, SqT.of hb, rfl, _, rfl, tk, _, rfl, .inl (sm_l e (lk_l hd htk)), rfl, flat_strs toks, _, rfl, ?_⟩
    show (if (!inV (.str tx) (toks.map V.str)) = true then _ else _)
    rw [inV_strs, decide_eq_true n3]
    refine iteF ?_
    refine ⟨_, rfl, _, rfl, d, .str ax, rfl, ?_, ax, rfl, n4, true, rfl, iteF ⟨e, _, rfl⟩⟩
    have z := dg (H := H3) (.inr ⟨od, e _ _ upd_same⟩) hb
    rw [mv.val, hf] at z
    exact z
  · rintro σ H2 ⟨e, v, rfl⟩
    exact ⟨e _ _ upd_same, q _ (lk_back hd e)⟩
theorem leading_ok (T : Txt K mg) : Cal P w K mg base 1 "leading" (spLeading K) [] := by
  have sc : FnScope ["goals", "edges", "found", "k", "pair"] ["goals", "edges"] (defScope s_leading) := ⟨rfl, rfl, rfl, by decide +kernel, rfl, by decide +kernel, by decide +kernel⟩
  have nd := sc.nd
  refine cal_mk T.g_leading T.f_leading sc (fun vs H Q E h => by obtain ⟨_, _, _, _, _, _, rfl, _⟩ := h; rfl) (fun _ _ _ _ _ _ us hl => match us, hl with | [_, _], _ => rfl) (fun cdv A outer s H vs Q E hr h => ?_)
  obtain ⟨g, d, fins, kvs, ks, f, rfl, hg, hd, mv, hf1, hk1, q⟩ := h
  have hu := hu_of hr
  refine ⟨_, (pss_cons (pset 2 nd (pe_callTy call_list_of (by rfl) T.b_list (by decide +kernel) (pa_cons (pv 0) pa_nil)))
      (pss_cons (pset 3 nd pe_int)
      (pss_cons (ps_while PassesOwn.never (pt_cmpR op_lt (pv 3) (pe_callB call_len_seq (by rfl) T.b_len (by decide +kernel) (pa_cons (pv 2) pa_nil)) (nomark _)) (pss_cons (ps_lock (ps_for PassesOwn.never rfl (pi_keys (pv 1)) (pgn 4 nd) (pss_one (ps_if (PW.pt (pw_and (pt_cmpR op_eq (pe_dget hu (pv 1) (pv 4) (fun _ _ => rfl)) (pe_ix ix_list (pv 2) (pv 3) (fun _ _ => rfl)) (nomark _)) (pw_and1 (pt_cmpR op_notIn_seq (pe_ix ix_tup (pv 4) pe_int (fun _ _ => rfl)) (pv 2) (by rfl))))) (pss_one (ps_expr (pe_bm PySem.F.plainAttrs_list PySem.F.slot_list_append PySem.F.type_list_append mt_append (pv 2) (pa_cons (pe_ix ix_tup (pv 4) pe_int (fun _ _ => rfl)) pa_nil)))) pss_nil))))
      (pss_one (ps_aug (i := 3) nd rfl (by first | exact Or.inl rfl | exact Or.inr rfl) pe_int ip_add))))
      (pss_one (ps_ret (pv 2)))))), ?_⟩
  refine ⟨_, rfl, g, _, rfl, .inl hg, fun p hp => ?_⟩
  refine ⟨fun m σ H' => ∃ (kk : Nat) (add : List Str) (v : Option V), m + kk = 201 ∧ kk ≤ (fins ++ add).length ∧ σ = [some (.ref g), some (.ref d), some (.ref p), some (.int kk), v] ∧ Same H H' ∧ H' p = some (.lst ((fins ++ add).map V.str)) ∧ add.Nodup ∧ (∀ x ∈ add, x ∈ ks.map (·.1)) ∧
    (∀ j, j < kk → ∀ s t x, f s t = some x → (fins ++ add)[j]? = some x → s ∈ fins ++ add), ⟨201, 0, [], none, rfl, Nat.zero_le _, rfl, sm_new hp, ?_, List.nodup_nil, fun x hx => (by cases hx), fun j hj => absurd hj (Nat.not_lt_zero _)⟩, ?_⟩
  · rw [List.append_nil]
    exact upd_same
  rintro m σ H1 ⟨kk, add, v, hm, hkk, rfl, e1, h1, hn, hs, hc⟩
  have hlen : add.length ≤ ks.length := by
    have z := nodup_le add (ks.map (·.1)) hn hs
    rwa [List.length_map] at z
  have hl2 : (fins ++ add).length ≤ 200 := by rw [List.length_append]; omega
  refine ⟨_, rfl, _, rfl, p, _, rfl, .inl (SqL.of h1), _, _, rfl, rfl, _, rfl, ite2 (fun z => ?_) (fun z => ?_)⟩
  · have hlt : kk < (fins ++ add).length := by
      have z2 := of_decide_eq_true z
      rw [List.length_map] at z2
      omega
    obtain ⟨y, hy⟩ : ∃ y, (fins ++ add)[kk]? = some y := ⟨_, List.getElem?_eq_getElem hlt⟩
    have hd1 := e1 _ _ hd
    have hdp : d ≠ p := ne_of hd1 h1 (fun z => by cases z)
    refine ⟨fun σ' H' => ∃ m', m' < m ∧ _, fun _ _ z => z, ?_⟩
    refine ⟨d, _, hd1, trivial, fun od => ?_⟩
    refine ⟨_, rfl, d, od, rfl, .inr ⟨kvs, upd_same, for_it walk_keysT (fun i σ H' => Ex [p] (upd H1 d (.frz od (.dT kvs))) H' ∧ ∃ (v : Option V) (new : List Str), σ = [some (.ref g), some (.ref d), some (.ref p), some (.int kk), v] ∧ H' p = some (.lst ((fins ++ (add ++ new)).map V.str)) ∧ (add ++ new).Nodup ∧ (∀ x ∈ new, x ∈ ks.map (·.1)) ∧
      (∀ j, j < i → ∀ s t, ks[j]? = some (s, t) → f s t = some y → s ∈ fins ++ (add ++ new))) ⟨Ex.refl _ _, v, [], rfl, ?_, ?_, fun x hx => (by cases hx), fun j hj => absurd hj (Nat.not_lt_zero _)⟩ (fun i σ H2 _ p2 => ?_) ?_ ?_⟩⟩
    · rw [List.append_nil, upd_ne (Ne.symm hdp)]
      exact h1
    · rw [List.append_nil]
      exact hn
    · exact p2.1.get (by simpa using hdp) upd_same
    · rintro i yv σ H2 H3 hi ⟨e, v2, new, rfl, hp2, hn2, hs2, hc2⟩ ⟨rfl, k, x, b, hk, rfl, hb⟩
      obtain ⟨sx, tx, ax, hks, rfl, rfl, hf⟩ := mv.at_ hk
      have hyi : (fins ++ (add ++ new))[kk]? = some y := by
        rw [← List.append_assoc, List.getElem?_append_left hlt]
        exact hy
      have hdg := dg (H := H3) (.inr ⟨od, e.get (by simpa using hdp) upd_same⟩) hb
      rw [mv.val, hf] at hdg
      have keep : ∀ j, j < i + 1 → ∀ s t, ks[j]? = some (s, t) → f s t = some y → (j = i → s ∈ fins ++ (add ++ new)) → s ∈ fins ++ (add ++ new) := fun j hj s t h1 h2 h3 => by
        by_cases z : j = i
        · exact h3 z
        · exact hc2 j (by omega) s t h1 h2
      refine ⟨_, rfl, _, rfl, d, .str ax, rfl, hdg, _, rfl, _, rfl, p, _, _, _, rfl, rfl, SqL.of hp2, strs_at hyi, rfl, _, rfl, ite2 (fun z => ?_) (fun z => iteF ?_)⟩
      · have hax : ax = y := by
          have z2 := of_decide_eq_true z
          injection z2
        refine ⟨_, rfl, b, _, _, _, rfl, rfl, SqT.of hb, rfl, _, rfl, p, _, rfl, .inl (SqL.of hp2), rfl, flat_strs _, _, rfl, ?_⟩
        show (if (!inV (.str sx) ((fins ++ (add ++ new)).map V.str)) = true then _ else _)
        rw [inV_strs]
        by_cases hin : sx ∈ fins ++ (add ++ new)
        · rw [decide_eq_true hin]
          refine iteF ⟨e, _, new, rfl, hp2, hn2, hs2, fun j hj s t h1 h2 => keep j hj s t h1 h2 fun z => ?_⟩
          rw [z, hks] at h1
          cases h1
          exact hin
        · rw [decide_eq_false hin]
          have hks1 : sx ∈ ks.map (·.1) := List.mem_map.mpr ⟨(sx, tx), List.mem_of_getElem? hks, rfl⟩
          have hn3 : (add ++ (new ++ [sx])).Nodup := by
            rw [← List.append_assoc]
            exact nd_snoc hn2 fun z => hin (List.mem_append_right _ z)
          have hl3 : (add ++ (new ++ [sx])).length ≤ ks.length := by
            have z := nodup_le _ (ks.map (·.1)) hn3 fun x hx => by
              rcases List.mem_append.mp hx with z | z
              · exact hs x z
              · rcases List.mem_append.mp z with z | z
                · exact hs2 x z
                · rw [List.mem_singleton.mp z]; exact hks1
            rwa [List.length_map] at z
          refine iteT ⟨_, rfl, .inl ⟨rfl, _, SqL.of hp2⟩, _, rfl, b, _, _, _, rfl, rfl, SqT.of hb, rfl, p, _, _, rfl, rfl, hp2, ?_, ?_⟩
          · rw [List.length_map, List.length_append, sizeLine_eq]
            rw [← List.append_assoc, List.length_append] at hl3
            omega
          · refine ⟨e.upd (by simp), _, new ++ [sx], rfl, ?_, hn3, fun x hx => ?_, fun j hj s t h1 h2 => ?_⟩
            · have em : (fins ++ (add ++ (new ++ [sx]))).map V.str = (fins ++ (add ++ new)).map V.str ++ [V.str sx] := by simp
              rw [em]
              exact upd_same
            · rcases List.mem_append.mp hx with z | z
              · exact hs2 x z
              · rw [List.mem_singleton.mp z]; exact hks1
            · rw [← List.append_assoc add, ← List.append_assoc fins]
              by_cases z : j = i
              · rw [z, hks] at h1
                cases h1
                exact List.mem_append_right _ (List.mem_singleton.mpr rfl)
              · exact List.mem_append_left _ (hc2 j (by omega) s t h1 h2)
      · refine ⟨e, _, new, rfl, hp2, hn2, hs2, fun j hj s t h1 h2 => keep j hj s t h1 h2 fun z2 => ?_⟩
        rw [z2, hks] at h1
        cases h1
        rw [hf] at h2
        cases h2
        exact absurd (decide_eq_true rfl) z
    · rintro σ H2 ⟨e, v2, new, rfl, hp2, hn2, hs2, hc2⟩
      refine ⟨e.get (by simpa using hdp) upd_same, ?_⟩
      have e2 := ex_same e1 (lk_ex hd1 (by simpa using hdp) e) (fun b hb => by rw [List.mem_singleton.mp hb]; exact hp)
      have hlt2 : kk < (fins ++ (add ++ new)).length := by
        rw [← List.append_assoc, List.length_append]
        omega
      refine ⟨_, rfl, _, _, rfl, rfl, m - 1, by omega, kk + 1, add ++ new, v2, by omega, hlt2, rfl, e2, ?_, hn2, fun x hx => ?_, fun j hj s t x h1 h2 => ?_⟩
      · rw [upd_ne (Ne.symm hdp)]
        exact hp2
      · rcases List.mem_append.mp hx with z | z
        · exact hs x z
        · exact hs2 x z
      · by_cases hjk : j = kk
        · rw [hjk, ← List.append_assoc, List.getElem?_append_left hlt, hy] at h2
          cases h2
          obtain ⟨i, hi⟩ := List.mem_iff_getElem?.mp ((mv.mem s t).mp (by rw [h1] <;> rfl))
          refine hc2 i ?_ s t hi h1
          have l1 := congrArg List.length mv.keys
          rw [List.length_map, List.length_map] at l1
          rw [l1]
          exact (List.getElem?_eq_some_iff.mp hi).1
        · have hj2 : j < (fins ++ add).length := by omega
          rw [← List.append_assoc, List.getElem?_append_left hj2] at h2
          rw [← List.append_assoc]
          exact List.mem_append_left _ (hc j (by omega) s t x h1 h2)
  · have hge : ¬ kk < (fins ++ add).length := fun hlt => z (decide_eq_true (by rw [List.length_map]; omega))
    refine ⟨_, rfl, q p _ _ e1 h1 (fun x hx => List.mem_append_left _ hx) fun s t x h2 h3 => ?_⟩
    obtain ⟨j, hj⟩ := List.mem_iff_getElem?.mp h3
    exact hc j (by have := (List.getElem?_eq_some_iff.mp hj).1; omega) s t x h2 hj
theorem bad_place_ok (T : Txt K mg) : Cal P w K mg base 2 "bad_place" (spBad K) [] := by
  have c_is_items := is_items_ok (P := P) (w := w) (base := base) T
  have c_is_name := is_name_ok (P := P) (w := w) (base := base) T
  have sc : FnScope ["machine", "row", "k", "token"] ["machine", "row"] (defScope s_bad_place) := ⟨rfl, rfl, rfl, by decide +kernel, rfl, by decide +kernel, by decide +kernel⟩
  have nd := sc.nd
  refine cal_mk T.g_bad_place T.f_bad_place sc (fun vs H Q E h => by obtain ⟨_, _, _, _, rfl, _⟩ := h; rfl) (fun _ _ _ _ _ _ us hl => match us, hl with | [_, _], _ => rfl) (fun cdv A outer s H vs Q E hr h => ?_)
  obtain ⟨m, r, M, row, rfl, hm, hrow, hl, hall, q⟩ := h
  have hu := hu_of hr
  obtain ⟨tl, hmt⟩ := T.i_MOST_TOKENS
  refine ⟨_, (pss_cons (ps_if (PW.pt (pw_or (pt_not (pt_val (C8.pe_c c_is_items hr (by decide) (by rfl) (pa_cons (pv 1) pa_nil)))) (pw_or1 (pt_cmpR op_gt (pe_callB call_len_seq (by rfl) T.b_len (by decide +kernel) (pa_cons (pv 1) pa_nil)) (pe_glob (v := .int 2000) (by rfl) hmt ⟨_, rfl⟩) (nomark _))))) (pss_one (ps_ret (pe_un un_neg pe_int))) pss_nil)
      (pss_cons (ps_for PassesOwn.never rfl (pi_enumT (by rfl) T.b_enumerate (pa_cons (pv 1) pa_nil)) (pg_tup rfl (pgs_cons (pgn 2 nd) (pgs_cons (pgn 3 nd) pgs_nil))) (pss_one (ps_if (PW.pt (pw_or (pt_not (pt_val (C8.pe_c c_is_name hr (by decide) (by rfl) (pa_cons (pv 3) pa_nil)))) (pw_or1 (pt_cmpR op_notIn_seq (pv 3) (pe_fld (pv 0) rfl) (by rfl))))) (pss_one (ps_ret (pv 2))) pss_nil)))
      (pss_one (ps_ret pe_non)))), ?_⟩
  refine ⟨_, rfl, r, _, rfl, .inr hrow, fun H1 e1 => ⟨true, rfl, iteF ?_⟩⟩
  have hrow1 := sm_t e1 hrow
  refine ⟨_, rfl, r, _, rfl, .inr hrow1, _, _, rfl, rfl, _, rfl, ?_⟩
  rw [decide_eq_false (by rw [List.length_map]; omega)]
  refine iteF ?_
  refine ⟨_, rfl, r, _, rfl, hrow1, for_it walk_enumT (fun i σ H' => Same H H' ∧ ∃ v v', σ = [some (.ref m), some (.ref r), v, v']) ⟨e1, none, none, rfl⟩ (fun i σ H2 _ p => sm_t p.1 hrow) ?_ ?_⟩
  · rintro i y σ H2 H3 hi ⟨e2, v, v', rfl⟩ ⟨B, x1, x2, rfl, hB, rfl, hx1, hx2⟩
    cases hx1
    obtain ⟨x, hxi, rfl⟩ := maps_get hx2
    obtain ⟨n1, n2⟩ := hall x (List.mem_of_getElem? hxi)
    refine ⟨B, _, rfl, SqT.of upd_same, rfl, _, _, rfl, _, _, rfl, rfl, ?_⟩
    have e3 := e2.trans (sm_new hB (o := .tup [.int (i : Nat), .str x]))
    refine ⟨_, rfl, x, rfl, n1, true, rfl, iteF ?_⟩
    obtain ⟨dx, al, ed, en, pl, kvs, h1, h2, _⟩ := hm.mono e3
    refine ⟨_, rfl, _, rfl, m, _, dx, _, _, rfl, h1, T.cl_Machine, T.n_Machine_alphabet, rfl, al, _, rfl, .inl (SqL.of h2), rfl, flat_strs _, _, rfl, ?_⟩
    show (if (!inV (.str x) (M.toks.map V.str)) = true then _ else _)
    rw [inV_strs, decide_eq_true n2]
    exact iteF ⟨e3, _, _, rfl⟩
  · rintro σ H2 ⟨e2, v, v', rfl⟩
    exact q _ e2
theorem start_ok (T : Txt K mg) : Prp P w K mg base 1 (He.ga K "Machine") "start" (spStart K) := by
  have sc : FnScope ["self"] ["self"] (defScope s_Machine_start) := ⟨rfl, rfl, rfl, by decide +kernel, rfl, by decide +kernel, by decide +kernel⟩
  have nd := sc.nd
  refine prp_mk T.cl_Machine T.p_start T.f_Machine_start sc (fun vs H Q E h => by obtain ⟨_, _, rfl, _⟩ := h; rfl) (fun _ _ _ _ _ _ us hl => match us, hl with | [_], _ => rfl) (fun cdv A outer s H vs Q E hr h => ?_)
  obtain ⟨m, M, rfl, hm, q⟩ := h
  refine ⟨_, (pss_one (ps_ret (pe_fld (pv 0) rfl))), ?_⟩
  obtain ⟨dx, al, ed, en, pl, kvs, h1, _⟩ := hm
  exact ⟨_, rfl, m, _, dx, _, _, rfl, h1, T.cl_Machine, T.n_Machine_origin, rfl, q⟩
theorem getitem_ok (T : Txt K mg) : Gto P w K mg base 2 (He.ga K "Machine") (spGetitem K) := by
  have c_is_name := is_name_ok (P := P) (w := w) (base := base) T
  have sc : FnScope ["self", "at"] ["self", "at"] (defScope s_Machine_getitem) := ⟨rfl, rfl, rfl, by decide +kernel, rfl, by decide +kernel, by decide +kernel⟩
  have nd := sc.nd
  refine gto_mk T.cl_Machine T.m_Machine_getitem T.f_Machine_getitem sc (fun vs H Q E h => by obtain ⟨_, _, _, _, _, rfl, _⟩ := h; rfl) (fun _ _ _ _ _ _ us hl => match us, hl with | [_, _], _ => rfl) (fun cdv A outer s H vs Q E hr h => ?_)
  obtain ⟨m, b, M, sx, tx, rfl, hm, hb, n1, n2, q⟩ := h
  have hu := hu_of hr
  refine ⟨_, (pss_cons (ps_if (PW.pt (pw_or (pt_not (pt_val (pe_callB call_isi (by rfl) T.b_isinstance (by decide +kernel) (pa_cons (pv 1) (pa_cons (pe_bltn (v := .ty "tuple") (by rfl) T.b_tuple (by decide +kernel) rfl) pa_nil))))) (pw_or1 (pt_cmpR op_ne (pe_callB call_len_seq (by rfl) T.b_len (by decide +kernel) (pa_cons (pv 1) pa_nil)) pe_int (nomark _))))) (pss_one (ps_ret pe_non)) pss_nil)
      (pss_cons (ps_if (PW.pt (pw_or (pt_not (pt_val (C8.pe_c c_is_name hr (by decide) (by rfl) (pa_cons (pe_ix ix_tup (pv 1) pe_int (fun _ _ => rfl)) pa_nil)))) (pw_or1 (pt_not (pt_val (C8.pe_c c_is_name hr (by decide) (by rfl) (pa_cons (pe_ix ix_tup (pv 1) pe_int (fun _ _ => rfl)) pa_nil))))))) (pss_one (ps_ret pe_non)) pss_nil)
      (pss_one (ps_ret (pe_dget1 hu (pe_fld (pv 0) rfl) (pv 1) ⟨rfl, rfl, rfl, rfl⟩))))), ?_⟩
  obtain ⟨dx, al, ed, en, pl, kvs, h1, h2, h3, mv, _⟩ := hm
  refine ⟨_, rfl, _, _, _, _, true, rfl, .ty _, .base (.tup hb), kit_ty (by decide +kernel), true, rfl, iteF ?_⟩
  refine ⟨_, rfl, b, _, rfl, .inr (SqT.of hb), rfl, _, rfl, iteF ?_⟩
  refine ⟨_, rfl, b, _, _, _, rfl, rfl, SqT.of hb, rfl, sx, rfl, n1, true, rfl, iteF ?_⟩
  refine ⟨_, rfl, b, _, _, _, rfl, rfl, SqT.of hb, rfl, tx, rfl, n2, true, rfl, iteF ?_⟩
  refine ⟨_, rfl, m, _, dx, _, _, rfl, h1, T.cl_Machine, T.n_Machine_edges, rfl, ed, rfl, .inr ⟨_, .inl h3⟩, _, rfl, _, dg (.inl h3) hb, ?_⟩
  rw [mv.val]
  exact q
end
end Far

set_option Elab.async false
set_option linter.all false
set_option maxRecDepth 100000
set_option maxHeartbeats 4000000
/-! FarMach2: Machine.__init__ -/
namespace Far
open PySem PySem.Spec PyProof.Rows L2 Fz
def spMachine (K : PySem.W.Frag) : Sp := fun vs H Q _ => ∃ (m dx tk d fi : Addr) (kvs : Kvs) (ks : List Pt) (f : Str → Str → Option Str) (toks : List Str) (start : Str) (fins : List Str), vs = [.ref m, .ref tk, .str start, .ref d, .ref fi] ∧
  H m = some (.ins (He.ga K "Machine") dx []) ∧ SqL K H tk (toks.map V.str) ∧ H d = some (.dT kvs) ∧ MvK kvs ks f ∧ SqL K H fi (fins.map V.str) ∧ PartOk toks start f fins ∧ ks.length ≤ 100 ∧
  ∀ (H' : Hp) (M : MD), Ex [m] H H' → MchAt K H' m M → M.start = start → M.mv = f → M.toks.Perm toks → M.fins.Perm fins → M.places.Nodup → (∀ x, x ∈ M.places ↔ x = start ∨ x ∈ fins ∨ ∃ s t y, f s t = some y ∧ (x = s ∨ x = y)) → Q .non H'
def fx (f : Str → Str → Option Str) (p : Pt) : Str := (f p.1 p.2).getD ""
section
variable {P : Program} {w : World} {K : PySem.W.Frag} {mg : Str → Option Value} {base : Heap}
theorem machine_ok (T : Txt K mg) : C8.Mak P w K mg base 3 "Machine" (He.ga K "Machine") (spMachine K) [] := by
  have c_is_name := is_name_ok (P := P) (w := w) (base := base) T
  have c_are_names := are_names_ok (P := P) (w := w) (base := base) T
  have c_are_moves := are_moves_ok (P := P) (w := w) (base := base) T
  have c_leading := leading_ok (P := P) (w := w) (base := base) T
  have sc : FnScope ["self", "tokens", "start", "moves", "finals", "pair", "names"] ["self", "tokens", "start", "moves", "finals"] (defScope s_Machine_init) := ⟨rfl, rfl, rfl, by decide +kernel, rfl, by decide +kernel, by decide +kernel⟩
  have nd := sc.nd
  refine mak_mk (x := "") T.mk_Machine T.g_Machine T.f_Machine_init sc (fun vs H Q E h => by obtain ⟨_, _, _, _, _, _, _, _, _, _, _, rfl, _⟩ := h; rfl) (fun _ _ _ _ _ _ us hl => match us, hl with | [_, _, _, _, _], _ => rfl) (fun cdv A outer s H vs Q E hr h => ?_)
  obtain ⟨m, dx, tk, d, fi, kvs, ks, f, toks, start, fins, rfl, hm, htk, hd, mv, hfi, ok, hks, q⟩ := h
  have hu := hu_of hr
  have hu65 := hu65_of hr
  refine ⟨_, (pss_cons (ps_if (pt_not (pt_val (C8.pe_c c_are_names hr (by decide) (by rfl) (pa_cons (pv 1) (pa_cons pe_int pa_nil))))) pss_never pss_nil)
      (pss_cons (ps_if (pt_not (pt_val (C8.pe_c c_is_name hr (by decide) (by rfl) (pa_cons (pv 2) pa_nil)))) pss_never pss_nil)
      (pss_cons (ps_if (pt_not (pt_val (C8.pe_c c_are_moves hr (by decide) (by rfl) (pa_cons (pv 3) (pa_cons (pv 1) pa_nil))))) pss_never pss_nil)
      (pss_cons (ps_if (pt_not (pt_val (C8.pe_c c_are_names hr (by decide) (by rfl) (pa_cons (pv 4) (pa_cons pe_int pa_nil))))) pss_never pss_nil)
      (C8.pss_cut (ps_fld (pv 0) (pe_callB cr_sortedS (by rfl) T.b_sorted (by decide +kernel) (pa_cons (pe_callTy call_list_of (by rfl) T.b_list (by decide +kernel) (pa_cons (pv 1) pa_nil)) pa_nil)) rfl)
      (pss_cons (ps_fld (pv 0) (pv 2) rfl)
      (C8.pss_cut (ps_fld (pv 0) (pe_dg dem_T (dst_T hu) (own := [("pair", 5)]) (g := gName 5) (tt := tYes) rfl nd (pi_list (pe_callB (cr_sortedD hu65) (by rfl) T.b_sorted (by decide +kernel) (pa_cons (pe_callTy (call_list_dT rfl) (by rfl) T.b_list (by decide +kernel) (pa_cons (pv 3) pa_nil)) pa_nil))) (blkOk_by (own := [("pair", 5)]) (N := ["self", "tokens", "start", "moves", "finals", "pair", "names"]) (sc := defScope s_Machine_init) (by decide +kernel)) (fun _ _ _ _ _ => (pgn 5 nd)) (fun _ _ _ _ _ => pts_nil) (fun _ _ _ _ _ => (pv 5)) (fun _ _ _ _ _ => (pe_dget hu (pv 3) (pv 5) (fun _ _ => rfl)))) rfl)
      (C8.pss_cut (ps_fld (pv 0) (pe_callB cr_sortedS (by rfl) T.b_sorted (by decide +kernel) (pa_cons (pe_callTy call_list_of (by rfl) T.b_list (by decide +kernel) (pa_cons (pv 4) pa_nil)) pa_nil)) rfl)
      (pss_cons (ps_if (pt_cmpR op_notIn_seq (pv 2) (C8.pe_c c_leading hr (by decide) (by rfl) (pa_cons (pe_fld (pv 0) rfl) (pa_cons (pe_fld (pv 0) rfl) pa_nil))) (by rfl)) pss_never pss_nil)
      (pss_cons (pset 6 nd (pe_lst (pa_cons (pv 2) (StX.pa_star (pv 4) pa_nil))))
      (C8.pss_cut (ps_lock (ps_for PassesOwn.never rfl (pi_keys (pe_fld (pv 0) rfl)) (pgn 5 nd) (pss_cons (ps_expr (pe_bm PySem.F.plainAttrs_list PySem.F.slot_list_append PySem.F.type_list_append mt_append (pv 6) (pa_cons (pe_ix ix_tup (pv 5) pe_int (fun _ _ => rfl)) pa_nil)))
      (pss_one (ps_expr (pe_bm PySem.F.plainAttrs_list PySem.F.slot_list_append PySem.F.type_list_append mt_append (pv 6) (pa_cons (pe_dget hu (pe_fld (pv 0) rfl) (pv 5) (fun _ _ => rfl)) pa_nil)))))))
      (C8.pss_cut (ps_fld (pv 0) (pe_callB (cr_sortedSetS rfl hu65) (by rfl) T.b_sorted (by decide +kernel) (pa_cons (pe_callTy (cr_set rfl) (by rfl) T.b_set (by decide +kernel) (pa_cons (pv 6) pa_nil)) pa_nil)) rfl)
      (pss_one (ps_if (pt_cmpR op_gt (pe_callB call_len_seq (by rfl) T.b_len (by decide +kernel) (pa_cons (pe_fld (pv 0) rfl) pa_nil)) pe_int (nomark _)) pss_never pss_nil)))))))))))))), ?_⟩
  have t1 := ok.t1
  have t4 := ok.t4
  have f1 := ok.f1
  have f6 := ok.f6
  refine ⟨_, rfl, tk, toks, 4, rfl, .inl htk, t1, t4, by omega, ok.tn, ok.tok, fun H1 e1 => ⟨true, rfl, iteF ?_⟩⟩
  refine ⟨_, rfl, start, rfl, ok.st, true, rfl, iteF ?_⟩
  refine ⟨_, rfl, _, rfl, d, tk, kvs, ks, f, toks, rfl, e1 _ _ hd, mv, sm_l e1 htk, ok.mv, fun H2 e2 => ⟨true, rfl, iteF ?_⟩⟩
  have e12 := e1.trans e2
  refine ⟨_, rfl, fi, fins, 6, rfl, .inl (sm_l e12 hfi), f1, f6, by omega, ok.fn, ok.fnm, fun H3 e3 => ⟨true, rfl, iteF ?_⟩⟩
  have e13 := e12.trans e3
  -- self.alphabet
  refine ⟨fun σ' H' => σ' = [some (.ref m), some (.ref tk), some (.str start), some (.ref d), some (.ref fi), none, none] ∧ Ex [m] H H' ∧ ∃ (al : Addr) (toks' : List Str), H' m = some (.ins (He.ga K "Machine") dx [("alphabet", .ref al)]) ∧ H' al = some (.lst (toks'.map .str)) ∧ toks'.Perm toks, ?_, ?_⟩
  · refine ⟨_, rfl, tk, _, rfl, .inl (sm_l e13 htk), fun l hl => ⟨l, toks, rfl, SqL.of upd_same, by omega, fun toks' al hp _ hal => ?_⟩⟩
    have e := (e13.trans (sm_new hl (o := .lst (toks.map .str)))).trans (sm_new hal (o := .lst (toks'.map .str)))
    refine ⟨_, rfl, m, _, dx, _, rfl, e _ _ hm, T.cl_Machine, T.n_Machine_alphabet, by decide, rfl, (Ex.of e).upd (by simp), al, toks', upd_same, ?_, hp⟩
    rw [upd_ne (ne_of upd_same (e _ _ hm) (fun z => by cases z))]
    exact upd_same
  rintro σ4 H4 ⟨rfl, x4, al, toks', m4, al4, hpt⟩
  have nd' : ∀ {b : Addr} {o : HO}, H b = some o → (∀ C dx fs, o ≠ .ins C dx fs) → b ∉ [m] := fun {b o} hb hne hz => by
    rw [List.mem_singleton.mp hz, hm] at hb
    exact hne _ _ _ (Option.some.inj hb).symm
  -- self.origin
  refine ⟨_, rfl, _, rfl, m, _, dx, _, rfl, m4, T.cl_Machine, T.n_Machine_origin, by show 1 < 1000; decide, ?_⟩
  have x5 : Ex [m] H (upd H4 m (.ins (He.ga K "Machine") dx ([("alphabet", .ref al), ("origin", .str start)] : List (Str × V)))) := x4.upd (by simp)
  have al5 : upd H4 m (.ins (He.ga K "Machine") dx ([("alphabet", .ref al), ("origin", .str start)] : List (Str × V))) al = some (.lst (toks'.map .str)) := by
    rw [upd_ne (ne_of al4 m4 (fun z => by cases z))]
    exact al4
  have m5 : upd H4 m (.ins (He.ga K "Machine") dx ([("alphabet", .ref al), ("origin", .str start)] : List (Str × V))) m = some (.ins (He.ga K "Machine") dx ([("alphabet", .ref al), ("origin", .str start)] : List (Str × V))) := upd_same
  have pf : putF "origin" (.str start) ([("alphabet", .ref al)] : List (Str × V)) = ([("alphabet", .ref al), ("origin", .str start)] : List (Str × V)) := by rw [putF_neg (by decide)]; rfl
  rw [pf]
  generalize upd H4 m (.ins (He.ga K "Machine") dx ([("alphabet", .ref al), ("origin", .str start)] : List (Str × V))) = H5 at x5 al5 m5 ⊢
  have hdm : d ∉ [m] := nd' hd fun _ _ _ z => nomatch z
  have hd5 := x5.get hdm hd
  -- self.edges
  refine ⟨fun σ' H' => σ' = [some (.ref m), some (.ref tk), some (.str start), some (.ref d), some (.ref fi), none, none] ∧ Ex [m] H H' ∧ ∃ (ed : Addr) (ks' : List Pt), H' m = some (.ins (He.ga K "Machine") dx [("alphabet", .ref al), ("origin", .str start), ("edges", .ref ed)]) ∧ H' al = some (.lst (toks'.map .str)) ∧
    H' ed = some (.dT (ks'.map fun p => (kp p, fv f p))) ∧ ks'.Perm ks, ?_, ?_⟩
  · refine ⟨_, rfl, d, kvs, rfl, .inl hd5, fun l bs hl hbs => ?_⟩
    obtain ⟨zs, hz1, hz2, hz3⟩ := keys_zip hbs mv.keys
    have hsq : (zs.map fun z => (V.ref z.1, ptD z.2)).map (·.1) = bs.map V.ref := by
      rw [← hz1, List.map_map, List.map_map] <;> rfl
    obtain ⟨a1, a2, a3⟩ := ptD_alike (zs.map fun z => (V.ref z.1, ptD z.2)) (fun z hz => by
      obtain ⟨z0, _, rfl⟩ := List.mem_map.mp hz
      exact ⟨_, rfl⟩)
    have el := sm_new hl (o := .lst (bs.map V.ref))
    refine ⟨l, zs.map fun z => (V.ref z.1, ptD z.2), rfl, by rw [hsq]; exact SqL.of upd_same, fun z hz => ?_, a1, a2, a3, fun qs a hp ha => ?_⟩
    · obtain ⟨z0, hz0, rfl⟩ := List.mem_map.mp hz
      exact ptD_dp (el _ _ (hz3 z0 hz0))
    obtain ⟨zs', hzp, rfl⟩ := perm_map_inv hp zs rfl
    have ea := el.trans (sm_new ha (o := .lst ((zs'.map fun z => (V.ref z.1, ptD z.2)).map (·.1))))
    have hkp : (zs'.map (·.2)).Perm ks := by
      have z := hzp.map (·.2)
      rwa [hz2] at z
    have hkn : (zs'.map (·.2)).Nodup := hkp.nodup_iff.mpr mv.nd
    refine ⟨a, rfl, ⟨_, SqL.of upd_same⟩, fun D hD => dg_it walk_list (fun i H' => Same (upd (upd H5 l (.lst (bs.map V.ref))) a (.lst ((zs'.map fun z => (V.ref z.1, ptD z.2)).map (·.1)))) H' ∧ H' D = some (.dT (((zs'.map (·.2)).take i).map fun p => (kp p, fv f p)))) ⟨sm_new hD, upd_same⟩ (fun i H' _ p => SqL.of (p.1 _ _ upd_same)) ?_ ?_⟩
    · rintro i x H6 H7 hi ⟨e, hD6⟩ ⟨rfl, hx⟩
      obtain ⟨z1, hx1, rfl⟩ := get_map hx
      obtain ⟨z, hzi, rfl⟩ := get_map hx1
      have hzm := hzp.mem_iff.mp (List.mem_of_getElem? hzi)
      have hb := (ea.trans e) _ _ (hz3 z hzm)
      have hki : (zs'.map (·.2))[i]? = some z.2 := by rw [List.getElem?_map, hzi]; rfl
      have hin : (z.2.1, z.2.2) ∈ ks := hkp.mem_iff.mp (List.mem_of_getElem? hki)
      obtain ⟨y, hy⟩ := Option.isSome_iff_exists.mp ((mv.mem _ _).mpr hin)
      have hdg := dg (.inl ((ea.trans e) _ _ hd5)) hb
      rw [mv.val, hy] at hdg
      have hfv : fv f z.2 = .str y := by
        unfold fv
        rw [hy] <;> rfl
      refine ⟨rfl, _, rfl, _, rfl, _, rfl, d, .str y, rfl, hdg, _, ⟨_, kp z.2, z.1, rfl, hb, hD6, ?_, rfl⟩, sm_mut e hD, ?_⟩
      · rw [List.length_map, List.length_take, sizeLine_eq]
        have := hkp.length_eq
        omega
      · rw [upd_same, ← hfv, put_snoc hkn hki]
    · rintro H6 ⟨e, hD6⟩
      have e6 := ea.trans e
      have hm6 := e6 _ _ m5
      refine ⟨_, rfl, m, _, dx, _, rfl, hm6, T.cl_Machine, T.n_Machine_edges, by show 2 < 1000; decide, rfl, (x5.trans (Ex.of e6)).upd (by simp), D, zs'.map (·.2), ?_, ?_, ?_, hkp⟩
      · rw [upd_same, putF_neg (by decide), putF_neg (by decide)] <;> rfl
      · rw [upd_ne (ne_of (e6 _ _ al5) hm6 (fun z => by cases z))]
        exact e6 _ _ al5
      · rw [upd_ne (ne_of hD6 hm6 (fun z => by cases z)), hD6, List.take_of_length_le]
        have hi : (zs'.map fun z => (V.ref z.1, ptD z.2)).map (·.1) = zs'.map fun z => V.ref z.1 := by rw [List.map_map] <;> rfl
        rw [hi, List.length_map, List.length_map]
        exact Nat.le_refl _
  rintro σ6 H6 ⟨rfl, x6, ed, ks', m6, al6, ed6, hkp⟩
  have hkn : ks'.Nodup := hkp.nodup_iff.mpr mv.nd
  have mv' : MvK (ks'.map fun p => (kp p, fv f p)) ks' f := mk_mv hkn fun s t => (mv.mem s t).trans hkp.mem_iff.symm
  have hkl : ks'.length ≤ 100 := by rw [hkp.length_eq]; exact hks
  -- self.ending
  refine ⟨fun σ' H' => σ' = [some (.ref m), some (.ref tk), some (.str start), some (.ref d), some (.ref fi), none, none] ∧ Ex [m] H H' ∧ ∃ (en : Addr) (fins' : List Str), H' m = some (.ins (He.ga K "Machine") dx [("alphabet", .ref al), ("origin", .str start), ("edges", .ref ed), ("ending", .ref en)]) ∧ H' al = some (.lst (toks'.map .str)) ∧
    H' ed = some (.dT (ks'.map fun p => (kp p, fv f p))) ∧ H' en = some (.lst (fins'.map .str)) ∧ fins'.Perm fins, ?_, ?_⟩
  · have hfi6 : SqL K H6 fi (fins.map V.str) := by
      rcases hfi with (z | ⟨o, z⟩) | z
      · exact .inl (.inl (x6.get (nd' z fun _ _ _ z => nomatch z) z))
      · exact .inl (.inr ⟨o, x6.get (nd' z fun _ _ _ z => nomatch z) z⟩)
      · exact .inr z
    refine ⟨_, rfl, fi, _, rfl, .inl hfi6, fun l hl => ⟨l, fins, rfl, SqL.of upd_same, by omega, fun fins' en hp _ hen => ?_⟩⟩
    have e := (sm_new hl (o := .lst (fins.map .str))).trans (sm_new hen (o := .lst (fins'.map .str)))
    have hm6 := e _ _ m6
    refine ⟨_, rfl, m, _, dx, _, rfl, hm6, T.cl_Machine, T.n_Machine_ending, by show 3 < 1000; decide, rfl, (x6.trans (Ex.of e)).upd (by simp), en, fins', ?_, ?_, ?_, ?_, hp⟩
    · rw [upd_same, putF_neg (by decide), putF_neg (by decide), putF_neg (by decide)] <;> rfl
    · rw [upd_ne (ne_of (e _ _ al6) hm6 (fun z => by cases z))]
      exact e _ _ al6
    · rw [upd_ne (ne_of (e _ _ ed6) hm6 (fun z => by cases z))]
      exact e _ _ ed6
    · rw [upd_ne (ne_of upd_same hm6 (fun z => by cases z))]
      exact upd_same
  rintro σ7 H7 ⟨rfl, x7, en, fins', m7, al7, ed7, en7, hfp⟩
  have hfl : fins'.length ≤ 6 := by rw [hfp.length_eq]; exact f6
  -- start not in leading(..)
  refine ⟨_, rfl, _, rfl, m, _, dx, _, _, rfl, m7, T.cl_Machine, T.n_Machine_ending, rfl, _, rfl, m, _, dx, _, _, rfl, m7, T.cl_Machine, T.n_Machine_edges, rfl, en, ed, fins', _, ks', f, rfl, SqL.of en7, ed7, mv', by omega, hkl, fun qa ys H8 e8 hqa hsub hcl => ?_⟩
  refine ⟨qa, _, rfl, .inl (SqL.of hqa), rfl, flat_strs _, _, rfl, ?_⟩
  have hst : start ∈ ys := by
    obtain ⟨x, hx, r⟩ := ok.rch
    exact reach_in hcl r (hsub x (hfp.mem_iff.mpr hx))
  show (if (!inV (.str start) (ys.map V.str)) = true then _ else _)
  rw [inV_strs, decide_eq_true hst]
  refine iteF ?_
  have x8 := x7.trans (Ex.of e8)
  have hfi8 : SqL K H8 fi (fins.map V.str) := by
    rcases hfi with (z | ⟨o, z⟩) | z
    · exact .inl (.inl (x8.get (nd' z fun _ _ _ z => nomatch z) z))
    · exact .inl (.inr ⟨o, x8.get (nd' z fun _ _ _ z => nomatch z) z⟩)
    · exact .inr z
  -- names
  refine ⟨_, rfl, _, rfl, fi, _, rfl, .inr hfi8, ?_, fun nl hnl => ?_⟩
  · rw [List.length_cons, List.length_append, List.length_map, sizeLine_eq]
    show fins.length + 0 + 1 ≤ _
    omega
  have e9 := e8.trans (sm_new hnl (o := .lst (.str start :: (fins.map V.str ++ []))))
  have han : al ≠ nl := ne_of_none (e8 _ _ al7) hnl
  have hen_ : en ≠ nl := ne_of_none (e8 _ _ en7) hnl
  have hHnl : H nl = none := x8.free (fun z => by rw [List.mem_singleton.mp z, e8 _ _ m7] at hnl; cases hnl) hnl
  have m9 := e9 _ _ m7
  have al9 := e9 _ _ al7
  have ed9 := e9 _ _ ed7
  have en9 := e9 _ _ en7
  have x9 : Ex [m] H _ := x7.trans (Ex.of e9)
  have nl9 : upd H8 nl (.lst (.str start :: (fins.map V.str ++ []))) nl = some (.lst ((start :: (fins ++ [])).map V.str)) := by
    rw [upd_same, List.map_cons, List.map_append] <;> rfl
  generalize upd H8 nl (.lst (.str start :: (fins.map V.str ++ []))) = H9 at m9 al9 ed9 en9 x9 nl9 ⊢
  have hne : ed ≠ nl := ne_of ed9 nl9 (fun z => by cases z)
  refine ⟨fun σ' H' => (∃ v, σ' = [some (.ref m), some (.ref tk), some (.str start), some (.ref d), some (.ref fi), v, some (.ref nl)]) ∧ Ex [nl] H9 H' ∧ H' nl = some (.lst ((start :: (fins ++ ks'.flatMap fun p => [p.1, fx f p])).map V.str)), ?_, ?_⟩
  · refine ⟨ed, _, ed9, trivial, fun od => ?_⟩
    have hmN : m ∉ [nl] := fun z => by
      rw [List.mem_singleton.mp z, nl9] at m9
      cases m9
    have lm9 := lk_ne (od := od) ed9 m9 (fun _ z => nomatch z)
    refine ⟨_, rfl, m, _, dx, _, _, rfl, lm9, T.cl_Machine, T.n_Machine_edges, rfl, ed, od, rfl, .inr ⟨_, upd_same, for_it walk_keysT (fun i σ H' => Ex [nl] (upd H9 ed (.frz od (.dT (ks'.map fun p => (kp p, fv f p))))) H' ∧ (∃ v, σ = [some (.ref m), some (.ref tk), some (.str start), some (.ref d), some (.ref fi), v, some (.ref nl)]) ∧ H' nl = some (.lst ((start :: (fins ++ (ks'.take i).flatMap fun p => [p.1, fx f p])).map V.str)))
      ⟨Ex.refl _ _, ⟨_, rfl⟩, by rw [upd_ne (Ne.symm hne)]; exact nl9⟩ (fun i σ H' _ p => p.1.get (by simpa using hne) upd_same) ?_ ?_⟩⟩
    · rintro i yv σ H2 H3 hi ⟨e, ⟨v, rfl⟩, hnl3⟩ ⟨rfl, k, x, b, hk, rfl, hb⟩
      obtain ⟨sx, tx, ax, hki, rfl, rfl, hf⟩ := mv'.at_ hk
      have hil : i < 100 := by
        have := (List.getElem?_eq_some_iff.mp hki).1
        omega
      have hfm : ∀ l : List Pt, (l.flatMap fun p => [p.1, fx f p]).length = 2 * l.length := fun l => by
        induction l with
        | nil => rfl
        | cons a l ih => rw [List.flatMap_cons, List.length_append, ih, List.length_cons, List.length_cons, List.length_cons, List.length_nil]; omega
      have hlen : (start :: (fins ++ (ks'.take i).flatMap fun p => [p.1, fx f p])).length ≤ 300 := by
        rw [List.length_cons, List.length_append, hfm, List.length_take]
        omega
      have hbn : b ≠ nl := ne_of hb hnl3 (fun z => by cases z)
      refine ⟨_, rfl, .inl ⟨rfl, _, SqL.of hnl3⟩, _, rfl, b, _, _, _, rfl, rfl, SqT.of hb, rfl, nl, _, _, rfl, rfl, hnl3, by rw [List.length_map, sizeLine_eq]; omega, ?_⟩
      have e2 := e.upd (d := nl) (o := .lst ((start :: (fins ++ (ks'.take i).flatMap fun p => [p.1, fx f p])).map V.str ++ [V.str sx])) (by simp)
      have hb2 : upd H3 nl (.lst ((start :: (fins ++ (ks'.take i).flatMap fun p => [p.1, fx f p])).map V.str ++ [V.str sx])) b = some (.tup [.str sx, .str tx]) := by
        rw [upd_ne hbn]
        exact hb
      have hdg := dg (.inr ⟨od, e2.get (by simpa using hne) upd_same⟩) hb2
      rw [mv'.val, hf] at hdg
      refine ⟨_, rfl, .inl ⟨rfl, _, SqL.of upd_same⟩, _, rfl, m, _, dx, _, _, rfl, e2.get hmN lm9, T.cl_Machine, T.n_Machine_edges, rfl, _, rfl, ed, .str ax, rfl, hdg, nl, _, _, rfl, rfl, upd_same, by rw [List.length_append, List.length_map, sizeLine_eq]; show _ + 1 < _; omega, e2.upd (by simp), ⟨_, rfl⟩, ?_⟩
      rw [upd_same, take_snoc hki, List.flatMap_append]
      have hfx : fx f (sx, tx) = ax := by
        unfold fx
        rw [hf] <;> rfl
      simp [hfx]
      rfl
    · rintro σ H2 ⟨e, ⟨v, rfl⟩, hnl3⟩
      refine ⟨e.get (by simpa using hne) upd_same, ⟨_, rfl⟩, lk_ex ed9 (by simpa using hne) e, ?_⟩
      rw [upd_ne (Ne.symm hne), hnl3, List.take_of_length_le]
      rw [List.length_map]
      exact Nat.le_refl _
  rintro σ10 H10 ⟨⟨v, rfl⟩, x10, nl10⟩
  have m10 := x10.get (fun z => by rw [List.mem_singleton.mp z, nl9] at m9; cases m9) m9
  have fr : ∀ {b : Addr} {o : HO}, H9 b = some o → b ≠ nl → H10 b = some o := fun hb hn => x10.get (by simpa using hn) hb
  -- self.places
  refine ⟨fun σ' H' => (∃ v, σ' = [some (.ref m), some (.ref tk), some (.str start), some (.ref d), some (.ref fi), v, some (.ref nl)]) ∧ Ex [m] H H' ∧ ∃ (pl : Addr) (places : List Str), H' m = some (.ins (He.ga K "Machine") dx [("alphabet", .ref al), ("origin", .str start), ("edges", .ref ed), ("ending", .ref en), ("places", .ref pl)]) ∧ H' al = some (.lst (toks'.map .str)) ∧
    H' ed = some (.dT (ks'.map fun p => (kp p, fv f p))) ∧ H' en = some (.lst (fins'.map .str)) ∧ H' pl = some (.lst (places.map .str)) ∧ places.Nodup ∧ (∀ x, x ∈ places ↔ x ∈ start :: (fins ++ ks'.flatMap fun p => [p.1, fx f p])), ?_, ?_⟩
  · have hfm : ∀ l : List Pt, (l.flatMap fun p => [p.1, fx f p]).length = 2 * l.length := fun l => by
      induction l with
      | nil => rfl
      | cons a l ih => rw [List.flatMap_cons, List.length_append, ih, List.length_cons, List.length_cons, List.length_cons, List.length_nil]; omega
    refine ⟨_, rfl, nl, _, rfl, SqL.of nl10, ?_, fun a ys ha hmem hnd => ⟨a, ys, rfl, upd_same, ?_, fun places pl hp hpl => ?_⟩⟩
    · rw [List.length_cons, List.length_append, hfm]
      omega
    · have z := nodup_le ys _ hnd fun x hx => (hmem x).mp hx
      rw [List.length_cons, List.length_append, hfm] at z
      omega
    have e := (sm_new ha (o := SetSO P w a ys)).trans (sm_new hpl (o := .lst (places.map .str)))
    have hm10 := e _ _ m10
    refine ⟨_, rfl, m, _, dx, _, rfl, hm10, T.cl_Machine, T.n_Machine_places, by show 4 < 1000; decide, ⟨_, rfl⟩, ?_, pl, places, ?_, ?_, ?_, ?_, ?_, hp.nodup_iff.mpr hnd, fun x => hp.mem_iff.trans (hmem x)⟩
    · refine Ex.upd ?_ (by simp)
      refine Ex.trans (H1 := H10) (fun b o q => ?_) (Ex.of e)
      by_cases hb : b ∈ [m]
      · rw [hid_in hb] at q
        cases q
      · rw [hid_out hb] at q ⊢
        refine x10.get (fun z => ?_) (x9.get hb q)
        rw [List.mem_singleton.mp z, hHnl] at q
        cases q
    · rw [upd_same, putF_neg (by decide), putF_neg (by decide), putF_neg (by decide), putF_neg (by decide)] <;> rfl
    · rw [upd_ne (ne_of (e _ _ (fr al9 han)) hm10 (fun z => by cases z))]
      exact e _ _ (fr al9 han)
    · rw [upd_ne (ne_of (e _ _ (fr ed9 hne)) hm10 (fun z => by cases z))]
      exact e _ _ (fr ed9 hne)
    · rw [upd_ne (ne_of (e _ _ (fr en9 hen_)) hm10 (fun z => by cases z))]
      exact e _ _ (fr en9 hen_)
    · rw [upd_ne (ne_of upd_same hm10 (fun z => by cases z))]
      exact upd_same
  rintro σ11 H11 ⟨⟨v, rfl⟩, x11, pl, places, m11, al11, ed11, en11, pl11, hpn, hpm⟩
  have hmem : ∀ x, x ∈ places ↔ x = start ∨ x ∈ fins ∨ ∃ s t y, f s t = some y ∧ (x = s ∨ x = y) := fun x => by
    rw [hpm, List.mem_cons, List.mem_append, List.mem_flatMap]
    refine or_congr_right (or_congr_right ⟨fun ⟨p, hp, hx⟩ => ?_, fun ⟨s, t, y, hf, hx⟩ => ?_⟩)
    · obtain ⟨y, hy⟩ := Option.isSome_iff_exists.mp ((mv'.mem p.1 p.2).mpr hp)
      refine ⟨p.1, p.2, y, hy, ?_⟩
      have hfx : fx f p = y := by
        unfold fx
        rw [hy] <;> rfl
      rw [hfx] at hx
      rcases List.mem_cons.mp hx with z | z
      · exact .inl z
      · exact .inr (List.mem_singleton.mp z)
    · refine ⟨(s, t), (mv'.mem s t).mp (by rw [hf] <;> rfl), ?_⟩
      have hfx : fx f (s, t) = y := by
        unfold fx
        rw [hf] <;> rfl
      rw [hfx]
      rcases hx with z | z
      · rw [z]; exact List.mem_cons_self
      · rw [z]; exact List.mem_cons_of_mem _ (List.mem_singleton.mpr rfl)
  have h6 : places.length ≤ 6 := by
    obtain ⟨S, hS, s1, s2, s3⟩ := ok.sz
    refine Nat.le_trans (nodup_le places S hpn fun x hx => ?_) hS
    rcases (hmem x).mp hx with z | z | ⟨s, t, y, hf, z | z⟩
    · rw [z]; exact s1
    · exact s2 x z
    · rw [z]; exact (s3 s t y hf).1
    · rw [z]; exact (s3 s t y hf).2
  refine ⟨_, rfl, m, _, dx, _, _, rfl, m11, T.cl_Machine, T.n_Machine_places, rfl, pl, _, rfl, .inl (SqL.of pl11), _, _, rfl, rfl, _, rfl, ?_⟩
  rw [decide_eq_false (by rw [List.length_map]; omega)]
  refine iteF ?_
  exact q H11 ⟨toks', start, ks', f, fins', places⟩ x11 ⟨dx, al, ed, en, pl, _, m11, al11, ed11, mv', en11, pl11⟩ rfl rfl hpt hfp hpn hmem
end
end Far

set_option Elab.async false
set_option linter.all false
set_option maxRecDepth 100000
set_option maxHeartbeats 4000000
/-! FarRead1: Reader.machine, Reader.hold, first, act, finish -/
namespace Far
open PySem PySem.Spec PyProof.Rows L2 Fz
def spMachineP (K : PySem.W.Frag) : Sp := fun vs H Q _ => ∃ (r : Addr) (M : MD) (R : FRd Str), vs = [.ref r] ∧ RdrAt K H r M R ∧ ∀ m, MchAt K H m M → Q (.ref m) H
def spHold (K : PySem.W.Frag) : Sp := fun vs H Q _ => ∃ (r : Addr) (M : MD) (R : FRd Str), vs = [.ref r] ∧ RdrAt K H r M R ∧ Q (.int R.hold) H
def spFirst (K : PySem.W.Frag) : Sp := fun vs H Q _ => ∃ (r : Addr) (M : MD) (R : FRd Str), vs = [.ref r] ∧ RdrAt K H r M R ∧ ∀ p H', Same H H' → CfgAt H' p ⟨M.start, [], 0⟩ → Q (.ref p) H'
def spAct (K : PySem.W.Frag) : Sp := fun vs H Q _ => ∃ (r : Addr) (M : MD) (R : FRd Str) (s t : Str) (a : FAct Str), vs = [.ref r, .str s, .str t] ∧ RdrAt K H r M R ∧ R.mv s t = none ∧ R.tb s t = some a ∧
  (∀ x, a = .put x ∨ a = .take x → ∃ s', R.mv s x = some s') ∧ ∀ p e H', Same H H' → H' p = some (.tup [.str (actD R s t a).1, e, .bl (actD R s t a).2.1, .bl (actD R s t a).2.2]) → Q (.ref p) H'
def spFinish (K : PySem.W.Frag) : Sp := fun vs H Q _ => ∃ (r c : Addr) (M : MD) (R : FRd Str) (cf : FCfg Str), vs = [.ref r, .ref c] ∧ RdrAt K H r M R ∧ CfgAt H c cf ∧
  ∀ p H', Same H H' → H' p = some (.tup [.int (if cf.st ∈ M.fins then 0 else if cf.q = 0 then 1 else 0), .int (if cf.st ∈ M.fins then 0 else 1)]) → Q (.ref p) H'
theorem wT {x : Str} {A B : Prop} (h : A) : if decide (V.str x = V.str x) = true then A else B := by
  rw [decide_eq_true rfl]
  exact h
theorem wF {x y : Str} {A B : Prop} (hne : x ≠ y) (h : B) : if decide (V.str x = V.str y) = true then A else B := by
  rw [decide_eq_false (fun z => hne (by injection z))]
  exact h
section
variable {P : Program} {w : World} {K : PySem.W.Frag} {mg : Str → Option Value} {base : Heap}
theorem machineP_ok (T : Txt K mg) : Prp P w K mg base 1 (He.ga K "Reader") "machine" (spMachineP K) := by
  have sc : FnScope ["self"] ["self"] (defScope s_Reader_machine) := ⟨rfl, rfl, rfl, by decide +kernel, rfl, by decide +kernel, by decide +kernel⟩
  have nd := sc.nd
  refine prp_mk T.cl_Reader T.p_machine T.f_Reader_machine sc (fun vs H Q E h => by obtain ⟨_, _, _, rfl, _⟩ := h; rfl) (fun _ _ _ _ _ _ us hl => match us, hl with | [_], _ => rfl) (fun cdv A outer s H vs Q E hr h => ?_)
  obtain ⟨r, M, R, rfl, hm, q⟩ := h
  refine ⟨_, (pss_one (ps_ret (pe_fld (pv 0) rfl))), ?_⟩
  obtain ⟨dx, m, ac, pa, kvs, ks, h1, h2, _⟩ := hm
  exact ⟨_, rfl, r, _, dx, _, _, rfl, h1, T.cl_Reader, T.n_Reader_engine, rfl, q m h2⟩
theorem hold_ok (T : Txt K mg) : Prp P w K mg base 1 (He.ga K "Reader") "hold" (spHold K) := by
  have sc : FnScope ["self"] ["self"] (defScope s_Reader_hold) := ⟨rfl, rfl, rfl, by decide +kernel, rfl, by decide +kernel, by decide +kernel⟩
  have nd := sc.nd
  refine prp_mk T.cl_Reader T.p_hold T.f_Reader_hold sc (fun vs H Q E h => by obtain ⟨_, _, _, rfl, _⟩ := h; rfl) (fun _ _ _ _ _ _ us hl => match us, hl with | [_], _ => rfl) (fun cdv A outer s H vs Q E hr h => ?_)
  obtain ⟨r, M, R, rfl, hm, q⟩ := h
  refine ⟨_, (pss_one (ps_ret (pe_fld (pv 0) rfl))), ?_⟩
  obtain ⟨dx, m, ac, pa, kvs, ks, h1, h2, _⟩ := hm
  exact ⟨_, rfl, r, _, dx, _, _, rfl, h1, T.cl_Reader, T.n_Reader_span, rfl, q⟩
theorem first_ok (T : Txt K mg) : Cal P w K mg base 3 "first" (spFirst K) [] := by
  have c_machine := machineP_ok (P := P) (w := w) (base := base) T
  have c_start := start_ok (P := P) (w := w) (base := base) T
  have sc : FnScope ["reader"] ["reader"] (defScope s_first) := ⟨rfl, rfl, rfl, by decide +kernel, rfl, by decide +kernel, by decide +kernel⟩
  have nd := sc.nd
  refine cal_mk T.g_first T.f_first sc (fun vs H Q E h => by obtain ⟨_, _, _, rfl, _⟩ := h; rfl) (fun _ _ _ _ _ _ us hl => match us, hl with | [_], _ => rfl) (fun cdv A outer s H vs Q E hr h => ?_)
  obtain ⟨r, M, R, rfl, hm, q⟩ := h
  refine ⟨_, (pss_one (ps_ret (pe_tup (pa_cons (pe_p c_start hr (by decide) (pe_p c_machine hr (by decide) (pv 0))) (pa_cons (pe_tup pa_nil) (pa_cons pe_int pa_nil)))))), ?_⟩
  obtain ⟨dx, m, ac, pa, kvs, ks, h1, h2, hh⟩ := id hm
  refine ⟨_, rfl, r, dx, _, rfl, h1, r, M, R, rfl, hm, fun m h3 => ?_⟩
  obtain ⟨dm, al, ed, en, pl, kvs2, h4, hh2⟩ := id h3
  refine ⟨m, dm, _, rfl, h4, m, M, rfl, h3, by show 0 ≤ sizeLine; exact Nat.zero_le _, fun b hb => ⟨by show 3 ≤ sizeLine; decide, fun p hp => ?_⟩⟩
  have e := sm_new hb (o := .tup [])
  have e2 := e.trans (sm_new hp (o := .tup [.str M.start, .ref b, .int 0]))
  refine q p _ e2 ⟨b, upd_same, ?_⟩
  rw [upd_ne (ne_of_none upd_same hp)]
  exact upd_same
theorem act_ok (T : Txt K mg) : Cal P w K mg base 3 "act" (spAct K) [] := by
  have c_machine := machineP_ok (P := P) (w := w) (base := base) T
  have sc : FnScope ["reader", "state", "token", "action", "word", "ahead"] ["reader", "state", "token"] (defScope s_act) := ⟨rfl, rfl, rfl, by decide +kernel, rfl, by decide +kernel, by decide +kernel⟩
  have nd := sc.nd
  refine cal_mk T.g_act T.f_act sc (fun vs H Q E h => by obtain ⟨_, _, _, _, _, _, rfl, _⟩ := h; rfl) (fun _ _ _ _ _ _ us hl => match us, hl with | [_, _, _], _ => rfl) (fun cdv A outer s H vs Q E hr h => ?_)
  obtain ⟨r, M, R, st, t, a, rfl, hm, hmv, hta, hok, q⟩ := h
  have hu := hu_of hr
  refine ⟨_, (pss_cons (pset 3 nd (pe_dget hu (pe_fld (pv 0) rfl) (pe_tup (pa_cons (pv 1) (pa_cons (pv 2) pa_nil))) (fun _ _ => rfl)))
      (pss_cons (pset 4 nd (pe_ix ix_tup (pv 3) pe_int (fun _ _ => rfl)))
      (pss_cons (ps_if (pt_cmpR op_eq (pv 4) pe_str (nomark _)) (pss_one (ps_ret (pe_tup (pa_cons (pv 1) (pa_cons (pe_tup (pa_cons pe_str (pa_cons (pv 2) pa_nil))) (pa_cons pe_bl (pa_cons pe_bl pa_nil))))))) pss_nil)
      (pss_cons (ps_if (pt_cmpR op_eq (pv 4) pe_str (nomark _)) (pss_one (ps_ret (pe_tup (pa_cons (pe_ix ix_tup (pv 3) pe_int (fun _ _ => rfl)) (pa_cons pe_non (pa_cons pe_bl (pa_cons pe_bl pa_nil))))))) pss_nil)
      (pss_cons (ps_if (pt_cmpR op_eq (pv 4) pe_str (nomark _)) (pss_cons (ps_if (pt_cmpR op_in_seq (pv 2) (pe_ix ix_tup (pv 3) pe_int (fun _ _ => rfl)) (by rfl)) (pss_one (ps_ret (pe_tup (pa_cons (pe_ix ix_tup (pv 3) pe_int (fun _ _ => rfl)) (pa_cons pe_non (pa_cons pe_bl (pa_cons pe_bl pa_nil))))))) pss_nil)
      (pss_one (ps_ret (pe_tup (pa_cons (pe_ix ix_tup (pv 3) pe_int (fun _ _ => rfl)) (pa_cons (pe_tup (pa_cons pe_str (pa_cons (pv 2) pa_nil))) (pa_cons pe_bl (pa_cons pe_bl pa_nil)))))))) pss_nil)
      (pss_cons (pset 5 nd (pe_dget hu (pe_fld (pe_p c_machine hr (by decide) (pv 0)) rfl) (pe_tup (pa_cons (pv 1) (pa_cons (pe_ix ix_tup (pv 3) pe_int (fun _ _ => rfl)) pa_nil))) (fun _ _ => rfl)))
      (pss_cons (ps_if (pt_cmpR op_eq (pv 4) pe_str (nomark _)) (pss_one (ps_ret (pe_tup (pa_cons (pv 5) (pa_cons (pe_tup (pa_cons pe_str (pa_cons (pe_ix ix_tup (pv 3) pe_int (fun _ _ => rfl)) pa_nil))) (pa_cons pe_bl (pa_cons pe_bl pa_nil))))))) pss_nil)
      (pss_one (ps_ret (pe_tup (pa_cons (pv 5) (pa_cons (pe_tup (pa_cons pe_str (pa_cons (pv 2) (pa_cons (pe_ix ix_tup (pv 3) pe_int (fun _ _ => rfl)) pa_nil)))) (pa_cons pe_bl (pa_cons pe_bl pa_nil)))))))))))))), ?_⟩
  obtain ⟨dx, m, ac, pa, kvs, ks, h1, h2, h3, h4, h5⟩ := id hm
  obtain ⟨aa, hva, haa⟩ := h4.val _ _ _ hta
  refine ⟨_, rfl, r, _, dx, _, _, rfl, h1, T.cl_Reader, T.n_Reader_actions, rfl, _, rfl, _, rfl, by show 2 ≤ sizeLine; decide, fun b hb => ?_⟩
  have e1 := sm_new hb (o := .tup [.str st, .str t])
  have hdg := dg (.inl (e1 _ _ h3)) (upd_same (H := H) (a := b) (o := .tup [.str st, .str t]))
  rw [hva] at hdg
  refine ⟨ac, _, rfl, hdg, ?_⟩
  have haa1 := haa.mono e1
  cases a with
  | skip =>
    refine ⟨_, rfl, aa, _, _, _, rfl, rfl, SqT.of haa1, rfl, ?_⟩
    refine ⟨_, rfl, rfl, _, rfl, wT ?_⟩
    refine ⟨_, rfl, _, rfl, by show 2 ≤ sizeLine; decide, fun c hc => ⟨by show 4 ≤ sizeLine; decide, fun p hp => ?_⟩⟩
    exact q p _ _ ((e1.trans (sm_new hc)).trans (sm_new hp)) upd_same
  | put x =>
    obtain ⟨s2, hs2⟩ := hok x (.inl rfl)
    refine ⟨_, rfl, aa, _, _, _, rfl, rfl, SqT.of haa1, rfl, ?_⟩
    refine ⟨_, rfl, rfl, _, rfl, wF (by decide) ?_⟩
    refine ⟨_, rfl, rfl, _, rfl, wF (by decide) ?_⟩
    refine ⟨_, rfl, rfl, _, rfl, wF (by decide) ?_⟩
    refine ⟨_, rfl, r, dx, _, rfl, e1 _ _ h1, r, M, R, rfl, hm.mono e1, fun m2 hm2 => ?_⟩
    obtain ⟨dm, al, ed, en, pl, kvs2, g1, g2, g3, g4, _⟩ := hm2
    refine ⟨m2, _, dm, _, _, rfl, g1, T.cl_Machine, T.n_Machine_edges, rfl, _, rfl, _, rfl, aa, _, _, _, rfl, rfl, SqT.of haa1, rfl, by show 2 ≤ sizeLine; decide, fun b2 hb2 => ?_⟩
    have e2 := sm_new hb2 (o := .tup [.str st, .str x])
    have hdg2 := dg (.inl (e2 _ _ g3)) (upd_same (H := _) (a := b2) (o := .tup [.str st, .str x]))
    have hmx : M.mv st x = some s2 := by rw [← h5]; exact hs2
    rw [g4.val, hmx] at hdg2
    refine ⟨ed, _, rfl, hdg2, ?_⟩
    have haa2 := haa1.mono e2
    refine ⟨_, rfl, rfl, _, rfl, wT ?_⟩
    refine ⟨_, rfl, _, rfl, aa, _, _, _, rfl, rfl, SqT.of haa2, rfl, by show 2 ≤ sizeLine; decide, fun c hc => ⟨by show 4 ≤ sizeLine; decide, fun p hp => ?_⟩⟩
    refine q p (.ref c) _ (((e1.trans e2).trans (sm_new hc)).trans (sm_new hp)) ?_
    have z : (R.mv st x).getD st = s2 := by rw [hs2] <;> rfl
    show _ = some (HO.tup [.str ((R.mv st x).getD st), .ref c, .bl false, .bl true])
    rw [z]
    exact upd_same
  | take x =>
    obtain ⟨s2, hs2⟩ := hok x (.inr rfl)
    refine ⟨_, rfl, aa, _, _, _, rfl, rfl, SqT.of haa1, rfl, ?_⟩
    refine ⟨_, rfl, rfl, _, rfl, wF (by decide) ?_⟩
    refine ⟨_, rfl, rfl, _, rfl, wF (by decide) ?_⟩
    refine ⟨_, rfl, rfl, _, rfl, wF (by decide) ?_⟩
    refine ⟨_, rfl, r, dx, _, rfl, e1 _ _ h1, r, M, R, rfl, hm.mono e1, fun m2 hm2 => ?_⟩
    obtain ⟨dm, al, ed, en, pl, kvs2, g1, g2, g3, g4, _⟩ := hm2
    refine ⟨m2, _, dm, _, _, rfl, g1, T.cl_Machine, T.n_Machine_edges, rfl, _, rfl, _, rfl, aa, _, _, _, rfl, rfl, SqT.of haa1, rfl, by show 2 ≤ sizeLine; decide, fun b2 hb2 => ?_⟩
    have e2 := sm_new hb2 (o := .tup [.str st, .str x])
    have hdg2 := dg (.inl (e2 _ _ g3)) (upd_same (H := _) (a := b2) (o := .tup [.str st, .str x]))
    have hmx : M.mv st x = some s2 := by rw [← h5]; exact hs2
    rw [g4.val, hmx] at hdg2
    refine ⟨ed, _, rfl, hdg2, ?_⟩
    have haa2 := haa1.mono e2
    refine ⟨_, rfl, rfl, _, rfl, wF (by decide) ?_⟩
    refine ⟨_, rfl, _, rfl, _, rfl, aa, _, _, _, rfl, rfl, SqT.of haa2, rfl, by show 3 ≤ sizeLine; decide, fun c hc => ⟨by show 4 ≤ sizeLine; decide, fun p hp => ?_⟩⟩
    refine q p (.ref c) _ (((e1.trans e2).trans (sm_new hc)).trans (sm_new hp)) ?_
    have z : (R.mv st x).getD st = s2 := by rw [hs2] <;> rfl
    show _ = some (HO.tup [.str ((R.mv st x).getD st), .ref c, .bl false, .bl false])
    rw [z]
    exact upd_same
  | jump s' =>
    refine ⟨_, rfl, aa, _, _, _, rfl, rfl, SqT.of haa1, rfl, ?_⟩
    refine ⟨_, rfl, rfl, _, rfl, wF (by decide) ?_⟩
    refine ⟨_, rfl, rfl, _, rfl, wT ?_⟩
    refine ⟨_, rfl, aa, _, _, _, rfl, rfl, SqT.of haa1, rfl, by show 4 ≤ sizeLine; decide, fun p hp => ?_⟩
    exact q p _ _ (e1.trans (sm_new hp)) upd_same
  | pass ts s' =>
    obtain ⟨bt, ha1, ha2⟩ := haa1
    refine ⟨_, rfl, aa, _, _, _, rfl, rfl, SqT.of ha1, rfl, ?_⟩
    refine ⟨_, rfl, rfl, _, rfl, wF (by decide) ?_⟩
    refine ⟨_, rfl, rfl, _, rfl, wF (by decide) ?_⟩
    refine ⟨_, rfl, rfl, _, rfl, wT ?_⟩
    refine ⟨_, rfl, _, rfl, aa, _, _, _, rfl, rfl, SqT.of ha1, rfl, bt, _, rfl, .inr (SqT.of ha2), rfl, flat_strs _, _, rfl, ?_⟩
    show (if inV (.str t) (ts.map V.str) = true then _ else _)
    rw [inV_strs]
    refine ite2 (fun z => ?_) (fun z => ?_)
    · refine ⟨_, rfl, aa, _, _, _, rfl, rfl, SqT.of ha1, rfl, by show 4 ≤ sizeLine; decide, fun p hp => ?_⟩
      refine q p .non _ (e1.trans (sm_new hp)) ?_
      have z2 : actD R st t (.pass ts s') = (s', false, true) := if_pos (of_decide_eq_true z)
      rw [z2]
      exact upd_same
    · refine ⟨_, rfl, aa, _, _, _, rfl, rfl, SqT.of ha1, rfl, _, rfl, by show 2 ≤ sizeLine; decide, fun c hc => ⟨by show 4 ≤ sizeLine; decide, fun p hp => ?_⟩⟩
      refine q p (.ref c) _ ((e1.trans (sm_new hc)).trans (sm_new hp)) ?_
      have z2 : actD R st t (.pass ts s') = (s', true, false) := if_neg (fun q => z (decide_eq_true q))
      rw [z2]
      exact upd_same
theorem finish_ok (T : Txt K mg) : Cal P w K mg base 3 "finish" (spFinish K) [] := by
  have c_machine := machineP_ok (P := P) (w := w) (base := base) T
  have sc : FnScope ["reader", "configuration"] ["reader", "configuration"] (defScope s_finish) := ⟨rfl, rfl, rfl, by decide +kernel, rfl, by decide +kernel, by decide +kernel⟩
  have nd := sc.nd
  refine cal_mk T.g_finish T.f_finish sc (fun vs H Q E h => by obtain ⟨_, _, _, _, _, rfl, _⟩ := h; rfl) (fun _ _ _ _ _ _ us hl => match us, hl with | [_, _], _ => rfl) (fun cdv A outer s H vs Q E hr h => ?_)
  obtain ⟨r, c, M, R, cf, rfl, hm, hc, q⟩ := h
  refine ⟨_, (pss_cons (ps_if (pt_cmpR op_in_seq (pe_ix ix_tup (pv 1) pe_int (fun _ _ => rfl)) (pe_fld (pe_p c_machine hr (by decide) (pv 0)) rfl) (by rfl)) (pss_one (ps_ret (pe_tup (pa_cons pe_int (pa_cons pe_int pa_nil))))) pss_nil)
      (pss_one (ps_ret (pe_tup (pa_cons (pe_callTy call_int1 (by rfl) T.b_int (by decide +kernel) (pa_cons (pe_cmpR op_eq (pe_ix ix_tup (pv 1) pe_int (fun _ _ => rfl)) pe_int (nomark _)) pa_nil)) (pa_cons pe_int pa_nil)))))), ?_⟩
  obtain ⟨dx, m, ac, pa, kvs, ks, h1, h2, hh⟩ := id hm
  obtain ⟨bw, c1, c2⟩ := id hc
  refine ⟨_, rfl, c, _, _, _, rfl, rfl, SqT.of c1, rfl, _, rfl, r, dx, _, rfl, h1, r, M, R, rfl, hm, fun m2 hm2 => ?_⟩
  obtain ⟨dm, al, ed, en, pl, kvs2, g1, g2, g3, g4, g5, g6⟩ := hm2
  refine ⟨m2, _, dm, _, _, rfl, g1, T.cl_Machine, T.n_Machine_ending, rfl, en, _, rfl, .inl (SqL.of g5), rfl, flat_strs _, _, rfl, ?_⟩
  show (if inV (.str cf.st) (M.fins.map V.str) = true then _ else _)
  rw [inV_strs]
  refine ite2 (fun z => ?_) (fun z => ?_)
  · refine ⟨by show 2 ≤ sizeLine; decide, fun p hp => q p _ (sm_new hp) ?_⟩
    rw [if_pos (of_decide_eq_true z), if_pos (of_decide_eq_true z)]
    exact upd_same
  · have z2 : ¬ cf.st ∈ M.fins := fun y => z (decide_eq_true y)
    refine ⟨_, rfl, c, _, _, _, rfl, rfl, SqT.of c1, rfl, rfl, .inr ⟨_, rfl, by show 2 ≤ sizeLine; decide, fun p hp => q p _ (sm_new hp) ?_⟩⟩
    rw [if_neg z2, if_neg z2, upd_same]
    have z3 : (if (decide (V.int (cf.q : Nat) = V.int 0)) = true then (1 : Int) else 0) = if cf.q = 0 then 1 else 0 := by
      by_cases e : cf.q = 0
      · rw [if_pos e, if_pos (decide_eq_true (by rw [e]; rfl))]
      · rw [if_neg e, if_neg (fun y => e (by
          have := of_decide_eq_true y
          injection this with this
          omega))]
    rw [z3]
end
end Far

set_option Elab.async false
set_option linter.all false
set_option maxRecDepth 100000
set_option maxHeartbeats 4000000
/-! FarRead2: work, take -/
namespace Far
open PySem PySem.Spec PyProof.Rows L2 Fz
def EvAt (H : Hp) (b : Addr) (w : Str) : Prop := ∃ s x, H b = some (.tup [.str s, .str w, x])
theorem EvAt.mono {H H' : Hp} {b : Addr} {w : Str} (e : Same H H') (h : EvAt H b w) : EvAt H' b w := by
  obtain ⟨s, x, h⟩ := h
  exact ⟨s, x, e _ _ h⟩
theorem EvAt.keep {H : Hp} {b l : Addr} {w : Str} {xs : List V} {o : HO} (hl : H l = some (.lst xs)) (h : EvAt H b w) : EvAt (upd H l o) b w := by
  obtain ⟨s, x, h⟩ := h
  refine ⟨s, x, ?_⟩
  rw [upd_ne (ne_of h hl (fun z => by cases z))]
  exact h
abbrev Evs := List (Addr × Str)
def MENDSL : List Str := ["over", "skip", "put", "take", "jump", "pass"]
def fixes (ws : List Str) : Nat := (ws.filter fun x => decide (x ∈ MENDSL)).length
theorem fixes_add (a b : List Str) : fixes (a ++ b) = fixes a + fixes b := by
  unfold fixes
  rw [List.filter_append, List.length_append]
def workD (R : FRd Str) (s : Str) (wt : List Str) (t : Str) : Str × List Str × Nat × Bool :=
  if wt ≠ [] ∧ t ∉ wt then (s, wt, 1, false) else ((look R t 8 s).1, (look R t 8 s).2.1, (look R t 8 s).2.2, decide (0 < (look R t 8 s).2.2))
def spWork (K : PySem.W.Frag) : Sp := fun vs H Q _ => ∃ (r wb : Addr) (M : MD) (R : FRd Str) (S T : List Str) (W : List (List Str)) (s t : Str) (wt : List Str), vs = [.ref r, .str s, .ref wb, .str t] ∧ RdrAt K H r M R ∧ RdOk R S T W ∧ H wb = some (.tup (wt.map .str)) ∧ s ∈ S ∧ t ∈ T ∧
  ∀ (p wb' ev : Addr) (es : Evs) (H' : Hp), Same H H' → H' p = some (.tup [.str (workD R s wt t).1, .ref wb', .ref ev]) → H' wb' = some (.tup ((workD R s wt t).2.1.map .str)) → H' ev = some (.lst (es.map fun e => V.ref e.1)) → (∀ e ∈ es, EvAt H' e.1 e.2) → es.length ≤ 30 →
    fixes (es.map (·.2)) = (workD R s wt t).2.2.1 → (("error" : Str) ∈ es.map (·.2) ↔ (workD R s wt t).2.2.2 = true) → Q (.ref p) H'
def actWord : FAct Str → Str
  | .skip => "skip"
  | .put _ => "put"
  | .take _ => "take"
  | .jump _ => "jump"
  | .pass _ _ => "pass"
theorem act_word {H : Hp} {a : Addr} {c : FAct Str} (h : ActAt H a c) : ∃ xs, H a = some (.tup (.str (actWord c) :: xs)) := by
  cases c with
  | skip => exact ⟨_, h⟩
  | put x => exact ⟨_, h⟩
  | take x => exact ⟨_, h⟩
  | jump x => exact ⟨_, h⟩
  | pass ts x =>
    obtain ⟨b, h, _⟩ := h
    exact ⟨_, h⟩
theorem word_mends (c : FAct Str) : fixes [actWord c] = 1 ∧ ("error" : Str) ≠ actWord c := by
  cases c with
  | skip => exact ⟨(by decide +kernel : fixes ["skip"] = 1), (by decide : ("error" : Str) ≠ "skip")⟩
  | put x => exact ⟨(by decide +kernel : fixes ["put"] = 1), (by decide : ("error" : Str) ≠ "put")⟩
  | take x => exact ⟨(by decide +kernel : fixes ["take"] = 1), (by decide : ("error" : Str) ≠ "take")⟩
  | jump x => exact ⟨(by decide +kernel : fixes ["jump"] = 1), (by decide : ("error" : Str) ≠ "jump")⟩
  | pass ts x => exact ⟨(by decide +kernel : fixes ["pass"] = 1), (by decide : ("error" : Str) ≠ "pass")⟩
def workW (r wb ev ed : Addr) (R : FRd Str) (S : List Str) (s0 t : Str) (H2 : Hp) : Nat → L2.St → Hp → Prop := fun m σ H' => ∃ (s : Str) (i : Nat) (es : Evs) (v6 v7 v8 v9 : Option V), m = dep R t 8 s ∧
  σ = [some (.ref r), some (.str s), some (.ref wb), some (.str t), some (.ref ev), some (.ref ed), v6, v7, v8, v9] ∧ Ex [ev] H2 H' ∧ H' ev = some (.lst (es.map fun e => V.ref e.1)) ∧ (∀ e ∈ es, EvAt H' e.1 e.2) ∧ s ∈ S ∧ chs R t s0 i = some s ∧ i + dep R t 8 s ≤ 8 ∧ es.length ≤ 1 + 2 * i ∧
  fixes (es.map (·.2)) = i ∧ (("error" : Str) ∈ es.map (·.2) ↔ 0 < i)
theorem dep_le (R : FRd Str) (t : Str) : ∀ n s, dep R t n s ≤ n
  | 0, s => Nat.le_refl _
  | n + 1, s => by
    unfold dep
    split
    · exact Nat.succ_le_succ (dep_le R t n _)
    · exact Nat.zero_le _
section
variable {P : Program} {w : World} {K : PySem.W.Frag} {mg : Str → Option Value} {base : Heap}
theorem work_ok (T : Txt K mg) : Cal P w K mg base 4 "work" (spWork K) [] := by
  have c_machine := machineP_ok (P := P) (w := w) (base := base) T
  have c_act := act_ok (P := P) (w := w) (base := base) T
  have sc : FnScope ["reader", "state", "waiting", "token", "events", "edges", "action", "edit", "waits", "again"] ["reader", "state", "waiting", "token"] (defScope s_work) := ⟨rfl, rfl, rfl, by decide +kernel, rfl, by decide +kernel, by decide +kernel⟩
  have nd := sc.nd
  refine cal_mk T.g_work T.f_work sc (fun vs H Q E h => by obtain ⟨_, _, _, _, _, _, _, _, _, _, rfl, _⟩ := h; rfl) (fun _ _ _ _ _ _ us hl => match us, hl with | [_, _, _, _], _ => rfl) (fun cdv A outer s H vs Q E hr h => ?_)
  obtain ⟨r, wb, M, R, S, Tk, W, s0, t, wt, rfl, hm, ok, hwb, hsS, htT, q⟩ := h
  have hu := hu_of hr
  refine ⟨_, (C8.pss_cut (ps_if (PW.pt (pw_and (pt_truth (pv 2) (by intro _; rfl)) (pw_and1 (pt_cmpR op_notIn_seq (pv 3) (pv 2) (by rfl))))) (pss_one (ps_ret (pe_tup (pa_cons (pv 1) (pa_cons (pv 2) (pa_cons (pe_lst (pa_cons (pe_tup (pa_cons (pv 1) (pa_cons pe_str (pa_cons (pe_tup (pa_cons pe_str (pa_cons (pv 3) pa_nil))) pa_nil)))) pa_nil)) pa_nil)))))) pss_nil)
      (pss_cons (pset 4 nd (pe_lst pa_nil))
      (C8.pss_cut (ps_if (pt_truth (pv 2) (by intro _; rfl)) (pss_one (ps_expr (pe_bm PySem.F.plainAttrs_list PySem.F.slot_list_append PySem.F.type_list_append mt_append (pv 4) (pa_cons (pe_tup (pa_cons (pv 1) (pa_cons pe_str (pa_cons pe_non pa_nil)))) pa_nil)))) pss_nil)
      (pss_cons (pset 5 nd (pe_fld (pe_p c_machine hr (by decide) (pv 0)) rfl))
      (pss_cons (ps_while PassesOwn.never (pt_cmp (pc_dnotin hu (pe_tup (pa_cons (pv 1) (pa_cons (pv 3) pa_nil))) (pv 5)) (by rfl)) (pss_cons (ps_expr (pe_bm PySem.F.plainAttrs_list PySem.F.slot_list_append PySem.F.type_list_append mt_append (pv 4) (pa_cons (pe_tup (pa_cons (pv 1) (pa_cons pe_str (pa_cons pe_non pa_nil)))) pa_nil)))
      (pss_cons (pset 6 nd (pe_dget hu (pe_fld (pv 0) rfl) (pe_tup (pa_cons (pv 1) (pa_cons (pv 3) pa_nil))) (fun _ _ => rfl)))
      (pss_cons (ps_asg (C8.pe_c c_act hr (by decide) (by rfl) (pa_cons (pv 0) (pa_cons (pv 1) (pa_cons (pv 3) pa_nil)))) (pg_tup rfl (pgs_cons (pgn 1 nd) (pgs_cons (pgn 7 nd) (pgs_cons (pgn 8 nd) (pgs_cons (pgn 9 nd) pgs_nil))))))
      (pss_cons (ps_expr (pe_bm PySem.F.plainAttrs_list PySem.F.slot_list_append PySem.F.type_list_append mt_append (pv 4) (pa_cons (pe_tup (pa_cons (pv 1) (pa_cons (pe_ix ix_tup (pv 6) pe_int (fun _ _ => rfl)) (pa_cons (pv 7) pa_nil)))) pa_nil)))
      (pss_one (ps_if (pt_not (pt_truth (pv 9) (by intro _; rfl))) (pss_one (ps_ret (pe_tup (pa_cons (pv 1) (pa_cons (pe_ifExp (pt_truth (pv 8) (by intro _; rfl)) (pe_ix ix_tup (pv 6) pe_int (fun _ _ => rfl)) (pe_tup pa_nil)) (pa_cons (pv 4) pa_nil)))))) pss_nil)))))))
      (pss_cons (pset 1 nd (pe_dget hu (pv 5) (pe_tup (pa_cons (pv 1) (pa_cons (pv 3) pa_nil))) (fun _ _ => rfl)))
      (pss_cons (ps_expr (pe_bm PySem.F.plainAttrs_list PySem.F.slot_list_append PySem.F.type_list_append mt_append (pv 4) (pa_cons (pe_tup (pa_cons (pv 1) (pa_cons pe_str (pa_cons (pe_tup (pa_cons pe_str (pa_cons (pv 3) pa_nil))) pa_nil)))) pa_nil)))
      (pss_one (ps_ret (pe_tup (pa_cons (pv 1) (pa_cons (pe_tup pa_nil) (pa_cons (pv 4) pa_nil))))))))))))), ?_⟩
  refine ⟨fun σ' H' => σ' = [some (.ref r), some (.str s0), some (.ref wb), some (.str t), none, none, none, none, none, none] ∧ H' = H ∧ ¬ (wt ≠ [] ∧ t ∉ wt), ?_, ?_⟩
  · refine ⟨_, rfl, !(wt.map V.str).isEmpty, .inr (.inl ⟨_, SqT.of hwb, rfl⟩), ?_⟩
    by_cases hw : wt ≠ [] ∧ t ∉ wt
    · have hD : workD R s0 wt t = (s0, wt, 1, false) := if_pos hw
      have h1 : (!(wt.map V.str).isEmpty) = true := by
        cases wt with
        | nil => exact absurd rfl hw.1
        | cons a l => rfl
      rw [h1]
      refine iteT ⟨_, rfl, _, rfl, wb, _, rfl, .inr (SqT.of hwb), rfl, flat_strs _, _, rfl, ?_⟩
      show (if (!inV (.str t) (wt.map V.str)) = true then _ else _)
      rw [inV_strs, decide_eq_false hw.2]
      refine iteT ⟨_, rfl, _, rfl, _, rfl, _, rfl, by show 2 ≤ sizeLine; decide, fun b hb => ⟨by show 3 ≤ sizeLine; decide, fun c hc => ⟨by show 1 ≤ sizeLine; decide, fun ev hev => ⟨by show 3 ≤ sizeLine; decide, fun p hp => ?_⟩⟩⟩⟩
      have e1 := sm_new hb (o := .tup [.str "drop", .str t])
      have e2 := sm_new hc (o := .tup [.str s0, .str "over", .ref b])
      have e3 := sm_new hev (o := .lst [.ref c])
      have e4 := sm_new hp (o := .tup [.str s0, .ref wb, .ref ev])
      refine q p wb ev [(c, "over")] _ (((e1.trans e2).trans e3).trans e4) ?_ ?_ ?_ ?_ ?_ ?_ ?_
      · rw [hD]
        exact upd_same
      · rw [hD]
        exact (((e1.trans e2).trans e3).trans e4) _ _ hwb
      · exact e4 _ _ upd_same
      · intro e he
        rw [List.mem_singleton.mp he]
        exact ⟨s0, .ref b, (e3.trans e4) _ _ upd_same⟩
      · show 1 ≤ 30
        decide
      · rw [hD]
        show fixes [("over" : Str)] = 1
        decide +kernel
      · rw [hD]
        refine ⟨fun z => ?_, fun z => by cases z⟩
        have z2 := List.mem_singleton.mp z
        exact absurd z2 (show ¬ ("error" : Str) = "over" by decide)
    · cases wt with
      | nil => exact iteF (iteF ⟨rfl, rfl, hw⟩)
      | cons a l =>
        have hin : t ∈ a :: l := Classical.byContradiction fun z => hw ⟨(fun z2 => by cases z2), z⟩
        refine iteT ⟨_, rfl, _, rfl, wb, _, rfl, .inr (SqT.of hwb), rfl, flat_strs _, _, rfl, ?_⟩
        show (if (!inV (.str t) ((a :: l).map V.str)) = true then _ else _)
        rw [inV_strs, decide_eq_true hin]
        exact iteF ⟨rfl, rfl, hw⟩
  rintro σ1 H1 ⟨rfl, rfl, hw⟩
  have hD : workD R s0 wt t = ((look R t 8 s0).1, (look R t 8 s0).2.1, (look R t 8 s0).2.2, decide (0 < (look R t 8 s0).2.2)) := if_neg hw
  refine ⟨by show 0 ≤ sizeLine; exact Nat.zero_le _, fun ev hev => ?_⟩
  have e1 := sm_new hev (o := .lst [])
  refine ⟨fun σ' H' => σ' = [some (.ref r), some (.str s0), some (.ref wb), some (.str t), some (.ref ev), none, none, none, none, none] ∧ Same H1 H' ∧ ∃ es : Evs, H' ev = some (.lst (es.map fun e => V.ref e.1)) ∧ (∀ e ∈ es, EvAt H' e.1 e.2) ∧ es.length ≤ 1 ∧ fixes (es.map (·.2)) = 0 ∧ ("error" : Str) ∉ es.map (·.2), ?_, ?_⟩
  · refine ⟨_, rfl, !(wt.map V.str).isEmpty, .inr (.inl ⟨_, SqT.of (e1 _ _ hwb), rfl⟩), ite2 (fun _ => ?_) (fun _ => ?_)⟩
    · refine ⟨_, rfl, .inl ⟨rfl, _, SqL.of upd_same⟩, _, rfl, by show 3 ≤ sizeLine; decide, fun b hb => ⟨ev, [], .ref b, rfl, rfl, ?_, by show 0 < sizeLine; decide, rfl, ?_, [(b, "found")], ?_, ?_, Nat.le_refl _, (by decide +kernel : fixes ["found"] = 0), (by decide : ¬ ("error" : Str) ∈ [("found" : Str)])⟩⟩
      · exact sm_new hb _ _ upd_same
      · exact sm_mut (e1.trans (sm_new hb)) hev
      · exact upd_same
      · intro e he
        rw [List.mem_singleton.mp he]
        refine EvAt.keep (sm_new hb _ _ upd_same) ⟨s0, .non, upd_same⟩
    · exact ⟨rfl, e1, [], upd_same, fun e he => (by cases he), Nat.zero_le _, rfl, fun z => by cases z⟩
  rintro σ2 H2 ⟨rfl, e2, es0, hev2, hes0, hl0, hf0, hn0⟩
  obtain ⟨dx, m0, ac, pa, kvs, ks, h1, _, h3, h4, h5⟩ := id (hm.mono e2)
  refine ⟨_, rfl, r, dx, _, rfl, h1, r, M, R, rfl, hm.mono e2, fun m2 hm2 => ?_⟩
  obtain ⟨dm, al, ed, en, pl, kvs2, g1, g2, g3, g4, _⟩ := hm2
  refine ⟨m2, _, dm, _, _, rfl, g1, T.cl_Machine, T.n_Machine_edges, rfl, ?_⟩
  have hen : ends R t 8 s0 = true := ok.fin _ hsS _ htT
  have nev : ∀ {b : Addr} {o : HO}, H2 b = some o → (∀ xs, o ≠ .lst xs) → b ∉ [ev] := fun {b o} hb hne hz => by
    rw [List.mem_singleton.mp hz, hev2] at hb
    exact hne _ (Option.some.inj hb).symm
  have back : ∀ {H' : Hp}, Ex [ev] H2 H' → Same H1 H' := fun x => ex_same e2 x fun b hb => by rw [List.mem_singleton.mp hb]; exact hev
  refine ⟨workW r wb ev ed R S s0 t H2, ⟨dep R t 8 s0, s0, 0, es0, none, none, none, none, rfl, rfl, Ex.refl _ _, hev2, hes0, hsS, rfl, by have := dep_le R t 8 s0; omega, by omega, hf0, ⟨fun z => absurd z hn0, fun z => absurd z (Nat.lt_irrefl _)⟩⟩, ?_⟩
  rintro m σ H3 ⟨st, i, es, v6, v7, v8, v9, rfl, rfl, x3, hev3, hes3, hstS, hch, hdep, hl3, hf3, hn3⟩
  obtain ⟨hend, hlook⟩ := look_chs hen i st hch
  refine ⟨_, rfl, _, rfl, by show 2 ≤ sizeLine; decide, fun b hb => ?_⟩
  have xb := x3.trans (Ex.of (L := [ev]) (sm_new hb (o := .tup [.str st, .str t])))
  have g3b := xb.get (nev g3 fun _ z => nomatch z) g3
  have hdg := dg (.inl g3b) (upd_same (H := H3) (a := b) (o := .tup [.str st, .str t]))
  rw [g4.val, ← h5] at hdg
  have hevb := sm_new hb (o := .tup [.str st, .str t]) _ _ hev3
  refine ⟨_, rfl, ed, _, rfl, hdg, _, rfl, ?_⟩
  have hesb : ∀ e ∈ es, EvAt (upd H3 b (.tup [.str st, .str t])) e.1 e.2 := fun e he => (hes3 e he).mono (sm_new hb)
  generalize upd H3 b (.tup [.str st, .str t]) = H4 at xb g3b hevb hesb ⊢
  cases hmv : R.mv st t with
  | none =>
    obtain ⟨a, hta⟩ := ok.tot _ hstS _ htT hmv
    refine iteT ⟨fun σ' H' => ∃ m', m' < dep R t 8 st ∧ workW r wb ev ed R S s0 t H2 m' σ' H', fun _ _ z => z, ?_⟩
    have hll : (es.map fun e => V.ref e.1).length < 30 := by
      have := hdep
      rw [List.length_map]
      omega
    -- events.append((state, 'error', None))
    refine ⟨_, rfl, .inl ⟨rfl, _, SqL.of hevb⟩, _, rfl, by show 3 ≤ sizeLine; decide, fun c hc => ⟨ev, _, .ref c, rfl, rfl, sm_new hc _ _ hevb, by rw [sizeLine_eq]; omega, ?_⟩⟩
    have xc := (xb.trans (Ex.of (L := [ev]) (sm_new hc (o := .tup [.str st, .str "error", .non])))).upd (d := ev) (o := .lst ((es.map fun e => V.ref e.1) ++ [.ref c])) (by simp)
    have hevc := upd_same (H := upd H4 c (.tup [.str st, .str "error", .non])) (a := ev) (o := .lst ((es.map fun e => V.ref e.1) ++ [.ref c]))
    have hesc : ∀ e ∈ es ++ [(c, ("error" : Str))], EvAt (upd (upd H4 c (.tup [.str st, .str "error", .non])) ev (.lst ((es.map fun e => V.ref e.1) ++ [.ref c]))) e.1 e.2 := fun e he => by
      refine EvAt.keep (sm_new hc _ _ hevb) ?_
      rcases List.mem_append.mp he with z | z
      · exact (hesb e z).mono (sm_new hc)
      · rw [List.mem_singleton.mp z]
        exact ⟨st, .non, upd_same⟩
    generalize upd (upd H4 c (.tup [.str st, .str "error", .non])) ev (.lst ((es.map fun e => V.ref e.1) ++ [.ref c])) = H5 at xc hevc hesc ⊢
    have sm5 := back xc
    -- action = reader.actions[state, token]
    obtain ⟨aa, hva, haa⟩ := (h4.val _ _ _ hta)
    refine ⟨_, rfl, r, _, dx, _, _, rfl, xc.get (nev h1 fun _ z => nomatch z) h1, T.cl_Reader, T.n_Reader_actions, rfl, _, rfl, _, rfl, by show 2 ≤ sizeLine; decide, fun b3 hb3 => ?_⟩
    have e6 := sm_new hb3 (o := .tup [.str st, .str t])
    have hdg2 := dg (.inl (e6 _ _ (xc.get (nev h3 fun _ z => nomatch z) h3))) (upd_same (H := H5) (a := b3) (o := .tup [.str st, .str t]))
    rw [hva] at hdg2
    refine ⟨ac, _, rfl, hdg2, ?_⟩
    have hact : ActAt H5 aa a := by
      cases a with
      | skip => exact xc.get (nev haa fun _ z => nomatch z) haa
      | put x => exact xc.get (nev haa fun _ z => nomatch z) haa
      | take x => exact xc.get (nev haa fun _ z => nomatch z) haa
      | jump x => exact xc.get (nev haa fun _ z => nomatch z) haa
      | pass ts x =>
        obtain ⟨bt, z1, z2⟩ := haa
        exact ⟨bt, xc.get (nev z1 fun _ z => nomatch z) z1, xc.get (nev z2 fun _ z => nomatch z) z2⟩
    -- act
    refine ⟨_, rfl, _, rfl, _, rfl, r, M, R, st, t, a, rfl, hm.mono (sm5.trans e6), hmv, hta, fun x hx => ?_, fun p e H6 e7 hp6 => ?_⟩
    · rcases hx with z | z
      · exact ok.put _ _ _ (by rw [hta, z])
      · exact ok.tak _ _ _ (by rw [hta, z])
    have e67 := e6.trans e7
    have hact6 := hact.mono e67
    obtain ⟨xs, hwd⟩ := act_word hact6
    have hev6 := e67 _ _ hevc
    refine ⟨p, _, rfl, SqT.of hp6, rfl, _, _, rfl, _, _, rfl, _, _, rfl, _, _, rfl, rfl, ?_⟩
    -- events.append((state, action[0], edit))
    refine ⟨_, rfl, .inl ⟨rfl, _, SqL.of hev6⟩, _, rfl, _, rfl, aa, _, _, _, rfl, rfl, SqT.of hwd, at_of (j := 0) rfl rfl, _, rfl, by show 3 ≤ sizeLine; decide, fun c2 hc2 => ⟨ev, _, .ref c2, rfl, rfl, sm_new hc2 _ _ hev6, by rw [List.length_append, sizeLine_eq]; show _ + 1 < _; omega, ?_⟩⟩
    have x7 := ((xc.trans (Ex.of (L := [ev]) e67)).trans (Ex.of (L := [ev]) (sm_new hc2 (o := .tup [.str (actD R st t a).1, .str (actWord a), e])))).upd (d := ev) (o := .lst ((es.map fun e => V.ref e.1) ++ [.ref c] ++ [.ref c2])) (by simp)
    have hev7 := upd_same (H := upd H6 c2 (.tup [.str (actD R st t a).1, .str (actWord a), e])) (a := ev) (o := .lst ((es.map fun e => V.ref e.1) ++ [.ref c] ++ [.ref c2]))
    have hes7 : ∀ e0 ∈ es ++ [(c, ("error" : Str)), (c2, actWord a)], EvAt (upd (upd H6 c2 (.tup [.str (actD R st t a).1, .str (actWord a), e])) ev (.lst ((es.map fun e => V.ref e.1) ++ [.ref c] ++ [.ref c2]))) e0.1 e0.2 := fun e0 he => by
      refine EvAt.keep (sm_new hc2 _ _ hev6) ?_
      rw [show es ++ [(c, ("error" : Str)), (c2, actWord a)] = (es ++ [(c, ("error" : Str))]) ++ [(c2, actWord a)] by simp] at he
      rcases List.mem_append.mp he with z | z
      · exact ((hesc e0 z).mono e67).mono (sm_new hc2)
      · rw [List.mem_singleton.mp z]
        exact ⟨_, e, upd_same⟩
    have hact7 : ActAt (upd (upd H6 c2 (.tup [.str (actD R st t a).1, .str (actWord a), e])) ev (.lst ((es.map fun e => V.ref e.1) ++ [.ref c] ++ [.ref c2]))) aa a := by
      have z0 := hact6.mono (sm_new hc2 (o := .tup [.str (actD R st t a).1, .str (actWord a), e]))
      have k : ∀ {b : Addr} {xs : List V}, upd H6 c2 (.tup [.str (actD R st t a).1, .str (actWord a), e]) b = some (.tup xs) → upd (upd H6 c2 (.tup [.str (actD R st t a).1, .str (actWord a), e])) ev (.lst ((es.map fun e => V.ref e.1) ++ [.ref c] ++ [.ref c2])) b = some (.tup xs) := fun h => by
        rw [upd_ne (ne_of h (sm_new hc2 _ _ hev6) (fun z => by cases z))]
        exact h
      cases a with
      | skip => exact k z0
      | put x => exact k z0
      | take x => exact k z0
      | jump x => exact k z0
      | pass ts x =>
        obtain ⟨bt, z1, z2⟩ := z0
        exact ⟨bt, k z1, k z2⟩
    have hevl : (es.map fun e => V.ref e.1) ++ [.ref c] ++ [.ref c2] = (es ++ [(c, ("error" : Str)), (c2, actWord a)]).map fun e => V.ref e.1 := by simp
    generalize upd (upd H6 c2 (.tup [.str (actD R st t a).1, .str (actWord a), e])) ev (.lst ((es.map fun e => V.ref e.1) ++ [.ref c] ++ [.ref c2])) = H7 at x7 hev7 hes7 hact7 ⊢
    rw [hevl] at hev7
    obtain ⟨wm1, wm2⟩ := word_mends a
    have hfx : fixes ((es ++ [(c, ("error" : Str)), (c2, actWord a)]).map (·.2)) = i + 1 := by
      rw [List.map_append, fixes_add, hf3]
      show i + fixes ([("error" : Str)] ++ [actWord a]) = i + 1
      rw [fixes_add, wm1, (by decide +kernel : fixes ["error"] = 0)]
    have herr : (("error" : Str) ∈ (es ++ [(c, ("error" : Str)), (c2, actWord a)]).map (·.2)) := by simp
    refine ⟨_, rfl, _, rfl, ?_⟩
    cases hag : (actD R st t a).2.2 with
    | false =>
      obtain ⟨l1, l2⟩ := actD_last hmv hta hag
      have hlk : look R t 8 s0 = ((actD R st t a).1, (if (actD R st t a).2.1 = true then tsOf a else []), i + 1) := by
        rw [hlook, look_none hend l1, l2, Nat.add_comm]
      refine iteT ?_
      have fin : ∀ (bw : Addr) (H8 : Hp), Same H7 H8 → H8 bw = some (.tup ((if (actD R st t a).2.1 = true then tsOf a else []).map .str)) → ∀ p, H8 p = none → Q (.ref p) (upd H8 p (.tup [.str (actD R st t a).1, .ref bw, .ref ev])) := fun bw H8 e8 hbw p hp => by
        have e9 := e8.trans (sm_new hp (o := .tup [.str (actD R st t a).1, .ref bw, .ref ev]))
        refine q p bw ev (es ++ [(c, ("error" : Str)), (c2, actWord a)]) _ ((back x7).trans e9) ?_ ?_ (e9 _ _ hev7) (fun e0 he => (hes7 e0 he).mono e9) (by rw [List.length_append]; show _ + 2 ≤ 30; omega) ?_ ?_
        · rw [hD, hlk]
          exact upd_same
        · rw [hD, hlk]
          exact sm_new hp _ _ hbw
        · rw [hD, hlk]
          exact hfx
        · rw [hD, hlk]
          exact ⟨fun _ => decide_eq_true (Nat.succ_pos i), fun _ => herr⟩
      refine ⟨_, rfl, _, rfl, (actD R st t a).2.1, rfl, ?_⟩
      cases hwt : (actD R st t a).2.1 with
      | true =>
        rw [hwt] at fin
        cases a with
        | pass ts x =>
          obtain ⟨bt, z1, z2⟩ := hact7
          exact iteT ⟨_, rfl, aa, _, _, _, rfl, rfl, SqT.of z1, rfl, _, rfl, by show 3 ≤ sizeLine; decide, fun p hp => fin bt H7 (Same.refl _) z2 p hp⟩
        | skip => cases hwt
        | put x => cases hwt
        | take x => cases hwt
        | jump x => cases hwt
      | false =>
        rw [hwt] at fin
        exact iteF ⟨by show 0 ≤ sizeLine; exact Nat.zero_le _, fun bw hbw => ⟨_, rfl, by show 3 ≤ sizeLine; decide, fun p hp => fin bw _ (sm_new hbw) upd_same p hp⟩⟩
    | true =>
      have hg := actD_again ok hmv hta hag
      refine iteF ⟨dep R t 8 (actD R st t a).1, by rw [dep_step hend hg]; omega, (actD R st t a).1, i + 1, es ++ [(c, ("error" : Str)), (c2, actWord a)], _, _, _, _, rfl, rfl, x7, hev7, hes7, again_in ok hg, ?_, ?_, ?_, hfx, ⟨fun _ => Nat.succ_pos i, fun _ => herr⟩⟩
      · show (chs R t s0 i).bind (again R t) = _
        rw [hch]
        exact hg
      · have z := dep_step hend hg
        omega
      · rw [List.length_append]
        show _ + 2 ≤ _
        omega
  | some s' =>
    refine iteF ?_
    obtain ⟨l1, l2⟩ := again_move hmv
    have hlk : look R t 8 s0 = (s', [], i) := by
      rw [hlook, look_none hend l1, l2, Nat.zero_add]
    -- state = edges[state, token]
    refine ⟨_, rfl, _, rfl, _, rfl, by show 2 ≤ sizeLine; decide, fun b2 hb2 => ?_⟩
    have e5 := sm_new hb2 (o := .tup [.str st, .str t])
    have hdg2 := dg (.inl (e5 _ _ g3b)) (upd_same (H := H4) (a := b2) (o := .tup [.str st, .str t]))
    rw [g4.val, ← h5, hmv] at hdg2
    refine ⟨ed, _, rfl, hdg2, ?_⟩
    have hev5 := e5 _ _ hevb
    refine ⟨_, rfl, .inl ⟨rfl, _, SqL.of hev5⟩, _, rfl, _, rfl, by show 2 ≤ sizeLine; decide, fun b4 hb4 => ⟨by show 3 ≤ sizeLine; decide, fun c hc => ⟨ev, es.map fun e => V.ref e.1, .ref c, rfl, rfl, ((sm_new hb4).trans (sm_new hc)) _ _ hev5, by rw [List.length_map, sizeLine_eq]; omega, ?_⟩⟩⟩
    have e6 := e5.trans ((sm_new hb4 (o := .tup [.str "keep", .str t])).trans (sm_new hc (o := .tup [.str s', .str "move", .ref b4])))
    have hev6 := e6 _ _ hevb
    have x7 := (xb.trans (Ex.of (L := [ev]) e6)).upd (d := ev) (o := .lst ((es.map fun e => V.ref e.1) ++ [.ref c])) (by simp)
    have hev7 := upd_same (H := upd (upd (upd H4 b2 (.tup [.str st, .str t])) b4 (.tup [.str "keep", .str t])) c (.tup [.str s', .str "move", .ref b4])) (a := ev) (o := .lst ((es.map fun e => V.ref e.1) ++ [.ref c]))
    have hes7 : ∀ e ∈ es ++ [(c, ("move" : Str))], EvAt (upd (upd (upd (upd H4 b2 (.tup [.str st, .str t])) b4 (.tup [.str "keep", .str t])) c (.tup [.str s', .str "move", .ref b4])) ev (.lst ((es.map fun e => V.ref e.1) ++ [.ref c]))) e.1 e.2 := fun e he => by
      refine EvAt.keep hev6 ?_
      rcases List.mem_append.mp he with z | z
      · exact (hesb e z).mono e6
      · rw [List.mem_singleton.mp z]
        exact ⟨s', _, upd_same⟩
    have hevl : (es.map fun e => V.ref e.1) ++ [.ref c] = (es ++ [(c, ("move" : Str))]).map fun e => V.ref e.1 := by simp
    generalize upd (upd (upd (upd H4 b2 (.tup [.str st, .str t])) b4 (.tup [.str "keep", .str t])) c (.tup [.str s', .str "move", .ref b4])) ev (.lst ((es.map fun e => V.ref e.1) ++ [.ref c])) = H7 at x7 hev7 hes7 ⊢
    rw [hevl] at hev7
    refine ⟨_, rfl, by show 0 ≤ sizeLine; exact Nat.zero_le _, fun bw hbw => ⟨_, rfl, by show 3 ≤ sizeLine; decide, fun p hp => ?_⟩⟩
    have e8 := sm_new hbw (o := .tup [])
    have e9 := e8.trans (sm_new hp (o := .tup [.str s', .ref bw, .ref ev]))
    refine q p bw ev (es ++ [(c, ("move" : Str))]) _ ((back x7).trans e9) ?_ ?_ (e9 _ _ hev7) (fun e0 he => (hes7 e0 he).mono e9) (by rw [List.length_append]; show _ + 1 ≤ 30; omega) ?_ ?_
    · rw [hD, hlk]
      exact upd_same
    · rw [hD, hlk]
      exact sm_new hp _ _ upd_same
    · rw [hD, hlk, List.map_append, fixes_add, hf3]
      show i + fixes [("move" : Str)] = i
      rw [(by decide +kernel : fixes ["move"] = 0)]
      rfl
    · rw [hD, hlk, List.map_append, List.mem_append]
      refine ⟨fun z => decide_eq_true ?_, fun z => .inl (hn3.mpr (of_decide_eq_true z))⟩
      rcases z with z | z
      · exact hn3.mp z
      · exact absurd (List.mem_singleton.mp z) (show ¬ ("error" : Str) = "move" by decide)
end
end Far

set_option Elab.async false
set_option linter.all false
set_option maxRecDepth 100000
set_option maxHeartbeats 4000000
/-! FarRead3: take -/
namespace Far
open PySem PySem.Spec PyProof.Rows L2 Fz
def spTake (K : PySem.W.Frag) : Sp := fun vs H Q _ => ∃ (r c : Addr) (M : MD) (R : FRd Str) (S T : List Str) (W : List (List Str)) (cf : FCfg Str) (t : Str), vs = [.ref r, .ref c, .str t] ∧ RdrAt K H r M R ∧ RdOk R S T W ∧ CfgAt H c cf ∧ cf.st ∈ S ∧ t ∈ T ∧
  ∀ (p c' : Addr) (H' : Hp), Same H H' → H' p = some (.tup [.ref c', .int (Fz.step R cf t).2.1, .int (Fz.step R cf t).2.2]) → CfgAt H' c' (Fz.step R cf t).1 → Q (.ref p) H'
section
variable {P : Program} {w : World} {K : PySem.W.Frag} {mg : Str → Option Value} {base : Heap}
theorem work_step (R : FRd Str) (cf : FCfg Str) (t : Str) : Fz.step R cf t = (if (workD R cf.st cf.wt t).2.2.2 = true ∧ cf.q = 0 then (⟨(workD R cf.st cf.wt t).1, (workD R cf.st cf.wt t).2.1, R.hold⟩, 1, (workD R cf.st cf.wt t).2.2.1) else (⟨(workD R cf.st cf.wt t).1, (workD R cf.st cf.wt t).2.1, cf.q - 1⟩, 0, (workD R cf.st cf.wt t).2.2.1)) := by
  unfold Fz.step workD
  by_cases h : cf.wt ≠ [] ∧ t ∉ cf.wt
  · rw [if_pos h, if_pos h]
    rfl
  · rw [if_neg h, if_neg h]
    by_cases h2 : 0 < (look R t 8 cf.st).2.2 ∧ cf.q = 0
    · rw [if_pos h2, if_pos ⟨decide_eq_true h2.1, h2.2⟩]
    · rw [if_neg h2, if_neg fun z => h2 ⟨of_decide_eq_true z.1, z.2⟩]
theorem take_ok (T : Txt K mg) : Cal P w K mg base 5 "take" (spTake K) [] := by
  have c_hold := hold_ok (P := P) (w := w) (base := base) T
  have c_work := work_ok (P := P) (w := w) (base := base) T
  have sc : FnScope ["reader", "configuration", "token", "state", "waiting", "quiet", "events", "words", "event", "many", "word"] ["reader", "configuration", "token"] (defScope s_take) := ⟨rfl, rfl, rfl, by decide +kernel, rfl, by decide +kernel, by decide +kernel⟩
  have nd := sc.nd
  refine cal_mk T.g_take T.f_take sc (fun vs H Q E h => by obtain ⟨_, _, _, _, _, _, _, _, _, rfl, _⟩ := h; rfl) (fun _ _ _ _ _ _ us hl => match us, hl with | [_, _, _], _ => rfl) (fun cdv A outer s H vs Q E hr h => ?_)
  obtain ⟨r, c, M, R, S, Tk, W, cf, t, rfl, hm, ok, hc, hsS, htT, q⟩ := h
  have hu := hu_of hr
  obtain ⟨wb, hc1, hc2⟩ := id hc
  refine ⟨_, (pss_cons (ps_asg (pv 1) (pg_tup rfl (pgs_cons (pgn 3 nd) (pgs_cons (pgn 4 nd) (pgs_cons (pgn 5 nd) pgs_nil)))))
      (pss_cons (ps_asg (C8.pe_c c_work hr (by decide) (by rfl) (pa_cons (pv 0) (pa_cons (pv 3) (pa_cons (pv 4) (pa_cons (pv 2) pa_nil))))) (pg_tup rfl (pgs_cons (pgn 3 nd) (pgs_cons (pgn 4 nd) (pgs_cons (pgn 6 nd) pgs_nil)))))
      (pss_cons (ps_setLc (i := 7) (own := [("event", 8)]) (g := gName 8) (tt := tYes) rfl nd rfl rfl (sw_true rfl rfl rfl (by decide +kernel)) (pi_list (pv 6)) (blkOk_by (own := [("event", 8)]) (N := ["reader", "configuration", "token", "state", "waiting", "quiet", "events", "words", "event", "many", "word"]) (sc := defScope s_take) (by decide +kernel)) (fun _ _ _ _ _ => (pgn 8 nd)) (fun _ _ _ _ _ => pts_nil) (fun _ _ _ _ _ => (pe_ix (ix_tupK (K := K)) (pv 8) pe_int (fun _ _ => rfl))))
      (pss_cons (pset 9 nd (pe_callB call_len_seq (by rfl) T.b_len (by decide +kernel) (pa_cons (pe_lc (own := [("word", 10)]) (g := gName 10) rfl nd (pi_list (pv 7)) (blkOk_by (own := [("word", 10)]) (N := ["reader", "configuration", "token", "state", "waiting", "quiet", "events", "words", "event", "many", "word"]) (sc := defScope s_take) (by decide +kernel)) (fun _ _ _ _ _ => (pgn 10 nd)) (fun _ _ _ _ _ => (pts_one (pt_cmpR (op_inK (K := K)) (pv 10) (pe_glob (v := .ref (He.ga K "MENDS")) (by rfl) T.g_MENDS rfl) (by rfl)))) (fun _ _ _ _ _ => (pv 10))) pa_nil)))
      (pss_cons (ps_if (PW.pt (pw_and (pt_cmpR op_in_seq pe_str (pv 7) (by rfl)) (pw_and1 (pt_cmpR op_eq (pv 5) pe_int (nomark _))))) (pss_one (ps_ret (pe_tup (pa_cons (pe_tup (pa_cons (pv 3) (pa_cons (pv 4) (pa_cons (pe_p c_hold hr (by decide) (pv 0)) pa_nil)))) (pa_cons pe_int (pa_cons (pv 9) pa_nil)))))) pss_nil)
      (pss_one (ps_ret (pe_tup (pa_cons (pe_tup (pa_cons (pv 3) (pa_cons (pv 4) (pa_cons (pe_callB (call_max2 rfl) (by rfl) T.b_max (by decide +kernel) (pa_cons (pe_op op_sub (pv 5) pe_int) (pa_cons pe_int pa_nil))) pa_nil)))) (pa_cons pe_int (pa_cons (pv 9) pa_nil))))))))))), ?_⟩
  refine ⟨_, rfl, c, _, rfl, SqT.of hc1, rfl, _, _, rfl, _, _, rfl, _, _, rfl, rfl, ?_⟩
  refine ⟨_, rfl, _, rfl, _, rfl, _, rfl, r, wb, M, R, S, Tk, W, cf.st, t, cf.wt, rfl, hm, ok, hc2, hsS, htT, fun p wb' ev es H1 e1 hp hwb' hev hes hl hfx herr => ?_⟩
  refine ⟨p, _, rfl, SqT.of hp, rfl, _, _, rfl, _, _, rfl, _, _, rfl, rfl, ?_⟩
  have hl2 : ∀ {α : Type} (f : Addr × Str → α), (es.map f).length < sizeLine := fun f => by
    rw [List.length_map, sizeLine_eq]
    omega
  -- words
  refine ⟨_, rfl, ev, rfl, ⟨_, SqL.of hev⟩, fun D hD => lc_it walk_list (fun i H' => Same H1 H' ∧ H' D = some (.lst (((es.map (·.2)).take i).map V.str))) ⟨sm_new hD, upd_same⟩ (fun i H' _ p => SqL.of (p.1 _ _ hev)) ?_ ?_⟩
  · rintro i x H5 H6 hi ⟨e, hD5⟩ ⟨rfl, hx⟩
    obtain ⟨e0, he0, rfl⟩ := get_map hx
    obtain ⟨s0, x0, hev0⟩ := (hes e0 (List.mem_of_getElem? he0)).mono e
    refine ⟨rfl, _, rfl, e0.1, _, _, _, rfl, rfl, SqT.of hev0, rfl, _, hD5, ?_, sm_mut e hD, ?_⟩
    · rw [List.length_map, List.length_take, List.length_map, sizeLine_eq]
      omega
    · rw [upd_same, take_snoc (x := e0.2) (by rw [List.getElem?_map, he0]; rfl), List.map_append] <;> rfl
  rintro H2 ⟨e2, hD2⟩
  rw [List.take_of_length_le (by rw [List.length_map, List.length_map]; exact Nat.le_refl _)] at hD2
  -- many
  refine ⟨_, rfl, D, rfl, ⟨_, SqL.of hD2⟩, fun D3 hD3 => lc_it walk_list (fun i H' => Same H2 H' ∧ H' D3 = some (.lst ((((es.map (·.2)).take i).filter fun x => decide (x ∈ MENDSL)).map V.str))) ⟨sm_new hD3, upd_same⟩ (fun i H' _ p => SqL.of (p.1 _ _ hD2)) ?_ ?_⟩
  · rintro i x H5 H6 hi ⟨e, hD5⟩ ⟨rfl, hx⟩
    obtain ⟨w0, hw0, rfl⟩ := maps_get hx
    refine ⟨rfl, _, rfl, _, _, rfl, .inr (T.t_MENDS _), rfl, by decide +kernel, _, rfl, ?_⟩
    have hin : inV (.str w0) [.str "over", .str "skip", .str "put", .str "take", .str "jump", .str "pass"] = decide (w0 ∈ MENDSL) := inV_strs w0 MENDSL
    show (if inV (.str w0) [.str "over", .str "skip", .str "put", .str "take", .str "jump", .str "pass"] = true then _ else _)
    rw [hin]
    refine ite2 (fun z => ?_) (fun z => ?_)
    · refine ⟨_, rfl, _, hD5, ?_, sm_mut e hD3, ?_⟩
      · have z3 := List.length_filter_le (fun x => decide (x ∈ MENDSL)) ((es.map (·.2)).take i)
        rw [List.length_take, List.length_map] at z3
        rw [List.length_map, sizeLine_eq]
        omega
      · rw [upd_same, take_snoc hw0, List.filter_append, show List.filter (fun x => decide (x ∈ MENDSL)) [w0] = [w0] by simp [List.filter, z], List.map_append] <;> rfl
    · refine ⟨e, ?_⟩
      rw [take_snoc hw0, List.filter_append, show List.filter (fun x => decide (x ∈ MENDSL)) [w0] = [] by simp [List.filter, z], List.append_nil]
      exact hD5
  rintro H3 ⟨e3, hD3'⟩
  rw [List.take_of_length_le (by rw [List.length_map, List.length_map, List.length_map]; exact Nat.le_refl _)] at hD3'
  have e13 := (e1.trans e2).trans e3
  refine ⟨D3, _, rfl, .inl (SqL.of hD3'), ?_⟩
  have hmany : ((((es.map (·.2)).filter fun x => decide (x ∈ MENDSL)).map V.str).length : Int) = ((workD R cf.st cf.wt t).2.2.1 : Nat) := by
    rw [List.length_map, ← hfx] <;> rfl
  rw [hmany]
  -- if 'error' in words and quiet == 0
  refine ⟨_, rfl, D, _, rfl, .inl (SqL.of (e3 _ _ hD2)), rfl, flat_strs _, _, rfl, ?_⟩
  show (if inV (.str "error") ((es.map (·.2)).map V.str) = true then _ else _)
  rw [inV_strs]
  have fin : ∀ (c' p : Addr) (H5 H6 : Hp) (cf' : FCfg Str) (a b : Nat), Fz.step R cf t = (cf', a, b) → Same H3 H5 → H5 c' = none → Same (upd H5 c' (.tup [.str cf'.st, .ref wb', .int cf'.q])) H6 → H6 p = none → cf'.wt = (workD R cf.st cf.wt t).2.1 → Q (.ref p) (upd H6 p (.tup [.ref c', .int a, .int b])) := fun c' p H5 H6 cf' a b hst e5 hc' e6 hp' hw => by
    have e7 := (((e13.trans e5).trans (sm_new hc')).trans e6).trans (sm_new hp' (o := .tup [.ref c', .int a, .int b]))
    refine q p c' _ e7 ?_ ?_
    · rw [hst]
      exact upd_same
    · rw [hst]
      refine ⟨wb', (e6.trans (sm_new hp')) _ _ upd_same, ?_⟩
      rw [hw]
      exact (((((e2.trans e3).trans e5).trans (sm_new hc')).trans e6).trans (sm_new hp')) _ _ hwb'
  have hws := work_step R cf t
  have hmx : (if (0 : Int) > (cf.q : Int) - 1 then (0 : Int) else (cf.q : Int) - 1) = ((cf.q - 1 : Nat) : Int) := by split <;> omega
  refine ite2 (fun z => ?_) (fun z => iteF ?_)
  · have hw4 := herr.mp (of_decide_eq_true z)
    refine ⟨_, rfl, rfl, _, rfl, ite2 (fun z2 => ?_) (fun z2 => ?_)⟩
    · have hq : cf.q = 0 := by
        have := of_decide_eq_true z2
        injection this with this
        omega
      rw [if_pos ⟨hw4, hq⟩] at hws
      obtain ⟨dx, m0, ac, pa, kvs, ks, h1, hh⟩ := id (hm.mono e13)
      refine ⟨_, rfl, _, rfl, _, rfl, r, dx, _, rfl, h1, r, M, R, rfl, hm.mono e13, by show 3 ≤ sizeLine; decide, fun c' hc' => ⟨_, rfl, by show 3 ≤ sizeLine; decide, fun p hp' => ?_⟩⟩
      exact fin c' p _ _ _ _ _ hws (Same.refl _) hc' (Same.refl _) hp' rfl
    · have hq : ¬ cf.q = 0 := fun e => z2 (decide_eq_true (by rw [e]; rfl))
      rw [if_neg fun z => hq z.2] at hws
      refine ⟨_, rfl, _, rfl, _, rfl, _, _, rfl, rfl, _, _, rfl, by show 3 ≤ sizeLine; decide, ?_⟩
      rw [hmx]
      exact fun c' hc' => ⟨_, rfl, by show 3 ≤ sizeLine; decide, fun p hp' => fin c' p _ _ _ _ _ hws (Same.refl _) hc' (Same.refl _) hp' rfl⟩
  · have hw4 : ¬ (workD R cf.st cf.wt t).2.2.2 = true := fun y => z (decide_eq_true (herr.mpr y))
    rw [if_neg fun z => hw4 z.1] at hws
    refine ⟨_, rfl, _, rfl, _, rfl, _, _, rfl, rfl, _, _, rfl, by show 3 ≤ sizeLine; decide, ?_⟩
    rw [hmx]
    exact fun c' hc' => ⟨_, rfl, by show 3 ≤ sizeLine; decide, fun p hp' => fin c' p _ _ _ _ _ hws (Same.refl _) hc' (Same.refl _) hp' rfl⟩
end
end Far

set_option Elab.async false
set_option linter.all false
set_option maxRecDepth 100000
set_option maxHeartbeats 4000000
/-! FarFar1: need_far, pass_over -/
namespace Far
open PySem PySem.Spec PyProof.Rows L2 Fz
def RowOk (T : List Str) (row : List Str) : Prop := row.length ≤ 200 ∧ ∀ x ∈ row, NameOk x ∧ x ∈ T
/-- a far row at f -/
def FarAt (K : PySem.W.Frag) (H : Hp) (f : Addr) (us vs : List Str) (n : Nat) (xs : List Str) : Prop := ∃ u v x : Addr, (SqL K H f [.ref u, .ref v, .int n, .ref x] ∨ SqT K H f [.ref u, .ref v, .int n, .ref x]) ∧ H u = some (.tup (us.map .str)) ∧ H v = some (.tup (vs.map .str)) ∧ H x = some (.tup (xs.map .str))
theorem FarAt.mono {K : PySem.W.Frag} {H H' : Hp} {f : Addr} {us vs : List Str} {n : Nat} {xs : List Str} (e : Same H H') (h : FarAt K H f us vs n xs) : FarAt K H' f us vs n xs := by
  obtain ⟨u, v, x, h1, h2, h3, h4⟩ := h
  exact ⟨u, v, x, h1.imp (sm_l e) (sm_t e), e _ _ h2, e _ _ h3, e _ _ h4⟩
def spNeedFar (K : PySem.W.Frag) : Sp := fun vs H Q _ => ∃ (m f : Addr) (M : MD) (us vs' : List Str) (n : Nat) (xs : List Str), vs = [.ref m, .ref f] ∧ MchAt K H m M ∧ FarAt K H f us vs' n xs ∧ RowOk M.toks us ∧ RowOk M.toks vs' ∧ RowOk M.toks xs ∧ n ≤ 1000000000000000000000000000000 ∧
  ∀ H', Same H H' → Q .non H'
def spPassOver (K : PySem.W.Frag) : Sp := fun vs H Q _ => ∃ (r c rw' : Addr) (M : MD) (R : FRd Str) (S T : List Str) (W : List (List Str)) (cf : FCfg Str) (row : List Str), vs = [.ref r, .ref c, .ref rw'] ∧ RdrAt K H r M R ∧ RdOk R S T W ∧ CfgAt H c cf ∧ CfIn S W cf ∧ H rw' = some (.tup (row.map .str)) ∧ row.length ≤ 200 ∧ (∀ t ∈ row, t ∈ T) ∧
  ∀ (p c' pl : Addr) (xs : List V) (H' : Hp), Same H H' → H' p = some (.tup [.ref c', .ref pl, .int (blk R cf row).2.2]) → CfgAt H' c' (blk R cf row).1 → H' pl = some (.lst xs) → xs.length = (blk R cf row).2.1 → H pl = none → Q (.ref p) H'
theorem CfgAt.keep {H : Hp} {a l : Addr} {c : FCfg Str} {xs : List V} {o : HO} (hl : H l = some (.lst xs)) (h : CfgAt H a c) : CfgAt (upd H l o) a c := by
  obtain ⟨b, h1, h2⟩ := h
  refine ⟨b, ?_, ?_⟩
  · rw [upd_ne (ne_of h1 hl (fun z => by cases z))]
    exact h1
  · rw [upd_ne (ne_of h2 hl (fun z => by cases z))]
    exact h2
section
variable {P : Program} {w : World} {K : PySem.W.Frag} {mg : Str → Option Value} {base : Heap}
theorem need_far_ok (T : Txt K mg) : Cal P w K mg base 3 "need_far" (spNeedFar K) [] := by
  have c_is_items := is_items_ok (P := P) (w := w) (base := base) T
  have c_is_within := is_within_ok (P := P) (w := w) (base := base) T
  have c_bad_place := bad_place_ok (P := P) (w := w) (base := base) T
  have sc : FnScope ["machine", "far", "k", "part"] ["machine", "far"] (defScope s_need_far) := ⟨rfl, rfl, rfl, by decide +kernel, rfl, by decide +kernel, by decide +kernel⟩
  have nd := sc.nd
  refine cal_mk T.g_need_far T.f_need_far sc (fun vs H Q E h => by obtain ⟨_, _, _, _, _, _, _, rfl, _⟩ := h; rfl) (fun _ _ _ _ _ _ us hl => match us, hl with | [_, _], _ => rfl) (fun cdv A outer s H vs0 Q E hr h => ?_)
  obtain ⟨m, f, M, us, vs, n, xs, rfl, hm, ⟨u, v, x, hf, hu1, hv1, hx1⟩, ⟨hu2, hu3⟩, ⟨hv2, hv3⟩, ⟨hx2', hx3⟩, hn, q⟩ := h
  have hu := hu_of hr
  obtain ⟨tl, hmt⟩ := T.i_MOST_TURNS
  obtain ⟨tl2, hmp⟩ := T.i_MOST_PART
  rcases hf with hf | hf
  · refine ⟨_, (pss_cons (ps_if (PW.pt (pw_or (pt_not (pt_val (C8.pe_c c_is_items hr (by decide) (by rfl) (pa_cons (pv 1) pa_nil)))) (pw_or1 (pt_cmpR op_ne (pe_callB call_len_seq (by rfl) T.b_len (by decide +kernel) (pa_cons (pv 1) pa_nil)) pe_int (nomark _))))) pss_never pss_nil)
      (pss_one (ps_for PassesOwn.never rfl (pi_enumT (by rfl) T.b_enumerate (pa_cons (pe_tup (pa_cons pe_str (pa_cons pe_str (pa_cons pe_str (pa_cons pe_str pa_nil))))) pa_nil)) (pg_tup rfl (pgs_cons (pgn 2 nd) (pgs_cons (pgn 3 nd) pgs_nil))) (pss_one (ps_if (pt_cmpR op_eq (pv 3) pe_str (nomark _)) (pss_one (ps_if (pt_not (pt_val (C8.pe_c c_is_within hr (by decide) (by rfl) (pa_cons (pe_ix ix_list (pv 1) (pv 2) (fun _ _ => rfl)) (pa_cons pe_int (pa_cons (pe_glob (v := .int 1000000000000000000000000000000) (by rfl) hmt ⟨_, rfl⟩) pa_nil)))))) pss_never pss_nil)) (pss_one (ps_if (PW.pt (pw_or (pt_cmpR op_notN (C8.pe_c c_bad_place hr (by decide) (by rfl) (pa_cons (pv 0) (pa_cons (pe_ix ix_list (pv 1) (pv 2) (fun _ _ => rfl)) pa_nil))) pe_non (nomark _)) (pw_or1 (pt_cmpR op_gt (pe_callB call_len_seq (by rfl) T.b_len (by decide +kernel) (pa_cons (pe_ix ix_list (pv 1) (pv 2) (fun _ _ => rfl)) pa_nil)) (pe_glob (v := .int 200) (by rfl) hmp ⟨_, rfl⟩) (nomark _))))) pss_never pss_nil))))))), ?_⟩
    refine ⟨_, rfl, f, _, rfl, .inl hf, fun H1 e1 => ⟨true, rfl, iteF ?_⟩⟩
    refine ⟨_, rfl, f, _, rfl, .inl (sm_l e1 hf), rfl, _, rfl, iteF ?_⟩
    refine ⟨by show 4 ≤ sizeLine; decide, fun tp htp => ?_⟩
    have e2 := e1.trans (sm_new htp (o := .tup [.str "u", .str "v", .str "n", .str "x"]))
    refine ⟨tp, _, rfl, SqT.of upd_same, for_it walk_enumT (fun i σ H' => Same (upd H1 tp (.tup [.str "u", .str "v", .str "n", .str "x"])) H' ∧ ∃ v v', σ = [some (.ref m), some (.ref f), v, v']) ⟨Same.refl _, none, none, rfl⟩ (fun i σ H2 _ p => SqT.of (p.1 _ _ upd_same)) ?_ ?_⟩
    · rintro i y σ H2 H3 hi ⟨e3, w1, w2, rfl⟩ ⟨B, x1, x2, rfl, hB, rfl, hx1, hx2⟩
      cases hx1
      have e4 := (e2.trans e3).trans (sm_new hB (o := .tup [.int (i : Nat), x2]))
      have hf4 := sm_l e4 hf
      have hm4 := hm.mono e4
      have g3 : Same (upd H1 tp (.tup [.str "u", .str "v", .str "n", .str "x"])) (upd H2 B (.tup [.int (i : Nat), x2])) := e3.trans (sm_new hB)
      refine ⟨B, _, rfl, SqT.of upd_same, rfl, _, _, rfl, _, _, rfl, rfl, ?_⟩
      generalize upd H2 B (.tup [.int (i : Nat), x2]) = H4 at e4 hf4 hm4 g3 ⊢
      have hl4 : i < 4 := hi
      match i, hl4, hx2 with
      | 0, _, hx2 =>
        cases hx2
        refine ⟨_, rfl, rfl, _, rfl, wF (by decide) ?_⟩
        refine ⟨_, rfl, _, rfl, _, rfl, f, _, _, _, rfl, rfl, hf4, rfl, m, u, M, us, rfl, hm4, SqT.of (e4 _ _ hu1), hu2, hu3, fun H5 e5 => ⟨rfl, _, rfl, iteF ?_⟩⟩
        refine ⟨_, rfl, _, rfl, f, _, _, _, rfl, rfl, sm_l e5 hf4, rfl, u, _, rfl, .inr (SqT.of (e5 _ _ (e4 _ _ hu1))), _, _, rfl, rfl, _, rfl, ?_⟩
        rw [decide_eq_false (by rw [List.length_map]; omega)]
        exact iteF ⟨g3.trans e5, _, _, rfl⟩
      | 1, _, hx2 =>
        cases hx2
        refine ⟨_, rfl, rfl, _, rfl, wF (by decide) ?_⟩
        refine ⟨_, rfl, _, rfl, _, rfl, f, _, _, _, rfl, rfl, hf4, rfl, m, v, M, vs, rfl, hm4, SqT.of (e4 _ _ hv1), hv2, hv3, fun H5 e5 => ⟨rfl, _, rfl, iteF ?_⟩⟩
        refine ⟨_, rfl, _, rfl, f, _, _, _, rfl, rfl, sm_l e5 hf4, rfl, v, _, rfl, .inr (SqT.of (e5 _ _ (e4 _ _ hv1))), _, _, rfl, rfl, _, rfl, ?_⟩
        rw [decide_eq_false (by rw [List.length_map]; omega)]
        exact iteF ⟨g3.trans e5, _, _, rfl⟩
      | 2, _, hx2 =>
        cases hx2
        refine ⟨_, rfl, rfl, _, rfl, wT ?_⟩
        refine ⟨_, rfl, _, rfl, f, _, _, _, rfl, rfl, hf4, rfl, (n : Int), 0, 1000000000000000000000000000000, rfl, by omega, by omega, true, rfl, iteF ?_⟩
        exact ⟨g3, _, _, rfl⟩
      | 3, _, hx2 =>
        cases hx2
        refine ⟨_, rfl, rfl, _, rfl, wF (by decide) ?_⟩
        refine ⟨_, rfl, _, rfl, _, rfl, f, _, _, _, rfl, rfl, hf4, rfl, m, x, M, xs, rfl, hm4, SqT.of (e4 _ _ hx1), hx2', hx3, fun H5 e5 => ⟨rfl, _, rfl, iteF ?_⟩⟩
        refine ⟨_, rfl, _, rfl, f, _, _, _, rfl, rfl, sm_l e5 hf4, rfl, x, _, rfl, .inr (SqT.of (e5 _ _ (e4 _ _ hx1))), _, _, rfl, rfl, _, rfl, ?_⟩
        rw [decide_eq_false (by rw [List.length_map]; omega)]
        exact iteF ⟨g3.trans e5, _, _, rfl⟩
    · rintro σ H2 ⟨e3, w1, w2, rfl⟩
      exact q _ (e2.trans e3)
  · refine ⟨_, (pss_cons (ps_if (PW.pt (pw_or (pt_not (pt_val (C8.pe_c c_is_items hr (by decide) (by rfl) (pa_cons (pv 1) pa_nil)))) (pw_or1 (pt_cmpR op_ne (pe_callB call_len_seq (by rfl) T.b_len (by decide +kernel) (pa_cons (pv 1) pa_nil)) pe_int (nomark _))))) pss_never pss_nil)
      (pss_one (ps_for PassesOwn.never rfl (pi_enumT (by rfl) T.b_enumerate (pa_cons (pe_tup (pa_cons pe_str (pa_cons pe_str (pa_cons pe_str (pa_cons pe_str pa_nil))))) pa_nil)) (pg_tup rfl (pgs_cons (pgn 2 nd) (pgs_cons (pgn 3 nd) pgs_nil))) (pss_one (ps_if (pt_cmpR op_eq (pv 3) pe_str (nomark _)) (pss_one (ps_if (pt_not (pt_val (C8.pe_c c_is_within hr (by decide) (by rfl) (pa_cons (pe_ix ix_tup (pv 1) (pv 2) (fun _ _ => rfl)) (pa_cons pe_int (pa_cons (pe_glob (v := .int 1000000000000000000000000000000) (by rfl) hmt ⟨_, rfl⟩) pa_nil)))))) pss_never pss_nil)) (pss_one (ps_if (PW.pt (pw_or (pt_cmpR op_notN (C8.pe_c c_bad_place hr (by decide) (by rfl) (pa_cons (pv 0) (pa_cons (pe_ix ix_tup (pv 1) (pv 2) (fun _ _ => rfl)) pa_nil))) pe_non (nomark _)) (pw_or1 (pt_cmpR op_gt (pe_callB call_len_seq (by rfl) T.b_len (by decide +kernel) (pa_cons (pe_ix ix_tup (pv 1) (pv 2) (fun _ _ => rfl)) pa_nil)) (pe_glob (v := .int 200) (by rfl) hmp ⟨_, rfl⟩) (nomark _))))) pss_never pss_nil))))))), ?_⟩
    refine ⟨_, rfl, f, _, rfl, .inr hf, fun H1 e1 => ⟨true, rfl, iteF ?_⟩⟩
    refine ⟨_, rfl, f, _, rfl, .inr (sm_t e1 hf), rfl, _, rfl, iteF ?_⟩
    refine ⟨by show 4 ≤ sizeLine; decide, fun tp htp => ?_⟩
    have e2 := e1.trans (sm_new htp (o := .tup [.str "u", .str "v", .str "n", .str "x"]))
    refine ⟨tp, _, rfl, SqT.of upd_same, for_it walk_enumT (fun i σ H' => Same (upd H1 tp (.tup [.str "u", .str "v", .str "n", .str "x"])) H' ∧ ∃ v v', σ = [some (.ref m), some (.ref f), v, v']) ⟨Same.refl _, none, none, rfl⟩ (fun i σ H2 _ p => SqT.of (p.1 _ _ upd_same)) ?_ ?_⟩
    · rintro i y σ H2 H3 hi ⟨e3, w1, w2, rfl⟩ ⟨B, x1, x2, rfl, hB, rfl, hx1, hx2⟩
      cases hx1
      have e4 := (e2.trans e3).trans (sm_new hB (o := .tup [.int (i : Nat), x2]))
      have hf4 := sm_t e4 hf
      have hm4 := hm.mono e4
      have g3 : Same (upd H1 tp (.tup [.str "u", .str "v", .str "n", .str "x"])) (upd H2 B (.tup [.int (i : Nat), x2])) := e3.trans (sm_new hB)
      refine ⟨B, _, rfl, SqT.of upd_same, rfl, _, _, rfl, _, _, rfl, rfl, ?_⟩
      generalize upd H2 B (.tup [.int (i : Nat), x2]) = H4 at e4 hf4 hm4 g3 ⊢
      have hl4 : i < 4 := hi
      match i, hl4, hx2 with
      | 0, _, hx2 =>
        cases hx2
        refine ⟨_, rfl, rfl, _, rfl, wF (by decide) ?_⟩
        refine ⟨_, rfl, _, rfl, _, rfl, f, _, _, _, rfl, rfl, hf4, rfl, m, u, M, us, rfl, hm4, SqT.of (e4 _ _ hu1), hu2, hu3, fun H5 e5 => ⟨rfl, _, rfl, iteF ?_⟩⟩
        refine ⟨_, rfl, _, rfl, f, _, _, _, rfl, rfl, sm_t e5 hf4, rfl, u, _, rfl, .inr (SqT.of (e5 _ _ (e4 _ _ hu1))), _, _, rfl, rfl, _, rfl, ?_⟩
        rw [decide_eq_false (by rw [List.length_map]; omega)]
        exact iteF ⟨g3.trans e5, _, _, rfl⟩
      | 1, _, hx2 =>
        cases hx2
        refine ⟨_, rfl, rfl, _, rfl, wF (by decide) ?_⟩
        refine ⟨_, rfl, _, rfl, _, rfl, f, _, _, _, rfl, rfl, hf4, rfl, m, v, M, vs, rfl, hm4, SqT.of (e4 _ _ hv1), hv2, hv3, fun H5 e5 => ⟨rfl, _, rfl, iteF ?_⟩⟩
        refine ⟨_, rfl, _, rfl, f, _, _, _, rfl, rfl, sm_t e5 hf4, rfl, v, _, rfl, .inr (SqT.of (e5 _ _ (e4 _ _ hv1))), _, _, rfl, rfl, _, rfl, ?_⟩
        rw [decide_eq_false (by rw [List.length_map]; omega)]
        exact iteF ⟨g3.trans e5, _, _, rfl⟩
      | 2, _, hx2 =>
        cases hx2
        refine ⟨_, rfl, rfl, _, rfl, wT ?_⟩
        refine ⟨_, rfl, _, rfl, f, _, _, _, rfl, rfl, hf4, rfl, (n : Int), 0, 1000000000000000000000000000000, rfl, by omega, by omega, true, rfl, iteF ?_⟩
        exact ⟨g3, _, _, rfl⟩
      | 3, _, hx2 =>
        cases hx2
        refine ⟨_, rfl, rfl, _, rfl, wF (by decide) ?_⟩
        refine ⟨_, rfl, _, rfl, _, rfl, f, _, _, _, rfl, rfl, hf4, rfl, m, x, M, xs, rfl, hm4, SqT.of (e4 _ _ hx1), hx2', hx3, fun H5 e5 => ⟨rfl, _, rfl, iteF ?_⟩⟩
        refine ⟨_, rfl, _, rfl, f, _, _, _, rfl, rfl, sm_t e5 hf4, rfl, x, _, rfl, .inr (SqT.of (e5 _ _ (e4 _ _ hx1))), _, _, rfl, rfl, _, rfl, ?_⟩
        rw [decide_eq_false (by rw [List.length_map]; omega)]
        exact iteF ⟨g3.trans e5, _, _, rfl⟩
    · rintro σ H2 ⟨e3, w1, w2, rfl⟩
      exact q _ (e2.trans e3)

theorem pass_over_ok (T : Txt K mg) : Cal P w K mg base 6 "pass_over" (spPassOver K) [] := by
  have c_take := take_ok (P := P) (w := w) (base := base) T
  have sc : FnScope ["reader", "configuration", "row", "places", "many", "k", "token", "is_told", "fixes"] ["reader", "configuration", "row"] (defScope s_pass_over) := ⟨rfl, rfl, rfl, by decide +kernel, rfl, by decide +kernel, by decide +kernel⟩
  have nd := sc.nd
  refine cal_mk T.g_pass_over T.f_pass_over sc (fun vs H Q E h => by obtain ⟨_, _, _, _, _, _, _, _, _, _, rfl, _⟩ := h; rfl) (fun _ _ _ _ _ _ us hl => match us, hl with | [_, _, _], _ => rfl) (fun cdv A outer s H vs0 Q E hr h => ?_)
  obtain ⟨r, c, ra, M, R, S, Tk, W, cf, row, rfl, hm, ok, hc, hin, hrow, hl, hrt, q⟩ := h
  have hu := hu_of hr
  refine ⟨_, (pss_cons (pset 3 nd (pe_lst pa_nil))
      (pss_cons (pset 4 nd pe_int)
      (pss_cons (ps_for PassesOwn.never rfl (pi_enumT (by rfl) T.b_enumerate (pa_cons (pv 2) pa_nil)) (pg_tup rfl (pgs_cons (pgn 5 nd) (pgs_cons (pgn 6 nd) pgs_nil))) (pss_cons (ps_asg (C8.pe_c c_take hr (by decide) (by rfl) (pa_cons (pv 0) (pa_cons (pv 1) (pa_cons (pv 6) pa_nil)))) (pg_tup rfl (pgs_cons (pgn 1 nd) (pgs_cons (pgn 7 nd) (pgs_cons (pgn 8 nd) pgs_nil)))))
      (pss_cons (ps_aug (i := 4) nd rfl (by first | exact Or.inl rfl | exact Or.inr rfl) (pv 8) ip_add)
      (pss_one (ps_if (pt_truth (pv 7) (by intro _; rfl)) (pss_one (ps_expr (pe_bm PySem.F.plainAttrs_list PySem.F.slot_list_append PySem.F.type_list_append mt_append (pv 3) (pa_cons (pv 5) pa_nil)))) pss_nil)))))
      (pss_one (ps_ret (pe_tup (pa_cons (pv 1) (pa_cons (pv 3) (pa_cons (pv 4) pa_nil))))))))), ?_⟩
  refine ⟨by show 0 ≤ sizeLine; exact Nat.zero_le _, fun pl hpl => ?_⟩
  have e1 := sm_new hpl (o := .lst [])
  refine ⟨_, rfl, ra, _, rfl, SqT.of (e1 _ _ hrow), for_it walk_enumT (fun i σ H' => Same H H' ∧ ∃ (c' : Addr) (xs : List V) (v5 v6 v7 v8 : Option V), σ = [some (.ref r), some (.ref c'), some (.ref ra), some (.ref pl), some (.int ((blk R cf (row.take i)).2.2 : Nat)), v5, v6, v7, v8] ∧ CfgAt H' c' (blk R cf (row.take i)).1 ∧ H' pl = some (.lst xs) ∧ xs.length = (blk R cf (row.take i)).2.1 ∧ xs.length ≤ i)
    ⟨e1, c, [], none, none, none, none, rfl, hc.mono e1, upd_same, rfl, Nat.le_refl _⟩ (fun i σ H2 _ p => SqT.of (p.1 _ _ hrow)) ?_ ?_⟩
  · rintro i y σ H2 H3 hi ⟨e2, c', xs, v5, v6, v7, v8, rfl, hc2, hpl2, hx2, hxl⟩ ⟨B, x1, x2, rfl, hB, rfl, hx1, hx2'⟩
    cases hx1
    obtain ⟨t, hti, rfl⟩ := maps_get hx2'
    refine ⟨B, _, rfl, SqT.of upd_same, rfl, _, _, rfl, _, _, rfl, rfl, ?_⟩
    have eB := sm_new hB (o := .tup [.int (i : Nat), .str t])
    have e3 := e2.trans eB
    have hil : i < row.length := (List.getElem?_eq_some_iff.mp hti).1
    have hci : CfIn S W (blk R cf (row.take i)).1 := ov_in ok (row.take i) (cf, 0, 0) hin
    refine ⟨_, rfl, _, rfl, _, rfl, r, c', M, R, S, Tk, W, _, t, rfl, hm.mono e3, ok, hc2.mono eB, hci.st, hrt t (List.mem_of_getElem? hti), fun p c3 H5 e5 hp5 hc5 => ?_⟩
    refine ⟨p, _, rfl, SqT.of hp5, rfl, _, _, rfl, _, _, rfl, _, _, rfl, rfl, ?_⟩
    have e6 := e3.trans e5
    have hpl5 := e5 _ _ (eB _ _ hpl2)
    have hst : blk R cf (row.take (i + 1)) = ov1 R (blk R cf (row.take i)) t := ov_take R (cf, 0, 0) hti
    refine ⟨_, rfl, _, rfl, _, _, rfl, rfl, ?_⟩
    refine ⟨_, rfl, ((((Fz.step R (blk R cf (row.take i)).1 t).2.1 : Nat) : Int) != 0), rfl, ?_⟩
    have hle := (step_le R (blk R cf (row.take i)).1 t).1
    have hfx : ((blk R cf (row.take i)).2.2 : Int) + ((Fz.step R (blk R cf (row.take i)).1 t).2.2 : Int) = ((blk R cf (row.take (i + 1))).2.2 : Nat) := by
      rw [hst]
      rfl
    have hc6 : CfgAt H5 c3 (blk R cf (row.take (i + 1))).1 := by
      rw [hst]
      exact hc5
    have htd : (blk R cf (row.take (i + 1))).2.1 = (blk R cf (row.take i)).2.1 + (Fz.step R (blk R cf (row.take i)).1 t).2.1 := by
      rw [hst]
      rfl
    refine ite2 (fun z => ?_) (fun z => ?_)
    · have h1 : (Fz.step R (blk R cf (row.take i)).1 t).2.1 = 1 := by
        have h0 : (Fz.step R (blk R cf (row.take i)).1 t).2.1 ≠ 0 := fun e => by rw [e] at z; cases z
        omega
      refine ⟨_, rfl, .inl ⟨rfl, _, SqL.of hpl5⟩, _, rfl, pl, _, _, rfl, rfl, hpl5, by rw [sizeLine_eq]; omega, sm_mut e6 hpl, c3, _, _, _, _, _, (by rw [← hfx]; rfl), hc6.keep hpl5, upd_same, ?_, ?_⟩
      · rw [List.length_append, htd, h1, hx2] <;> rfl
      · rw [List.length_append]
        show _ + 1 ≤ _
        omega
    · have h0 : (Fz.step R (blk R cf (row.take i)).1 t).2.1 = 0 := by
        refine Classical.byContradiction fun h => z ?_
        have h1 : (Fz.step R (blk R cf (row.take i)).1 t).2.1 = 1 := by omega
        rw [h1]
        rfl
      exact ⟨e6, c3, xs, _, _, _, _, (by rw [← hfx]; rfl), hc6, hpl5, by rw [htd, h0, hx2]; rfl, by omega⟩
  · rintro σ H2 ⟨e2, c', xs, v5, v6, v7, v8, rfl, hc2, hpl2, hx2, hxl⟩
    rw [List.take_of_length_le (by rw [List.length_map]; exact Nat.le_refl _)] at hc2 hx2 ⊢
    refine ⟨_, rfl, _, rfl, _, rfl, by show 3 ≤ sizeLine; decide, fun p hp => ?_⟩
    exact q p c' pl xs _ (e2.trans (sm_new hp)) upd_same (hc2.mono (sm_new hp)) (sm_new hp _ _ hpl2) hx2 hpl
end
end Far

set_option Elab.async false
set_option linter.all false
set_option maxRecDepth 100000
set_option maxHeartbeats 4000000
/-! FarFar2: Course.folded, total, counts, many_told -/
namespace Far
open PySem PySem.Spec PyProof.Rows L2 Fz
abbrev vN (x : Nat) : V := .int (x : Nat)
def spFolded (K : PySem.W.Frag) : Sp := fun vs H Q _ => ∃ (c dx bg : Addr) (fs : List (Str × V)) (xs : List V) (b k : Nat), vs = [.ref c, .int k] ∧ H c = some (.ins (He.ga K "Course") dx fs) ∧ fs.lookup ("begins" : Str) = some (.ref bg) ∧ fs.lookup ("back" : Str) = some (.int b) ∧ H bg = some (.lst xs) ∧ b < xs.length ∧
  Q (.int (if k < xs.length then k else b + (k - b) % (xs.length - b) : Nat)) H
def spTotal (K : PySem.W.Frag) : Sp := fun vs H Q _ => ∃ (c dx nl : Addr) (fs : List (Str × V)) (ns : List Nat) (n b : Nat), vs = [.ref c, .ref nl] ∧ H c = some (.ins (He.ga K "Course") dx fs) ∧ fs.lookup ("turns" : Str) = some (.int n) ∧ fs.lookup ("back" : Str) = some (.int b) ∧ H nl = some (.lst (ns.map vN)) ∧ b < ns.length ∧ ns.length ≤ 1000 ∧
  (∀ k, (ns.drop k).sum < 1000000000) ∧ ∀ H', Same H H' → Q (.int (totalD ns n b : Nat)) H'
structure CoD where
  turns : Nat
  back : Nat
  tl : List Nat
  fx : List Nat
  hd : Nat
  hm : Nat
  tln : Nat
  tm : Nat
  goal : FCfg Str
  c0 : Nat
  c1 : Nat
def CoAt (K : PySem.W.Frag) (H : Hp) (c : Addr) (D : CoD) : Prop := ∃ (dx hdA bgA blA fxA glA tlA clA : Addr) (sh wi ex : V) (hxs txs : List V) (bls : List (Addr × Nat)), H c = some (.ins (He.ga K "Course") dx [("shift", sh), ("width", wi), ("turns", .int D.turns), ("extent", ex), ("head", .ref hdA), ("head_mends", .int D.hm), ("begins", .ref bgA), ("blocks", .ref blA), ("fixes", .ref fxA), ("back", .int D.back), ("goal", .ref glA), ("tail", .ref tlA), ("tail_mends", .int D.tm), ("closing", .ref clA)]) ∧
  H hdA = some (.lst hxs) ∧ hxs.length = D.hd ∧ H blA = some (.lst (bls.map fun e => V.ref e.1)) ∧ (∀ e ∈ bls, ∃ xs, H e.1 = some (.lst xs) ∧ xs.length = e.2) ∧ bls.map (·.2) = D.tl ∧ H fxA = some (.lst (D.fx.map vN)) ∧ CfgAt H glA D.goal ∧ H tlA = some (.lst txs) ∧ txs.length = D.tln ∧
  H clA = some (.tup [.int D.c0, .int D.c1])
structure CoOk (D : CoD) : Prop where
  b1 : D.back < D.tl.length
  b2 : D.back < D.fx.length
  l1 : D.tl.length ≤ 1000
  l2 : D.fx.length ≤ 1000
  s1 : ∀ k, (D.tl.drop k).sum < 1000000000
  s2 : ∀ k, (D.fx.drop k).sum < 1000000000
theorem CoAt.mono {K : PySem.W.Frag} {H H' : Hp} {c : Addr} {D : CoD} (e : Same H H') (h : CoAt K H c D) : CoAt K H' c D := by
  obtain ⟨dx, hdA, bgA, blA, fxA, glA, tlA, clA, sh, wi, ex, hxs, txs, bls, h1, h2, h3, h4, h5, h6, h7, h8, h9, h10, h11⟩ := h
  exact ⟨dx, hdA, bgA, blA, fxA, glA, tlA, clA, sh, wi, ex, hxs, txs, bls, e _ _ h1, e _ _ h2, h3, e _ _ h4, fun z hz => let ⟨xs, a, b⟩ := h5 z hz; ⟨xs, e _ _ a, b⟩, h6, e _ _ h7, h8.mono e, e _ _ h9, h10, e _ _ h11⟩
def spCounts (K : PySem.W.Frag) : Sp := fun vs H Q _ => ∃ (c : Addr) (D : CoD), vs = [.ref c] ∧ CoAt K H c D ∧ D.tl.length ≤ 1000 ∧ ∀ p H', Same H H' → H' p = some (.lst (D.tl.map vN)) → Q (.ref p) H'
def spManyTold (K : PySem.W.Frag) : Sp := fun vs H Q _ => ∃ (c : Addr) (D : CoD), vs = [.ref c] ∧ CoAt K H c D ∧ CoOk D ∧ ∀ H', Same H H' → Q (.int (D.hd + totalD D.tl D.turns D.back + D.tln + D.c0 : Nat)) H'
theorem sum_cast : ∀ ns : List Nat, (ns.map fun (x : Nat) => (x : Int)).sum = ((ns.sum : Nat) : Int)
  | [] => rfl
  | x :: ns => by
    rw [List.map_cons, List.sum_cons, List.sum_cons, sum_cast ns]
    omega
theorem vN_map (ns : List Nat) : ns.map vN = (ns.map fun (x : Nat) => (x : Int)).map V.int := by rw [List.map_map]; rfl
theorem cut_head (ns : List Nat) {n : Nat} (h : n ≤ ns.length) : cutV (ns.map vN) none (some (n : Int)) = ((ns.take n).map fun (x : Nat) => (x : Int)).map V.int := by
  rw [cut_take _ _ (by rw [List.length_map]; exact h), ← vN_map, List.map_take]
theorem cut_tail (ns : List Nat) {b : Nat} (h : b ≤ ns.length) : cutV (ns.map vN) (some (b : Int)) none = (ns.drop b).map vN := by
  unfold cutV
  rw [HT.sIx_nat, HT.sIx_none, List.length_map, Nat.min_eq_left h, List.map_drop, List.take_of_length_le]
  rw [List.length_drop, List.length_map]
  exact Nat.le_refl _
section
variable {P : Program} {w : World} {K : PySem.W.Frag} {mg : Str → Option Value} {base : Heap}
theorem folded_ok (T : Txt K mg) : Met P w K mg base 1 (He.ga K "Course") "folded" (spFolded K) [] := by
  have sc : FnScope ["self", "k"] ["self", "k"] (defScope s_Course_folded) := ⟨rfl, rfl, rfl, by decide +kernel, rfl, by decide +kernel, by decide +kernel⟩
  have nd := sc.nd
  refine met_mk T.cl_Course T.m_Course_folded T.f_Course_folded sc (fun vs H Q E h => by obtain ⟨_, _, _, _, _, _, _, rfl, _⟩ := h; rfl) (fun _ _ _ _ _ _ us hl => match us, hl with | [_, _], _ => rfl) (fun cdv A outer s H vs0 Q E hr h => ?_)
  obtain ⟨c, dx, bg, fs, xs, b, k, rfl, h1, h2, h3, h4, h5, q⟩ := h
  refine ⟨_, (pss_cons (ps_if (pt_cmpR op_lt (pv 1) (pe_callB call_len_seq (by rfl) T.b_len (by decide +kernel) (pa_cons (pe_fld (pv 0) rfl) pa_nil)) (nomark _)) (pss_one (ps_ret (pv 1))) pss_nil)
      (pss_one (ps_ret (pe_op op_add (pe_fld (pv 0) rfl) (pe_op op_mod (pe_op op_sub (pv 1) (pe_fld (pv 0) rfl)) (pe_op op_sub (pe_callB call_len_seq (by rfl) T.b_len (by decide +kernel) (pa_cons (pe_fld (pv 0) rfl) pa_nil)) (pe_fld (pv 0) rfl))))))), ?_⟩
  refine ⟨_, rfl, _, rfl, c, _, dx, fs, _, rfl, h1, T.cl_Course, T.n_Course_begins, h2, bg, _, rfl, .inl (SqL.of h4), _, _, rfl, rfl, _, rfl, ite2 (fun z => ?_) (fun z => ?_)⟩
  · have hk : k < xs.length := by have := of_decide_eq_true z; omega
    rw [if_pos hk] at q
    exact ⟨_, rfl, q⟩
  · have hk : ¬ k < xs.length := fun h => z (decide_eq_true (by omega))
    rw [if_neg hk] at q
    refine ⟨_, rfl, c, _, dx, fs, _, rfl, h1, T.cl_Course, T.n_Course_back, h3, _, rfl, _, rfl, c, _, dx, fs, _, rfl, h1, T.cl_Course, T.n_Course_back, h3, _, _, rfl, rfl, _, rfl, c, _, dx, fs, _, rfl, h1, T.cl_Course, T.n_Course_begins, h2, bg, _, rfl, .inl (SqL.of h4), _, rfl, c, _, dx, fs, _, rfl, h1, T.cl_Course, T.n_Course_back, h3, _, _, rfl, rfl, _, _, rfl, rfl, by omega, _, _, rfl, rfl, ?_⟩
    have e : (b : Int) + ((k : Int) - (b : Int)) % ((xs.length : Int) - (b : Int)) = ((b + (k - b) % (xs.length - b) : Nat) : Int) := by
      have e1 : (k : Int) - (b : Int) = ((k - b : Nat) : Int) := by omega
      have e2 : (xs.length : Int) - (b : Int) = ((xs.length - b : Nat) : Int) := by omega
      rw [e1, e2]
      omega
    show Q (.int ((b : Int) + ((k : Int) - (b : Int)) % ((xs.length : Int) - (b : Int)))) H
    rw [e]
    exact q
theorem counts_ok (T : Txt K mg) : Met P w K mg base 1 (He.ga K "Course") "counts" (spCounts K) [] := by
  have sc : FnScope ["self", "places"] ["self"] (defScope s_Course_counts) := ⟨rfl, rfl, rfl, by decide +kernel, rfl, by decide +kernel, by decide +kernel⟩
  have nd := sc.nd
  refine met_mk T.cl_Course T.m_Course_counts T.f_Course_counts sc (fun vs H Q E h => by obtain ⟨_, _, rfl, _⟩ := h; rfl) (fun _ _ _ _ _ _ us hl => match us, hl with | [_], _ => rfl) (fun cdv A outer s H vs0 Q E hr h => ?_)
  obtain ⟨c, D, rfl, ⟨dx, hdA, bgA, blA, fxA, glA, tlA, clA, sh, wi, ex, hxs, txs, bls, h1, h2, h3, h4, h5, h6, _⟩, hl, q⟩ := h
  refine ⟨_, (pss_one (ps_ret (pe_lc (own := [("places", 1)]) (g := gName 1) (tt := tYes) rfl nd (pi_list (pe_fld (pv 0) rfl)) (blkOk_by (own := [("places", 1)]) (N := ["self", "places"]) (sc := defScope s_Course_counts) (by decide +kernel)) (fun _ _ _ _ _ => (pgn 1 nd)) (fun _ _ _ _ _ => pts_nil) (fun _ _ _ _ _ => (pe_callB (call_lenK (K := K)) (by rfl) T.b_len (by decide +kernel) (pa_cons (pv 1) pa_nil)))))), ?_⟩
  refine ⟨_, rfl, c, _, dx, _, _, rfl, h1, T.cl_Course, T.n_Course_blocks, rfl, blA, rfl, ⟨_, SqL.of h4⟩, fun p hp => lc_it walk_list (fun i H' => Same H H' ∧ H' p = some (.lst ((D.tl.take i).map vN))) ⟨sm_new hp, upd_same⟩ (fun i H' _ z => SqL.of (z.1 _ _ h4)) ?_ ?_⟩
  · rintro i x H5 H6 hi ⟨e, hp5⟩ ⟨rfl, hx⟩
    obtain ⟨e0, he0, rfl⟩ := get_map hx
    obtain ⟨xs, g1, g2⟩ := h5 e0 (List.mem_of_getElem? he0)
    refine ⟨rfl, _, rfl, e0.1, xs, rfl, .inl (SqL.of (e _ _ g1)), _, hp5, ?_, sm_mut e hp, ?_⟩
    · rw [List.length_map, List.length_take, sizeLine_eq]
      omega
    · rw [upd_same, take_snoc (x := e0.2) (by rw [← h6, List.getElem?_map, he0]; rfl), List.map_append, g2] <;> rfl
  · rintro H2 ⟨e, hp2⟩
    refine q p H2 e ?_
    rw [List.take_of_length_le (by rw [← h6, List.length_map, List.length_map]; exact Nat.le_refl _)] at hp2
    exact hp2
theorem total_ok (T : Txt K mg) : Met P w K mg base 1 (He.ga K "Course") "total" (spTotal K) [] := by
  have sc : FnScope ["self", "numbers", "again", "rest", "loop"] ["self", "numbers"] (defScope s_Course_total) := ⟨rfl, rfl, rfl, by decide +kernel, rfl, by decide +kernel, by decide +kernel⟩
  have nd := sc.nd
  refine met_mk T.cl_Course T.m_Course_total T.f_Course_total sc (fun vs H Q E h => by obtain ⟨_, _, _, _, _, _, _, rfl, _⟩ := h; rfl) (fun _ _ _ _ _ _ us hl => match us, hl with | [_, _], _ => rfl) (fun cdv A outer s H vs0 Q E hr h => ?_)
  obtain ⟨c, dx, nl, fs, ns, n, b, rfl, h1, h2, h3, h4, h5, h6, hs, q⟩ := h
  refine ⟨_, (pss_cons (ps_if (pt_cmpR op_le (pe_fld (pv 0) rfl) (pe_callB call_len_seq (by rfl) T.b_len (by decide +kernel) (pa_cons (pv 1) pa_nil)) (nomark _)) (pss_one (ps_ret (pe_callB (cr_sum rfl) (by rfl) T.b_sum (by decide +kernel) (pa_cons (pe_slice sl_list (pv 1) po_none (po_some (pe_fld (pv 0) rfl))) pa_nil)))) pss_nil)
      (pss_cons (ps_asg (pe_callB call_divmod (by rfl) T.b_divmod (by decide +kernel) (pa_cons (pe_op op_sub (pe_fld (pv 0) rfl) (pe_fld (pv 0) rfl)) (pa_cons (pe_op op_sub (pe_callB call_len_seq (by rfl) T.b_len (by decide +kernel) (pa_cons (pv 1) pa_nil)) (pe_fld (pv 0) rfl)) pa_nil))) (pg_tup rfl (pgs_cons (pgn 2 nd) (pgs_cons (pgn 3 nd) pgs_nil))))
      (pss_cons (pset 4 nd (pe_slice sl_list (pv 1) (po_some (pe_fld (pv 0) rfl)) po_none))
      (pss_one (ps_ret (pe_op op_add (pe_op op_add (pe_callB (cr_sum rfl) (by rfl) T.b_sum (by decide +kernel) (pa_cons (pe_slice sl_list (pv 1) po_none (po_some (pe_fld (pv 0) rfl))) pa_nil)) (pe_op op_mul (pv 2) (pe_callB (cr_sum rfl) (by rfl) T.b_sum (by decide +kernel) (pa_cons (pv 4) pa_nil)))) (pe_callB (cr_sum rfl) (by rfl) T.b_sum (by decide +kernel) (pa_cons (pe_slice sl_list (pv 4) po_none (po_some (pv 3))) pa_nil)))))))), ?_⟩
  refine ⟨_, rfl, c, _, dx, fs, _, rfl, h1, T.cl_Course, T.n_Course_turns, h2, _, rfl, nl, _, rfl, .inl (SqL.of h4), _, _, rfl, rfl, _, rfl, ite2 (fun z => ?_) (fun z => ?_)⟩
  · have hn : n ≤ ns.length := by
      have := of_decide_eq_true z
      rw [List.length_map] at this
      omega
    refine ⟨_, rfl, _, rfl, c, _, dx, fs, _, rfl, h1, T.cl_Course, T.n_Course_turns, h2, _, rfl, nl, _, rfl, SqL.of h4, fun p hp => ⟨p, (ns.take n).map fun (x : Nat) => (x : Int), rfl, ?_, ?_⟩⟩
    · rw [cut_head ns hn]
      exact SqL.of upd_same
    · rw [sum_cast]
      have z := q _ (sm_new hp (o := .lst (cutV (ns.map vN) none (some (n : Int)))))
      unfold totalD at z
      rw [if_pos hn] at z
      exact z
  · have hn : ¬ n ≤ ns.length := fun h => z (decide_eq_true (by rw [List.length_map]; omega))
    have hlen : ((ns.map vN).length : Int) = (ns.length : Nat) := by rw [List.length_map]
    refine ⟨_, rfl, c, _, dx, fs, _, rfl, h1, T.cl_Course, T.n_Course_turns, h2, _, rfl, c, _, dx, fs, _, rfl, h1, T.cl_Course, T.n_Course_back, h3, _, _, rfl, rfl, _, rfl, nl, _, rfl, .inl (SqL.of h4), _, rfl, c, _, dx, fs, _, rfl, h1, T.cl_Course, T.n_Course_back, h3, _, _, rfl, rfl, _, _, rfl, ⟨by rw [hlen]; omega, by rw [hlen]; omega⟩, fun p hp => ?_⟩
    have e1 := sm_new hp (o := .tup [.int (((n : Int) - (b : Int)) / (((ns.map vN).length : Int) - (b : Int))), .int (((n : Int) - (b : Int)) % (((ns.map vN).length : Int) - (b : Int)))])
    refine ⟨p, _, rfl, SqT.of upd_same, rfl, _, _, rfl, _, _, rfl, rfl, ?_⟩
    have d1 : ((n : Int) - (b : Int)) / (((ns.map vN).length : Int) - (b : Int)) = (((n - b) / (ns.length - b) : Nat) : Int) := by
      rw [hlen, show (n : Int) - (b : Int) = ((n - b : Nat) : Int) by omega, show ((ns.length : Nat) : Int) - (b : Int) = ((ns.length - b : Nat) : Int) by omega]
      omega
    have d2 : ((n : Int) - (b : Int)) % (((ns.map vN).length : Int) - (b : Int)) = (((n - b) % (ns.length - b) : Nat) : Int) := by
      rw [hlen, show (n : Int) - (b : Int) = ((n - b : Nat) : Int) by omega, show ((ns.length : Nat) : Int) - (b : Int) = ((ns.length - b : Nat) : Int) by omega]
      omega
    rw [d1, d2]
    rw [d1, d2] at e1
    generalize upd H p (.tup [.int (((n - b) / (ns.length - b) : Nat) : Int), .int (((n - b) % (ns.length - b) : Nat) : Int)]) = H1 at e1 ⊢
    -- loop
    refine ⟨_, rfl, _, rfl, c, _, dx, fs, _, rfl, e1 _ _ h1, T.cl_Course, T.n_Course_back, h3, _, rfl, nl, _, rfl, SqL.of (e1 _ _ h4), fun l hl => ?_⟩
    rw [cut_tail ns (Nat.le_of_lt h5)]
    have e2 := e1.trans (sm_new hl (o := .lst ((ns.drop b).map vN)))
    have hl2 := upd_same (H := H1) (a := l) (o := .lst ((ns.drop b).map vN))
    generalize upd H1 l (.lst ((ns.drop b).map vN)) = H2 at e2 hl2 ⊢
    have hl2' : H2 l = some (.lst (((ns.drop b).map fun (x : Nat) => (x : Int)).map V.int)) := by
      rw [← vN_map]
      exact hl2
    refine ⟨_, rfl, _, rfl, c, _, dx, fs, _, rfl, e2 _ _ h1, T.cl_Course, T.n_Course_back, h3, _, rfl, nl, _, rfl, SqL.of (e2 _ _ h4), fun a1 ha1 => ?_⟩
    rw [cut_head ns (Nat.le_of_lt h5)]
    refine ⟨a1, (ns.take b).map fun (x : Nat) => (x : Int), rfl, SqL.of upd_same, ?_⟩
    have e3 := sm_new ha1 (o := .lst (((ns.take b).map fun (x : Nat) => (x : Int)).map V.int))
    refine ⟨_, rfl, _, rfl, l, (ns.drop b).map fun (x : Nat) => (x : Int), rfl, SqL.of (e3 _ _ hl2'), _, _, rfl, rfl, .inr ?_, _, _, rfl, rfl, ?_⟩
    · rw [sum_cast]
      have := hs b
      omega
    have hr1 : (n - b) % (ns.length - b) ≤ (ns.drop b).length := by
      rw [List.length_drop]
      exact Nat.le_of_lt (Nat.mod_lt _ (by omega))
    refine ⟨_, rfl, _, rfl, _, rfl, l, _, rfl, SqL.of (e3 _ _ hl2), fun a2 ha2 => ⟨a2, ((ns.drop b).take ((n - b) % (ns.length - b))).map fun (x : Nat) => (x : Int), rfl, ?_, _, _, rfl, rfl, ?_⟩⟩
    · rw [cut_head (ns.drop b) hr1]
      exact SqL.of upd_same
    · rw [sum_cast, sum_cast, sum_cast]
      have z := q _ ((e2.trans e3).trans (sm_new ha2 (o := .lst (cutV ((ns.drop b).map vN) none (some (((n - b) % (ns.length - b) : Nat) : Int))))))
      unfold totalD at z
      rw [if_neg hn] at z
      rw [Int.natCast_add, Int.natCast_add, Int.natCast_mul] at z
      exact z
theorem many_told_ok (T : Txt K mg) : Met P w K mg base 2 (He.ga K "Course") "many_told" (spManyTold K) [] := by
  have c_counts := counts_ok (P := P) (w := w) (base := base) T
  have c_total := total_ok (P := P) (w := w) (base := base) T
  have sc : FnScope ["self"] ["self"] (defScope s_Course_many_told) := ⟨rfl, rfl, rfl, by decide +kernel, rfl, by decide +kernel, by decide +kernel⟩
  have nd := sc.nd
  refine met_mk T.cl_Course T.m_Course_many_told T.f_Course_many_told sc (fun vs H Q E h => by obtain ⟨_, _, rfl, _⟩ := h; rfl) (fun _ _ _ _ _ _ us hl => match us, hl with | [_], _ => rfl) (fun cdv A outer s H vs0 Q E hr h => ?_)
  obtain ⟨c, D, rfl, hc, ok, q⟩ := h
  refine ⟨_, (pss_one (ps_ret (pe_op op_add (pe_op op_add (pe_op op_add (pe_callB call_len_seq (by rfl) T.b_len (by decide +kernel) (pa_cons (pe_fld (pv 0) rfl) pa_nil)) (C8.pe_mt c_total hr (by decide) (pv 0) (pa_cons (C8.pe_mt0 c_counts hr (by decide) (pv 0)) pa_nil))) (pe_callB call_len_seq (by rfl) T.b_len (by decide +kernel) (pa_cons (pe_fld (pv 0) rfl) pa_nil))) (pe_ix ix_tup (pe_fld (pv 0) rfl) pe_int (fun _ _ => rfl))))), ?_⟩
  obtain ⟨dx, hdA, bgA, blA, fxA, glA, tlA, clA, sh, wi, ex, hxs, txs, bls, h1, h2, h3, h4, h5, h6, h7, h8, h9, h10, h11⟩ := id hc
  refine ⟨_, rfl, c, _, dx, _, _, rfl, h1, T.cl_Course, T.n_Course_head, rfl, hdA, _, rfl, .inl (SqL.of h2), ?_⟩
  refine ⟨_, rfl, c, dx, _, rfl, h1, rfl, _, rfl, c, dx, _, rfl, h1, rfl, c, D, rfl, hc, ok.l1, fun p H1 e1 hp => ?_⟩
  refine ⟨c, dx, p, _, D.tl, D.turns, D.back, rfl, e1 _ _ h1, rfl, rfl, hp, ok.b1, ok.l1, ok.s1, fun H2 e2 => ?_⟩
  have e12 := e1.trans e2
  refine ⟨_, _, rfl, rfl, _, rfl, c, _, dx, _, _, rfl, e12 _ _ h1, T.cl_Course, T.n_Course_tail, rfl, tlA, _, rfl, .inl (SqL.of (e12 _ _ h9)), _, _, rfl, rfl, _, rfl, c, _, dx, _, _, rfl, e12 _ _ h1, T.cl_Course, T.n_Course_closing, rfl, clA, _, _, _, rfl, rfl, SqT.of (e12 _ _ h11), rfl, _, _, rfl, rfl, ?_⟩
  have z := q H2 e12
  rw [← h3, ← h10] at z
  rw [Int.natCast_add, Int.natCast_add, Int.natCast_add] at z
  exact z
end
end Far

set_option Elab.async false
set_option linter.all false
set_option maxRecDepth 100000
set_option maxHeartbeats 4000000
/-! FarFar3: Course.__init__ -/
namespace Far
open PySem PySem.Spec PyProof.Rows L2 Fz
/-- what Course has found -/
structure CoRes (R : FRd Str) (start : Str) (us vs : List Str) (n : Nat) (xs : List Str) (fins : List Str) (D : CoD) : Prop where
  ex : ∃ k L, k < L ∧ L ≤ 600 ∧ D.turns = n ∧ D.back = k ∧ D.tl = (List.range L).map (tls R vs (blk R ⟨start, [], 0⟩ us).1) ∧ D.fx = (List.range L).map (mns R vs (blk R ⟨start, [], 0⟩ us).1) ∧ cfs R vs (blk R ⟨start, [], 0⟩ us).1 L = cfs R vs (blk R ⟨start, [], 0⟩ us).1 k ∧
    D.hd = (blk R ⟨start, [], 0⟩ us).2.1 ∧ D.hm = (blk R ⟨start, [], 0⟩ us).2.2 ∧ D.goal = (blk R (cfs R vs (blk R ⟨start, [], 0⟩ us).1 n) xs).1 ∧ D.tln = (blk R (cfs R vs (blk R ⟨start, [], 0⟩ us).1 n) xs).2.1 ∧ D.tm = (blk R (cfs R vs (blk R ⟨start, [], 0⟩ us).1 n) xs).2.2 ∧
    D.c0 = (if D.goal.st ∈ fins then 0 else if D.goal.q = 0 then 1 else 0) ∧ D.c1 = if D.goal.st ∈ fins then 0 else 1
/-- the reader's words are in order -/
structure RdAll (R : FRd Str) (M : MD) (S T : List Str) (W : List (List Str)) : Prop where
  ok : RdOk R S T W
  start : M.start ∈ S
  s6 : S.length ≤ 6
  w25 : W.length ≤ 25
  sn : ∀ x ∈ S, NameOk x
  wn : ∀ ts ∈ W, ∀ x ∈ ts, NameOk x
def spCourse (K : PySem.W.Frag) : Sp := fun vs' H Q _ => ∃ (c dx r f : Addr) (M : MD) (R : FRd Str) (S T : List Str) (W : List (List Str)) (us vs : List Str) (n : Nat) (xs : List Str), vs' = [.ref c, .ref r, .ref f] ∧ H c = some (.ins (He.ga K "Course") dx []) ∧ RdrAt K H r M R ∧ RdAll R M S T W ∧ FarAt K H f us vs n xs ∧
  (us.length ≤ 200 ∧ ∀ t ∈ us, t ∈ T) ∧ (vs.length ≤ 200 ∧ ∀ t ∈ vs, t ∈ T) ∧ (xs.length ≤ 200 ∧ ∀ t ∈ xs, t ∈ T) ∧ ∀ H' D, Ex [c] H H' → CoAt K H' c D → CoRes R M.start us vs n xs M.fins D → Q .non H'
def gSq (K : PySem.W.Frag) (n : Nat) (t : TGs) : TG := fun v σ H Q => ∃ a xs, v = .ref a ∧ (SqL K H a xs ∨ SqT K H a xs) ∧ xs.length = n ∧ t xs σ H Q
theorem pg_sq {X : Cx} {pos : Pos} {es : List Expr} {k : Nat} {t : TGs} {n : Nat} (hc : X.calm = true) (h : PGs X es t) (hn : (assignEach es X.env).length = n := by rfl) (hst : (assignEach es X.env).findIdx? (·.1) = none := by rfl) : PG X (.Tuple es k pos) (gSq X.K n t) := by
  refine ⟨fun pins s σ H v u Q I r hw => ?_⟩
  obtain ⟨a, xs, e1, hq, hl, hw⟩ := hw
  rcases hq with hq | hq
  · exact (pg_unl hc h hn hst).run pins s σ H v u Q I r ⟨a, xs, e1, hq, hl, hw⟩
  · exact (pg_tup hc h hn hst).run pins s σ H v u Q I r ⟨a, xs, e1, hq, hl, hw⟩
theorem hid_ne {H : Hp} {b c : Addr} {o o' : HO} (h : H b = some o) (hc : H c = some o') (ne : o ≠ o') : hid [c] H b = some o := by
  rw [hid_out (fun z => by
    rw [List.mem_singleton.mp z, hc] at h
    exact ne (Option.some.inj h).symm)]
  exact h
theorem ActAt.hid1 {H : Hp} {a c : Addr} {C dx : Addr} {fs : List (Str × V)} {x : FAct Str} (hc : H c = some (.ins C dx fs)) (h : ActAt H a x) : ActAt (hid [c] H) a x := by
  cases x with
  | skip => exact hid_ne h hc (fun z => by cases z)
  | put x => exact hid_ne h hc (fun z => by cases z)
  | take x => exact hid_ne h hc (fun z => by cases z)
  | jump x => exact hid_ne h hc (fun z => by cases z)
  | pass ts x =>
    obtain ⟨b, h1, h2⟩ := h
    exact ⟨b, hid_ne h1 hc (fun z => by cases z), hid_ne h2 hc (fun z => by cases z)⟩
theorem MchAt.hid1 {K : PySem.W.Frag} {H : Hp} {m c : Addr} {C dx : Addr} {M : MD} (hc : H c = some (.ins C dx [])) (h : MchAt K H m M) : MchAt K (hid [c] H) m M := by
  obtain ⟨dm, al, ed, en, pl, kvs, h1, h2, h3, h4, h5, h6⟩ := h
  exact ⟨dm, al, ed, en, pl, kvs, hid_ne h1 hc (fun z => by cases z), hid_ne h2 hc (fun z => by cases z), hid_ne h3 hc (fun z => by cases z), h4, hid_ne h5 hc (fun z => by cases z), hid_ne h6 hc (fun z => by cases z)⟩
theorem RdrAt.hid1 {K : PySem.W.Frag} {H : Hp} {r c : Addr} {C dx : Addr} {M : MD} {R : FRd Str} (hc : H c = some (.ins C dx [])) (h : RdrAt K H r M R) : RdrAt K (hid [c] H) r M R := by
  obtain ⟨dr, m, ac, pa, kvs, ks, h1, h2, h3, h4, h5⟩ := h
  exact ⟨dr, m, ac, pa, kvs, ks, hid_ne h1 hc (fun z => by cases z), h2.hid1 hc, hid_ne h3 hc (fun z => by cases z), ⟨h4.keys, h4.nd, h4.mem, fun s t a e => let ⟨aa, g1, g2⟩ := h4.val s t a e; ⟨aa, g1, g2.hid1 hc⟩⟩, h5⟩
theorem st_old {Ha : Hp} {nw c b : Addr} {o o' X Y : HO} (hn : Ha nw = none) (hc : Ha c = some o') (hb : Ha b = some o) (ne : o ≠ o') : upd (upd Ha nw X) c Y b = some o := by
  rw [upd_ne (ne_of hb hc ne)]
  exact sm_new hn _ _ hb
theorem st_new {Ha : Hp} {nw c : Addr} {o' X Y : HO} (hn : Ha nw = none) (hc : Ha c = some o') : upd (upd Ha nw X) c Y nw = some X := by
  rw [upd_ne (ne_of_none hc hn).symm]
  exact upd_same
theorem CfgAt.st_old {Ha : Hp} {nw c a : Addr} {C dx : Addr} {fs : List (Str × V)} {X Y : HO} {cf : FCfg Str} (hn : Ha nw = none) (hc : Ha c = some (.ins C dx fs)) (h : CfgAt Ha a cf) : CfgAt (upd (upd Ha nw X) c Y) a cf := by
  obtain ⟨b, h1, h2⟩ := h
  exact ⟨b, Far.st_old hn hc h1 (fun z => by cases z), Far.st_old hn hc h2 (fun z => by cases z)⟩
def coFs (sh wi ex : V) (n hm : Nat) (hdA bgA blA fxA : Addr) : List (Str × V) := [("shift", sh), ("width", wi), ("turns", .int n), ("extent", ex), ("head", .ref hdA), ("head_mends", .int hm), ("begins", .ref bgA), ("blocks", .ref blA), ("fixes", .ref fxA)]
def coI (c r f u v x bg bl fxA : Addr) (n : Nat) (R : FRd Str) (vs : List Str) (c0 : FCfg Str) (H4 : Hp) (i : Nat) (σ : L2.St) (H' : Hp) : Prop := ∃ (cc : Addr) (bgs : List Addr) (bls : List (Addr × Nat)) (v8 v9 : Option V), σ = [some (.ref c), some (.ref r), some (.ref f), some (.ref u), some (.ref v), some (.int n), some (.ref x), some (.ref cc), v8, v9, none] ∧
  Ex [bg, bl, fxA] H4 H' ∧ H' bg = some (.lst (bgs.map V.ref)) ∧ bgs.length = i ∧ (∀ j a, bgs[j]? = some a → CfgAt H' a (cfs R vs c0 j)) ∧ H' bl = some (.lst (bls.map fun e => V.ref e.1)) ∧ (∀ e ∈ bls, (∃ xs, H' e.1 = some (.lst xs) ∧ xs.length = e.2) ∧ e.1 ∉ [bg, bl, fxA]) ∧ bls.map (·.2) = (List.range i).map (tls R vs c0) ∧
  H' fxA = some (.lst (((List.range i).map (mns R vs c0)).map vN)) ∧ CfgAt H' cc (cfs R vs c0 i) ∧ ((List.range i).map (cfs R vs c0)).Nodup
theorem ex_comb {L L2 : List Addr} {H H1 H2 : Hp} (a : Ex L H H1) (b : Ex L2 H1 H2) (n : ∀ b ∈ L2, H b = none) : Ex L H H2 := fun x o q => by
  by_cases hx : x ∈ L
  · rw [hid_in hx] at q
    cases q
  · rw [hid_out hx] at q ⊢
    refine b.get (fun z => ?_) (a.get hx q)
    rw [n x z] at q
    cases q
theorem cfgs_at {R : FRd Str} {vs : List Str} {c0 : FCfg Str} {H : Hp} {bgs : List Addr} {i : Nat} (hl : bgs.length = i) (h : ∀ j a, bgs[j]? = some a → CfgAt H a (cfs R vs c0 j)) {K : PySem.W.Frag} {bg : Addr} (hb : H bg = some (.lst (bgs.map V.ref))) : Dp K H (.ref bg) (.list (((List.range i).map (cfs R vs c0)).map cfgD)) := by
  refine .lst (SqL.of hb) (cfgs_dp (by rw [List.length_map, List.length_range, hl]) fun j b c h1 h2 => ?_)
  have hj : j < i := by rw [← hl]; exact (List.getElem?_eq_some_iff.mp h1).1
  rw [List.getElem?_map, List.getElem?_range hj] at h2
  rw [← Option.some.inj h2]
  exact h j b h1
section
variable {P : Program} {w : World} {K : PySem.W.Frag} {mg : Str → Option Value} {base : Heap}
theorem cf_ok {S : List Str} {W : List (List Str)} (sn : ∀ x ∈ S, NameOk x) (wn : ∀ ts ∈ W, ∀ x ∈ ts, NameOk x) {c : FCfg Str} (h : CfIn S W c) : CfOk c := ⟨name_strOk (sn _ h.st), fun x hx => name_strOk (wn _ h.wt x hx)⟩
theorem course_init_ok (T : Txt K mg) : C8.Mak P w K mg base 7 "Course" (He.ga K "Course") (spCourse K) [] := by
  have c_first := first_ok (P := P) (w := w) (base := base) T
  have c_pass_over := pass_over_ok (P := P) (w := w) (base := base) T
  have c_finish := finish_ok (P := P) (w := w) (base := base) T
  have c_folded := folded_ok (P := P) (w := w) (base := base) T
  have sc : FnScope ["self", "reader", "far", "u", "v", "n", "x", "configuration", "places", "many", "ahead"] ["self", "reader", "far"] (defScope s_Course_init) := ⟨rfl, rfl, rfl, by decide +kernel, rfl, by decide +kernel, by decide +kernel⟩
  have nd := sc.nd
  refine mak_mk (x := "") T.mk_Course T.g_Course T.f_Course_init sc (fun vs H Q E h => by obtain ⟨_, _, _, _, _, _, _, _, _, _, _, _, _, rfl, _⟩ := h; rfl) (fun _ _ _ _ _ _ us hl => match us, hl with | [_, _, _], _ => rfl) (fun cdv A outer s H vs0 Q E hr h => ?_)
  obtain ⟨c, dx, r, f, M, R, S, Tk, W, us, vs, n, xs, rfl, hc, hm0, all, ⟨u, v, x, hf, hu1, hv1, hx1⟩, ⟨us1, us2⟩, ⟨vs1, vs2⟩, ⟨xs1, xs2⟩, q⟩ := h
  have hu := hu_of hr
  have hu65 := hu65_of hr
  refine ⟨_, (C8.pss_cut (ps_asg (pv 2) (pg_sq rfl (pgs_cons (pgn 3 nd) (pgs_cons (pgn 4 nd) (pgs_cons (pgn 5 nd) (pgs_cons (pgn 6 nd) pgs_nil))))))
      (C8.pss_cut (ps_fld (pv 0) (pe_callB call_len_seq (by rfl) T.b_len (by decide +kernel) (pa_cons (pv 3) pa_nil)) rfl)
      (C8.pss_cut (ps_fld (pv 0) (pe_callB call_len_seq (by rfl) T.b_len (by decide +kernel) (pa_cons (pv 4) pa_nil)) rfl)
      (C8.pss_cut (ps_fld (pv 0) (pv 5) rfl)
      (C8.pss_cut (ps_fld (pv 0) (pe_op op_add (pe_op op_add (pe_callB call_len_seq (by rfl) T.b_len (by decide +kernel) (pa_cons (pv 3) pa_nil)) (pe_op op_mul (pv 5) (pe_callB call_len_seq (by rfl) T.b_len (by decide +kernel) (pa_cons (pv 4) pa_nil)))) (pe_callB call_len_seq (by rfl) T.b_len (by decide +kernel) (pa_cons (pv 6) pa_nil))) rfl)
      (C8.pss_cut (ps_asg (C8.pe_c c_pass_over hr (by decide) (by rfl) (pa_cons (pv 1) (pa_cons (C8.pe_c c_first hr (by decide) (by rfl) (pa_cons (pv 1) pa_nil)) (pa_cons (pv 3) pa_nil)))) (pg_tup rfl (pgs_cons (pgn 7 nd) (pgs_cons (pg_attr (pv 0)) (pgs_cons (pg_attr (pv 0)) pgs_nil)))))
      (C8.pss_cut (ps_fld (pv 0) (pe_lst pa_nil) rfl)
      (C8.pss_cut (ps_fld (pv 0) (pe_lst pa_nil) rfl)
      (C8.pss_cut (ps_fld (pv 0) (pe_lst pa_nil) rfl)
      (C8.pss_cut (ps_while PassesOwn.never (pt_cmpR (op_notInD hu65) (pv 7) (pe_fld (pv 0) rfl) (by rfl)) (pss_cons (ps_expr (pe_bm PySem.F.plainAttrs_list PySem.F.slot_list_append PySem.F.type_list_append mt_append (pe_fld (pv 0) rfl) (pa_cons (pv 7) pa_nil)))
      (pss_cons (ps_asg (C8.pe_c c_pass_over hr (by decide) (by rfl) (pa_cons (pv 1) (pa_cons (pv 7) (pa_cons (pv 4) pa_nil)))) (pg_tup rfl (pgs_cons (pgn 7 nd) (pgs_cons (pgn 8 nd) (pgs_cons (pgn 9 nd) pgs_nil)))))
      (pss_cons (ps_expr (pe_bm PySem.F.plainAttrs_list PySem.F.slot_list_append PySem.F.type_list_append mt_append (pe_fld (pv 0) rfl) (pa_cons (pv 8) pa_nil)))
      (pss_one (ps_expr (pe_bm PySem.F.plainAttrs_list PySem.F.slot_list_append PySem.F.type_list_append mt_append (pe_fld (pv 0) rfl) (pa_cons (pv 9) pa_nil))))))))
      (C8.pss_cut (ps_fld (pv 0) (pe_bm PySem.F.plainAttrs_list PySem.F.slot_list_index PySem.F.type_list_index (mt_indexD hu65) (pe_fld (pv 0) rfl) (pa_cons (pv 7) pa_nil)) rfl)
      (pss_cons (pset 10 nd (pe_ix ix_list (pe_fld (pv 0) rfl) (C8.pe_mt c_folded hr (by decide) (pv 0) (pa_cons (pv 5) pa_nil)) (fun _ _ => rfl)))
      (C8.pss_cut (ps_asg (C8.pe_c c_pass_over hr (by decide) (by rfl) (pa_cons (pv 1) (pa_cons (pv 10) (pa_cons (pv 6) pa_nil)))) (pg_tup rfl (pgs_cons (pg_attr (pv 0)) (pgs_cons (pg_attr (pv 0)) (pgs_cons (pg_attr (pv 0)) pgs_nil)))))
      (pss_one (ps_fld (pv 0) (C8.pe_c c_finish hr (by decide) (by rfl) (pa_cons (pv 1) (pa_cons (pe_fld (pv 0) rfl) pa_nil))) rfl))))))))))))))), ?_⟩
  have ok := all.ok
  have hmh := hm0.hid1 hc
  have rd : ∀ {H' : Hp}, Ex [c] H H' → RdrAt K H' r M R := fun e => (hmh.mono e).mono (same_hid _ _)
  have nc : ∀ {b : Addr} {o : HO}, H b = some o → (∀ C dx fs, o ≠ .ins C dx fs) → b ∉ [c] := fun {b o} hb hne hz => by
    rw [List.mem_singleton.mp hz, hc] at hb
    exact hne _ _ _ (Option.some.inj hb).symm
  have gu : ∀ {H' : Hp}, Ex [c] H H' → H' u = some (.tup (us.map .str)) := fun e => e.get (nc hu1 fun _ _ _ z => nomatch z) hu1
  have gv : ∀ {H' : Hp}, Ex [c] H H' → H' v = some (.tup (vs.map .str)) := fun e => e.get (nc hv1 fun _ _ _ z => nomatch z) hv1
  have gx : ∀ {H' : Hp}, Ex [c] H H' → H' x = some (.tup (xs.map .str)) := fun e => e.get (nc hx1 fun _ _ _ z => nomatch z) hx1
  -- u, v, n, x = far
  refine ⟨fun σ' H' => σ' = [some (.ref c), some (.ref r), some (.ref f), some (.ref u), some (.ref v), some (.int n), some (.ref x), none, none, none, none] ∧ H' = H, ⟨_, rfl, f, _, rfl, hf, rfl, _, _, rfl, _, _, rfl, _, _, rfl, _, _, rfl, rfl, rfl, rfl⟩, ?_⟩
  rintro σ1 H1 ⟨rfl, rfl⟩
  -- shift, width, turns, extent
  refine ⟨fun σ' H' => σ' = [some (.ref c), some (.ref r), some (.ref f), some (.ref u), some (.ref v), some (.int n), some (.ref x), none, none, none, none] ∧ Ex [c] H1 H' ∧ ∃ sh : V, H' c = some (.ins (He.ga K "Course") dx [("shift", sh)]),
    ⟨_, rfl, u, _, rfl, .inr (SqT.of hu1), _, rfl, c, _, dx, _, rfl, hc, T.cl_Course, T.n_Course_shift, by decide, rfl, (Ex.refl [c] H1).upd (by simp), _, upd_same⟩, ?_⟩
  rintro σ2 H2 ⟨rfl, x2, sh, m2⟩
  refine ⟨fun σ' H' => σ' = [some (.ref c), some (.ref r), some (.ref f), some (.ref u), some (.ref v), some (.int n), some (.ref x), none, none, none, none] ∧ Ex [c] H1 H' ∧ ∃ wi : V, H' c = some (.ins (He.ga K "Course") dx [("shift", sh), ("width", wi)]),
    ⟨_, rfl, v, _, rfl, .inr (SqT.of (gv x2)), _, rfl, c, _, dx, _, rfl, m2, T.cl_Course, T.n_Course_width, by show 1 < 1000; decide, rfl, x2.upd (by simp), _, by rw [putF_new rfl]; exact upd_same⟩, ?_⟩
  rintro σ3 H3 ⟨rfl, x3, wi, m3⟩
  refine ⟨fun σ' H' => σ' = [some (.ref c), some (.ref r), some (.ref f), some (.ref u), some (.ref v), some (.int n), some (.ref x), none, none, none, none] ∧ Ex [c] H1 H' ∧ H' c = some (.ins (He.ga K "Course") dx [("shift", sh), ("width", wi), ("turns", .int n)]),
    ⟨_, rfl, _, rfl, c, _, dx, _, rfl, m3, T.cl_Course, T.n_Course_turns, by show 2 < 1000; decide, rfl, x3.upd (by simp), by rw [putF_new rfl]; exact upd_same⟩, ?_⟩
  rintro σ4 H4 ⟨rfl, x4, m4⟩
  refine ⟨fun σ' H' => σ' = [some (.ref c), some (.ref r), some (.ref f), some (.ref u), some (.ref v), some (.int n), some (.ref x), none, none, none, none] ∧ Ex [c] H1 H' ∧ ∃ ex : V, H' c = some (.ins (He.ga K "Course") dx [("shift", sh), ("width", wi), ("turns", .int n), ("extent", ex)]),
    ⟨_, rfl, u, _, rfl, .inr (SqT.of (gu x4)), _, rfl, _, rfl, v, _, rfl, .inr (SqT.of (gv x4)), _, _, rfl, rfl, .inr ⟨by rw [List.length_map]; omega, by rw [List.length_map]; omega⟩, _, _, rfl, rfl, _, rfl, x, _, rfl, .inr (SqT.of (gx x4)), _, _, rfl, rfl, _, rfl, c, _, dx, _, rfl, m4, T.cl_Course, T.n_Course_extent, by show 3 < 1000; decide, rfl, x4.upd (by simp), _, by rw [putF_new rfl]; exact upd_same⟩, ?_⟩
  rintro σ5 H5 ⟨rfl, x5, ex, m5⟩
  have hin0 : CfIn S W (⟨M.start, [], 0⟩ : FCfg Str) := ⟨all.start, ok.nil, Nat.zero_le _⟩
  -- configuration, self.head, self.head_mends
  refine ⟨fun σ' H' => ∃ cc : Addr, σ' = [some (.ref c), some (.ref r), some (.ref f), some (.ref u), some (.ref v), some (.int n), some (.ref x), some (.ref cc), none, none, none] ∧ Ex [c] H1 H' ∧ ∃ (hdA : Addr) (hxs : List V), H' c = some (.ins (He.ga K "Course") dx [("shift", sh), ("width", wi), ("turns", .int n), ("extent", ex), ("head", .ref hdA), ("head_mends", .int ((blk R ⟨M.start, [], 0⟩ us).2.2 : Nat))]) ∧
    H' hdA = some (.lst hxs) ∧ hxs.length = (blk R ⟨M.start, [], 0⟩ us).2.1 ∧ CfgAt H' cc (blk R ⟨M.start, [], 0⟩ us).1, ?_, ?_⟩
  · refine ⟨_, rfl, _, rfl, r, M, R, rfl, rd x5, fun p0 H6 e6 hc6 => ?_⟩
    have x6 := x5.trans (Ex.of (L := [c]) e6)
    refine ⟨_, rfl, r, p0, u, M, R, S, Tk, W, ⟨M.start, [], 0⟩, us, rfl, rd x6, ok, hc6, hin0, gu x6, us1, us2, fun p c' pl ls H7 e7 hp7 hc7 hpl7 hlen hfr => ?_⟩
    have m7 := e7 _ _ (e6 _ _ m5)
    refine ⟨p, _, rfl, SqT.of hp7, rfl, _, _, rfl, _, _, rfl, _, rfl, c, _, dx, _, rfl, m7, T.cl_Course, T.n_Course_head, by show 4 < 1000; decide, _, _, rfl, _, rfl, c, _, dx, _, rfl, upd_same, T.cl_Course, T.n_Course_head_mends, ?_, rfl, c', rfl, ?_, pl, ls, ?_, ?_, hlen, ?_⟩
    · rw [putF_new rfl]
      show 5 < 1000
      decide
    · exact ((x6.trans (Ex.of (L := [c]) e7)).upd (by simp)).upd (by simp)
    · rw [upd_same, putF_new rfl, putF_new rfl] <;> rfl
    · rw [upd_upd, upd_ne (ne_of hpl7 m7 (fun z => by cases z))]
      exact hpl7
    · obtain ⟨b, g1, g2⟩ := hc7
      refine ⟨b, ?_, ?_⟩
      · rw [upd_upd, upd_ne (ne_of g1 m7 (fun z => by cases z))]
        exact g1
      · rw [upd_upd, upd_ne (ne_of g2 m7 (fun z => by cases z))]
        exact g2
  rintro σ6 H6 ⟨cc, rfl, x6, hdA, hxs, m6, hd6, hdl, hcc6⟩
  generalize hc0 : (blk R ⟨M.start, [], 0⟩ us).1 = c0 at hcc6
  have hinc : CfIn S W c0 := by
    rw [← hc0]
    exact ov_in ok us (⟨M.start, [], 0⟩, 0, 0) hin0
  have fr0 : ∀ {Hi : Hp} {b : Addr} {o : HO}, Ex [c] H1 Hi → Hi c = some o → Hi b = none → H1 b = none := fun xi hi hb => xi.free (fun z => by rw [List.mem_singleton.mp z, hi] at hb; cases hb) hb
  -- begins, blocks, fixes
  refine ⟨fun σ' H' => σ' = [some (.ref c), some (.ref r), some (.ref f), some (.ref u), some (.ref v), some (.int n), some (.ref x), some (.ref cc), none, none, none] ∧ Ex [c] H1 H' ∧ ∃ bg : Addr, H' c = some (.ins (He.ga K "Course") dx [("shift", sh), ("width", wi), ("turns", .int n), ("extent", ex), ("head", .ref hdA), ("head_mends", .int ((blk R ⟨M.start, [], 0⟩ us).2.2 : Nat)), ("begins", .ref bg)]) ∧
    H' hdA = some (.lst hxs) ∧ CfgAt H' cc c0 ∧ H' bg = some (.lst []) ∧ bg ≠ hdA ∧ H1 bg = none, ?_, ?_⟩
  · refine ⟨by show 0 ≤ sizeLine; exact Nat.zero_le _, fun bg hbg => ⟨_, rfl, c, _, dx, _, rfl, sm_new hbg _ _ m6, T.cl_Course, T.n_Course_begins, by show 6 < 1000; decide, rfl, (x6.trans (Ex.of (L := [c]) (sm_new hbg))).upd (by simp), bg, by rw [upd_same, putF_new rfl]; rfl, st_old hbg m6 hd6 (fun z => by cases z), hcc6.st_old hbg m6, st_new hbg m6, (ne_of_none hd6 hbg).symm, fr0 x6 m6 hbg⟩⟩
  rintro σ7 H7 ⟨rfl, x7, bg, m7, hd7, hcc7, bg7, nb1, fb1⟩
  refine ⟨fun σ' H' => σ' = [some (.ref c), some (.ref r), some (.ref f), some (.ref u), some (.ref v), some (.int n), some (.ref x), some (.ref cc), none, none, none] ∧ Ex [c] H1 H' ∧ ∃ bl : Addr, H' c = some (.ins (He.ga K "Course") dx [("shift", sh), ("width", wi), ("turns", .int n), ("extent", ex), ("head", .ref hdA), ("head_mends", .int ((blk R ⟨M.start, [], 0⟩ us).2.2 : Nat)), ("begins", .ref bg), ("blocks", .ref bl)]) ∧
    H' hdA = some (.lst hxs) ∧ CfgAt H' cc c0 ∧ H' bg = some (.lst []) ∧ H' bl = some (.lst []) ∧ bl ≠ hdA ∧ bg ≠ bl ∧ H1 bl = none, ?_, ?_⟩
  · refine ⟨by show 0 ≤ sizeLine; exact Nat.zero_le _, fun bl hbl => ⟨_, rfl, c, _, dx, _, rfl, sm_new hbl _ _ m7, T.cl_Course, T.n_Course_blocks, by show 7 < 1000; decide, rfl, (x7.trans (Ex.of (L := [c]) (sm_new hbl))).upd (by simp), bl, by rw [upd_same, putF_new rfl]; rfl, st_old hbl m7 hd7 (fun z => by cases z), hcc7.st_old hbl m7, st_old hbl m7 bg7 (fun z => by cases z), st_new hbl m7, (ne_of_none hd7 hbl).symm, ne_of_none bg7 hbl, fr0 x7 m7 hbl⟩⟩
  rintro σ8 H8 ⟨rfl, x8, bl, m8, hd8, hcc8, bg8, bl8, nb2, nb3, fb2⟩
  refine ⟨fun σ' H' => σ' = [some (.ref c), some (.ref r), some (.ref f), some (.ref u), some (.ref v), some (.int n), some (.ref x), some (.ref cc), none, none, none] ∧ Ex [c] H1 H' ∧ ∃ fxA : Addr, H' c = some (.ins (He.ga K "Course") dx (coFs sh wi ex n (blk R ⟨M.start, [], 0⟩ us).2.2 hdA bg bl fxA)) ∧
    H' hdA = some (.lst hxs) ∧ CfgAt H' cc c0 ∧ H' bg = some (.lst []) ∧ H' bl = some (.lst []) ∧ H' fxA = some (.lst []) ∧ fxA ≠ hdA ∧ bg ≠ fxA ∧ bl ≠ fxA ∧ H1 fxA = none, ?_, ?_⟩
  · refine ⟨by show 0 ≤ sizeLine; exact Nat.zero_le _, fun fxA hfx => ⟨_, rfl, c, _, dx, _, rfl, sm_new hfx _ _ m8, T.cl_Course, T.n_Course_fixes, by show 8 < 1000; decide, rfl, (x8.trans (Ex.of (L := [c]) (sm_new hfx))).upd (by simp), fxA, by rw [upd_same, putF_new rfl]; rfl, st_old hfx m8 hd8 (fun z => by cases z), hcc8.st_old hfx m8, st_old hfx m8 bg8 (fun z => by cases z), st_old hfx m8 bl8 (fun z => by cases z), st_new hfx m8, (ne_of_none hd8 hfx).symm, ne_of_none bg8 hfx, ne_of_none bl8 hfx, fr0 x8 m8 hfx⟩⟩
  rintro σ9 H9 ⟨rfl, x9, fxA, m9, hd9, hcc9, bg9, bl9, fx9, nb4, nb5, nb6, fb3⟩
  have hcL : c ∉ [bg, bl, fxA] := fun z => by
    rcases List.mem_cons.mp z with z | z
    · rw [z, bg9] at m9; cases m9
    · rcases List.mem_cons.mp z with z | z
      · rw [z, bl9] at m9; cases m9
      · rw [List.mem_singleton.mp z, fx9] at m9; cases m9
  have nL : ∀ {b : Addr} {o : HO}, H9 b = some o → (∀ xs, o ≠ .lst xs) → b ∉ [bg, bl, fxA] := fun {b o} hb hne z => by
    rcases List.mem_cons.mp z with z | z
    · rw [z, bg9] at hb; exact hne _ (Option.some.inj hb).symm
    · rcases List.mem_cons.mp z with z | z
      · rw [z, bl9] at hb; exact hne _ (Option.some.inj hb).symm
      · rw [List.mem_singleton.mp z, fx9] at hb; exact hne _ (Option.some.inj hb).symm
  have nF : ∀ b ∈ [bg, bl, fxA], H1 b = none := fun b hb => by
    rcases List.mem_cons.mp hb with z | z
    · rw [z]; exact fb1
    · rcases List.mem_cons.mp z with z | z
      · rw [z]; exact fb2
      · rw [List.mem_singleton.mp z]; exact fb3
  have xc : ∀ {H' : Hp}, Ex [bg, bl, fxA] H9 H' → Ex [c] H1 H' := fun e => ex_comb x9 e nF
  -- the loop
  refine ⟨fun σ' H' => ∃ i k, coI c r f u v x bg bl fxA n R vs c0 H9 i σ' H' ∧ k < i ∧ i ≤ 600 ∧ cfs R vs c0 i = cfs R vs c0 k, ?_, ?_⟩
  · refine ⟨fun m σ' H' => ∃ i, m = 601 - i ∧ coI c r f u v x bg bl fxA n R vs c0 H9 i σ' H', ⟨601, 0, rfl, cc, [], [], none, none, rfl, Ex.refl _ _, bg9, rfl, (fun j a h => by simp at h), bl9, (fun e he => by cases he), rfl, fx9, hcc9, List.nodup_nil⟩, ?_⟩
    rintro m σ' H' ⟨i, rfl, hI⟩
    obtain ⟨ci, bgs, bls, v8, v9, rfl, x', bg', hlen, hbgs, bl', hbls, htl, fx', hci, hnd⟩ := id hI
    have mc' := x'.get hcL m9
    have hi6 := cfs_few ok vs c0 hinc all.s6 all.w25 hnd
    have okc : ∀ j, CfOk (cfs R vs c0 j) := fun j => cf_ok all.sn all.wn (cfs_in ok vs c0 hinc j)
    refine ⟨_, rfl, _, rfl, c, _, dx, _, _, rfl, mc', T.cl_Course, T.n_Course_begins, rfl, _, _, hci.dp, cfgs_at hlen hbgs bg', cfgD_shaped (okc i), cfgDs_shaped (fun z hz => by
      obtain ⟨j, _, rfl⟩ := List.mem_map.mp hz
      exact okc j), _, rfl, ?_⟩
    rw [any_cfg]
    by_cases hin : cfs R vs c0 i ∈ (List.range i).map (cfs R vs c0)
    · rw [decide_eq_true hin]
      refine iteF ?_
      obtain ⟨k, hk, e⟩ := List.mem_map.mp hin
      exact ⟨i, k, hI, List.mem_range.mp hk, hi6, e.symm⟩
    · rw [decide_eq_false hin]
      have hnd2 : ((List.range (i + 1)).map (cfs R vs c0)).Nodup := by
        rw [List.range_succ, List.map_append]
        exact nd_snoc hnd hin
      have hi7 := cfs_few ok vs c0 hinc all.s6 all.w25 hnd2
      refine iteT ⟨fun σ' H' => ∃ m', m' < 601 - i ∧ ∃ i, m' = 601 - i ∧ coI c r f u v x bg bl fxA n R vs c0 H9 i σ' H', fun _ _ z => z, ?_⟩
      have hbl6 : bls.length = i := by
        have z := congrArg List.length htl
        rwa [List.length_map, List.length_map, List.length_range] at z
      -- self.begins.append(configuration)
      refine ⟨_, rfl, c, _, dx, _, _, rfl, mc', T.cl_Course, T.n_Course_begins, rfl, .inl ⟨rfl, _, SqL.of bg'⟩, _, rfl, bg, _, _, rfl, rfl, bg', by rw [List.length_map, sizeLine_eq]; omega, ?_⟩
      have xa := x'.upd (d := bg) (o := .lst (bgs.map V.ref ++ [V.ref ci])) (by simp)
      have hca : CfgAt (upd H' bg (.lst (bgs.map V.ref ++ [V.ref ci]))) ci (cfs R vs c0 i) := hci.keep bg'
      -- pass_over
      refine ⟨_, rfl, _, rfl, _, rfl, r, ci, v, M, R, S, Tk, W, _, vs, rfl, rd (xc xa), ok, hca, cfs_in ok vs c0 hinc i, gv (xc xa), vs1, vs2, fun p c' pl ls Hb eb hp hc' hpl hll hfr => ⟨p, _, rfl, SqT.of hp, rfl, _, _, rfl, _, _, rfl, _, _, rfl, rfl, ?_⟩⟩
      have xb := xa.trans (Ex.of (L := [bg, bl, fxA]) eb)
      have bgb := eb _ _ (upd_same (H := H') (a := bg) (o := .lst (bgs.map V.ref ++ [V.ref ci])))
      have blb := eb _ _ (show upd H' bg (.lst (bgs.map V.ref ++ [V.ref ci])) bl = some (.lst (bls.map fun e => V.ref e.1)) by rw [upd_ne (Ne.symm nb3)]; exact bl')
      have fxb := eb _ _ (show upd H' bg (.lst (bgs.map V.ref ++ [V.ref ci])) fxA = some (.lst (((List.range i).map (mns R vs c0)).map vN)) by rw [upd_ne (Ne.symm nb5)]; exact fx')
      have pln : pl ∉ [bg, bl, fxA] := fun z => by
        rcases List.mem_cons.mp z with z | z
        · rw [z, upd_same] at hfr; cases hfr
        · rcases List.mem_cons.mp z with z | z
          · rw [z, upd_ne (Ne.symm nb3), bl'] at hfr; cases hfr
          · rw [List.mem_singleton.mp z, upd_ne (Ne.symm nb5), fx'] at hfr; cases hfr
      -- self.blocks.append(places)
      refine ⟨_, rfl, c, _, dx, _, _, rfl, xb.get hcL m9, T.cl_Course, T.n_Course_blocks, rfl, .inl ⟨rfl, _, SqL.of blb⟩, _, rfl, bl, _, _, rfl, rfl, blb, by rw [List.length_map, sizeLine_eq]; omega, ?_⟩
      have xd := xb.upd (d := bl) (o := .lst ((bls.map fun e => V.ref e.1) ++ [V.ref pl])) (by simp)
      have fxd : upd Hb bl (.lst ((bls.map fun e => V.ref e.1) ++ [V.ref pl])) fxA = some (.lst (((List.range i).map (mns R vs c0)).map vN)) := by rw [upd_ne (Ne.symm nb6)]; exact fxb
      refine ⟨_, rfl, c, _, dx, _, _, rfl, xd.get hcL m9, T.cl_Course, T.n_Course_fixes, rfl, .inl ⟨rfl, _, SqL.of fxd⟩, _, rfl, fxA, _, _, rfl, rfl, fxd, by rw [List.length_map, List.length_map, List.length_range, sizeLine_eq]; omega, ?_⟩
      have hk : ∀ {a : Addr} {cf : FCfg Str}, CfgAt H' a cf → CfgAt (upd (upd Hb bl (.lst ((bls.map fun e => V.ref e.1) ++ [V.ref pl]))) fxA (.lst (((List.range i).map (mns R vs c0)).map vN ++ [V.int ((blk R (cfs R vs c0 i) vs).2.2 : Nat)]))) a cf := fun h => (((h.keep bg').mono eb).keep blb).keep fxd
      refine ⟨601 - (i + 1), by omega, i + 1, rfl, c', bgs ++ [ci], bls ++ [(pl, (blk R (cfs R vs c0 i) vs).2.1)], _, _, rfl, xd.upd (by simp), ?_, ?_, ?_, ?_, ?_, ?_, ?_, ((hc'.keep blb).keep fxd), hnd2⟩
      · rw [upd_ne nb5, upd_ne nb3, bgb, List.map_append] <;> rfl
      · rw [List.length_append, hlen] <;> rfl
      · intro j a hj
        by_cases hji : j < bgs.length
        · rw [List.getElem?_append_left hji] at hj
          exact hk (hbgs j a hj)
        · have hj2 : j = i := by
            have z := (List.getElem?_eq_some_iff.mp hj).1
            rw [List.length_append] at z
            have z2 : ([ci] : List Addr).length = 1 := rfl
            omega
          rw [hj2, ← hlen, List.getElem?_append_right (Nat.le_refl _), Nat.sub_self] at hj
          cases hj
          rw [hj2]
          exact hk hci
      · rw [upd_ne nb6, upd_same, List.map_append] <;> rfl
      · intro e he
        rcases List.mem_append.mp he with z | z
        · obtain ⟨⟨xs', g1, g2⟩, g3⟩ := hbls e z
          refine ⟨⟨xs', ?_, g2⟩, g3⟩
          have n1 : e.1 ≠ bg := fun z => g3 (by rw [z]; simp)
          have n2 : e.1 ≠ bl := fun z => g3 (by rw [z]; simp)
          have n3 : e.1 ≠ fxA := fun z => g3 (by rw [z]; simp)
          rw [upd_ne n3, upd_ne n2]
          exact eb _ _ (by rw [upd_ne n1]; exact g1)
        · rw [List.mem_singleton.mp z]
          refine ⟨⟨ls, ?_, hll⟩, pln⟩
          have n2 : pl ≠ bl := fun z => pln (by rw [z]; simp)
          have n3 : pl ≠ fxA := fun z => pln (by rw [z]; simp)
          show upd _ _ _ pl = _
          rw [upd_ne n3, upd_ne n2]
          exact hpl
      · rw [List.map_append, htl, List.range_succ, List.map_append] <;> rfl
      · rw [upd_same, List.range_succ, List.map_append, List.map_append] <;> rfl
  rintro σ10 H10 ⟨i, k, ⟨ci, bgs, bls, v8, v9, rfl, x', bg', hlen, hbgs, bl', hbls, htl, fx', hci, hnd⟩, hki, hi6, hcyc⟩
  have mc' := x'.get hcL m9
  have okc : ∀ j, CfOk (cfs R vs c0 j) := fun j => cf_ok all.sn all.wn (cfs_in ok vs c0 hinc j)
  have xr := xc x'
  have nhd : hdA ∉ [bg, bl, fxA] := fun z => by
    rcases List.mem_cons.mp z with z | z
    · exact nb1 z.symm
    · rcases List.mem_cons.mp z with z | z
      · exact nb2 z.symm
      · exact nb4 (List.mem_singleton.mp z).symm
  have hd10 := x'.get nhd hd9
  -- self.back
  refine ⟨fun σ' H' => σ' = [some (.ref c), some (.ref r), some (.ref f), some (.ref u), some (.ref v), some (.int n), some (.ref x), some (.ref ci), v8, v9, none] ∧ H' = upd H10 c (.ins (He.ga K "Course") dx (coFs sh wi ex n (blk R ⟨M.start, [], 0⟩ us).2.2 hdA bg bl fxA ++ ([("back", .int k)] : List (Str × V)))), ?_, ?_⟩
  · refine ⟨_, rfl, c, _, dx, _, _, rfl, mc', T.cl_Course, T.n_Course_begins, rfl, .inl ⟨rfl, _, SqL.of bg'⟩, _, rfl, bg, _, cfgD (cfs R vs c0 i), _, k, cfgD (cfs R vs c0 k), rfl, rfl, cfgs_at hlen hbgs bg', hci.dp, cfgDs_shaped (fun z hz => by
      obtain ⟨j, _, rfl⟩ := List.mem_map.mp hz
      exact okc j), cfgD_shaped (okc i), ?_, ?_, ?_, _, rfl, c, _, dx, _, rfl, mc', T.cl_Course, T.n_Course_back, by show 9 < 1000; decide, rfl, by rw [putF_new rfl]⟩
    · rw [List.getElem?_map, List.getElem?_map, List.getElem?_range hki] <;> rfl
    · rw [cfgD_eqv, hcyc]
      exact decide_eq_true rfl
    · intro m z' hm hz
      rw [List.getElem?_map, List.getElem?_map, List.getElem?_range (by omega)] at hz
      rw [← Option.some.inj hz, cfgD_eqv, hcyc]
      refine decide_eq_false fun e => ?_
      have h1 : ((List.range i).map (cfs R vs c0))[m]? = some (cfs R vs c0 m) := by rw [List.getElem?_map, List.getElem?_range (by omega)]; rfl
      have h2 : ((List.range i).map (cfs R vs c0))[k]? = some (cfs R vs c0 m) := by rw [List.getElem?_map, List.getElem?_range hki, e]; rfl
      have := nd_ix hnd h1 h2
      omega
  rintro σ11 H11 ⟨rfl, hH11⟩
  have x11 : Ex [c] H1 H11 := by rw [hH11]; exact xr.upd (by simp)
  have m11 : H11 c = some (.ins (He.ga K "Course") dx (coFs sh wi ex n (blk R ⟨M.start, [], 0⟩ us).2.2 hdA bg bl fxA ++ ([("back", .int k)] : List (Str × V)))) := by rw [hH11]; exact upd_same
  have o11 : ∀ {b : Addr} {o : HO}, H10 b = some o → (∀ C dx fs, o ≠ .ins C dx fs) → H11 b = some o := fun hb hne => by
    rw [hH11, upd_ne (ne_of hb mc' (hne _ _ _))]
    exact hb
  have cf11 : ∀ {a : Addr} {cf : FCfg Str}, CfgAt H10 a cf → CfgAt H11 a cf := fun ⟨b, h1, h2⟩ => ⟨b, o11 h1 (fun _ _ _ z => nomatch z), o11 h2 (fun _ _ _ z => nomatch z)⟩
  clear hH11
  have bg11 := o11 bg' (fun _ _ _ z => nomatch z)
  -- ahead
  have hj : (if n < i then n else k + (n - k) % (i - k)) < i := by
    split
    · assumption
    · have := Nat.mod_lt (n - k) (show 0 < i - k by omega)
      omega
  have hcf : cfs R vs c0 (if n < i then n else k + (n - k) % (i - k)) = cfs R vs c0 n := fold_at hki hcyc
  have hbl : (bgs.map V.ref).length = i := by rw [List.length_map, hlen]
  obtain ⟨aj, haj⟩ : ∃ aj, bgs[(if n < i then n else k + (n - k) % (i - k))]? = some aj := ⟨_, List.getElem?_eq_getElem (by rw [hlen]; exact hj)⟩
  have hcaj := cf11 (hbgs _ aj haj)
  rw [hcf] at hcaj
  refine ⟨_, rfl, c, _, dx, _, _, rfl, m11, T.cl_Course, T.n_Course_begins, rfl, _, rfl, c, dx, _, rfl, m11, rfl, _, rfl, c, dx, bg, _, _, k, n, rfl, m11, rfl, rfl, bg11, by rw [hbl]; exact hki, ?_⟩
  rw [hbl]
  refine ⟨bg, _, _, .ref aj, rfl, rfl, SqL.of bg11, at_of rfl (by rw [List.getElem?_map, haj]; rfl), ?_⟩
  have hinN := cfs_in ok vs c0 hinc n
  -- self.goal, self.tail, self.tail_mends
  refine ⟨fun σ' H' => σ' = [some (.ref c), some (.ref r), some (.ref f), some (.ref u), some (.ref v), some (.int n), some (.ref x), some (.ref ci), v8, v9, some (.ref aj)] ∧ Ex [c] H1 H' ∧ (∀ {b : Addr} {o : HO}, H11 b = some o → (∀ C dx fs, o ≠ .ins C dx fs) → H' b = some o) ∧ ∃ (gl tlA : Addr) (txs : List V), H' c = some (.ins (He.ga K "Course") dx (coFs sh wi ex n (blk R ⟨M.start, [], 0⟩ us).2.2 hdA bg bl fxA ++ ([("back", .int k), ("goal", .ref gl), ("tail", .ref tlA), ("tail_mends", .int ((blk R (cfs R vs c0 n) xs).2.2 : Nat))] : List (Str × V)))) ∧
    CfgAt H' gl (blk R (cfs R vs c0 n) xs).1 ∧ H' tlA = some (.lst txs) ∧ txs.length = (blk R (cfs R vs c0 n) xs).2.1, ?_, ?_⟩
  · refine ⟨_, rfl, _, rfl, _, rfl, r, aj, x, M, R, S, Tk, W, _, xs, rfl, rd x11, ok, hcaj, hinN, gx x11, xs1, xs2, fun p c' pl ls H12 e12 hp hc' hpl hll hfr => ?_⟩
    have m12 := e12 _ _ m11
    refine ⟨p, _, rfl, SqT.of hp, rfl, _, _, rfl, _, rfl, c, _, dx, _, rfl, m12, T.cl_Course, T.n_Course_goal, by show 10 < 1000; decide, _, _, rfl, _, rfl, c, _, dx, _, rfl, upd_same, T.cl_Course, T.n_Course_tail, ?_, _, _, rfl, _, rfl, c, _, dx, _, rfl, upd_same, T.cl_Course, T.n_Course_tail_mends, ?_, rfl, rfl, ?_, ?_, c', pl, ls, ?_, ?_, ?_, hll⟩
    · rw [putF_new rfl]
      show 11 < 1000
      decide
    · rw [putF_new rfl, putF_new rfl]
      show 12 < 1000
      decide
    · exact (((x11.trans (Ex.of (L := [c]) e12)).upd (by simp)).upd (by simp)).upd (by simp)
    · intro b o hb hne
      rw [upd_upd, upd_upd, upd_ne (ne_of (e12 _ _ hb) m12 (hne _ _ _))]
      exact e12 _ _ hb
    · rw [upd_same, putF_new rfl, putF_new rfl, putF_new rfl] <;> rfl
    · obtain ⟨b, g1, g2⟩ := hc'
      refine ⟨b, ?_, ?_⟩
      · rw [upd_upd, upd_upd, upd_ne (ne_of g1 m12 (fun z => by cases z))]
        exact g1
      · rw [upd_upd, upd_upd, upd_ne (ne_of g2 m12 (fun z => by cases z))]
        exact g2
    · rw [upd_upd, upd_upd, upd_ne (ne_of hpl m12 (fun z => by cases z))]
      exact hpl
  rintro σ12 H12 ⟨rfl, x12, o12, gl, tlA, txs, m12, hgl, htl12, htx⟩
  -- self.closing
  refine ⟨_, rfl, _, rfl, c, _, dx, _, _, rfl, m12, T.cl_Course, T.n_Course_goal, rfl, r, gl, M, R, _, rfl, rd x12, hgl, fun p H13 e13 hp => ?_⟩
  have m13 := e13 _ _ m12
  refine ⟨_, rfl, c, _, dx, _, rfl, m13, T.cl_Course, T.n_Course_closing, by show 13 < 1000; decide, ?_⟩
  have o13 : ∀ {b : Addr} {o : HO} {fs : List (Str × V)}, H10 b = some o → (∀ C dx fs, o ≠ .ins C dx fs) → upd H13 c (.ins (He.ga K "Course") dx fs) b = some o := fun hb hne => by
    have h13 := e13 _ _ (o12 (o11 hb hne) hne)
    rw [upd_ne (ne_of h13 m13 (hne _ _ _))]
    exact h13
  refine q _ ⟨n, k, (List.range i).map (tls R vs c0), (List.range i).map (mns R vs c0), (blk R ⟨M.start, [], 0⟩ us).2.1, (blk R ⟨M.start, [], 0⟩ us).2.2, (blk R (cfs R vs c0 n) xs).2.1, (blk R (cfs R vs c0 n) xs).2.2, (blk R (cfs R vs c0 n) xs).1, if (blk R (cfs R vs c0 n) xs).1.st ∈ M.fins then 0 else if (blk R (cfs R vs c0 n) xs).1.q = 0 then 1 else 0, if (blk R (cfs R vs c0 n) xs).1.st ∈ M.fins then 0 else 1⟩
    ((x12.trans (Ex.of (L := [c]) e13)).upd (by simp)) ⟨dx, hdA, bg, bl, fxA, gl, tlA, p, sh, wi, ex, hxs, txs, bls, ?_, o13 hd10 (fun _ _ _ z => nomatch z), hdl, o13 bl' (fun _ _ _ z => nomatch z), fun e he => ?_, htl, o13 fx' (fun _ _ _ z => nomatch z), ?_, ?_, htx, ?_⟩ ⟨k, i, hki, hi6, rfl, rfl, ?_⟩
  · rw [upd_same, putF_new rfl] <;> rfl
  · obtain ⟨⟨xs', g1, g2⟩, _⟩ := hbls e he
    exact ⟨xs', o13 g1 (fun _ _ _ z => nomatch z), g2⟩
  · obtain ⟨b, g1, g2⟩ := hgl.mono e13
    refine ⟨b, ?_, ?_⟩
    · rw [upd_ne (ne_of g1 m13 (fun z => by cases z))]
      exact g1
    · rw [upd_ne (ne_of g2 m13 (fun z => by cases z))]
      exact g2
  · have z := e13 _ _ htl12
    rw [upd_ne (ne_of z m13 (fun z => by cases z))]
    exact z
  · rw [upd_ne (ne_of hp m13 (fun z => by cases z)), hp]
    by_cases h1 : (blk R (cfs R vs c0 n) xs).1.st ∈ M.fins
    · simp only [if_pos h1]
      rfl
    · by_cases h2 : (blk R (cfs R vs c0 n) xs).1.q = 0
      · simp only [if_neg h1, if_pos h2]
        rfl
      · simp only [if_neg h1, if_neg h2]
        rfl
  · rw [hc0]
    exact ⟨rfl, rfl, hcyc, rfl, rfl, rfl, rfl, rfl, rfl, rfl⟩
end
end Far

set_option Elab.async false
set_option linter.all false
set_option maxRecDepth 100000
set_option maxHeartbeats 4000000
/-! FarFar4: course, told_far, mends_far, arrive_far -/
namespace Far
open PySem PySem.Spec PyProof.Rows L2 Fz
/-- reader and far row, both in order -/
structure FarIn (K : PySem.W.Frag) (H : Hp) (r f : Addr) (M : MD) (R : FRd Str) (S T : List Str) (W : List (List Str)) (us vs : List Str) (n : Nat) (xs : List Str) : Prop where
  rd : RdrAt K H r M R
  all : RdAll R M S T W
  far : FarAt K H f us vs n xs
  us1 : RowOk M.toks us
  vs1 : RowOk M.toks vs
  xs1 : RowOk M.toks xs
  tk : ∀ t ∈ M.toks, t ∈ T
  n30 : n ≤ 1000000000000000000000000000000
theorem FarIn.mono {K : PySem.W.Frag} {H H' : Hp} {r f : Addr} {M : MD} {R : FRd Str} {S T : List Str} {W : List (List Str)} {us vs : List Str} {n : Nat} {xs : List Str} (e : Same H H') (h : FarIn K H r f M R S T W us vs n xs) : FarIn K H' r f M R S T W us vs n xs :=
  ⟨h.rd.mono e, h.all, h.far.mono e, h.us1, h.vs1, h.xs1, h.tk, h.n30⟩
def spCourseF (K : PySem.W.Frag) : Sp := fun vs' H Q _ => ∃ (r f : Addr) (M : MD) (R : FRd Str) (S T : List Str) (W : List (List Str)) (us vs : List Str) (n : Nat) (xs : List Str), vs' = [.ref r, .ref f] ∧ FarIn K H r f M R S T W us vs n xs ∧ ∀ c D H', Same H H' → CoAt K H' c D → CoRes R M.start us vs n xs M.fins D → Q (.ref c) H'
def c0v (R : FRd Str) (start : Str) (us : List Str) : FCfg Str := (blk R ⟨start, [], 0⟩ us).1
def goalV (R : FRd Str) (start : Str) (us vs : List Str) (n : Nat) (xs : List Str) : FP Str := blk R (cfs R vs (c0v R start us) n) xs
def toldV (R : FRd Str) (start : Str) (us vs : List Str) (n : Nat) (xs fins : List Str) : Nat := (blk R ⟨start, [], 0⟩ us).2.1 + psum (tls R vs (c0v R start us)) n + (goalV R start us vs n xs).2.1 + (if (goalV R start us vs n xs).1.st ∈ fins then 0 else if (goalV R start us vs n xs).1.q = 0 then 1 else 0)
def mendV (R : FRd Str) (start : Str) (us vs : List Str) (n : Nat) (xs fins : List Str) : Nat := (blk R ⟨start, [], 0⟩ us).2.2 + psum (mns R vs (c0v R start us)) n + (goalV R start us vs n xs).2.2 + (if (goalV R start us vs n xs).1.st ∈ fins then 0 else 1)
def spToldFar (K : PySem.W.Frag) : Sp := fun vs' H Q _ => ∃ (r f : Addr) (M : MD) (R : FRd Str) (S T : List Str) (W : List (List Str)) (us vs : List Str) (n : Nat) (xs : List Str), vs' = [.ref r, .ref f] ∧ FarIn K H r f M R S T W us vs n xs ∧ ∀ H', Same H H' → Q (.int (toldV R M.start us vs n xs M.fins : Nat)) H'
def spMendsFar (K : PySem.W.Frag) : Sp := fun vs' H Q _ => ∃ (r f : Addr) (M : MD) (R : FRd Str) (S T : List Str) (W : List (List Str)) (us vs : List Str) (n : Nat) (xs : List Str), vs' = [.ref r, .ref f] ∧ FarIn K H r f M R S T W us vs n xs ∧ ∀ H', Same H H' → Q (.int (mendV R M.start us vs n xs M.fins : Nat)) H'
def spArriveFar (K : PySem.W.Frag) : Sp := fun vs' H Q _ => ∃ (r f : Addr) (M : MD) (R : FRd Str) (S T : List Str) (W : List (List Str)) (us vs : List Str) (n : Nat) (xs : List Str), vs' = [.ref r, .ref f] ∧ FarIn K H r f M R S T W us vs n xs ∧ ∀ a H', Same H H' → CfgAt H' a (goalV R M.start us vs n xs).1 → Q (.ref a) H'
theorem CoRes.ok {R : FRd Str} {start : Str} {us vs : List Str} {n : Nat} {xs fins : List Str} {D : CoD} (hv : vs.length ≤ 200) (h : CoRes R start us vs n xs fins D) : CoOk D := by
  obtain ⟨k, L, hk, hL, h1, h2, h3, h4, _⟩ := h.ex
  have l1 : D.tl.length = L := by rw [h3, List.length_map, List.length_range]
  have l2 : D.fx.length = L := by rw [h4, List.length_map, List.length_range]
  have b : ∀ (ns : List Nat), ns.length ≤ 600 → (∀ x ∈ ns, x ≤ 1600) → ∀ k, (ns.drop k).sum < 1000000000 := fun ns hl hx k => by
    have z := sum_le 1600 (ns.drop k) fun x hm => hx x (List.mem_of_mem_drop hm)
    have z2 : (ns.drop k).length ≤ 600 := by rw [List.length_drop]; omega
    have z3 : (ns.drop k).length * 1600 ≤ 600 * 1600 := Nat.mul_le_mul z2 (Nat.le_refl _)
    omega
  refine ⟨by rw [l1, h2]; exact hk, by rw [l2, h2]; exact hk, by omega, by omega, b _ (by omega) fun x hx => ?_, b _ (by omega) fun x hx => ?_⟩
  · rw [h3] at hx
    obtain ⟨i, _, rfl⟩ := List.mem_map.mp hx
    have := (blk_le R vs (cfs R vs (blk R ⟨start, [], 0⟩ us).1 i, 0, 0)).1
    have e : tls R vs (blk R ⟨start, [], 0⟩ us).1 i = (ov R (cfs R vs (blk R ⟨start, [], 0⟩ us).1 i, 0, 0) vs).2.1 := rfl
    rw [e]
    have e2 : ((cfs R vs (blk R ⟨start, [], 0⟩ us).1 i, 0, 0) : FP Str).2.1 = 0 := rfl
    omega
  · rw [h4] at hx
    obtain ⟨i, _, rfl⟩ := List.mem_map.mp hx
    have := (blk_le R vs (cfs R vs (blk R ⟨start, [], 0⟩ us).1 i, 0, 0)).2
    have e : mns R vs (blk R ⟨start, [], 0⟩ us).1 i = (ov R (cfs R vs (blk R ⟨start, [], 0⟩ us).1 i, 0, 0) vs).2.2 := rfl
    rw [e]
    have e2 : ((cfs R vs (blk R ⟨start, [], 0⟩ us).1 i, 0, 0) : FP Str).2.2 = 0 := rfl
    omega
theorem CoRes.told {R : FRd Str} {start : Str} {us vs : List Str} {n : Nat} {xs fins : List Str} {D : CoD} (h : CoRes R start us vs n xs fins D) : D.hd + totalD D.tl D.turns D.back + D.tln + D.c0 = toldV R start us vs n xs fins ∧ D.hm + totalD D.fx D.turns D.back + D.tm + D.c1 = mendV R start us vs n xs fins ∧ D.goal = (goalV R start us vs n xs).1 := by
  obtain ⟨k, L, hk, hL, h1, h2, h3, h4, h5, h6, h7, h8, h9, h10, h11, h12⟩ := h.ex
  have t1 : totalD D.tl D.turns D.back = psum (tls R vs (c0v R start us)) n := by
    rw [h1, h2, h3]
    exact total_eq (f := fun c => (blk R c vs).1) (fun c => (blk R c vs).2.1) hk h5
  have t2 : totalD D.fx D.turns D.back = psum (mns R vs (c0v R start us)) n := by
    rw [h1, h2, h4]
    exact total_eq (f := fun c => (blk R c vs).1) (fun c => (blk R c vs).2.2) hk h5
  refine ⟨?_, ?_, h8⟩
  · rw [t1, h6, h9, h11, h8]
    rfl
  · rw [t2, h7, h10, h12, h8]
    rfl
section
variable {P : Program} {w : World} {K : PySem.W.Frag} {mg : Str → Option Value} {base : Heap}
theorem course_ok (T : Txt K mg) : Cal P w K mg base 9 "course" (spCourseF K) [] := by
  have c_machine := machineP_ok (P := P) (w := w) (base := base) T
  have c_need_far := need_far_ok (P := P) (w := w) (base := base) T
  have c_Course := course_init_ok (P := P) (w := w) (base := base) T
  have sc : FnScope ["reader", "far"] ["reader", "far"] (defScope s_course) := ⟨rfl, rfl, rfl, by decide +kernel, rfl, by decide +kernel, by decide +kernel⟩
  have nd := sc.nd
  refine cal_mk T.g_course T.f_course sc (fun vs H Q E h => by obtain ⟨_, _, _, _, _, _, _, _, _, _, _, rfl, _⟩ := h; rfl) (fun _ _ _ _ _ _ us hl => match us, hl with | [_, _], _ => rfl) (fun cdv A outer s H vs0 Q E hr h => ?_)
  obtain ⟨r, f, M, R, S, Tk, W, us, vs, n, xs, rfl, h, q⟩ := h
  refine ⟨_, (pss_cons (ps_expr (C8.pe_c c_need_far hr (by decide) (by rfl) (pa_cons (pe_p c_machine hr (by decide) (pv 0)) (pa_cons (pv 1) pa_nil))))
      (pss_one (ps_ret (C8.pe_mk c_Course hr (by decide) (by rfl) (pa_cons (pv 0) (pa_cons (pv 1) pa_nil)))))), ?_⟩
  obtain ⟨dx, m0, ac, pa, kvs, ks, h1, hh⟩ := id h.rd
  refine ⟨_, rfl, r, dx, _, rfl, h1, r, M, R, rfl, h.rd, fun m hm => ⟨_, rfl, m, f, M, us, vs, n, xs, rfl, hm, h.far, h.us1, h.vs1, h.xs1, h.n30, fun H1 e1 => ?_⟩⟩
  refine ⟨_, rfl, _, rfl, fun c dc hc hdc hne => ?_⟩
  have e2 : Same H1 (upd (upd H1 dc (.own c)) c (.ins (He.ga K "Course") dc [])) := (sm_new hdc).trans (sm_new (by rw [upd_ne (Ne.symm hne)]; exact hc))
  have hf := h.mono (e1.trans e2)
  have tok : ∀ {row : List Str}, RowOk M.toks row → row.length ≤ 200 ∧ ∀ t ∈ row, t ∈ Tk := fun z => ⟨z.1, fun t ht => h.tk t (z.2 t ht).2⟩
  refine ⟨c, dc, r, f, M, R, S, Tk, W, us, vs, n, xs, rfl, upd_same, hf.rd, h.all, hf.far, tok h.us1, tok h.vs1, tok h.xs1, fun H3 D x3 hco hres => ⟨rfl, q c D H3 ?_ hco hres⟩⟩
  exact e1.trans (ex_same e2 x3 fun b hb => by rw [List.mem_singleton.mp hb]; exact hc)
theorem told_far_ok (T : Txt K mg) : Cal P w K mg base 10 "told_far" (spToldFar K) [] := by
  have c_course := course_ok (P := P) (w := w) (base := base) T
  have c_many_told := many_told_ok (P := P) (w := w) (base := base) T
  have sc : FnScope ["reader", "far"] ["reader", "far"] (defScope s_told_far) := ⟨rfl, rfl, rfl, by decide +kernel, rfl, by decide +kernel, by decide +kernel⟩
  have nd := sc.nd
  refine cal_mk T.g_told_far T.f_told_far sc (fun vs H Q E h => by obtain ⟨_, _, _, _, _, _, _, _, _, _, _, rfl, _⟩ := h; rfl) (fun _ _ _ _ _ _ us hl => match us, hl with | [_, _], _ => rfl) (fun cdv A outer s H vs0 Q E hr h => ?_)
  obtain ⟨r, f, M, R, S, Tk, W, us, vs, n, xs, rfl, h, q⟩ := h
  refine ⟨_, (pss_one (ps_ret (C8.pe_mt0 c_many_told hr (by decide) (C8.pe_c c_course hr (by decide) (by rfl) (pa_cons (pv 0) (pa_cons (pv 1) pa_nil)))))), ?_⟩
  refine ⟨_, rfl, _, rfl, r, f, M, R, S, Tk, W, us, vs, n, xs, rfl, h, fun c D H1 e1 hco hres => ?_⟩
  obtain ⟨dx, hdA, bgA, blA, fxA, glA, tlA, clA, sh, wi, ex, hxs, txs, bls, h1, hh⟩ := id hco
  refine ⟨c, dx, _, rfl, h1, rfl, c, D, rfl, hco, hres.ok h.vs1.1, fun H2 e2 => ?_⟩
  have z := q H2 (e1.trans e2)
  rw [← hres.told.1] at z
  exact z
theorem mends_far_ok (T : Txt K mg) : Cal P w K mg base 10 "mends_far" (spMendsFar K) [] := by
  have c_course := course_ok (P := P) (w := w) (base := base) T
  have c_total := total_ok (P := P) (w := w) (base := base) T
  have sc : FnScope ["reader", "far", "found"] ["reader", "far"] (defScope s_mends_far) := ⟨rfl, rfl, rfl, by decide +kernel, rfl, by decide +kernel, by decide +kernel⟩
  have nd := sc.nd
  refine cal_mk T.g_mends_far T.f_mends_far sc (fun vs H Q E h => by obtain ⟨_, _, _, _, _, _, _, _, _, _, _, rfl, _⟩ := h; rfl) (fun _ _ _ _ _ _ us hl => match us, hl with | [_, _], _ => rfl) (fun cdv A outer s H vs0 Q E hr h => ?_)
  obtain ⟨r, f, M, R, S, Tk, W, us, vs, n, xs, rfl, h, q⟩ := h
  refine ⟨_, (pss_cons (pset 2 nd (C8.pe_c c_course hr (by decide) (by rfl) (pa_cons (pv 0) (pa_cons (pv 1) pa_nil))))
      (pss_one (ps_ret (pe_op op_add (pe_op op_add (pe_op op_add (pe_fld (pv 2) rfl) (C8.pe_mt c_total hr (by decide) (pv 2) (pa_cons (pe_fld (pv 2) rfl) pa_nil))) (pe_fld (pv 2) rfl)) (pe_ix ix_tup (pe_fld (pv 2) rfl) pe_int (fun _ _ => rfl)))))), ?_⟩
  refine ⟨_, rfl, _, rfl, r, f, M, R, S, Tk, W, us, vs, n, xs, rfl, h, fun c D H1 e1 hco hres => ?_⟩
  obtain ⟨dx, hdA, bgA, blA, fxA, glA, tlA, clA, sh, wi, ex, hxs, txs, bls, h1, h2, h3, h4, h5, h6, h7, h8, h9, h10, h11⟩ := id hco
  have ok := hres.ok h.vs1.1
  refine ⟨_, rfl, c, _, dx, _, _, rfl, h1, T.cl_Course, T.n_Course_head_mends, rfl, _, rfl, c, dx, _, rfl, h1, rfl, _, rfl, c, _, dx, _, _, rfl, h1, T.cl_Course, T.n_Course_fixes, rfl, c, dx, fxA, _, D.fx, D.turns, D.back, rfl, h1, rfl, rfl, h7, ok.b2, ok.l2, ok.s2, fun H2 e2 => ?_⟩
  refine ⟨_, _, rfl, rfl, _, rfl, c, _, dx, _, _, rfl, e2 _ _ h1, T.cl_Course, T.n_Course_tail_mends, rfl, _, _, rfl, rfl, _, rfl, c, _, dx, _, _, rfl, e2 _ _ h1, T.cl_Course, T.n_Course_closing, rfl, clA, _, _, _, rfl, rfl, SqT.of (e2 _ _ h11), rfl, _, _, rfl, rfl, ?_⟩
  have z := q H2 (e1.trans e2)
  rw [← hres.told.2.1, Int.natCast_add, Int.natCast_add, Int.natCast_add] at z
  exact z
theorem arrive_far_ok (T : Txt K mg) : Cal P w K mg base 10 "arrive_far" (spArriveFar K) [] := by
  have c_course := course_ok (P := P) (w := w) (base := base) T
  have sc : FnScope ["reader", "far"] ["reader", "far"] (defScope s_arrive_far) := ⟨rfl, rfl, rfl, by decide +kernel, rfl, by decide +kernel, by decide +kernel⟩
  have nd := sc.nd
  refine cal_mk T.g_arrive_far T.f_arrive_far sc (fun vs H Q E h => by obtain ⟨_, _, _, _, _, _, _, _, _, _, _, rfl, _⟩ := h; rfl) (fun _ _ _ _ _ _ us hl => match us, hl with | [_, _], _ => rfl) (fun cdv A outer s H vs0 Q E hr h => ?_)
  obtain ⟨r, f, M, R, S, Tk, W, us, vs, n, xs, rfl, h, q⟩ := h
  refine ⟨_, (pss_one (ps_ret (pe_fld (C8.pe_c c_course hr (by decide) (by rfl) (pa_cons (pv 0) (pa_cons (pv 1) pa_nil))) rfl))), ?_⟩
  refine ⟨_, rfl, _, rfl, r, f, M, R, S, Tk, W, us, vs, n, xs, rfl, h, fun c D H1 e1 hco hres => ?_⟩
  obtain ⟨dx, hdA, bgA, blA, fxA, glA, tlA, clA, sh, wi, ex, hxs, txs, bls, h1, h2, h3, h4, h5, h6, h7, h8, _⟩ := id hco
  refine ⟨c, _, dx, _, _, rfl, h1, T.cl_Course, T.n_Course_goal, rfl, q glA H1 e1 ?_⟩
  rw [← hres.told.2.2]
  exact h8
end
end Far

set_option Elab.async false
set_option linter.all false
set_option maxRecDepth 100000
set_option maxHeartbeats 4000000
/-! FarRdr1: told_action -/
namespace Far
open PySem PySem.Spec PyProof.Rows L2 Fz
/-! ### an ordered list is its own order -/
theorem rising_pw : ∀ (p : Str) (l : List Str), risingS p l = true → (p :: l).Pairwise (fun a b => ¬ b.cps.toList < a.cps.toList)
  | p, [], _ => List.pairwise_singleton _ _
  | p, x :: r, h => by
    have h' : (!Spec.ltCps x.cps.toList p.cps.toList && risingS x r) = true := h
    rw [Bool.and_eq_true, Bool.not_eq_true', ltCps_eq] at h'
    have ih := rising_pw x r h'.2
    have hx : ¬ x.cps.toList < p.cps.toList := of_decide_eq_false h'.1
    refine List.pairwise_cons.mpr ⟨fun y hy => ?_, ih⟩
    rcases List.mem_cons.mp hy with z | z
    · rw [z]; exact hx
    · have h2 := List.rel_of_pairwise_cons ih z
      exact fun h3 => by
        have a1 : p.cps.toList ≤ x.cps.toList := hx
        have a2 : x.cps.toList ≤ y.cps.toList := h2
        exact (List.le_trans a1 a2) h3
theorem pw_unique : ∀ {l m : List Str}, l.Perm m → l.Pairwise (fun a b => ¬ b.cps.toList < a.cps.toList) → m.Pairwise (fun a b => ¬ b.cps.toList < a.cps.toList) → l = m
  | [], m, h, _, _ => (List.nil_perm.mp h).symm
  | a :: l, [], h, _, _ => absurd (List.perm_nil.mp h) (by simp)
  | a :: l, b :: m, h, h1, h2 => by
    have hab : a = b := by
      have ha : a ∈ b :: m := h.mem_iff.mp List.mem_cons_self
      have hb : b ∈ a :: l := h.mem_iff.mpr List.mem_cons_self
      rcases List.mem_cons.mp ha with z | z
      · exact z
      · rcases List.mem_cons.mp hb with y | y
        · exact y.symm
        · have e1 : a.cps.toList ≤ b.cps.toList := List.rel_of_pairwise_cons h1 y
          have e2 : b.cps.toList ≤ a.cps.toList := List.rel_of_pairwise_cons h2 z
          exact PySem.W.str_of_cps (List.le_antisymm e1 e2)
    subst hab
    rw [pw_unique (List.perm_cons a |>.mp h) (List.pairwise_cons.mp h1).2 (List.pairwise_cons.mp h2).2]
theorem sorted_pw {l : List Str} (h : sortedS l = true) : l.Pairwise (fun a b => ¬ b.cps.toList < a.cps.toList) := by
  cases l with
  | nil => exact List.Pairwise.nil
  | cons x r => exact rising_pw x r h
/-- an action that told_action lets through -/
structure ActOk (M : MD) (s : Str) (a : FAct Str) : Prop where
  pt : ∀ x, a = .put x ∨ a = .take x → NameOk x ∧ ∃ s', M.mv s x = some s'
  jp : ∀ s', a = .jump s' → NameOk s' ∧ s' ∈ M.places ∧ s' ≠ s
  ps : ∀ ts s', a = .pass ts s' → NameOk s' ∧ s' ∈ M.places ∧ ts.Nodup ∧ 0 < ts.length ∧ ts.length ≤ 4 ∧ (∀ x ∈ ts, NameOk x ∧ x ∈ M.toks) ∧ ts.Pairwise (fun a b => ¬ b.cps.toList < a.cps.toList)
def spToldAction (K : PySem.W.Frag) : Sp := fun vs H Q _ => ∃ (m a : Addr) (M : MD) (s : Str) (c : FAct Str), vs = [.ref m, .str s, .ref a] ∧ NameOk s ∧ MchAt K H m M ∧ ActAt H a c ∧ ActOk M s c ∧ ∀ p H', Same H H' → ActAt H' p c → Q (.ref p) H'
section
variable {P : Program} {w : World} {K : PySem.W.Frag} {mg : Str → Option Value} {base : Heap}
theorem told_action_ok (T : Txt K mg) : Cal P w K mg base 4 "told_action" (spToldAction K) [] := by
  have c_is_items := is_items_ok (P := P) (w := w) (base := base) T
  have c_is_name := is_name_ok (P := P) (w := w) (base := base) T
  have c_are_names := are_names_ok (P := P) (w := w) (base := base) T
  have c_getitem := getitem_ok (P := P) (w := w) (base := base) T
  have sc : FnScope ["machine", "state", "action", "word", "token"] ["machine", "state", "action"] (defScope s_told_action) := ⟨rfl, rfl, rfl, by decide +kernel, rfl, by decide +kernel, by decide +kernel⟩
  have nd := sc.nd
  refine cal_mk T.g_told_action T.f_told_action sc (fun vs H Q E h => by obtain ⟨_, _, _, _, _, rfl, _⟩ := h; rfl) (fun _ _ _ _ _ _ us hl => match us, hl with | [_, _, _], _ => rfl) (fun cdv A outer s H vs0 Q E hr h => ?_)
  obtain ⟨m, a, M, st, c, rfl, hst, hm, ha, ok, q⟩ := h
  have hu := hu_of hr
  refine ⟨_, (pss_cons (ps_if (PW.pt (pw_or (pt_not (pt_val (C8.pe_c c_is_items hr (by decide) (by rfl) (pa_cons (pv 2) pa_nil)))) (pw_or (pt_cmpR op_eq (pe_callB call_len_seq (by rfl) T.b_len (by decide +kernel) (pa_cons (pv 2) pa_nil)) pe_int (nomark _)) (pw_or1 (pt_not (pt_val (pe_callB call_isi (by rfl) T.b_isinstance (by decide +kernel) (pa_cons (pe_ix ix_tup (pv 2) pe_int (fun _ _ => rfl)) (pa_cons (pe_bltn (v := .ty "str") (by rfl) T.b_str (by decide +kernel) rfl) pa_nil))))))))) (pss_one (ps_ret pe_non)) pss_nil)
      (pss_cons (pset 3 nd (pe_ix ix_tup (pv 2) pe_int (fun _ _ => rfl)))
      (pss_cons (ps_if (PW.pt (pw_and (pt_cmpR op_eq (pv 3) pe_str (nomark _)) (pw_and1 (pt_cmpR op_eq (pe_callB call_len_seq (by rfl) T.b_len (by decide +kernel) (pa_cons (pv 2) pa_nil)) pe_int (nomark _))))) (pss_one (ps_ret (pe_tup (pa_cons pe_str pa_nil)))) pss_nil)
      (pss_cons (ps_if (PW.pt (pw_and (pt_cmpR op_in_seq (pv 3) (pe_tup (pa_cons pe_str (pa_cons pe_str pa_nil))) (by rfl)) (pw_and1 (pt_cmpR op_eq (pe_callB call_len_seq (by rfl) T.b_len (by decide +kernel) (pa_cons (pv 2) pa_nil)) pe_int (nomark _))))) (pss_one (ps_if (pt_cmpR op_notN (pe_getown c_getitem hr (by decide) (pv 0) (pe_tup (pa_cons (pv 1) (pa_cons (pe_ix ix_tup (pv 2) pe_int (fun _ _ => rfl)) pa_nil)))) pe_non (nomark _)) (pss_one (ps_ret (pe_tup (pa_cons (pv 3) (pa_cons (pe_ix ix_tup (pv 2) pe_int (fun _ _ => rfl)) pa_nil))))) pss_nil)) pss_nil)
      (pss_cons (ps_if (PW.pt (pw_and (pt_cmpR op_eq (pv 3) pe_str (nomark _)) (pw_and1 (pt_cmpR op_eq (pe_callB call_len_seq (by rfl) T.b_len (by decide +kernel) (pa_cons (pv 2) pa_nil)) pe_int (nomark _))))) (pss_one (ps_if (PW.pt (pw_and (pt_val (C8.pe_c c_is_name hr (by decide) (by rfl) (pa_cons (pe_ix ix_tup (pv 2) pe_int (fun _ _ => rfl)) pa_nil))) (pw_and (pt_cmpR op_in_seq (pe_ix ix_tup (pv 2) pe_int (fun _ _ => rfl)) (pe_fld (pv 0) rfl) (by rfl)) (pw_and1 (pt_cmpR op_ne (pe_ix ix_tup (pv 2) pe_int (fun _ _ => rfl)) (pv 1) (nomark _)))))) (pss_one (ps_ret (pe_tup (pa_cons (pv 3) (pa_cons (pe_ix ix_tup (pv 2) pe_int (fun _ _ => rfl)) pa_nil))))) pss_nil)) pss_nil)
      (pss_cons (ps_if (PW.pt (pw_and (pt_cmpR op_eq (pv 3) pe_str (nomark _)) (pw_and1 (pt_cmpR op_eq (pe_callB call_len_seq (by rfl) T.b_len (by decide +kernel) (pa_cons (pv 2) pa_nil)) pe_int (nomark _))))) (pss_one (ps_if (PW.pt (pw_and (pt_val (C8.pe_c c_is_name hr (by decide) (by rfl) (pa_cons (pe_ix ix_tup (pv 2) pe_int (fun _ _ => rfl)) pa_nil))) (pw_and (pt_cmpR op_in_seq (pe_ix ix_tup (pv 2) pe_int (fun _ _ => rfl)) (pe_fld (pv 0) rfl) (by rfl)) (pw_and1 (pt_val (C8.pe_c c_are_names hr (by decide) (by rfl) (pa_cons (pe_ix ix_tup (pv 2) pe_int (fun _ _ => rfl)) (pa_cons pe_int pa_nil)))))))) (pss_one (ps_if (pt_val (pe_callB (cr_all rfl) (by rfl) T.b_all (by decide +kernel) (pa_cons (pe_lc (own := [("token", 4)]) (g := gName 4) (tt := tYes) rfl nd (pi_tup (pe_ix ix_tup (pv 2) pe_int (fun _ _ => rfl))) (blkOk_by (own := [("token", 4)]) (N := ["machine", "state", "action", "word", "token"]) (sc := defScope s_told_action) (by decide +kernel)) (fun _ _ _ _ _ => (pgn 4 nd)) (fun _ _ _ _ _ => pts_nil) (fun _ _ _ _ _ => (pe_cmpR (op_inK (K := K)) (pv 4) (pe_fldK (K := K) (pv 0) rfl) (by rfl)))) pa_nil))) (pss_one (ps_ret (pe_tup (pa_cons (pv 3) (pa_cons (pe_callTy call_tuple_of (by rfl) T.b_tuple (by decide +kernel) (pa_cons (pe_callB cr_sortedS (by rfl) T.b_sorted (by decide +kernel) (pa_cons (pe_callTy call_list_of (by rfl) T.b_list (by decide +kernel) (pa_cons (pe_ix ix_tup (pv 2) pe_int (fun _ _ => rfl)) pa_nil)) pa_nil)) pa_nil)) (pa_cons (pe_ix ix_tup (pv 2) pe_int (fun _ _ => rfl)) pa_nil)))))) pss_nil)) pss_nil)) pss_nil)
      (pss_one (ps_ret pe_non)))))))), ?_⟩
  cases c with
  | skip =>
    have h0 : H a = some (.tup [.str "skip"]) := ha
    refine ⟨_, rfl, a, _, rfl, .inr (SqT.of h0), fun H1 e1 => ⟨true, rfl, iteF ?_⟩⟩
    have h1 := e1 _ _ h0
    refine ⟨_, rfl, a, _, rfl, .inr (SqT.of h1), rfl, _, rfl, iteF ?_⟩
    refine ⟨_, rfl, a, _, _, _, rfl, rfl, SqT.of h1, rfl, _, _, _, _, true, rfl, .ty _, .base (.str _), kit_ty (by decide +kernel), true, rfl, iteF ?_⟩
    refine ⟨_, rfl, a, _, _, _, rfl, rfl, SqT.of h1, rfl, ?_⟩
    refine ⟨_, rfl, rfl, _, rfl, wT ?_⟩
    refine ⟨_, rfl, a, _, rfl, .inr (SqT.of h1), rfl, _, rfl, iteT ?_⟩
    exact ⟨by show 1 ≤ sizeLine; decide, fun p hp => q p _ (e1.trans (sm_new hp)) upd_same⟩
  | put x =>
    have h0 : H a = some (.tup [.str "put", .str x]) := ha
    obtain ⟨nx, s2, hs2⟩ := ok.pt x (.inl rfl)
    refine ⟨_, rfl, a, _, rfl, .inr (SqT.of h0), fun H1 e1 => ⟨true, rfl, iteF ?_⟩⟩
    have h1 := e1 _ _ h0
    refine ⟨_, rfl, a, _, rfl, .inr (SqT.of h1), rfl, _, rfl, iteF ?_⟩
    refine ⟨_, rfl, a, _, _, _, rfl, rfl, SqT.of h1, rfl, _, _, _, _, true, rfl, .ty _, .base (.str _), kit_ty (by decide +kernel), true, rfl, iteF ?_⟩
    refine ⟨_, rfl, a, _, _, _, rfl, rfl, SqT.of h1, rfl, ?_⟩
    refine ⟨_, rfl, rfl, _, rfl, wF (by decide) (iteF ?_)⟩
    refine ⟨_, rfl, by show 2 ≤ sizeLine; decide, fun tp htp => ⟨tp, _, rfl, .inr (SqT.of upd_same), rfl, rfl, _, rfl, ?_⟩⟩
    have e2 := e1.trans (sm_new htp (o := .tup [.str "put", .str "take"]))
    have h2 := e2 _ _ h0
    have hm2 := hm.mono e2
    generalize upd H1 tp (.tup [.str "put", .str "take"]) = H2 at e2 h2 hm2 ⊢
    refine ite2 (fun _ => ?_) (fun z => absurd (by decide +kernel : inV (.str "put") [.str "put", .str "take"] = true) z)
    refine ⟨_, rfl, a, _, rfl, .inr (SqT.of h2), rfl, _, rfl, iteT ?_⟩
    obtain ⟨dm, al, ed, en, pl, kvs, g1, hh⟩ := id hm2
    refine ⟨_, rfl, _, rfl, _, rfl, a, _, _, _, rfl, rfl, SqT.of h2, rfl, by show 2 ≤ sizeLine; decide, fun b hb => ?_⟩
    have e3 := sm_new hb (o := .tup [.str st, .str x])
    refine ⟨m, dm, _, rfl, e3 _ _ g1, m, b, M, st, x, rfl, hm2.mono e3, upd_same, hst, nx, rfl, _, rfl, ?_⟩
    rw [hs2]
    refine iteT ⟨_, rfl, _, rfl, a, _, _, _, rfl, rfl, SqT.of (e3 _ _ h2), rfl, by show 2 ≤ sizeLine; decide, fun p hp => q p _ ((e2.trans e3).trans (sm_new hp)) upd_same⟩
  | take x =>
    have h0 : H a = some (.tup [.str "take", .str x]) := ha
    obtain ⟨nx, s2, hs2⟩ := ok.pt x (.inr rfl)
    refine ⟨_, rfl, a, _, rfl, .inr (SqT.of h0), fun H1 e1 => ⟨true, rfl, iteF ?_⟩⟩
    have h1 := e1 _ _ h0
    refine ⟨_, rfl, a, _, rfl, .inr (SqT.of h1), rfl, _, rfl, iteF ?_⟩
    refine ⟨_, rfl, a, _, _, _, rfl, rfl, SqT.of h1, rfl, _, _, _, _, true, rfl, .ty _, .base (.str _), kit_ty (by decide +kernel), true, rfl, iteF ?_⟩
    refine ⟨_, rfl, a, _, _, _, rfl, rfl, SqT.of h1, rfl, ?_⟩
    refine ⟨_, rfl, rfl, _, rfl, wF (by decide) (iteF ?_)⟩
    refine ⟨_, rfl, by show 2 ≤ sizeLine; decide, fun tp htp => ⟨tp, _, rfl, .inr (SqT.of upd_same), rfl, rfl, _, rfl, ?_⟩⟩
    have e2 := e1.trans (sm_new htp (o := .tup [.str "put", .str "take"]))
    have h2 := e2 _ _ h0
    have hm2 := hm.mono e2
    generalize upd H1 tp (.tup [.str "put", .str "take"]) = H2 at e2 h2 hm2 ⊢
    refine ite2 (fun _ => ?_) (fun z => absurd (by decide +kernel : inV (.str "take") [.str "put", .str "take"] = true) z)
    refine ⟨_, rfl, a, _, rfl, .inr (SqT.of h2), rfl, _, rfl, iteT ?_⟩
    obtain ⟨dm, al, ed, en, pl, kvs, g1, hh⟩ := id hm2
    refine ⟨_, rfl, _, rfl, _, rfl, a, _, _, _, rfl, rfl, SqT.of h2, rfl, by show 2 ≤ sizeLine; decide, fun b hb => ?_⟩
    have e3 := sm_new hb (o := .tup [.str st, .str x])
    refine ⟨m, dm, _, rfl, e3 _ _ g1, m, b, M, st, x, rfl, hm2.mono e3, upd_same, hst, nx, rfl, _, rfl, ?_⟩
    rw [hs2]
    refine iteT ⟨_, rfl, _, rfl, a, _, _, _, rfl, rfl, SqT.of (e3 _ _ h2), rfl, by show 2 ≤ sizeLine; decide, fun p hp => q p _ ((e2.trans e3).trans (sm_new hp)) upd_same⟩
  | jump s' =>
    have h0 : H a = some (.tup [.str "jump", .str s']) := ha
    obtain ⟨nx, hin, hne⟩ := ok.jp s' rfl
    refine ⟨_, rfl, a, _, rfl, .inr (SqT.of h0), fun H1 e1 => ⟨true, rfl, iteF ?_⟩⟩
    have h1 := e1 _ _ h0
    refine ⟨_, rfl, a, _, rfl, .inr (SqT.of h1), rfl, _, rfl, iteF ?_⟩
    refine ⟨_, rfl, a, _, _, _, rfl, rfl, SqT.of h1, rfl, _, _, _, _, true, rfl, .ty _, .base (.str _), kit_ty (by decide +kernel), true, rfl, iteF ?_⟩
    refine ⟨_, rfl, a, _, _, _, rfl, rfl, SqT.of h1, rfl, ?_⟩
    refine ⟨_, rfl, rfl, _, rfl, wF (by decide) (iteF ?_)⟩
    refine ⟨_, rfl, by show 2 ≤ sizeLine; decide, fun tp htp => ⟨tp, _, rfl, .inr (SqT.of upd_same), rfl, rfl, _, rfl, ?_⟩⟩
    have e2 := e1.trans (sm_new htp (o := .tup [.str "put", .str "take"]))
    have h2 := e2 _ _ h0
    have hm2 := hm.mono e2
    generalize upd H1 tp (.tup [.str "put", .str "take"]) = H2 at e2 h2 hm2 ⊢
    refine ite2 (fun z => absurd z (by decide +kernel : ¬ inV (.str "jump") [.str "put", .str "take"] = true)) (fun _ => iteF ?_)
    refine ⟨_, rfl, rfl, _, rfl, wT ?_⟩
    refine ⟨_, rfl, a, _, rfl, .inr (SqT.of h2), rfl, _, rfl, iteT ?_⟩
    obtain ⟨dm, al, ed, en, pl, kvs, g1, g2, g3, g4, g5, g6⟩ := id hm2
    refine ⟨_, rfl, a, _, _, _, rfl, rfl, SqT.of h2, rfl, s', rfl, nx, true, rfl, iteT ?_⟩
    refine ⟨_, rfl, a, _, _, _, rfl, rfl, SqT.of h2, rfl, _, rfl, m, _, dm, _, _, rfl, g1, T.cl_Machine, T.n_Machine_places, rfl, pl, _, rfl, .inl (SqL.of g6), rfl, flat_strs _, _, rfl, ?_⟩
    show (if inV (.str s') (M.places.map V.str) = true then _ else _)
    rw [inV_strs, decide_eq_true hin]
    refine iteT ⟨_, rfl, a, _, _, _, rfl, rfl, SqT.of h2, rfl, _, rfl, rfl, _, rfl, ?_⟩
    rw [decide_eq_false (fun z => hne (by injection z))]
    exact iteT ⟨_, rfl, _, rfl, a, _, _, _, rfl, rfl, SqT.of h2, rfl, by show 2 ≤ sizeLine; decide, fun p hp => q p _ (e2.trans (sm_new hp)) upd_same⟩
  | pass ts s' =>
    obtain ⟨bt, h0, hbt⟩ := ha
    obtain ⟨nx, hin, hnd, l1, l4, hts, hpw⟩ := ok.ps ts s' rfl
    refine ⟨_, rfl, a, _, rfl, .inr (SqT.of h0), fun H1 e1 => ⟨true, rfl, iteF ?_⟩⟩
    have h1 := e1 _ _ h0
    refine ⟨_, rfl, a, _, rfl, .inr (SqT.of h1), rfl, _, rfl, iteF ?_⟩
    refine ⟨_, rfl, a, _, _, _, rfl, rfl, SqT.of h1, rfl, _, _, _, _, true, rfl, .ty _, .base (.str _), kit_ty (by decide +kernel), true, rfl, iteF ?_⟩
    refine ⟨_, rfl, a, _, _, _, rfl, rfl, SqT.of h1, rfl, ?_⟩
    refine ⟨_, rfl, rfl, _, rfl, wF (by decide) (iteF ?_)⟩
    refine ⟨_, rfl, by show 2 ≤ sizeLine; decide, fun tp htp => ⟨tp, _, rfl, .inr (SqT.of upd_same), rfl, rfl, _, rfl, ?_⟩⟩
    have e2 := e1.trans (sm_new htp (o := .tup [.str "put", .str "take"]))
    have h2 := e2 _ _ h0
    have hm2 := hm.mono e2
    generalize upd H1 tp (.tup [.str "put", .str "take"]) = H2 at e2 h2 hm2 ⊢
    have hb2 := e2 _ _ hbt
    refine ite2 (fun z => absurd z (by decide +kernel : ¬ inV (.str "pass") [.str "put", .str "take"] = true)) (fun _ => iteF ?_)
    refine ⟨_, rfl, rfl, _, rfl, wF (by decide) (iteF ?_)⟩
    refine ⟨_, rfl, rfl, _, rfl, wT ?_⟩
    refine ⟨_, rfl, a, _, rfl, .inr (SqT.of h2), rfl, _, rfl, iteT ?_⟩
    obtain ⟨dm, al, ed, en, pl, kvs, g1, g2, g3, g4, g5, g6⟩ := id hm2
    refine ⟨_, rfl, a, _, _, _, rfl, rfl, SqT.of h2, rfl, s', rfl, nx, true, rfl, iteT ?_⟩
    refine ⟨_, rfl, a, _, _, _, rfl, rfl, SqT.of h2, rfl, _, rfl, m, _, dm, _, _, rfl, g1, T.cl_Machine, T.n_Machine_places, rfl, pl, _, rfl, .inl (SqL.of g6), rfl, flat_strs _, _, rfl, ?_⟩
    show (if inV (.str s') (M.places.map V.str) = true then _ else _)
    rw [inV_strs, decide_eq_true hin]
    refine iteT ⟨_, rfl, a, _, _, _, rfl, rfl, SqT.of h2, rfl, bt, ts, 4, rfl, .inr (SqT.of hb2), l1, l4, by omega, hnd, fun x hx => (hts x hx).1, fun H3 e3 => ⟨true, rfl, iteT ?_⟩⟩
    have h3 := e3 _ _ h2
    have hb3 := e3 _ _ hb2
    -- all([..])
    refine ⟨_, rfl, a, _, _, _, rfl, rfl, SqT.of h3, rfl, bt, rfl, ⟨_, SqT.of hb3⟩, fun D hD => lc_it walk_tup (fun i H' => Same H3 H' ∧ H' D = some (.lst ((List.replicate i true).map V.bl))) ⟨sm_new hD, upd_same⟩ (fun i H' _ z => SqT.of (z.1 _ _ hb3)) ?_ ?_⟩
    · rintro i x H5 H6 hi ⟨e, hD5⟩ ⟨rfl, hx⟩
      obtain ⟨t, hti, rfl⟩ := maps_get hx
      refine ⟨rfl, _, rfl, _, rfl, m, _, dm, _, _, rfl, e _ _ (e3 _ _ g1), T.cl_Machine, T.n_Machine_alphabet, rfl, al, _, rfl, .inl (SqL.of (e _ _ (e3 _ _ g2))), rfl, flat_strs _, _, hD5, ?_, sm_mut e hD, ?_⟩
      · have hi' : i < ts.length := (List.getElem?_eq_some_iff.mp hti).1
        rw [List.length_map, List.length_replicate, sizeLine_eq]
        omega
      · rw [upd_same]
        show some (HO.lst ((List.replicate i true).map V.bl ++ [V.bl (inV (.str t) (M.toks.map V.str))])) = _
        rw [inV_strs, decide_eq_true (hts t (List.mem_of_getElem? hti)).2, List.replicate_succ', List.map_append] <;> rfl
    rintro H4 ⟨e4, hD4⟩
    refine ⟨D, _, rfl, SqL.of hD4, _, rfl, ?_⟩
    have hall : ∀ n, (List.replicate n true).all id = true := fun n => by simp
    rw [hall]
    have e34 := e3.trans e4
    have h4 := e34 _ _ h2
    have hb4 := e34 _ _ hb2
    refine iteT ⟨_, rfl, _, rfl, a, _, _, _, rfl, rfl, SqT.of h4, rfl, bt, _, rfl, .inr (SqT.of hb4), fun l hl => ⟨l, ts, rfl, SqL.of upd_same, by omega, fun ts' sp hp hs hsp => ?_⟩⟩
    have hts' : ts' = ts := pw_unique hp (sorted_pw hs) hpw
    subst hts'
    have e5 := (sm_new hl (o := .lst (ts'.map V.str))).trans (sm_new hsp (o := .lst (ts'.map V.str)))
    refine ⟨sp, _, rfl, .inl ⟨SqL.of upd_same, fun tp2 htp2 => ?_⟩⟩
    have e6 := e5.trans (sm_new htp2 (o := .tup (ts'.map V.str)))
    refine ⟨_, rfl, a, _, _, _, rfl, rfl, SqT.of (e6 _ _ h4), rfl, by show 3 ≤ sizeLine; decide, fun p hp2 => q p _ (((e2.trans e34).trans e6).trans (sm_new hp2)) ⟨tp2, upd_same, sm_new hp2 _ _ upd_same⟩⟩
end
end Far

set_option Elab.async false
set_option linter.all false
set_option maxRecDepth 100000
set_option maxHeartbeats 4000000
/-! FarRdr2: looks_at, rings -/
namespace Far
open PySem PySem.Spec PyProof.Rows L2 Fz
def spLooksAt (K : PySem.W.Frag) : Sp := fun vs H Q _ => ∃ (m ac pr : Addr) (M : MD) (kvs : Kvs) (ks : List Pt) (tb : Str → Str → Option (FAct Str)) (s t : Str), vs = [.ref m, .ref ac, .ref pr] ∧ MchAt K H m M ∧ L2.Rd H ac (.dT kvs) ∧ TbK H kvs ks tb ∧ H pr = some (.tup [.str s, .str t]) ∧
  (∀ c, tb s t = some c → M.mv s t = none) ∧ (∀ x, tb s t = some (.put x) → ∃ s', M.mv s x = some s') ∧ ∀ v H', Same H H' → (again ⟨M.mv, tb, 0⟩ t s = none → v = .non) → (∀ s', again ⟨M.mv, tb, 0⟩ t s = some s' → ∃ p, v = .ref p ∧ H' p = some (.tup [.str s', .str t])) → Q v H'
def spRings (K : PySem.W.Frag) : Sp := fun vs H Q _ => ∃ (m ac pr : Addr) (M : MD) (kvs : Kvs) (ks : List Pt) (tb : Str → Str → Option (FAct Str)) (s t : Str), vs = [.ref m, .ref ac, .ref pr] ∧ MchAt K H m M ∧ L2.Rd H ac (.dT kvs) ∧ TbK H kvs ks tb ∧ H pr = some (.tup [.str s, .str t]) ∧
  (∀ s t c, tb s t = some c → M.mv s t = none) ∧ (∀ s t x, tb s t = some (.put x) → ∃ s', M.mv s x = some s') ∧ ends ⟨M.mv, tb, 0⟩ t 8 s = true ∧ ∀ H', Same H H' → Q (.bl false) H'
def nextOf (mv : Str → Str → Option Str) (s t : Str) : FAct Str → Option Str
  | .put x => mv s x
  | .jump s' => some s'
  | .pass ts s' => if t ∈ ts then some s' else none
  | _ => none
theorem again_tb {R : FRd Str} {s t : Str} {c : FAct Str} (h1 : R.mv s t = none) (h2 : R.tb s t = some c) : Fz.again R t s = nextOf R.mv s t c := by
  unfold Fz.again nextOf
  rw [h1, h2]
  cases c <;> rfl
theorem again_out {R : FRd Str} {s t : Str} (h2 : R.tb s t = none) : Fz.again R t s = none := by
  unfold Fz.again
  rw [h2]
  split <;> rfl
theorem TbK.none_at {H : Hp} {kvs : Kvs} {ks : List Pt} {f : Str → Str → Option (FAct Str)} (h : TbK H kvs ks f) {s t : Str} (e : f s t = none) : valV kvs (kp (s, t)) = none := by
  cases q : valV kvs (kp (s, t)) with
  | none => rfl
  | some v =>
    have z := (val_some h.keys (s, t)).mp (by rw [q] <;> rfl)
    rw [← h.mem, e] at z
    cases z
def rgW (K : PySem.W.Frag) (P : Program) (w : World) (H : Hp) (se m ac : Addr) (t : Str) (R : FRd Str) : Nat → L2.St → Hp → Prop := fun k σ H' => Same H H' ∧ ∃ L : List (Addr × List Key), H' se = some (SetMO P w se L) ∧ (∀ p ∈ L, H' p.1 = some (.tup (p.2.map kV))) ∧ L.length ≤ 9 ∧ ((∃ pc st, σ = [some (.ref m), some (.ref ac), some (.ref pc), some (.ref se)] ∧ H' pc = some (.tup [.str st, .str t]) ∧ ends R t 8 st = true ∧ k = dep R t 8 st + 1 ∧ L.length + dep R t 8 st ≤ 8 ∧ (∀ p ∈ L, ∃ s', p.2 = kp (s', t) ∧ dep R t 8 st < dep R t 8 s')) ∨
    (σ = [some (.ref m), some (.ref ac), some .non, some (.ref se)] ∧ k = 0))
section
variable {P : Program} {w : World} {K : PySem.W.Frag} {mg : Str → Option Value} {base : Heap}
theorem looks_at_ok (T : Txt K mg) : Cal P w K mg base 1 "looks_at" (spLooksAt K) [] := by
  have sc : FnScope ["machine", "actions", "pair", "state", "token", "action"] ["machine", "actions", "pair"] (defScope s_looks_at) := ⟨rfl, rfl, rfl, by decide +kernel, rfl, by decide +kernel, by decide +kernel⟩
  have nd := sc.nd
  refine cal_mk T.g_looks_at T.f_looks_at sc (fun vs H Q E h => by obtain ⟨_, _, _, _, _, _, _, _, _, rfl, _⟩ := h; rfl) (fun _ _ _ _ _ _ us hl => match us, hl with | [_, _, _], _ => rfl) (fun cdv A outer s H vs0 Q E hr h => ?_)
  obtain ⟨m, ac, pr, M, kvs, ks, tb, st, t, rfl, hm, hac, htb, hpr, hmn, hput, q⟩ := h
  have hu := hu_of hr
  refine ⟨_, (pss_cons (ps_asg (pv 2) (pg_tup rfl (pgs_cons (pgn 3 nd) (pgs_cons (pgn 4 nd) pgs_nil))))
      (pss_cons (pset 5 nd (pe_dget2 hu (pv 1) (pv 2) (pe_tup (pa_cons pe_str pa_nil)) ⟨rfl, rfl, rfl, rfl⟩))
      (pss_cons (ps_if (pt_cmpR op_eq (pe_ix ix_tup (pv 5) pe_int (fun _ _ => rfl)) pe_str (nomark _)) (pss_one (ps_ret (pe_tup (pa_cons (pe_dget hu (pe_fld (pv 0) rfl) (pe_tup (pa_cons (pv 3) (pa_cons (pe_ix ix_tup (pv 5) pe_int (fun _ _ => rfl)) pa_nil))) (fun _ _ => rfl)) (pa_cons (pv 4) pa_nil))))) pss_nil)
      (pss_cons (ps_if (pt_cmpR op_eq (pe_ix ix_tup (pv 5) pe_int (fun _ _ => rfl)) pe_str (nomark _)) (pss_one (ps_ret (pe_tup (pa_cons (pe_ix ix_tup (pv 5) pe_int (fun _ _ => rfl)) (pa_cons (pv 4) pa_nil))))) pss_nil)
      (pss_cons (ps_if (PW.pt (pw_and (pt_cmpR op_eq (pe_ix ix_tup (pv 5) pe_int (fun _ _ => rfl)) pe_str (nomark _)) (pw_and1 (pt_cmpR op_in_seq (pv 4) (pe_ix ix_tup (pv 5) pe_int (fun _ _ => rfl)) (by rfl))))) (pss_one (ps_ret (pe_tup (pa_cons (pe_ix ix_tup (pv 5) pe_int (fun _ _ => rfl)) (pa_cons (pv 4) pa_nil))))) pss_nil)
      (pss_one (ps_ret pe_non))))))), ?_⟩
  refine ⟨_, rfl, pr, _, rfl, SqT.of hpr, rfl, _, _, rfl, _, _, rfl, rfl, ?_⟩
  refine ⟨_, rfl, ac, rfl, .inr ⟨_, hac⟩, _, rfl, by show 1 ≤ sizeLine; decide, fun mp hmp => ?_⟩
  have e1 := sm_new hmp (o := .tup [.str "move"])
  have hdg := dg (sm_rd e1 hac) (e1 _ _ hpr)
  have hmp1 := upd_same (H := H) (a := mp) (o := .tup [.str "move"])
  generalize upd H mp (.tup [.str "move"]) = H1 at e1 hdg hmp1 ⊢
  cases hc : tb st t with
  | none =>
    rw [htb.none_at hc] at hdg
    refine ⟨_, hdg, ?_⟩
    refine ⟨_, rfl, mp, _, _, _, rfl, rfl, SqT.of hmp1, rfl, rfl, _, rfl, wF (by decide) ?_⟩
    refine ⟨_, rfl, mp, _, _, _, rfl, rfl, SqT.of hmp1, rfl, rfl, _, rfl, wF (by decide) ?_⟩
    refine ⟨_, rfl, mp, _, _, _, rfl, rfl, SqT.of hmp1, rfl, rfl, _, rfl, wF (by decide) (iteF ?_)⟩
    have hg : Fz.again ⟨M.mv, tb, 0⟩ t st = none := again_out hc
    exact q .non H1 e1 (fun _ => rfl) fun s' e => by rw [hg] at e; cases e
  | some c =>
    obtain ⟨aa, hva, haa⟩ := htb.val _ _ _ hc
    rw [hva] at hdg
    refine ⟨_, hdg, ?_⟩
    have haa1 := haa.mono e1
    have hmv := hmn c hc
    have hg0 : Fz.again ⟨M.mv, tb, 0⟩ t st = nextOf M.mv st t c := again_tb (R := ⟨M.mv, tb, 0⟩) hmv hc
    cases c with
    | skip =>
      have h1 : H1 aa = some (.tup [.str "skip"]) := haa1
      refine ⟨_, rfl, aa, _, _, _, rfl, rfl, SqT.of h1, rfl, rfl, _, rfl, wF (by decide) ?_⟩
      refine ⟨_, rfl, aa, _, _, _, rfl, rfl, SqT.of h1, rfl, rfl, _, rfl, wF (by decide) ?_⟩
      refine ⟨_, rfl, aa, _, _, _, rfl, rfl, SqT.of h1, rfl, rfl, _, rfl, wF (by decide) (iteF ?_)⟩
      exact q .non H1 e1 (fun _ => rfl) fun s' e => by rw [hg0] at e; cases e
    | take x =>
      have h1 : H1 aa = some (.tup [.str "take", .str x]) := haa1
      refine ⟨_, rfl, aa, _, _, _, rfl, rfl, SqT.of h1, rfl, rfl, _, rfl, wF (by decide) ?_⟩
      refine ⟨_, rfl, aa, _, _, _, rfl, rfl, SqT.of h1, rfl, rfl, _, rfl, wF (by decide) ?_⟩
      refine ⟨_, rfl, aa, _, _, _, rfl, rfl, SqT.of h1, rfl, rfl, _, rfl, wF (by decide) (iteF ?_)⟩
      exact q .non H1 e1 (fun _ => rfl) fun s' e => by rw [hg0] at e; cases e
    | put x =>
      have h1 : H1 aa = some (.tup [.str "put", .str x]) := haa1
      obtain ⟨s2, hs2⟩ := hput x hc
      have hg9 : nextOf M.mv st t (.put x) = some s2 := hs2
      refine ⟨_, rfl, aa, _, _, _, rfl, rfl, SqT.of h1, rfl, rfl, _, rfl, wT ?_⟩
      obtain ⟨dm, al, ed, en, pl, kvs2, g1, g2, g3, g4, _⟩ := hm.mono e1
      refine ⟨_, rfl, m, _, dm, _, _, rfl, g1, T.cl_Machine, T.n_Machine_edges, rfl, _, rfl, _, rfl, aa, _, _, _, rfl, rfl, SqT.of h1, rfl, by show 2 ≤ sizeLine; decide, fun b hb => ?_⟩
      have e2 := sm_new hb (o := .tup [.str st, .str x])
      have hdg2 := dg (.inl (e2 _ _ g3)) (upd_same (H := H1) (a := b) (o := .tup [.str st, .str x]))
      rw [g4.val, hs2] at hdg2
      refine ⟨ed, _, rfl, hdg2, _, rfl, by show 2 ≤ sizeLine; decide, fun p hp => ?_⟩
      refine q (.ref p) _ ((e1.trans e2).trans (sm_new hp)) (fun e => by rw [hg0, hg9] at e; cases e) fun s' e => ?_
      rw [hg0, hg9] at e
      cases e
      exact ⟨p, rfl, upd_same⟩
    | jump s2 =>
      have h1 : H1 aa = some (.tup [.str "jump", .str s2]) := haa1
      refine ⟨_, rfl, aa, _, _, _, rfl, rfl, SqT.of h1, rfl, rfl, _, rfl, wF (by decide) ?_⟩
      refine ⟨_, rfl, aa, _, _, _, rfl, rfl, SqT.of h1, rfl, rfl, _, rfl, wT ?_⟩
      refine ⟨_, rfl, aa, _, _, _, rfl, rfl, SqT.of h1, rfl, _, rfl, by show 2 ≤ sizeLine; decide, fun p hp => ?_⟩
      refine q (.ref p) _ (e1.trans (sm_new hp)) (fun e => by rw [hg0] at e; cases e) fun s' e => ?_
      rw [hg0] at e
      cases e
      exact ⟨p, rfl, upd_same⟩
    | pass ts s2 =>
      obtain ⟨bt, h1, h2⟩ := haa1
      refine ⟨_, rfl, aa, _, _, _, rfl, rfl, SqT.of h1, rfl, rfl, _, rfl, wF (by decide) ?_⟩
      refine ⟨_, rfl, aa, _, _, _, rfl, rfl, SqT.of h1, rfl, rfl, _, rfl, wF (by decide) ?_⟩
      refine ⟨_, rfl, aa, _, _, _, rfl, rfl, SqT.of h1, rfl, rfl, _, rfl, wT ?_⟩
      refine ⟨_, rfl, _, rfl, aa, _, _, _, rfl, rfl, SqT.of h1, rfl, bt, _, rfl, .inr (SqT.of h2), rfl, flat_strs _, _, rfl, ?_⟩
      show (if inV (.str t) (ts.map V.str) = true then _ else _)
      rw [inV_strs]
      have hg1 : Fz.again ⟨M.mv, tb, 0⟩ t st = if t ∈ ts then some s2 else none := hg0
      refine ite2 (fun z => ?_) (fun z => ?_)
      · rw [if_pos (of_decide_eq_true z)] at hg1
        refine ⟨_, rfl, aa, _, _, _, rfl, rfl, SqT.of h1, rfl, _, rfl, by show 2 ≤ sizeLine; decide, fun p hp => ?_⟩
        refine q (.ref p) _ (e1.trans (sm_new hp)) (fun e => by rw [hg1] at e; cases e) fun s' e => ?_
        rw [hg1] at e
        cases e
        exact ⟨p, rfl, upd_same⟩
      · rw [if_neg (fun y => z (decide_eq_true y))] at hg1
        exact q .non H1 e1 (fun _ => rfl) fun s' e => by rw [hg1] at e; cases e
theorem rings_ok (T : Txt K mg) : Cal P w K mg base 2 "rings" (spRings K) [] := by
  have c_looks_at := looks_at_ok (P := P) (w := w) (base := base) T
  have sc : FnScope ["machine", "actions", "pair", "seen"] ["machine", "actions", "pair"] (defScope s_rings) := ⟨rfl, rfl, rfl, by decide +kernel, rfl, by decide +kernel, by decide +kernel⟩
  have nd := sc.nd
  refine cal_mk T.g_rings T.f_rings sc (fun vs H Q E h => by obtain ⟨_, _, _, _, _, _, _, _, _, rfl, _⟩ := h; rfl) (fun _ _ _ _ _ _ us hl => match us, hl with | [_, _, _], _ => rfl) (fun cdv A outer s H vs0 Q E hr h => ?_)
  obtain ⟨m, ac, pr, M, kvs, ks, tb, s0, t, rfl, hm, hac, htb, hpr, hmn, hput, hend, q⟩ := h
  have hu8 := hu8_of hr
  refine ⟨_, (pss_cons (pset 3 nd (pe_callTy0 cr_set0M (by rfl) T.b_set (by decide +kernel)))
      (pss_cons (ps_while PassesOwn.never (PW.pt (pw_and (pt_cmpR op_notN (pv 2) pe_non (nomark _)) (pw_and1 (pt_cmpR (or_snotinM hu8) (pv 2) (pv 3) (by rfl))))) (pss_cons (ps_expr (pe_saddT hu8 (pv 3) (pa_cons (pv 2) pa_nil)))
      (pss_one (pset 2 nd (C8.pe_c c_looks_at hr (by decide) (by rfl) (pa_cons (pv 0) (pa_cons (pv 1) (pa_cons (pv 2) pa_nil))))))))
      (pss_one (ps_ret (pe_cmpR op_notN (pv 2) pe_non (nomark _)))))), ?_⟩
  refine ⟨rfl, fun se hse => ?_⟩
  have e1 := sm_new hse (o := SetMO P w se [])
  refine ⟨rgW K P w H se m ac t ⟨M.mv, tb, 0⟩, ⟨_, e1, [], upd_same, fun p hp => (by cases hp), by decide, .inl ⟨pr, s0, rfl, e1 _ _ hpr, hend, rfl, by have := dep_le ⟨M.mv, tb, 0⟩ t 8 s0; show 0 + _ ≤ 8; omega, fun p hp => (by cases hp)⟩⟩, ?_⟩
  rintro k σ H1 ⟨e, L, hL, hLk, hl9, hcase⟩
  rcases hcase with ⟨pc, st, rfl, hpc, hes, rfl, hdl, hLd⟩ | ⟨rfl, rfl⟩
  · have hse1 : ∀ {H2 : Hp}, Same H1 H2 → H2 se = some (SetMO P w se L) := fun x => x _ _ hL
    have hnin : kp (st, t) ∉ L.map (·.2) := fun z => by
      obtain ⟨p, hp, ep⟩ := List.mem_map.mp z
      obtain ⟨s', e1, e2⟩ := hLd p hp
      have z2 := kp_inj (e1.symm.trans ep)
      cases z2
      omega
    refine ⟨_, rfl, rfl, _, rfl, iteT ⟨_, rfl, _, rfl, pc, se, kp (st, t), L, rfl, rfl, hpc, hL, hLk, fun c hc => ⟨_, rfl, ?_⟩⟩⟩
    have hcf : c = false := by
      cases c with
      | false => rfl
      | true => exact absurd (hc.mp rfl) hnin
    rw [hcf]
    refine iteT ⟨fun σ' H' => ∃ k', k' < dep ⟨M.mv, tb, 0⟩ t 8 st + 1 ∧ rgW K P w H se m ac t ⟨M.mv, tb, 0⟩ k' σ' H', fun _ _ z => z, ?_⟩
    refine ⟨_, rfl, ⟨se, L, rfl, hL⟩, _, rfl, se, pc, kp (st, t), L, rfl, rfl, hpc, hL, hLk, by omega, hnin, fun L' hperm => ?_⟩
    have e2 := sm_mut e hse (o := SetMO P w se L')
    have hpc2 : upd H1 se (SetMO P w se L') pc = some (.tup [.str st, .str t]) := by
      rw [upd_ne (ne_of hpc hL (fun z => by cases z))]
      exact hpc
    have hL2 : ∀ p ∈ L', upd H1 se (SetMO P w se L') p.1 = some (.tup (p.2.map kV)) := fun p hp => by
      have h1 : H1 p.1 = some (.tup (p.2.map kV)) := by
        rcases List.mem_cons.mp (hperm.mem_iff.mp hp) with z | z
        · rw [z]; exact hpc
        · exact hLk p z
      rw [upd_ne (ne_of h1 hL (fun z => by cases z))]
      exact h1
    have hl' : L'.length = L.length + 1 := hperm.length_eq
    have hse2 := upd_same (H := H1) (a := se) (o := SetMO P w se L')
    refine ⟨_, rfl, _, rfl, _, rfl, m, ac, pc, M, kvs, ks, tb, st, t, rfl, hm.mono e2, sm_rd e2 hac, htb.mono e2, hpc2, hmn st t, hput st t, fun v H3 e3 hn hs => ?_⟩
    have hL3 : ∀ p ∈ L', H3 p.1 = some (.tup (p.2.map kV)) := fun p hp => e3 _ _ (hL2 p hp)
    cases hg : Fz.again ⟨M.mv, tb, 0⟩ t st with
    | none =>
      rw [hn hg]
      exact ⟨0, Nat.succ_pos _, e2.trans e3, L', e3 _ _ hse2, hL3, by omega, .inr ⟨rfl, rfl⟩⟩
    | some s' =>
      obtain ⟨p, rfl, hp⟩ := hs s' hg
      have hd := dep_step hes hg
      refine ⟨dep ⟨M.mv, tb, 0⟩ t 8 s' + 1, by omega, e2.trans e3, L', e3 _ _ hse2, hL3, by omega, .inl ⟨p, s', rfl, hp, ends_step' hes hg, rfl, by omega, fun p hp => ?_⟩⟩
      rcases List.mem_cons.mp (hperm.mem_iff.mp hp) with z | z
      · rw [z]
        exact ⟨st, rfl, by omega⟩
      · obtain ⟨s4, g1, g2⟩ := hLd p z
        exact ⟨s4, g1, by omega⟩
  · refine ⟨_, rfl, rfl, _, rfl, iteF ?_⟩
    refine iteF ⟨_, rfl, rfl, q H1 e⟩
end
end Far

set_option Elab.async false
set_option linter.all false
set_option maxRecDepth 100000
set_option maxHeartbeats 4000000
/-! FarRdr3: blank_table, told_table -/
namespace Far
open PySem PySem.Spec PyProof.Rows L2 Fz
/-- anything that is walked, whatever a turn does -/
theorem wk_it {J : It} {n : Nat} {G : Hp → Prop} {Y : Nat → Hp → V → Hp → Prop} (w : Walk J n G Y) {F : V → Hp → (Hp → Prop) → Prop} {H0 : Hp} {Qd : Hp → Prop} (Pv : Nat → Hp → Prop) (h0 : Pv 0 H0) (hG : ∀ i H, i ≤ n → Pv i H → G H)
    (hs : ∀ i x H H', i < n → Pv i H → Y i H x H' → F x H' (Pv (i + 1))) (hd : ∀ H, Pv n H → Qd H) :
    ∃ W : Nat → Nat → Hp → Prop, (∃ m, W 0 m H0) ∧ ∀ i m H, W i m H → (J.stop i H ∧ Qd H) ∨ (J.go i H ∧ ∃ Nx : Hp → Prop, (∀ H', Nx H' → ∃ m', m' < m ∧ W (i + 1) m' H') ∧ ∀ x H', J.yld i H x H' → F x H' Nx) := by
  refine ⟨fun i m H => m = n - i ∧ i ≤ n ∧ Pv i H, ⟨n, by simp, Nat.zero_le _, h0⟩, ?_⟩
  rintro i m H ⟨rfl, hi, p⟩
  by_cases hlt : i < n
  · exact .inr ⟨w.goes i H hlt (hG i H hi p), Pv (i + 1), fun H' p' => ⟨n - (i + 1), by omega, rfl, hlt, p'⟩, fun x H' y => hs i x H H' hlt p (w.yields i H x H' hlt (hG i H hi p) y)⟩
  · obtain rfl : i = n := by omega
    exact .inl ⟨w.stops H (hG _ H hi p), hd H p⟩
def prodP (a b : List Str) : List Pt := a.flatMap fun s => b.map fun t => (s, t)
theorem mem_prodP {a b : List Str} {s t : Str} : (s, t) ∈ prodP a b ↔ s ∈ a ∧ t ∈ b := by
  unfold prodP
  rw [List.mem_flatMap]
  constructor
  · rintro ⟨x, hx, h⟩
    obtain ⟨y, hy, e⟩ := List.mem_map.mp h
    cases e
    exact ⟨hx, hy⟩
  · rintro ⟨h1, h2⟩
    exact ⟨s, h1, List.mem_map.mpr ⟨t, h2, rfl⟩⟩
theorem pair_map_nodup (s : Str) {b : List Str} (h : b.Nodup) : (b.map fun t => (s, t)).Nodup := by
  induction b with
  | nil => exact List.nodup_nil
  | cons x b ih =>
    obtain ⟨h1, h2⟩ := List.nodup_cons.mp h
    refine List.nodup_cons.mpr ⟨fun z => ?_, ih h2⟩
    obtain ⟨y, hy, e⟩ := List.mem_map.mp z
    injection e with _ e
    exact h1 (e ▸ hy)
theorem prodP_nodup : ∀ {a b : List Str}, a.Nodup → b.Nodup → (prodP a b).Nodup
  | [], _, _, _ => List.nodup_nil
  | s :: a, b, ha, hb => by
    obtain ⟨h1, h2⟩ := List.nodup_cons.mp ha
    show (b.map (fun t => (s, t)) ++ prodP a b).Nodup
    refine List.nodup_append.mpr ⟨pair_map_nodup s hb, prodP_nodup h2 hb, fun x hx y hy e => ?_⟩
    obtain ⟨t, _, rfl⟩ := List.mem_map.mp hx
    rw [← e] at hy
    exact h1 (mem_prodP.mp hy).1
theorem prodP_len (a b : List Str) : (prodP a b).length = a.length * b.length := by
  unfold prodP
  refine len_flatMap _ _ a fun s _ => ?_
  rw [List.length_map]
def blankF (M : MD) (s t : Str) : Option (FAct Str) := if s ∈ M.places ∧ t ∈ M.toks ∧ M.mv s t = none then some .skip else none
/-- the machine's lists are in order -/
structure MchOk (M : MD) : Prop where
  pn : M.places.Nodup
  tn : M.toks.Nodup
  p6 : M.places.length ≤ 6
  t4 : M.toks.length ≤ 4
  pnm : ∀ x ∈ M.places, NameOk x
  tnm : ∀ x ∈ M.toks, NameOk x
def spBlank (K : PySem.W.Frag) : Sp := fun vs H Q _ => ∃ (m : Addr) (M : MD), vs = [.ref m] ∧ MchAt K H m M ∧ MchOk M ∧ ∀ d kvs ks H', Same H H' → H d = none → H' d = some (.dT kvs) → TbK H' kvs ks (blankF M) → Q (.ref d) H'
section
variable {P : Program} {w : World} {K : PySem.W.Frag} {mg : Str → Option Value} {base : Heap}
theorem blank_table_ok (T : Txt K mg) : Cal P w K mg base 1 "blank_table" (spBlank K) [] := by
  have sc : FnScope ["machine", "pairs", "state", "token", "pair"] ["machine"] (defScope s_blank_table) := ⟨rfl, rfl, rfl, by decide +kernel, rfl, by decide +kernel, by decide +kernel⟩
  have nd := sc.nd
  refine cal_mk T.g_blank_table T.f_blank_table sc (fun vs H Q E h => by obtain ⟨_, _, rfl, _⟩ := h; rfl) (fun _ _ _ _ _ _ us hl => match us, hl with | [_], _ => rfl) (fun cdv A outer s H vs0 Q E hr h => ?_)
  obtain ⟨m, M, rfl, hm, ok, q⟩ := h
  have hu := hu_of hr
  refine ⟨_, (pss_cons (ps_setLc2 (i := 1) (own := [("state", 2), ("token", 3)]) (vs1 := [3]) (g := gName 2) (tt := tYes) (g1 := gName 3) (tt1 := tYes) rfl nd rfl rfl (sw_true rfl rfl rfl (by decide +kernel)) (pi_list (pe_fld (pv 0) rfl)) (blkOk_by (own := [("state", 2), ("token", 3)]) (N := ["machine", "pairs", "state", "token", "pair"]) (sc := defScope s_blank_table) (by decide +kernel)) (by decide) (fun _ _ _ _ _ => (pgn 2 nd)) (fun _ _ _ _ _ => pts_nil) (fun _ _ _ _ _ => (pi_listK (K := K) (pe_fldK (K := K) (pv 0) rfl))) (fun _ _ _ _ _ => (pgn 3 nd)) (fun _ _ _ _ _ => pts_nil) (fun _ _ _ _ _ => (pe_tup (pa_cons (pv 2) (pa_cons (pv 3) pa_nil)))))
      (pss_one (ps_ret (pe_dg dem_T (dst_T hu) (own := [("pair", 4)]) (g := gName 4) rfl nd (pi_list (pv 1)) (blkOk_by (own := [("pair", 4)]) (N := ["machine", "pairs", "state", "token", "pair"]) (sc := defScope s_blank_table) (by decide +kernel)) (fun _ _ _ _ _ => (pgn 4 nd)) (fun _ _ _ _ _ => (pts_one (pt_cmp (pc_dnotin hu (pv 4) (pe_fldK (K := K) (pv 0) rfl)) (by rfl)))) (fun _ _ _ _ _ => (pv 4)) (fun _ _ _ _ _ => (pe_tup (pa_cons pe_str pa_nil))))))), ?_⟩
  obtain ⟨dm, al, ed, en, pl, kvs, g1, g2, g3, g4, g5, g6⟩ := hm
  have p6 := ok.p6
  have t4 := ok.t4
  refine ⟨_, rfl, m, _, dm, _, _, rfl, g1, T.cl_Machine, T.n_Machine_places, rfl, pl, rfl, ⟨_, SqL.of g6⟩, fun D hD => ?_⟩
  refine wk_it walk_list (fun i H' => Same H H' ∧ ∃ zs : List (Addr × Pt), H' D = some (.lst (zs.map fun z => V.ref z.1)) ∧ zs.map (·.2) = prodP (M.places.take i) M.toks ∧ ∀ z ∈ zs, H' z.1 = some (.tup [.str z.2.1, .str z.2.2])) ⟨sm_new hD, [], upd_same, rfl, fun z hz => (by cases hz)⟩ (fun i H' _ z => SqL.of (z.1 _ _ g6)) ?_ ?_
  · rintro i x H1 H2 hi ⟨e, zs, hD1, hzs, hzt⟩ ⟨rfl, hx⟩
    obtain ⟨ps, hps, rfl⟩ := maps_get hx
    have hi' : i < M.places.length := (List.getElem?_eq_some_iff.mp hps).1
    refine ⟨rfl, _, rfl, m, _, dm, _, _, rfl, e _ _ g1, T.cl_Machine, T.n_Machine_alphabet, rfl, al, rfl, ⟨_, SqL.of (e _ _ g2)⟩, ?_⟩
    have zlen : zs.length ≤ 24 := by
      have z := congrArg List.length hzs
      rw [List.length_map, prodP_len, List.length_take] at z
      have z2 : min i M.places.length * M.toks.length ≤ 6 * 4 := Nat.mul_le_mul (by omega) t4
      omega
    refine wk_it walk_list (fun j H' => Same H H' ∧ ∃ zs : List (Addr × Pt), H' D = some (.lst (zs.map fun z => V.ref z.1)) ∧ zs.map (·.2) = prodP (M.places.take i) M.toks ++ (M.toks.take j).map (fun t => (ps, t)) ∧ zs.length ≤ 24 + j ∧ ∀ z ∈ zs, H' z.1 = some (.tup [.str z.2.1, .str z.2.2])) ⟨e, zs, hD1, by rw [hzs]; simp, zlen, hzt⟩ (fun j H' _ z => SqL.of (z.1 _ _ g2)) ?_ ?_
    · rintro j y H3 H4 hj ⟨e3, zs3, hD3, hz3, hl3, ht3⟩ ⟨rfl, hy⟩
      obtain ⟨t, ht, rfl⟩ := maps_get hy
      have hj' : j < M.toks.length := (List.getElem?_eq_some_iff.mp ht).1
      refine ⟨rfl, _, rfl, _, rfl, by show 2 ≤ sizeLine; decide, fun b hb => ⟨_, sm_new hb _ _ hD3, by rw [List.length_map, sizeLine_eq]; omega, sm_mut (e3.trans (sm_new hb)) hD, zs3 ++ [(b, (ps, t))], ?_, ?_, ?_, fun z hz => ?_⟩⟩
      · rw [upd_same, List.map_append] <;> rfl
      · rw [List.map_append, hz3, take_snoc ht, List.map_append, List.append_assoc] <;> rfl
      · rw [List.length_append]
        show _ + 1 ≤ _
        omega
      · have hk : upd H4 b (.tup [.str ps, .str t]) z.1 = some (.tup [.str z.2.1, .str z.2.2]) := by
          rcases List.mem_append.mp hz with y | y
          · exact sm_new hb _ _ (ht3 z y)
          · rw [List.mem_singleton.mp y]
            exact upd_same
        rw [upd_ne (ne_of hk (sm_new hb _ _ hD3) (fun z => by cases z))]
        exact hk
    · rintro H3 ⟨e3, zs3, hD3, hz3, hl3, ht3⟩
      refine ⟨e3, zs3, hD3, ?_, ht3⟩
      rw [hz3, List.length_map, List.take_length, take_snoc hps]
      unfold prodP
      rw [List.flatMap_append, List.flatMap_cons, List.flatMap_nil, List.append_nil]
  rintro H1 ⟨e, zs, hD1, hzs, hzt⟩
  rw [List.length_map, List.take_length] at hzs
  have zlen : zs.length ≤ 24 := by
    have z := congrArg List.length hzs
    rw [List.length_map, prodP_len] at z
    have z2 : M.places.length * M.toks.length ≤ 6 * 4 := Nat.mul_le_mul p6 t4
    omega
  have hnd : (zs.map (·.2)).Nodup := by rw [hzs]; exact prodP_nodup ok.pn ok.tn
  refine ⟨_, rfl, D, rfl, ⟨_, SqL.of hD1⟩, fun d hd => dg_it walk_list (fun i H' => Same H1 H' ∧ ∃ kvs : Kvs, H' d = some (.dT kvs) ∧ kvs.map (·.1) = (((zs.map (·.2)).take i).filter fun p => decide (M.mv p.1 p.2 = none)).map kp ∧ ∀ e ∈ kvs, ∃ a, e.2 = .ref a ∧ H' a = some (.tup [.str "skip"])) ⟨sm_new hd, [], upd_same, rfl, fun e he => (by cases he)⟩ (fun i H' _ z => SqL.of (z.1 _ _ hD1)) ?_ ?_⟩
  · rintro i x H2 H3 hi ⟨e2, kvs', hd2, hk2, hv2⟩ ⟨rfl, hx⟩
    obtain ⟨z, hz, rfl⟩ := get_map hx
    have hzi : (zs.map (·.2))[i]? = some z.2 := by rw [List.getElem?_map, hz]; rfl
    have hb := e2 _ _ (hzt z (List.mem_of_getElem? hz))
    have ed2 := (e.trans e2) _ _ g3
    have hdg := dg (.inl ed2) hb
    rw [g4.val] at hdg
    have hli : i < zs.length := (List.getElem?_eq_some_iff.mp hz).1
    have hkl : kvs'.length ≤ i := by
      have z1 := congrArg List.length hk2
      rw [List.length_map, List.length_map] at z1
      have z2 := List.length_filter_le (fun p : Pt => decide (M.mv p.1 p.2 = none)) ((zs.map (·.2)).take i)
      rw [List.length_take] at z2
      omega
    refine ⟨rfl, _, rfl, _, rfl, m, _, dm, _, _, rfl, (e.trans e2) _ _ g1, T.cl_Machine, T.n_Machine_edges, rfl, ed, _, rfl, hdg, _, rfl, ?_⟩
    cases hmv : M.mv z.2.1 z.2.2 with
    | some y =>
      refine iteF ⟨e2, kvs', hd2, ?_, hv2⟩
      rw [take_snoc hzi, List.filter_append, show List.filter (fun p : Pt => decide (M.mv p.1 p.2 = none)) [z.2] = [] by simp [List.filter, hmv], List.append_nil]
      exact hk2
    | none =>
      refine iteT ⟨_, rfl, by show 1 ≤ sizeLine; decide, fun sk hsk => ⟨_, ⟨kvs', kp z.2, z.1, rfl, sm_new hsk _ _ hb, sm_new hsk _ _ hd2, by rw [sizeLine_eq]; omega, rfl⟩, sm_mut (e2.trans (sm_new hsk)) hd, putK kvs' (kp z.2) (.ref sk), upd_same, ?_, ?_⟩⟩
      · have hnk : valV kvs' (kp z.2) = none := by
          refine val_none ?_
          rw [hk2, kp_mem]
          intro hm2
          have hm3 := (List.mem_filter.mp hm2).1
          obtain ⟨j, hj⟩ := List.mem_iff_getElem?.mp hm3
          rw [List.getElem?_take] at hj
          split at hj
          · have := nd_ix hnd hj hzi
            omega
          · cases hj
        rw [putK_new _ hnk, List.map_append, hk2, take_snoc hzi, List.filter_append, show List.filter (fun p : Pt => decide (M.mv p.1 p.2 = none)) [z.2] = [z.2] by simp [List.filter, hmv], List.map_append] <;> rfl
      · intro e4 he4
        have hk4 : ∃ a, e4.2 = .ref a ∧ upd H3 sk (.tup [.str "skip"]) a = some (.tup [.str "skip"]) := by
          have hnk : valV kvs' (kp z.2) = none := by
            refine val_none ?_
            rw [hk2, kp_mem]
            intro hm2
            have hm3 := (List.mem_filter.mp hm2).1
            obtain ⟨j, hj⟩ := List.mem_iff_getElem?.mp hm3
            rw [List.getElem?_take] at hj
            split at hj
            · have := nd_ix hnd hj hzi
              omega
            · cases hj
          rw [putK_new _ hnk] at he4
          rcases List.mem_append.mp he4 with y | y
          · obtain ⟨a, h1, h2⟩ := hv2 e4 y
            exact ⟨a, h1, sm_new hsk _ _ h2⟩
          · rw [List.mem_singleton.mp y]
            exact ⟨sk, rfl, upd_same⟩
        obtain ⟨a, h1, h2⟩ := hk4
        refine ⟨a, h1, ?_⟩
        rw [upd_ne (ne_of h2 (sm_new hsk _ _ hd2) (fun z => by cases z))]
        exact h2
  · rintro H2 ⟨e2, kvs', hd2, hk2, hv2⟩
    rw [List.length_map, show zs.length = (zs.map (·.2)).length by rw [List.length_map], List.take_length, hzs] at hk2
    have hnf : ((prodP M.places M.toks).filter fun p => decide (M.mv p.1 p.2 = none)).Nodup := List.Pairwise.filter _ (prodP_nodup ok.pn ok.tn)
    have hmem : ∀ s t, (s, t) ∈ ((prodP M.places M.toks).filter fun p => decide (M.mv p.1 p.2 = none)) ↔ s ∈ M.places ∧ t ∈ M.toks ∧ M.mv s t = none := fun s t => by
      rw [List.mem_filter, mem_prodP, decide_eq_true_eq, and_assoc]
    refine q d kvs' _ H2 (e.trans e2) ?_ hd2 ⟨hk2, hnf, fun s t => ?_, fun s t c hc => ?_⟩
    · cases hH : H d with
      | none => rfl
      | some o => rw [e _ _ hH] at hd; cases hd
    · rw [hmem]
      unfold blankF
      by_cases h : s ∈ M.places ∧ t ∈ M.toks ∧ M.mv s t = none
      · rw [if_pos h]
        exact ⟨fun _ => h, fun _ => rfl⟩
      · rw [if_neg h]
        exact ⟨fun z => (by cases z), fun z => absurd z h⟩
    · unfold blankF at hc
      by_cases h : s ∈ M.places ∧ t ∈ M.toks ∧ M.mv s t = none
      · rw [if_pos h] at hc
        cases hc
        obtain ⟨v, hv⟩ := Option.isSome_iff_exists.mp ((val_some hk2 (s, t)).mpr ((hmem s t).mpr h))
        have hvm : (kp (s, t), v) ∈ kvs' := by
          unfold valV at hv
          obtain ⟨p, hp, e3⟩ := Option.map_eq_some_iff.mp hv
          have h1 := List.find?_some hp
          have h2 := List.mem_of_find?_eq_some hp
          have h3 : p.1 = kp (s, t) := of_decide_eq_true h1
          rw [← h3, ← e3]
          exact h2
        obtain ⟨a, ha1, ha2⟩ := hv2 _ hvm
        exact ⟨a, by rw [hv]; exact congrArg some ha1, ha2⟩
      · rw [if_neg h] at hc
        cases hc
end
end Far

set_option Elab.async false
set_option linter.all false
set_option maxRecDepth 100000
set_option maxHeartbeats 4000000
/-! FarRdr4: told_table -/
namespace Far
open PySem PySem.Spec PyProof.Rows L2 Fz
theorem put_keys {kvs : Kvs} {k : List Key} {v : V} (h : k ∈ kvs.map (·.1)) : (putK kvs k v).map (·.1) = kvs.map (·.1) := by
  unfold putK
  have h1 : (kvs.any fun kv => decide (kv.1 = k)) = true := by
    obtain ⟨p, hp, e⟩ := List.mem_map.mp h
    exact List.any_eq_true.mpr ⟨p, hp, decide_eq_true e⟩
  rw [if_pos h1, List.map_map]
  refine List.map_congr_left fun x _ => ?_
  show (if x.1 = k then (x.1, v) else x).1 = x.1
  split <;> rfl
theorem TbK.put {H : Hp} {kvs : Kvs} {ks : List Pt} {g : Str → Str → Option (FAct Str)} (h : TbK H kvs ks g) {s t : Str} {c : FAct Str} {a : Addr} (hin : (s, t) ∈ ks) (ha : ActAt H a c) : TbK H (putK kvs (kp (s, t)) (.ref a)) ks (fun s' t' => if s' = s ∧ t' = t then some c else g s' t') := by
  have hk : kp (s, t) ∈ kvs.map (·.1) := by rw [h.keys, kp_mem]; exact hin
  refine ⟨by rw [put_keys hk, h.keys], h.nd, fun s' t' => ?_, fun s' t' c' hc => ?_⟩
  · by_cases e : s' = s ∧ t' = t
    · rw [if_pos e, e.1, e.2]
      exact ⟨fun _ => hin, fun _ => rfl⟩
    · rw [if_neg e]
      exact h.mem s' t'
  · rw [valV_put]
    by_cases e : s' = s ∧ t' = t
    · rw [if_pos e] at hc
      cases hc
      rw [e.1, e.2, if_pos rfl]
      exact ⟨a, rfl, ha⟩
    · rw [if_neg e] at hc
      rw [if_neg fun z => e (by have := kp_inj z; cases this; exact ⟨rfl, rfl⟩)]
      exact h.val s' t' c' hc
theorem TbK.at_ {H : Hp} {kvs : Kvs} {ks : List Pt} {f : Str → Str → Option (FAct Str)} (h : TbK H kvs ks f) {i : Nat} {k : List Key} {v : V} (hi : kvs[i]? = some (k, v)) : ∃ s t c a, ks[i]? = some (s, t) ∧ k = kp (s, t) ∧ v = .ref a ∧ f s t = some c ∧ ActAt H a c := by
  have e : (kvs.map (·.1))[i]? = some k := by rw [List.getElem?_map, hi]; rfl
  rw [h.keys, List.getElem?_map] at e
  cases hk : ks[i]? with
  | none => rw [hk] at e; cases e
  | some p =>
    rw [hk] at e
    obtain rfl : kp p = k := Option.some.inj e
    have q := val_at (by rw [h.keys]; exact kp_nodup h.nd) hi
    obtain ⟨c, hc⟩ := Option.isSome_iff_exists.mp ((h.mem p.1 p.2).mpr (List.mem_of_getElem? hk))
    obtain ⟨a, h1, h2⟩ := h.val p.1 p.2 c hc
    rw [show kp (p.1, p.2) = kp p from rfl, q] at h1
    exact ⟨p.1, p.2, c, a, rfl, rfl, Option.some.inj h1, hc, h2⟩
theorem TbK.congr {H : Hp} {kvs : Kvs} {ks : List Pt} {f g : Str → Str → Option (FAct Str)} (h : TbK H kvs ks f) (e : ∀ s t, f s t = g s t) : TbK H kvs ks g := by
  have z : f = g := funext fun s => funext fun t => e s t
  rw [← z]
  exact h
theorem kvs_len {kvs : Kvs} {ks : List Pt} (h : kvs.map (·.1) = ks.map kp) : kvs.length = ks.length := by
  have z := congrArg List.length h
  rwa [List.length_map, List.length_map] at z
/-- a table that told_table lets through -/
structure TabOk (M : MD) (f : Str → Str → Option (FAct Str)) : Prop where
  dom : ∀ s t, (f s t).isSome = true ↔ s ∈ M.places ∧ t ∈ M.toks ∧ M.mv s t = none
  act : ∀ s t c, f s t = some c → ActOk M s c
def spToldTable (K : PySem.W.Frag) : Sp := fun vs H Q _ => ∃ (m d : Addr) (M : MD) (kvs : Kvs) (ks : List Pt) (f : Str → Str → Option (FAct Str)), vs = [.ref m, .ref d] ∧ MchAt K (hid [d] H) m M ∧ MchOk M ∧ H d = some (.dT kvs) ∧ TbK H kvs ks f ∧ TabOk M f ∧
  ∀ ac kvs' ks' H', Same H H' → H ac = none → H' ac = some (.dT kvs') → TbK H' kvs' ks' f → Q (.ref ac) H'
theorem ActAt.of_tup {H H' : Hp} {a : Addr} {c : FAct Str} (h : ActAt H a c) (k : ∀ b xs, H b = some (.tup xs) → H' b = some (.tup xs)) : ActAt H' a c := by
  cases c with
  | skip => exact k _ _ h
  | put x => exact k _ _ h
  | take x => exact k _ _ h
  | jump x => exact k _ _ h
  | pass ts x =>
    obtain ⟨b, h1, h2⟩ := h
    exact ⟨b, k _ _ h1, k _ _ h2⟩
theorem TbK.of_tup {H H' : Hp} {kvs : Kvs} {ks : List Pt} {f : Str → Str → Option (FAct Str)} (h : TbK H kvs ks f) (k : ∀ b xs, H b = some (.tup xs) → H' b = some (.tup xs)) : TbK H' kvs ks f :=
  ⟨h.keys, h.nd, h.mem, fun s t c e => let ⟨a, h1, h2⟩ := h.val s t c e; ⟨a, h1, h2.of_tup k⟩⟩
section
variable {P : Program} {w : World} {K : PySem.W.Frag} {mg : Str → Option Value} {base : Heap}
theorem told_table_ok (T : Txt K mg) : Cal P w K mg base 5 "told_table" (spToldTable K) [] := by
  have c_is_name := is_name_ok (P := P) (w := w) (base := base) T
  have c_blank_table := blank_table_ok (P := P) (w := w) (base := base) T
  have c_told_action := told_action_ok (P := P) (w := w) (base := base) T
  have sc : FnScope ["machine", "table", "actions", "pair", "action"] ["machine", "table"] (defScope s_told_table) := ⟨rfl, rfl, rfl, by decide +kernel, rfl, by decide +kernel, by decide +kernel⟩
  have nd := sc.nd
  refine cal_mk T.g_told_table T.f_told_table sc (fun vs H Q E h => by obtain ⟨_, _, _, _, _, _, rfl, _⟩ := h; rfl) (fun _ _ _ _ _ _ us hl => match us, hl with | [_, _], _ => rfl) (fun cdv A outer s H vs0 Q E hr h => ?_)
  obtain ⟨m, d, M, kvs, ks, f, rfl, hmh, ok, hd, htb, tok, q⟩ := h
  have hu := hu_of hr
  refine ⟨_, (pss_cons (ps_if (pt_not (pt_val (pe_callB call_isi (by rfl) T.b_isinstance (by decide +kernel) (pa_cons (pv 1) (pa_cons (pe_bltn (v := .ty "dict") (by rfl) T.b_dict (by decide +kernel) rfl) pa_nil))))) (pss_one (ps_ret pe_non)) pss_nil)
      (pss_cons (pset 2 nd (C8.pe_c c_blank_table hr (by decide) (by rfl) (pa_cons (pv 0) pa_nil)))
      (pss_cons (ps_lock (ps_for PassesOwn.never rfl (pi_keys (pv 1)) (pgn 3 nd) (pss_cons (ps_if (PW.pt (pw_or (pt_not (pt_val (pe_callB call_isi (by rfl) T.b_isinstance (by decide +kernel) (pa_cons (pv 3) (pa_cons (pe_bltn (v := .ty "tuple") (by rfl) T.b_tuple (by decide +kernel) rfl) pa_nil))))) (pw_or1 (pt_cmpR op_ne (pe_callB call_len_seq (by rfl) T.b_len (by decide +kernel) (pa_cons (pv 3) pa_nil)) pe_int (nomark _))))) (pss_one (ps_ret pe_non)) pss_nil)
      (pss_cons (ps_if (PW.pt (pw_or (pt_not (pt_val (C8.pe_c c_is_name hr (by decide) (by rfl) (pa_cons (pe_ix ix_tup (pv 3) pe_int (fun _ _ => rfl)) pa_nil)))) (pw_or (pt_not (pt_val (C8.pe_c c_is_name hr (by decide) (by rfl) (pa_cons (pe_ix ix_tup (pv 3) pe_int (fun _ _ => rfl)) pa_nil)))) (pw_or1 (pt_cmp (pc_dnotin hu (pv 3) (pv 2)) (by rfl)))))) (pss_one (ps_ret pe_non)) pss_nil)
      (pss_cons (pset 4 nd (C8.pe_c c_told_action hr (by decide) (by rfl) (pa_cons (pv 0) (pa_cons (pe_ix ix_tup (pv 3) pe_int (fun _ _ => rfl)) (pa_cons (pe_dget hu (pv 1) (pv 3) (fun _ _ => rfl)) pa_nil)))))
      (pss_cons (ps_if (pt_cmpR op_isN (pv 4) pe_non (nomark _)) (pss_one (ps_ret pe_non)) pss_nil)
      (pss_one (ps_dput hu (pv 2) (pv 3) (pv 4) rfl))))))))
      (pss_one (ps_ret (pv 2)))))), ?_⟩
  refine ⟨_, rfl, _, _, _, _, true, rfl, .ty _, .base (.dT hd), kit_ty (by decide +kernel), true, rfl, iteF ?_⟩
  refine ⟨_, rfl, m, M, rfl, hmh.mono (same_hid _ _), ok, fun ac kvb ksb H1 e1 hacn hac htbb => ?_⟩
  have hd1 := e1 _ _ hd
  have hne : d ≠ ac := ne_of_none hd hacn
  have hnel : d ∉ [ac] := by simpa using hne
  have hpl : ∀ s t, (s, t) ∈ ks ↔ (s, t) ∈ ksb := fun s t => by
    rw [← htb.mem, tok.dom, ← htbb.mem]
    unfold blankF
    by_cases h : s ∈ M.places ∧ t ∈ M.toks ∧ M.mv s t = none
    · rw [if_pos h]
      exact ⟨fun _ => rfl, fun _ => h⟩
    · rw [if_neg h]
      exact ⟨fun z => absurd z h, fun z => (by cases z)⟩
  -- for pair in table
  refine ⟨d, _, hd1, trivial, fun od => ?_⟩
  have hkl : kvs.length ≤ 24 := by
    rw [kvs_len htb.keys]
    have z := nodup_le ks (prodP M.places M.toks) htb.nd fun p hp => by
      have := (tok.dom p.1 p.2).mp ((htb.mem p.1 p.2).mpr hp)
      exact mem_prodP.mpr ⟨this.1, this.2.1⟩
    rw [prodP_len] at z
    have z2 : M.places.length * M.toks.length ≤ 6 * 4 := Nat.mul_le_mul ok.p6 ok.t4
    omega
  have hbl : ksb.length ≤ 24 := by
    have z := nodup_le ksb ks htbb.nd fun p hp => (hpl p.1 p.2).mpr hp
    rw [← kvs_len htb.keys] at z
    omega
  refine ⟨_, rfl, d, od, rfl, .inr ⟨kvs, upd_same, for_it walk_keysT (fun i σ H' => Ex [ac] (upd H1 d (.frz od (.dT kvs))) H' ∧ (∃ v v', σ = [some (.ref m), some (.ref d), some (.ref ac), v, v']) ∧ ∃ kvi, H' ac = some (.dT kvi) ∧ TbK H' kvi ksb (fun s t => if (s, t) ∈ ks.take i then f s t else blankF M s t))
    ⟨Ex.refl _ _, ⟨none, none, rfl⟩, kvb, by rw [upd_ne (Ne.symm hne)]; exact hac, ?_⟩ (fun i σ H2 _ p => p.1.get hnel upd_same) ?_ ?_⟩⟩
  · refine (htbb.of_tup fun b xs hb => lk_tup hd1 hb).congr fun s t => ?_
    rw [List.take_zero, if_neg (by simp)]
  · rintro i y σ H2 H3 hi ⟨e, ⟨v, v', rfl⟩, kvi, hac2, htb2⟩ ⟨rfl, k, x, b, hk, rfl, hb⟩
    obtain ⟨sx, tx, c, aa, hks, rfl, rfl, hf, haa0⟩ := htb.at_ hk
    obtain ⟨dp, dt, dm⟩ := (tok.dom sx tx).mp (by rw [hf] <;> rfl)
    have n1 := ok.pnm sx dp
    have n2 := ok.tnm tx dt
    have gt : ∀ b xs, H b = some (.tup xs) → H3 b = some (.tup xs) := fun b xs hb => e.get (by
      intro z
      rw [List.mem_singleton.mp z, hacn] at hb
      cases hb) (lk_tup hd1 (e1 _ _ hb))
    have haa : ActAt H3 aa c := haa0.of_tup gt
    have hm3 : MchAt K H3 m M := by
      refine hmh.mono fun b o hb => ?_
      have hbd : b ≠ d := fun z => by rw [z, hid_in (by simp)] at hb; cases hb
      have hb1 := e1 _ _ (same_hid _ _ _ _ hb)
      refine e.get (fun z => ?_) (by rw [upd_ne hbd]; exact hb1)
      rw [List.mem_singleton.mp z] at hb
      have := same_hid _ _ _ _ hb
      rw [hacn] at this
      cases this
    have hinb : (sx, tx) ∈ ksb := (hpl sx tx).mp (List.mem_of_getElem? hks)
    refine ⟨_, rfl, _, _, _, _, true, rfl, .ty _, .base (.tup hb), kit_ty (by decide +kernel), true, rfl, iteF ?_⟩
    refine ⟨_, rfl, b, _, rfl, .inr (SqT.of hb), rfl, _, rfl, iteF ?_⟩
    refine ⟨_, rfl, b, _, _, _, rfl, rfl, SqT.of hb, rfl, sx, rfl, n1, true, rfl, iteF ?_⟩
    refine ⟨_, rfl, b, _, _, _, rfl, rfl, SqT.of hb, rfl, tx, rfl, n2, true, rfl, iteF ?_⟩
    have hdga := dg (.inl hac2) hb
    obtain ⟨v2, hv2⟩ := Option.isSome_iff_exists.mp ((val_some htb2.keys (sx, tx)).mpr hinb)
    rw [hv2] at hdga
    refine ⟨_, rfl, _, rfl, ac, _, rfl, hdga, _, rfl, iteF ?_⟩
    -- told_action
    have hdgt := dg (.inr ⟨od, e.get hnel upd_same⟩) hb
    obtain ⟨aa', hva, _⟩ := htb.val _ _ _ hf
    have hvt : valV kvs (kp (sx, tx)) = some (.ref aa) := val_at (by rw [htb.keys]; exact kp_nodup htb.nd) hk
    rw [hvt] at hdgt
    refine ⟨_, rfl, _, rfl, b, _, _, _, rfl, rfl, SqT.of hb, rfl, _, rfl, _, rfl, d, _, rfl, hdgt, m, aa, M, sx, c, rfl, n1, hm3, haa, tok.act _ _ _ hf, fun p H4 e4 hp4 => ?_⟩
    refine ⟨_, rfl, rfl, _, rfl, iteF ?_⟩
    have hac4 := e4 _ _ hac2
    have hb4 := e4 _ _ hb
    refine ⟨_, rfl, _, rfl, _, rfl, ac, _, rfl, DPut.t (k := kp (sx, tx)) hac4 hb4 (by rw [kvs_len htb2.keys, sizeLine_eq]; omega), ?_⟩
    refine ⟨(e.trans (Ex.of (L := [ac]) e4)).upd (by simp), ⟨_, _, rfl⟩, _, upd_same, ?_⟩
    have htb4 := ((htb2.mono e4).put hinb hp4).of_tup (H' := upd H4 ac (.dT (putK kvi (kp (sx, tx)) (.ref p)))) fun b xs hb => by
      rw [upd_ne (ne_of hb hac4 (fun z => by cases z))]
      exact hb
    refine htb4.congr fun s t => ?_
    rw [take_snoc hks]
    by_cases h : s = sx ∧ t = tx
    · rw [if_pos h, h.1, h.2, if_pos (by simp), hf]
    · rw [if_neg h]
      have h2 : ((s, t) ∈ ks.take i ++ [(sx, tx)]) ↔ (s, t) ∈ ks.take i := by
        rw [List.mem_append, List.mem_singleton]
        exact ⟨fun z => z.elim id fun z => absurd (by cases z; exact ⟨rfl, rfl⟩) h, .inl⟩
      by_cases h3 : (s, t) ∈ ks.take i
      · rw [if_pos h3, if_pos (h2.mpr h3)]
      · rw [if_neg h3, if_neg fun z => h3 (h2.mp z)]
  · rintro σ H2 ⟨e, ⟨v, v', rfl⟩, kvi, hac2, htb2⟩
    refine ⟨e.get hnel upd_same, ?_⟩
    have ef : Same H (upd H2 d (.dT kvs)) := ex_same e1 (lk_ex hd1 hnel e) fun b hb => by rw [List.mem_singleton.mp hb]; exact hacn
    refine ⟨_, rfl, q ac kvi ksb _ ef hacn (by rw [upd_ne (Ne.symm hne)]; exact hac2) ?_⟩
    rw [kvs_len htb.keys, List.take_length] at htb2
    refine (htb2.of_tup fun b xs hb => ?_).congr fun s t => ?_
    · rw [upd_ne (ne_of hb (e.get hnel upd_same) (fun z => by cases z))]
      exact hb
    · by_cases h : (s, t) ∈ ks
      · rw [if_pos h]
      · rw [if_neg h]
        have h1 : f s t = none := by
          cases q : f s t with
          | none => rfl
          | some c => exact absurd ((htb.mem s t).mp (by rw [q] <;> rfl)) h
        rw [h1]
        unfold blankF
        rw [if_neg fun z => h ((htb.mem s t).mp ((tok.dom s t).mpr z))]
end
end Far

set_option Elab.async false
set_option linter.all false
set_option maxRecDepth 100000
set_option maxHeartbeats 4000000
/-! FarRdr5: Reader.__init__ -/
namespace Far
open PySem PySem.Spec PyProof.Rows L2 Fz
def spReader (K : PySem.W.Frag) : Sp := fun vs H Q _ => ∃ (r dx m d : Addr) (M : MD) (kvs : Kvs) (ks : List Pt) (f : Str → Str → Option (FAct Str)) (hold : Nat), vs = [.ref r, .ref m, .ref d, .int hold] ∧ H r = some (.ins (He.ga K "Reader") dx []) ∧ MchAt K (hid [d, r] H) m M ∧ MchOk M ∧ H d = some (.dT kvs) ∧ TbK H kvs ks f ∧ TabOk M f ∧
  (∀ s ∈ M.places, ∀ t ∈ M.toks, ends ⟨M.mv, f, 0⟩ t 8 s = true) ∧ hold ≤ 3 ∧ ∀ H', Ex [r] H H' → RdrAt K H' r M ⟨M.mv, f, hold⟩ → Q .non H'
theorem nkD_alike (l : NKs) : PySem.W.AllAlike ((l.map fun q => (V.ref q.2, nkD q.1)).map (·.2)) ∧ PySem.W.Sortable ((l.map fun q => (V.ref q.2, nkD q.1)).map (·.2)) ∧ ∀ z ∈ (l.map fun q => (V.ref q.2, nkD q.1)), z.2.depth ≤ 60 := by
  have h2 : ∀ d ∈ (l.map fun q => (V.ref q.2, nkD q.1)).map (·.2), ∃ p, d = nkD p := fun d hd => by
    obtain ⟨z, hz, rfl⟩ := List.mem_map.mp hd
    obtain ⟨q, _, rfl⟩ := List.mem_map.mp hz
    exact ⟨q.1, rfl⟩
  refine ⟨fun d hd d' hd' => ?_, .inl fun d hd => ?_, fun z hz => ?_⟩
  · obtain ⟨p, rfl⟩ := h2 d hd
    obtain ⟨p', rfl⟩ := h2 d' hd'
    show (true && (PySem.W.alikeAll (p.2.map .str) (p'.2.map .str) && true)) = true
    rw [alike_texts] <;> rfl
  · obtain ⟨p, rfl⟩ := h2 d hd
    exact ⟨_, _, rfl⟩
  · obtain ⟨q, _, rfl⟩ := List.mem_map.mp hz
    show max 0 (max (PyData.depthAll (q.1.2.map .str) + 1) 0) + 1 ≤ 60
    rw [strsD_depth]
    decide
theorem KtN.of_tup {H H' : Hp} {q : (Str × List Str) × Addr} (h : KtN H q) (k : ∀ b xs, H b = some (.tup xs) → H' b = some (.tup xs)) : KtN H' q := by
  obtain ⟨t, h1, h2⟩ := h
  exact ⟨t, k _ _ h1, k _ _ h2⟩
theorem ndAt_tup {P : Program} {w : World} {H : Hp} {D b : Addr} {ks : NKs} {xs : List V} {o : HO} (h : NdAt P w H D ks) (hb : H b = some (.tup xs)) : upd H D o b = some (.tup xs) := by
  rcases h with h | ⟨_, h⟩
  · rw [upd_ne (ne_of hb h (fun z => by cases z))]
    exact hb
  · rw [upd_ne (ne_of hb h (fun z => by cases z))]
    exact hb
section
variable {P : Program} {w : World} {K : PySem.W.Frag} {mg : Str → Option Value} {base : Heap}
theorem reader_init_ok (T : Txt K mg) {fd : FuncData} (F : FunD K "__init__" "Reader.__init__" (defArgs s_Reader_init) (defBody s_Reader_init) (defScope s_Reader_init) [] [("hold", V.int 0)] (He.ma K (He.ga K "Reader") "__init__") fd) :
    FnOk P w K mg base C8.CX0 6 (He.ma K (He.ga K "Reader") "__init__") fd ["self", "machine", "table", "hold"] (spReader K) := by
  have c_told_table := told_table_ok (P := P) (w := w) (base := base) T
  have c_is_within := is_within_ok (P := P) (w := w) (base := base) T
  have c_rings := rings_ok (P := P) (w := w) (base := base) T
  have sc : FnScope ["self", "machine", "table", "hold", "actions", "pair", "found", "action"] ["self", "machine", "table", "hold"] (defScope s_Reader_init) := ⟨rfl, rfl, rfl, by decide +kernel, rfl, by decide +kernel, by decide +kernel⟩
  have nd := sc.nd
  refine F.ok sc (fun vs H Q E h => by obtain ⟨_, _, _, _, _, _, _, _, _, rfl, _⟩ := h; rfl) (fun cdv A outer s H vs0 Q E hr h => ?_)
  suffices hs : ∃ t, PSs (cxOf C8.CX0 P w K mg base ["self", "machine", "table", "hold", "actions", "pair", "found", "action"] "Reader.__init__" (defScope s_Reader_init) (He.ma K (He.ga K "Reader") "__init__") cdv A outer s H E).nox (defBody s_Reader_init) t ∧ t { nx := fun _ H' => Q .non H', rt := Q } (start ["self", "machine", "table", "hold", "actions", "pair", "found", "action"] vs0) H by
    obtain ⟨t, h1, h2⟩ := hs
    exact ⟨t, h1.nox, h2⟩
  obtain ⟨r, dx, m, d, M, kvs, ks, f, hold, rfl, hr0, hmh, ok, hd, htb, tok, hend, hh3, q⟩ := h
  have hu := hu_of hr
  have hu65 := hu65_of hr
  refine ⟨_, (pss_cons (pset 4 nd (C8.pe_c c_told_table hr (by decide) (by rfl) (pa_cons (pv 1) (pa_cons (pv 2) pa_nil))))
      (pss_cons (ps_if (pt_cmpR op_isN (pv 4) pe_non (nomark _)) pss_never pss_nil)
      (pss_cons (ps_if (pt_not (pt_val (C8.pe_c c_is_within hr (by decide) (by rfl) (pa_cons (pv 3) (pa_cons pe_int (pa_cons pe_int pa_nil)))))) pss_never pss_nil)
      (C8.pss_cut (ps_lock (ps_for PassesOwn.never rfl (pi_keys (pv 4)) (pgn 5 nd) (pss_one (ps_if (pt_val (C8.pe_c c_rings hr (by decide) (by rfl) (pa_cons (pv 1) (pa_cons (pv 4) (pa_cons (pv 5) pa_nil))))) pss_never pss_nil))))
      (C8.pss_cut (ps_fld (pv 0) (pv 1) rfl)
      (C8.pss_cut (ps_fld (pv 0) (pv 4) rfl)
      (C8.pss_cut (ps_fld (pv 0) (pv 3) rfl)
      (C8.pss_cut (ps_lock (ps_setDg dem_T (dst_N hu65) (i := 6) (own := [("action", 7)]) (g := gName 7) rfl nd rfl rfl (sw_trueD rfl rfl rfl (by decide +kernel)) (pi_valuesT (pv 4)) (blkOk_by (own := [("action", 7)]) (N := ["self", "machine", "table", "hold", "actions", "pair", "found", "action"]) (sc := defScope s_Reader_init) (by decide +kernel)) (fun _ _ _ _ _ => (pgn 7 nd)) (fun _ _ _ _ _ => (pts_one (pt_cmpR op_eq (pe_ix (ix_tupK (K := K)) (pv 7) pe_int (fun _ _ => rfl)) pe_str (nomark _)))) (fun _ _ _ _ _ => (pe_tup (pa_cons (pe_ix (ix_tupK (K := K)) (pv 7) pe_int (fun _ _ => rfl)) (pa_cons (pe_ix (ix_tupK (K := K)) (pv 7) pe_int (fun _ _ => rfl)) pa_nil)))) (fun _ _ _ _ _ => pe_bl)))
      (pss_one (ps_fld (pv 0) (pe_callB (cr_sortedD hu65) (by rfl) T.b_sorted (by decide +kernel) (pa_cons (pe_callTy (call_listN rfl) (by rfl) T.b_list (by decide +kernel) (pa_cons (pv 6) pa_nil)) pa_nil)) rfl)))))))))), ?_⟩
  have hmd : MchAt K (hid [d] H) m M := hmh.mono fun b o q => by
    by_cases hb : b ∈ [d, r]
    · rw [hid_in hb] at q; cases q
    · rw [hid_out hb] at q
      rw [hid_out (fun z => hb (by rw [List.mem_singleton.mp z]; simp))]
      exact q
  refine ⟨_, rfl, _, rfl, m, d, M, kvs, ks, f, rfl, hmd, ok, hd, htb, tok, fun ac kva ksa H1 e1 hacn hac hta => ?_⟩
  refine ⟨_, rfl, rfl, _, rfl, iteF ?_⟩
  refine ⟨_, rfl, hold, 0, 3, rfl, by omega, by omega, true, rfl, iteF ?_⟩
  have r1 := e1 _ _ hr0
  have nac : ∀ {b : Addr} {o : HO}, H b = some o → b ≠ ac := fun hb => ne_of_none hb hacn
  -- for pair in actions
  refine ⟨fun σ' H' => (∃ v, σ' = [some (.ref r), some (.ref m), some (.ref d), some (.int hold), some (.ref ac), v, none, none]) ∧ Same H1 H', ?_, ?_⟩
  · refine ⟨ac, _, hac, trivial, fun od => ?_⟩
    refine ⟨_, rfl, ac, od, rfl, .inr ⟨kva, upd_same, for_it walk_keysT (fun i σ' H' => (∃ v, σ' = [some (.ref r), some (.ref m), some (.ref d), some (.int hold), some (.ref ac), v, none, none]) ∧ Same (upd H1 ac (.frz od (.dT kva))) H') ⟨⟨none, rfl⟩, Same.refl _⟩ (fun i σ H2 _ p => p.2 _ _ upd_same) ?_ ?_⟩⟩
    · rintro i y σ H2 H3 hi ⟨⟨v, rfl⟩, e⟩ ⟨rfl, k, x, b, hk, rfl, hb⟩
      obtain ⟨sx, tx, c, aa, hks, rfl, rfl, hf, haa⟩ := hta.at_ hk
      obtain ⟨dp, dt, dm⟩ := (tok.dom sx tx).mp (by rw [hf] <;> rfl)
      have hm3 : MchAt K H3 m M := hmh.mono fun b o hb => by
        have hb1 := same_hid _ _ _ _ hb
        exact e _ _ (by rw [upd_ne (nac hb1)]; exact e1 _ _ hb1)
      have ht3 : TbK H3 kva ksa f := (hta.of_tup fun b xs hb => lk_tup hac hb).mono e
      refine ⟨_, rfl, _, rfl, _, rfl, m, ac, b, M, kva, ksa, f, sx, tx, rfl, hm3, .inr ⟨od, e _ _ upd_same⟩, ht3, hb, fun s t c hc => ((tok.dom s t).mp (by rw [hc] <;> rfl)).2.2, fun s t x hx => ((tok.act s t _ hx).pt x (.inl rfl)).2, hend sx dp tx dt, fun H4 e4 => ⟨false, rfl, iteF ⟨⟨_, rfl⟩, e.trans e4⟩⟩⟩
    · rintro σ H2 ⟨⟨v, rfl⟩, e⟩
      exact ⟨e _ _ upd_same, ⟨v, rfl⟩, lk_back hac e⟩
  rintro σ2 H2 ⟨⟨v5, rfl⟩, e2⟩
  have e12 := e1.trans e2
  have r2 := e12 _ _ hr0
  -- engine, actions, span
  refine ⟨fun σ' H' => σ' = [some (.ref r), some (.ref m), some (.ref d), some (.int hold), some (.ref ac), v5, none, none] ∧ Ex [r] H2 H' ∧ H' r = some (.ins (He.ga K "Reader") dx [("engine", .ref m)]),
    ⟨_, rfl, _, rfl, r, _, dx, _, rfl, r2, T.cl_Reader, T.n_Reader_engine, by decide, rfl, (Ex.refl [r] H2).upd (by simp), upd_same⟩, ?_⟩
  rintro σ3 H3 ⟨rfl, x3, r3⟩
  refine ⟨fun σ' H' => σ' = [some (.ref r), some (.ref m), some (.ref d), some (.int hold), some (.ref ac), v5, none, none] ∧ Ex [r] H2 H' ∧ H' r = some (.ins (He.ga K "Reader") dx [("engine", .ref m), ("actions", .ref ac)]),
    ⟨_, rfl, _, rfl, r, _, dx, _, rfl, r3, T.cl_Reader, T.n_Reader_actions, by show 1 < 1000; decide, rfl, x3.upd (by simp), by rw [putF_new rfl]; exact upd_same⟩, ?_⟩
  rintro σ4 H4 ⟨rfl, x4, r4⟩
  refine ⟨fun σ' H' => σ' = [some (.ref r), some (.ref m), some (.ref d), some (.int hold), some (.ref ac), v5, none, none] ∧ Ex [r] H2 H' ∧ H' r = some (.ins (He.ga K "Reader") dx [("engine", .ref m), ("actions", .ref ac), ("span", .int hold)]),
    ⟨_, rfl, _, rfl, r, _, dx, _, rfl, r4, T.cl_Reader, T.n_Reader_span, by show 2 < 1000; decide, rfl, x4.upd (by simp), by rw [putF_new rfl]; exact upd_same⟩, ?_⟩
  rintro σ5 H5 ⟨rfl, x5, r5⟩
  have o5 : ∀ {b : Addr} {o : HO}, H2 b = some o → b ≠ r → H5 b = some o := fun hb hn => x5.get (by simpa using hn) hb
  have acr : ac ≠ r := fun z => by rw [z, hr0] at hacn; cases hacn
  have hac5 := o5 (e2 _ _ hac) acr
  have hta5 : TbK H5 kva ksa f := (hta.mono e2).of_tup fun b xs hb => o5 hb (ne_of hb r2 (fun z => by cases z))
  have hkl : kva.length ≤ 24 := by
    rw [kvs_len hta.keys]
    have z := nodup_le ksa (prodP M.places M.toks) hta.nd fun p hp => by
      have := (tok.dom p.1 p.2).mp ((hta.mem p.1 p.2).mpr hp)
      exact mem_prodP.mpr ⟨this.1, this.2.1⟩
    rw [prodP_len] at z
    have z2 : M.places.length * M.toks.length ≤ 6 * 4 := Nat.mul_le_mul ok.p6 ok.t4
    omega
  -- found
  refine ⟨fun σ' H' => ∃ (fo : Addr) (nks : NKs), σ' = [some (.ref r), some (.ref m), some (.ref d), some (.int hold), some (.ref ac), v5, some (.ref fo), none] ∧ Same H5 H' ∧ NdAt P w H' fo nks ∧ (∀ q ∈ nks, KtN H' q) ∧ nks.length ≤ 24, ?_, ?_⟩
  · refine ⟨ac, _, hac5, trivial, fun od => ?_⟩
    refine ⟨_, rfl, ac, od, kva, rfl, upd_same, fun D hD => dg_it walk_valsT (fun i H' => Same (upd H5 ac (.frz od (.dT kva))) H' ∧ ∃ nks : NKs, NdAt P w H' D nks ∧ (∀ q ∈ nks, KtN H' q) ∧ nks.length ≤ i) ⟨sm_new hD, [], .inr ⟨rfl, upd_same⟩, fun q hq => (by cases hq), Nat.le_refl _⟩ (fun i H' _ p => p.1 _ _ upd_same) ?_ ?_⟩
    · rintro i x H6 H7 hi ⟨e, nks, hD6, hk6, hl6⟩ ⟨rfl, k, hkv⟩
      obtain ⟨sx, tx, c, aa, hks, rfl, rfl, hf, haa0⟩ := hta5.at_ hkv
      have haa : ActAt H7 aa c := (haa0.of_tup fun b xs hb => lk_tup hac5 hb).mono e
      have hi24 : i < 24 := by omega
      cases c with
      | skip => exact ⟨rfl, _, rfl, aa, _, _, _, rfl, rfl, SqT.of (show H7 aa = some (.tup [.str "skip"]) from haa), rfl, rfl, _, rfl, wF (by decide) ⟨e, nks, hD6, hk6, by omega⟩⟩
      | put y => exact ⟨rfl, _, rfl, aa, _, _, _, rfl, rfl, SqT.of (show H7 aa = some (.tup [.str "put", .str y]) from haa), rfl, rfl, _, rfl, wF (by decide) ⟨e, nks, hD6, hk6, by omega⟩⟩
      | take y => exact ⟨rfl, _, rfl, aa, _, _, _, rfl, rfl, SqT.of (show H7 aa = some (.tup [.str "take", .str y]) from haa), rfl, rfl, _, rfl, wF (by decide) ⟨e, nks, hD6, hk6, by omega⟩⟩
      | jump y => exact ⟨rfl, _, rfl, aa, _, _, _, rfl, rfl, SqT.of (show H7 aa = some (.tup [.str "jump", .str y]) from haa), rfl, rfl, _, rfl, wF (by decide) ⟨e, nks, hD6, hk6, by omega⟩⟩
      | pass ts y =>
        obtain ⟨bt, h1, h2⟩ := haa
        refine ⟨rfl, _, rfl, aa, _, _, _, rfl, rfl, SqT.of h1, rfl, rfl, _, rfl, wT ?_⟩
        refine ⟨_, rfl, aa, _, _, _, rfl, rfl, SqT.of h1, rfl, _, rfl, aa, _, _, _, rfl, rfl, SqT.of h1, rfl, by show 2 ≤ sizeLine; decide, fun b hb => ?_⟩
        have hDb : NdAt P w (upd H7 b (.tup [.str y, .ref bt])) D nks := by
          rcases hD6 with z | ⟨z1, z⟩
          · exact .inl (sm_new hb _ _ z)
          · exact .inr ⟨z1, sm_new hb _ _ z⟩
        have hkb : ∀ q ∈ nks, KtN (upd H7 b (.tup [.str y, .ref bt])) q := fun q hq => (hk6 q hq).of_tup fun b' xs h => sm_new hb _ _ h
        have hkn : KtN (upd H7 b (.tup [.str y, .ref bt])) ((y, ts), b) := ⟨bt, upd_same, sm_new hb _ _ h2⟩
        refine ⟨_, ⟨nks, (y, ts), b, rfl, hkn, hDb, hkb, by omega, rfl⟩, sm_mut (e.trans (sm_new hb)) hD, putN nks (y, ts) b, .inl upd_same, fun q hq => ?_, ?_⟩
        · have hq2 : KtN (upd H7 b (.tup [.str y, .ref bt])) q := by
            unfold putN at hq
            split at hq
            · exact hkb q hq
            · rcases List.mem_append.mp hq with z | z
              · exact hkb q z
              · rw [List.mem_singleton.mp z]; exact hkn
          exact hq2.of_tup fun b' xs h => ndAt_tup hDb h
        · unfold putN
          split
          · omega
          · rw [List.length_append]
            show _ + 1 ≤ _
            omega
    · rintro H6 ⟨e, nks, hD6, hk6, hl6⟩
      have hne : D ≠ ac := (ne_of_none upd_same hD).symm
      refine ⟨e _ _ upd_same, D, nks, rfl, lk_back hac5 e, ?_, fun q hq => (hk6 q hq).of_tup fun b xs h => ?_, by omega⟩
      · rcases hD6 with z | ⟨z1, z⟩
        · exact .inl (by rw [upd_ne hne]; exact z)
        · exact .inr ⟨z1, by rw [upd_ne hne]; exact z⟩
      · rw [upd_ne (ne_of h (e _ _ upd_same) (fun z => by cases z))]
        exact h
  rintro σ6 H6 ⟨fo, nks, rfl, e6, hN6, hk6, hl6⟩
  -- passes
  obtain ⟨a1, a2, a3⟩ := nkD_alike nks
  have hsq : (nks.map fun q => (V.ref q.2, nkD q.1)).map (·.1) = nks.map fun q => V.ref q.2 := by rw [List.map_map] <;> rfl
  refine ⟨_, rfl, fo, nks, rfl, hN6, by omega, fun l hl => ⟨l, nks.map fun q => (V.ref q.2, nkD q.1), rfl, by rw [hsq]; exact SqL.of upd_same, fun z hz => ?_, a1, a2, a3, fun qs pa hperm hpa => ?_⟩⟩
  · obtain ⟨q, hq, rfl⟩ := List.mem_map.mp hz
    obtain ⟨t, h1, h2⟩ := hk6 q hq
    exact .tup (SqT.of (sm_new hl _ _ h1)) (.cons (.str _) (.cons (.tup (SqT.of (sm_new hl _ _ h2)) (dp_strs _)) .nil))
  have e7 := e6.trans ((sm_new hl (o := .lst (nks.map fun q => V.ref q.2))).trans (sm_new hpa (o := .lst (qs.map (·.1)))))
  have r7 := e7 _ _ r5
  refine ⟨_, rfl, r, _, dx, _, rfl, r7, T.cl_Reader, T.n_Reader_passes, by show 3 < 1000; decide, ?_⟩
  have o7 : ∀ {b : Addr} {o : HO} {fs : List (Str × V)}, H2 b = some o → b ≠ r → upd (upd (upd H6 l (.lst (nks.map fun q => V.ref q.2))) pa (.lst (qs.map (·.1)))) r (.ins (He.ga K "Reader") dx fs) b = some o := fun hb hn => by
    rw [upd_ne hn]
    exact e7 _ _ (o5 hb hn)
  refine q _ ?_ ⟨dx, m, ac, pa, kva, ksa, ?_, hmh.mono fun b o hb => ?_, o7 (e2 _ _ hac) acr, (hta.mono e2).of_tup fun b xs hb => o7 hb (ne_of hb r2 (fun z => by cases z)), rfl⟩
  · exact ((Ex.of (L := [r]) e12).trans (x5.trans (Ex.of (L := [r]) e7))).upd (by simp)
  · rw [upd_same, putF_new rfl] <;> rfl
  · have hb1 := same_hid _ _ _ _ hb
    exact o7 (e12 _ _ hb1) (fun z => by rw [z, hid_in (by simp)] at hb; cases hb)
end
end Far

set_option Elab.async false
set_option linter.all false
set_option maxRecDepth 100000
set_option maxHeartbeats 4000000
/-! FarLaw1: _law_purse, _law_draw -/
namespace Far
open PySem PySem.Spec PyProof.Rows L2 Fz
def Pur (H : Hp) (p g : Addr) : Prop := ∃ (c : Addr) (ns gs : List Int) (n : Int), H p = some (.lst [.ref c, .ref g, .int n]) ∧ H c = some (.lst (ns.map V.int)) ∧ H g = some (.lst (gs.map V.int)) ∧ ns.length = gs.length ∧ 0 < ns.length ∧ ns.length ≤ 63 ∧ c ≠ g ∧ c ≠ p ∧ g ≠ p
theorem Pur.mono {H H' : Hp} {p g : Addr} (e : Same H H') (h : Pur H p g) : Pur H' p g := by
  obtain ⟨c, ns, gs, n, h1, h2, h3, r⟩ := h
  exact ⟨c, ns, gs, n, e _ _ h1, e _ _ h2, e _ _ h3, r⟩
theorem Pur.pn {H : Hp} {p g a : Addr} (h : Pur H p g) (ha : H a = none) : a ≠ p ∧ a ≠ g := by
  obtain ⟨c, ns, gs, n, h1, h2, h3, r⟩ := h
  exact ⟨(ne_of_none h1 ha).symm, (ne_of_none h3 ha).symm⟩
def spPurse (K : PySem.W.Frag) : Sp := fun vs H Q _ => ∃ (a : Addr) (ns : List Int), vs = [.ref a] ∧ SqL K H a (ns.map V.int) ∧ ns.length ≤ 63 ∧ ∀ p g H', Same H H' → Pur H' p g → Q (.ref p) H'
def spDraw : Sp := fun vs H Q _ => ∃ (p g : Addr) (many : Nat), vs = [.ref p, .int many] ∧ Pur H p g ∧ 0 < many ∧ many ≤ 10000000000 ∧ ∀ (r : Nat) (H' : Hp), r < many → Ex [p, g] H H' → Pur H' p g → Q (.int r) H'
theorem ints_get {xs : List Int} {i : Nat} {v : V} (h : (xs.map V.int)[i]? = some v) : ∃ x, xs[i]? = some x ∧ v = .int x := get_map h
theorem ints_at {ys : List Int} {i : Nat} {y : Int} (h : ys[i]? = some y) : atI (ys.map V.int) ((i : Nat) : Int) = some (.int y) := at_of rfl (by rw [List.getElem?_map, h]; rfl)
theorem ixN_nat {n i : Nat} (h : i < n) : ixN n (i : Int) = some i := by
  unfold ixN
  rw [if_pos (by omega), if_pos (by omega), Int.toNat_natCast]
section
variable {P : Program} {w : World} {K : PySem.W.Frag} {mg : Str → Option Value} {base : Heap}
theorem law_draw_ok (T : Txt K mg) : Cal P w K mg base 1 "_law_draw" spDraw [] := by
  have sc : FnScope ["_law_purse_here", "_law_many", "_law_at", "_law_rest", "_law_number"] ["_law_purse_here", "_law_many"] (defScope s_law_draw) := ⟨rfl, rfl, rfl, by decide +kernel, rfl, by decide +kernel, by decide +kernel⟩
  have nd := sc.nd
  refine cal_mk T.g_law_draw T.f_law_draw sc (fun vs H Q E h => by obtain ⟨_, _, _, rfl, _⟩ := h; rfl) (fun _ _ _ _ _ _ us hl => match us, hl with | [_, _], _ => rfl) (fun cdv A outer s H vs0 Q E hr h => ?_)
  obtain ⟨p, g, many, rfl, ⟨c, ns, gs, n, h1, h2, h3, hl, h0, h63, cg, cp, gp⟩, m0, m10, q⟩ := h
  refine ⟨_, (pss_cons (ps_asg (pe_op op_add (pe_ix ix_list (pv 0) pe_int (fun _ _ => rfl)) pe_int) (pg_sub (pv 0) pe_int set_list))
      (pss_cons (pset 2 nd (pe_op op_mod (pe_callTy call_int1 (by rfl) T.b_int (by decide +kernel) (pa_cons (pe_ix ix_list (pv 0) pe_int (fun _ _ => rfl)) pa_nil)) (pe_callB call_len_seq (by rfl) T.b_len (by decide +kernel) (pa_cons (pe_ix ix_list (pv 0) pe_int (fun _ _ => rfl)) pa_nil))))
      (pss_cons (pset 3 nd (pe_ix ix_list (pe_ix ix_list (pv 0) pe_int (fun _ _ => rfl)) (pv 2) (fun _ _ => rfl)))
      (pss_cons (ps_if (pt_cmpR op_gt (pv 3) pe_int (nomark _)) (pss_cons (ps_asg (pe_op op_fdivW (pv 3) (pv 1)) (pg_sub (pe_ix ix_list (pv 0) pe_int (fun _ _ => rfl)) (pv 2) set_list))
      (pss_one (ps_ret (pe_op op_mod (pe_callTy call_int1 (by rfl) T.b_int (by decide +kernel) (pa_cons (pv 3) pa_nil)) (pv 1))))) pss_nil)
      (pss_cons (pset 4 nd (pe_op op_add (pe_op op_add (pe_op op_mod (pe_callTy call_int1 (by rfl) T.b_int (by decide +kernel) (pa_cons (pe_ix ix_list (pe_ix ix_list (pv 0) pe_int (fun _ _ => rfl)) (pv 2) (fun _ _ => rfl)) pa_nil)) pe_int) (pe_op op_mul pe_int (pe_ix ix_list (pv 0) pe_int (fun _ _ => rfl)))) pe_int))
      (pss_cons (pset 4 nd (pe_op op_mod (pe_callTy call_int1 (by rfl) T.b_int (by decide +kernel) (pa_cons (pe_op op_mul (pv 4) pe_int) pa_nil)) pe_int))
      (pss_cons (pset 4 nd (pe_op op_mod (pe_callTy call_int1 (by rfl) T.b_int (by decide +kernel) (pa_cons (pe_op op_mul (pv 4) (pe_op op_add (pe_op op_fdiv (pv 4) pe_int) pe_int)) pa_nil)) pe_int))
      (pss_cons (pset 4 nd (pe_op op_mod (pe_callTy call_int1 (by rfl) T.b_int (by decide +kernel) (pa_cons (pe_op op_mul (pv 4) (pe_op op_add (pe_op op_fdiv (pv 4) pe_int) pe_int)) pa_nil)) pe_int))
      (pss_one (ps_ret (pe_op op_mod (pe_callTy call_int1 (by rfl) T.b_int (by decide +kernel) (pa_cons (pe_op op_fdiv (pv 4) pe_int) pa_nil)) (pv 1)))))))))))), ?_⟩
  refine ⟨_, rfl, p, _, _, _, rfl, rfl, SqL.of h1, rfl, _, _, rfl, rfl, _, rfl, p, _, _, 2, rfl, rfl, h1, rfl, ?_⟩
  have x1 : Ex [p, g] H (upd H p (.lst [.ref c, .ref g, .int (n + 1)])) := (Ex.refl _ H).upd (by simp)
  have p1 := upd_same (H := H) (a := p) (o := .lst [.ref c, .ref g, .int (n + 1)])
  have c1 : upd H p (.lst [.ref c, .ref g, .int (n + 1)]) c = some (.lst (ns.map V.int)) := by rw [upd_ne cp]; exact h2
  have g1 : upd H p (.lst [.ref c, .ref g, .int (n + 1)]) g = some (.lst (gs.map V.int)) := by rw [upd_ne gp]; exact h3
  show tSeq _ _ _ _ (upd H p (.lst [.ref c, .ref g, .int (n + 1)]))
  generalize upd H p (.lst [.ref c, .ref g, .int (n + 1)]) = H1 at x1 p1 c1 g1 ⊢
  obtain ⟨j, hj, ej⟩ : ∃ j : Nat, j < ns.length ∧ (n + 1) % (((ns.map V.int).length : Nat) : Int) = (j : Int) := by
    have h1 := Int.emod_nonneg (n + 1) (show (ns.length : Int) ≠ 0 by omega)
    have h2 := Int.emod_lt_of_pos (n + 1) (show (0 : Int) < (ns.length : Int) by omega)
    refine ⟨((n + 1) % (ns.length : Int)).toNat, by omega, ?_⟩
    rw [List.length_map]
    omega
  obtain ⟨nj, hnj⟩ : ∃ y, ns[j]? = some y := ⟨_, List.getElem?_eq_getElem hj⟩
  obtain ⟨gj, hgj⟩ : ∃ y, gs[j]? = some y := ⟨_, List.getElem?_eq_getElem (by omega)⟩
  -- at
  refine ⟨_, rfl, p, _, _, _, rfl, rfl, SqL.of p1, rfl, .inl ⟨_, rfl, _, rfl, p, _, _, _, rfl, rfl, SqL.of p1, rfl, c, _, rfl, .inl (SqL.of c1), _, _, rfl, rfl, by rw [List.length_map]; omega, ?_⟩⟩
  show tSeq _ _ _ [some (.ref p), some (.int many), some (.int ((n + 1) % (((ns.map V.int).length : Nat) : Int))), none, none] _
  rw [ej]
  -- rest
  refine ⟨_, rfl, p, _, _, _, rfl, rfl, SqL.of p1, rfl, _, rfl, g, _, _, _, rfl, rfl, SqL.of g1, ints_at hgj, ?_⟩
  have hm : (0 : Int) < (many : Int) := by omega
  refine ⟨_, rfl, _, _, rfl, rfl, _, rfl, ite2 (fun z => ?_) (fun z => ?_)⟩
  · refine ⟨_, rfl, _, rfl, _, _, rfl, rfl, ⟨hm, ?_⟩, _, rfl, p, _, _, _, rfl, rfl, SqL.of p1, rfl, _, rfl, g, _, _, j, rfl, rfl, g1, ixN_nat (by rw [List.length_map]; omega), ?_⟩
    · rw [Int.natAbs_natCast]
      refine Nat.lt_of_lt_of_le ((Nat.log2_lt (k := 34) (by omega)).mpr (Nat.lt_of_le_of_lt m10 (by decide))) (by decide)

    have x2 : Ex [p, g] H (upd H1 g (.lst ((gs.map V.int).set j (.int (gj / (many : Int)))))) := x1.upd (by simp)
    have pur : Pur (upd H1 g (.lst ((gs.map V.int).set j (.int (gj / (many : Int)))))) p g := by
      refine ⟨c, ns, gs.set j (gj / (many : Int)), n + 1, ?_, ?_, ?_, by rw [List.length_set]; exact hl, h0, h63, cg, cp, gp⟩
      · rw [upd_ne (Ne.symm gp)]; exact p1
      · rw [upd_ne cg]; exact c1
      · rw [upd_same, List.map_set]
    refine ⟨_, rfl, .inl ⟨_, rfl, _, rfl, _, _, rfl, rfl, hm, ?_⟩⟩
    have e1 := Int.emod_nonneg gj (show (many : Int) ≠ 0 by omega)
    have e2 := Int.emod_lt_of_pos gj hm
    have z := q (gj % (many : Int)).toNat _ (by omega) x2 pur
    rw [Int.toNat_of_nonneg e1] at z
    exact z
  · have pur : Pur H1 p g := ⟨c, ns, gs, n + 1, p1, c1, g1, hl, h0, h63, cg, cp, gp⟩
    -- number
    refine ⟨_, rfl, p, _, _, _, rfl, rfl, SqL.of p1, rfl, _, rfl, c, _, _, _, rfl, rfl, SqL.of c1, ints_at hnj, .inl ⟨_, rfl, _, _, rfl, rfl, (by decide : (0 : Int) < 2147483629), _, rfl, p, _, _, _, rfl, rfl, SqL.of p1, rfl, _, _, rfl, rfl, .inl ⟨(by decide : -(2 ^ 64) < (7919 : Int)), (by decide : (7919 : Int) < 2 ^ 64)⟩, _, _, rfl, rfl, _, _, rfl, rfl, ?_⟩⟩
    show tSeq _ _ _ [some (.ref p), some (.int many), some (.int j), some (.int gj), some (.int (nj % 2147483629 + 7919 * (n + 1) + 1))] H1
    generalize nj % 2147483629 + 7919 * (n + 1) + 1 = y1
    refine ⟨_, rfl, _, _, rfl, rfl, .inr ⟨(by decide : -(2 ^ 64) < (48271 : Int)), (by decide : (48271 : Int) < 2 ^ 64)⟩, .inl ⟨_, rfl, _, _, rfl, rfl, (by decide : (0 : Int) < 2147483647), ?_⟩⟩
    have a1 := Int.emod_nonneg (y1 * 48271) (show (2147483647 : Int) ≠ 0 by decide)
    have a2 := Int.emod_lt_of_pos (y1 * 48271) (show (0 : Int) < 2147483647 by decide)
    show tSeq _ _ _ [some (.ref p), some (.int many), some (.int j), some (.int gj), some (.int (y1 * 48271 % 2147483647))] H1
    generalize y1 * 48271 % 2147483647 = y2 at a1 a2 ⊢
    refine ⟨_, rfl, _, rfl, _, _, rfl, rfl, ⟨(by decide : (0 : Int) < 1009), (by decide : (1009 : Int) < 1073741824)⟩, _, _, rfl, rfl, _, _, rfl, rfl, .inl ⟨by omega, by omega⟩, .inl ⟨_, rfl, _, _, rfl, rfl, (by decide : (0 : Int) < 2147483647), ?_⟩⟩
    have b1 := Int.emod_nonneg (y2 * (y2 / 1009 + 69621)) (show (2147483647 : Int) ≠ 0 by decide)
    have b2 := Int.emod_lt_of_pos (y2 * (y2 / 1009 + 69621)) (show (0 : Int) < 2147483647 by decide)
    show tSeq _ _ _ [some (.ref p), some (.int many), some (.int j), some (.int gj), some (.int (y2 * (y2 / 1009 + 69621) % 2147483647))] H1
    generalize y2 * (y2 / 1009 + 69621) % 2147483647 = y3 at b1 b2 ⊢
    refine ⟨_, rfl, _, rfl, _, _, rfl, rfl, ⟨(by decide : (0 : Int) < 2003), (by decide : (2003 : Int) < 1073741824)⟩, _, _, rfl, rfl, _, _, rfl, rfl, .inl ⟨by omega, by omega⟩, .inl ⟨_, rfl, _, _, rfl, rfl, (by decide : (0 : Int) < 2147483399), ?_⟩⟩
    obtain ⟨y4, hy4⟩ : ∃ y4, y3 * (y3 / 2003 + 40692) % 2147483399 = y4 := ⟨_, rfl⟩
    refine ⟨_, rfl, _, _, rfl, rfl, ⟨(by decide : (0 : Int) < 16), (by decide : (16 : Int) < 1073741824)⟩, .inl ⟨_, rfl, _, rfl, _, _, rfl, rfl, hm, ?_⟩⟩
    have e1 := Int.emod_nonneg (y4 / 16) (show (many : Int) ≠ 0 by omega)
    have e2 := Int.emod_lt_of_pos (y4 / 16) hm
    have z := q (y4 / 16 % (many : Int)).toNat H1 (by omega) x1 pur
    rw [Int.toNat_of_nonneg e1, ← hy4] at z
    exact z
theorem law_purse_ok (T : Txt K mg) : Cal P w K mg base 1 "_law_purse" (spPurse K) [] := by
  have sc : FnScope ["_law_script", "_law_cells", "_law_cell", "_law_great", "_law_k"] ["_law_script"] (defScope s_law_purse) := ⟨rfl, rfl, rfl, by decide +kernel, rfl, by decide +kernel, by decide +kernel⟩
  have nd := sc.nd
  refine cal_mk T.g_law_purse T.f_law_purse sc (fun vs H Q E h => by obtain ⟨_, _, rfl, _⟩ := h; rfl) (fun _ _ _ _ _ _ us hl => match us, hl with | [_], _ => rfl) (fun cdv A outer s H vs0 Q E hr h => ?_)
  obtain ⟨a, ns, rfl, hs, hl, q⟩ := h
  refine ⟨_, (pss_cons (ps_setLc (i := 1) (own := [("_law_cell", 2)]) (g := gName 2) (tt := tYes) rfl nd rfl rfl (sw_true rfl rfl rfl (by decide +kernel)) (pi_list (pe_slice sl_list (pv 0) po_none (po_some pe_int))) (blkOk_by (own := [("_law_cell", 2)]) (N := ["_law_script", "_law_cells", "_law_cell", "_law_great", "_law_k"]) (sc := defScope s_law_purse) (by decide +kernel)) (fun _ _ _ _ _ => (pgn 2 nd)) (fun _ _ _ _ _ => pts_nil) (fun _ _ _ _ _ => (pe_callTy call_int1 (by rfl) T.b_int (by decide +kernel) (pa_cons (pv 2) pa_nil))))
      (C8.pss_cut (ps_if (pt_cmpR op_eq (pe_callB call_len_seq (by rfl) T.b_len (by decide +kernel) (pa_cons (pv 1) pa_nil)) pe_int (nomark _)) (pss_one (pset 1 nd (pe_lst (pa_cons pe_int pa_nil)))) pss_nil)
      (pss_cons (ps_setLc (i := 3) (own := [("_law_cell", 2)]) (g := gName 2) (tt := tYes) rfl nd rfl rfl (sw_true rfl rfl rfl (by decide +kernel)) (pi_list (pv 1)) (blkOk_by (own := [("_law_cell", 2)]) (N := ["_law_script", "_law_cells", "_law_cell", "_law_great", "_law_k"]) (sc := defScope s_law_purse) (by decide +kernel)) (fun _ _ _ _ _ => (pgn 2 nd)) (fun _ _ _ _ _ => pts_nil) (fun _ _ _ _ _ => (pe_callB call_abs (by rfl) T.b_abs (by decide +kernel) (pa_cons (pv 2) pa_nil))))
      (pss_cons (ps_for PassesOwn.never rfl (pi_range1 rfl T.b_range (pa_cons (pe_callB call_len_seq (by rfl) T.b_len (by decide +kernel) (pa_cons (pv 3) pa_nil)) pa_nil)) (pgn 4 nd) (pss_one (ps_if (pt_cmpR op_lt (pe_ix ix_list (pv 3) (pv 4) (fun _ _ => rfl)) (pe_op op_pow pe_int pe_int) (nomark _)) (pss_one (ps_asg pe_int (pg_sub (pv 3) (pv 4) set_list))) pss_nil)))
      (pss_one (ps_ret (pe_lst (pa_cons (pv 1) (pa_cons (pv 3) (pa_cons pe_int pa_nil)))))))))), ?_⟩
  have hcut : ∀ {l : List Int}, l.length ≤ 63 → cutV (l.map V.int) none (some 63) = l.map V.int := fun {l} hl => by
    unfold cutV
    have e1 : HT.sIx (l.map V.int).length 0 none = 0 := rfl
    have e2 : HT.sIx (l.map V.int).length (l.map V.int).length (some ((63 : Nat) : Int)) = min 63 (l.map V.int).length := HT.sIx_nat _ _ _
    have e3 : HT.sIx (l.map V.int).length (l.map V.int).length (some 63) = min 63 (l.map V.int).length := e2
    rw [e1, e3, List.drop_zero, List.take_of_length_le]
    rw [List.length_map]
    omega
  have l63 : ∀ {l : List Int} {i : Nat}, l.length ≤ 63 → ((l.take i).map V.int).length < sizeLine := fun {l i} hl => by
    rw [List.length_map, List.length_take, sizeLine_eq]
    omega
  -- cells
  refine ⟨_, rfl, _, rfl, a, _, rfl, hs, fun sl hsl => ?_⟩
  rw [hcut hl]
  have e1 := sm_new hsl (o := .lst (ns.map V.int))
  refine ⟨sl, rfl, ⟨_, SqL.of upd_same⟩, fun D hD => lc_it walk_list (fun i H' => Same (upd H sl (.lst (ns.map V.int))) H' ∧ H' D = some (.lst ((ns.take i).map V.int))) ⟨sm_new hD, upd_same⟩ (fun i H' _ z => SqL.of (z.1 _ _ upd_same)) ?_ ?_⟩
  · rintro i x H5 H6 hi ⟨e, hD5⟩ ⟨rfl, hx⟩
    obtain ⟨y, hy, rfl⟩ := ints_get hx
    refine ⟨rfl, _, rfl, .inl ⟨y, rfl, _, hD5, l63 hl, sm_mut e hD, ?_⟩⟩
    rw [upd_same, take_snoc hy, List.map_append] <;> rfl
  rintro H1 ⟨e2, hD1⟩
  rw [List.length_map, List.take_length] at hD1
  have e12 := e1.trans e2
  -- if len(cells) == 0
  refine ⟨fun σ' H' => ∃ (c : Addr) (ms : List Int), σ' = [some (.ref a), some (.ref c), none, none, none] ∧ Same H H' ∧ H' c = some (.lst (ms.map V.int)) ∧ 0 < ms.length ∧ ms.length ≤ 63, ?_, ?_⟩
  · refine ⟨_, rfl, D, _, rfl, .inl (SqL.of hD1), rfl, _, rfl, ite2 (fun z => ?_) (fun z => ?_)⟩
    · exact ⟨by show 1 ≤ sizeLine; decide, fun c hc => ⟨c, [0], rfl, e12.trans (sm_new hc), upd_same, by decide, by decide⟩⟩
    · refine ⟨D, ns, rfl, e12, hD1, ?_, hl⟩
      cases ns with
      | nil => exact absurd (decide_eq_true rfl) z
      | cons x l => exact Nat.succ_pos _
  rintro σ2 H2 ⟨c, ms, rfl, e3, hc, m0, m63⟩
  -- great
  refine ⟨_, rfl, c, rfl, ⟨_, SqL.of hc⟩, fun g hg => lc_it walk_list (fun i H' => Same H2 H' ∧ ∃ gs : List Int, gs.length = i ∧ H' g = some (.lst (gs.map V.int))) ⟨sm_new hg, [], rfl, upd_same⟩ (fun i H' _ z => SqL.of (z.1 _ _ hc)) ?_ ?_⟩
  · rintro i x H5 H6 hi ⟨e, gs, hgl, hD5⟩ ⟨rfl, hx⟩
    obtain ⟨y, hy, rfl⟩ := ints_get hx
    have hi' : i < ms.length := (List.getElem?_eq_some_iff.mp hy).1
    refine ⟨rfl, _, rfl, y, rfl, _, hD5, by rw [List.length_map, sizeLine_eq]; omega, sm_mut e hg, gs ++ [if y < 0 then -y else y], by rw [List.length_append, hgl]; rfl, ?_⟩
    rw [upd_same, List.map_append] <;> rfl
  rintro H3 ⟨e4, gs, hgl, hg3⟩
  rw [List.length_map] at hgl
  have hcg : c ≠ g := ne_of_none hc hg
  have hgH : H g = none := by
    cases hH : H g with
    | none => rfl
    | some o => rw [e3 _ _ hH] at hg; cases hg
  -- for k in range(len(great))
  refine ⟨_, rfl, g, _, rfl, .inl (SqL.of hg3), ((gs.map V.int).length : Int), rfl, by omega, by rw [List.length_map]; omega, ?_⟩
  have hn : (((gs.map V.int).length : Nat) : Int).toNat = ms.length := by rw [List.length_map]; omega
  rw [hn]
  refine for_it walk_range (fun i σ' H' => (∃ v v', σ' = [some (.ref a), some (.ref c), v', some (.ref g), v]) ∧ Ex [g] H3 H' ∧ ∃ gs : List Int, gs.length = ms.length ∧ H' g = some (.lst (gs.map V.int))) ⟨⟨_, _, rfl⟩, Ex.refl _ _, gs, hgl, hg3⟩ (fun _ _ _ _ _ => trivial) ?_ ?_
  · rintro i x σ' H5 H6 hi ⟨⟨v, v', rfl⟩, x5, gs5, hl5, hg5⟩ ⟨rfl, rfl⟩
    obtain ⟨y, hy⟩ : ∃ y, gs5[i]? = some y := ⟨_, List.getElem?_eq_getElem (by omega)⟩
    have h0i : (0 : Int) + (i : Nat) = ((i : Nat) : Int) := by omega
    refine ⟨_, rfl, _, rfl, g, _, _, _, rfl, rfl, SqL.of hg5, at_of h0i (by rw [List.getElem?_map, hy]; rfl), _, _, rfl, rfl, ⟨by decide, by decide, by decide⟩, _, _, rfl, rfl, _, rfl, ite2 (fun z => ?_) (fun z => ⟨⟨_, _, rfl⟩, x5, gs5, hl5, hg5⟩)⟩
    refine ⟨_, rfl, _, rfl, g, _, _, i, rfl, rfl, hg5, by rw [h0i]; exact ixN_nat (by rw [List.length_map]; omega), ⟨_, _, rfl⟩, x5.upd (by simp), gs5.set i 0, by rw [List.length_set]; exact hl5, ?_⟩
    rw [upd_same, List.map_set]
  · rintro σ' H5 ⟨⟨v, v', rfl⟩, x5, gs5, hl5, hg5⟩
    refine ⟨_, rfl, _, rfl, by show 3 ≤ sizeLine; decide, fun p hp => ?_⟩
    have e5 : Same H H5 := ex_same (e3.trans e4) x5 fun b hb => by rw [List.mem_singleton.mp hb]; exact hgH
    have hc5 := x5.get (by simpa using hcg) (e4 _ _ hc)
    exact q p g _ (e5.trans (sm_new hp)) ⟨c, ms, gs5, 0, upd_same, sm_new hp _ _ hc5, sm_new hp _ _ hg5, hl5.symm, m0, m63, hcg, ne_of_none hc5 hp, ne_of_none hg5 hp⟩
end
end Far

set_option Elab.async false
set_option linter.all false
set_option maxRecDepth 100000
set_option maxHeartbeats 4000000
/-! FarLaw2: _law_name, _law_names, _law_reached -/
namespace Far
open PySem PySem.Spec PyProof.Rows L2 Fz
def spName : Sp := fun vs H Q _ => ∃ (p g : Addr), vs = [.ref p] ∧ Pur H p g ∧ ∀ (x : Str) (H' : Hp), NameOk x → Ex [p, g] H H' → Pur H' p g → Q (.str x) H'
def spNames : Sp := fun vs H Q _ => ∃ (p g : Addr) (many : Nat), vs = [.ref p, .int many] ∧ Pur H p g ∧ 0 < many ∧ many ≤ 6 ∧ ∀ (l : Addr) (ys : List Str) (H' : Hp), Ex [p, g] H H' → Pur H' p g → hid [p, g] H' l = some (.lst (ys.map .str)) → ys.length = many → ys.Nodup → (∀ x ∈ ys, NameOk x) → Q (.ref l) H'
def spReached (K : PySem.W.Frag) : Sp := fun vs H Q _ => ∃ (d : Addr) (start : Str) (kvs : Kvs) (ks : List Pt) (f : Str → Str → Option Str), vs = [.str start, .ref d] ∧ H d = some (.dT kvs) ∧ MvK kvs ks f ∧ ks.length ≤ 100 ∧
  ∀ (l : Addr) (ys : List Str) (H' : Hp), Same H H' → H' l = some (.lst (ys.map .str)) → H l = none → 0 < ys.length → ys.length ≤ 1000 → (∀ x ∈ ys, Reach f start x) → Q (.ref l) H'
theorem str_app (x y : Str) : (x ++ y).cps = x.cps ++ y.cps := rfl
theorem str_app_len (x y : Str) : (x ++ y).length = x.length + y.length := by
  show (x.cps ++ y.cps).size = x.cps.size + y.cps.size
  exact Array.size_append
theorem pur_ex {H H' : Hp} {p g : Addr} {b : Addr} {o : HO} (h : Ex [p, g] H H') (hb : hid [p, g] H b = some o) : hid [p, g] H' b = some o := h b o hb
theorem hid_at {L : List Addr} {H : Hp} {b : Addr} {o : HO} (h : hid L H b = some o) : H b = some o := same_hid _ _ _ _ h
theorem hid_fresh {H : Hp} {p g a : Addr} {o : HO} (h : Pur H p g) (ha : H a = none) : hid [p, g] (upd H a o) a = some o := by
  have := h.pn ha
  rw [hid_out (by simp [this.1, this.2]), upd_same]
theorem chr_at {α : Type} {l : List α} {c : Nat} {ch : α} (h : l[c]? = some ch) : atI l (c : Int) = some ch := by
  have hlt := (List.getElem?_eq_some_iff.mp h).1
  unfold atI
  rw [ixN_nat hlt]
  exact h
section
variable {P : Program} {w : World} {K : PySem.W.Frag} {mg : Str → Option Value} {base : Heap}
theorem law_name_ok (T : Txt K mg) : Cal P w K mg base 2 "_law_name" spName [] := by
  have c_law_draw := law_draw_ok (P := P) (w := w) (base := base) T
  have sc : FnScope ["_law_purse_here", "_law_word", "_law_k"] ["_law_purse_here"] (defScope s_law_name) := ⟨rfl, rfl, rfl, by decide +kernel, rfl, by decide +kernel, by decide +kernel⟩
  have nd := sc.nd
  refine cal_mk T.g_law_name T.f_law_name sc (fun vs H Q E h => by obtain ⟨_, _, rfl, _⟩ := h; rfl) (fun _ _ _ _ _ _ us hl => match us, hl with | [_], _ => rfl) (fun cdv A outer s H vs0 Q E hr h => ?_)
  obtain ⟨p, g, rfl, hp, q⟩ := h
  refine ⟨_, (pss_cons (pset 1 nd pe_str)
      (pss_cons (ps_for PassesOwn.never rfl (pi_range1 rfl T.b_range (pa_cons (pe_op op_add pe_int (C8.pe_c c_law_draw hr (by decide) (by rfl) (pa_cons (pv 0) (pa_cons pe_int pa_nil)))) pa_nil)) (pgn 2 nd) (pss_one (pset 1 nd (pe_op op_add_str (pv 1) (pe_ix ix_str pe_str (C8.pe_c c_law_draw hr (by decide) (by rfl) (pa_cons (pv 0) (pa_cons pe_int pa_nil))) (fun _ _ => rfl))))))
      (pss_one (ps_ret (pv 1))))), ?_⟩
  refine ⟨_, rfl, p, g, 8, rfl, hp, by decide, by decide, fun r H1 hr8 x1 p1 => ?_⟩
  refine ⟨_, _, rfl, rfl, _, rfl, by omega, by omega, ?_⟩
  have hn : ((1 : Int) + (r : Int)).toNat = r + 1 := by omega
  rw [hn]
  refine for_it walk_range (fun i σ' H' => (∃ (x : Str) (v : Option V), σ' = [some (.ref p), some (.str x), v] ∧ x.length = i ∧ ∀ c ∈ x.cps.toList, c ∈ LET.cps.toList) ∧ Ex [p, g] H H' ∧ Pur H' p g) ⟨⟨"", none, rfl, rfl, fun c hc => (by cases hc)⟩, x1, p1⟩ (fun _ _ _ _ _ => trivial) ?_ ?_
  · rintro i y σ' H2 H3 hi ⟨⟨x, v, rfl, hx, hxl⟩, x2, p2⟩ ⟨rfl, rfl⟩
    refine ⟨_, rfl, _, rfl, p, g, 26, rfl, p2, by decide, by decide, fun c H4 hc x4 p4 => ?_⟩
    obtain ⟨ch, hch⟩ : ∃ ch, LET.cps.toList[c]? = some ch := ⟨_, List.getElem?_eq_getElem (by
      have : LET.cps.toList.length = 26 := by decide +kernel
      omega)⟩
    refine ⟨LET, _, ch, rfl, rfl, by decide +kernel, chr_at hch, _, _, rfl, rfl, ?_, ⟨_, _, rfl, ?_, ?_⟩, x2.trans x4, p4⟩
    · rw [hx, sizeLine_eq]
      show i + 1 ≤ _
      omega
    · rw [str_app_len, hx] <;> rfl
    · intro c' hc'
      rw [str_app, Array.toList_append, List.mem_append] at hc'
      rcases hc' with z | z
      · exact hxl c' z
      · rw [List.mem_singleton.mp z]
        exact List.mem_of_getElem? hch
  · rintro σ' H2 ⟨⟨x, v, rfl, hx, hxl⟩, x2, p2⟩
    exact ⟨_, rfl, q x H2 ⟨by omega, by omega, hxl⟩ x2 p2⟩
theorem law_reached_ok (T : Txt K mg) : Cal P w K mg base 1 "_law_reached" (spReached K) [] := by
  have sc : FnScope ["_law_start", "_law_moves", "_law_found", "_law_again_here", "_law_pair"] ["_law_start", "_law_moves"] (defScope s_law_reached) := ⟨rfl, rfl, rfl, by decide +kernel, rfl, by decide +kernel, by decide +kernel⟩
  have nd := sc.nd
  refine cal_mk T.g_law_reached T.f_law_reached sc (fun vs H Q E h => by obtain ⟨_, _, _, _, _, rfl, _⟩ := h; rfl) (fun _ _ _ _ _ _ us hl => match us, hl with | [_, _], _ => rfl) (fun cdv A outer s H vs0 Q E hr h => ?_)
  obtain ⟨d, start, kvs, ks, f, rfl, hd, mv, hk, q⟩ := h
  have hu := hu_of hr
  refine ⟨_, (pss_cons (pset 2 nd (pe_lst (pa_cons (pv 0) pa_nil)))
      (pss_cons (ps_for PassesOwn.never rfl (pi_range1 rfl T.b_range (pa_cons pe_int pa_nil)) (pgn 3 nd) (pss_one (ps_lock (ps_for PassesOwn.never rfl (pi_keys (pv 1)) (pgn 4 nd) (pss_one (ps_if (PW.pt (pw_and (pt_cmpR op_in_seq (pe_ix ix_tup (pv 4) pe_int (fun _ _ => rfl)) (pv 2) (by rfl)) (pw_and1 (pt_cmpR op_notIn_seq (pe_dget hu (pv 1) (pv 4) (fun _ _ => rfl)) (pv 2) (by rfl))))) (pss_one (ps_expr (pe_bm PySem.F.plainAttrs_list PySem.F.slot_list_append PySem.F.type_list_append mt_append (pv 2) (pa_cons (pe_dget hu (pv 1) (pv 4) (fun _ _ => rfl)) pa_nil)))) pss_nil))))))
      (pss_one (ps_ret (pv 2))))), ?_⟩
  refine ⟨_, rfl, by show 1 ≤ sizeLine; decide, fun l hl => ?_⟩
  have e1 := sm_new hl (o := .lst [.str start])
  have hkl : kvs.length ≤ 100 := by
    have z := congrArg List.length mv.keys
    rw [List.length_map, List.length_map] at z
    omega
  refine ⟨6, rfl, by decide, by decide, for_it walk_range (fun i σ' H' => (∃ v v', σ' = [some (.str start), some (.ref d), some (.ref l), v, v']) ∧ Same H H' ∧ ∃ ys : List Str, H' l = some (.lst (ys.map V.str)) ∧ 0 < ys.length ∧ ys.length ≤ 1 + 100 * i ∧ ∀ x ∈ ys, Reach f start x) ⟨⟨none, none, rfl⟩, e1, [start], upd_same, Nat.succ_pos _, (by show 1 ≤ 1 + 100 * 0; decide), fun x hx => by rw [List.mem_singleton.mp hx]; exact .refl _⟩ (fun _ _ _ _ _ => trivial) ?_ ?_⟩
  · rintro i y σ' H2 H3 hi ⟨⟨v, v', rfl⟩, e2, ys, hl2, hy0, hyl, hyr⟩ ⟨rfl, rfl⟩
    have hd2 := e2 _ _ hd
    have hdl : d ≠ l := ne_of hd2 hl2 (fun z => by cases z)
    have hnel : d ∉ [l] := by simpa using hdl
    have hi6 : i < 6 := hi
    refine ⟨d, _, hd2, trivial, fun od => ?_⟩
    refine ⟨_, rfl, d, od, rfl, .inr ⟨kvs, upd_same, for_it walk_keysT (fun j σ H' => (∃ v v', σ = [some (.str start), some (.ref d), some (.ref l), v, v']) ∧ Ex [l] (upd H3 d (.frz od (.dT kvs))) H' ∧ ∃ ys : List Str, H' l = some (.lst (ys.map V.str)) ∧ 0 < ys.length ∧ ys.length ≤ 1 + 100 * i + j ∧ ∀ x ∈ ys, Reach f start x) ⟨⟨_, _, rfl⟩, Ex.refl _ _, ys, by rw [upd_ne (Ne.symm hdl)]; exact hl2, hy0, hyl, hyr⟩ (fun j σ H' _ p => p.2.1.get hnel upd_same) ?_ ?_⟩⟩
    · rintro j yv σ H4 H5 hj ⟨⟨v, v', rfl⟩, x4, ys4, hl4, h04, hl5, hr4⟩ ⟨rfl, k, x, b, hkk, rfl, hb⟩
      obtain ⟨sx, tx, ax, hks, rfl, rfl, hf⟩ := mv.at_ hkk
      have hj100 : j < 100 := by omega
      have hdg := dg (.inr ⟨od, x4.get hnel upd_same⟩) hb
      rw [mv.val, hf] at hdg
      refine ⟨_, rfl, b, _, _, _, rfl, rfl, SqT.of hb, rfl, _, rfl, l, _, rfl, .inl (SqL.of hl4), rfl, flat_strs _, _, rfl, ?_⟩
      show (if inV (.str sx) (ys4.map V.str) = true then _ else _)
      rw [inV_strs]
      refine ite2 (fun z => ?_) (fun z => iteF ⟨⟨_, _, rfl⟩, x4, ys4, hl4, h04, by omega, hr4⟩)
      have hin := of_decide_eq_true z
      refine ⟨_, rfl, _, rfl, d, .str ax, rfl, hdg, _, rfl, l, _, rfl, .inl (SqL.of hl4), rfl, flat_strs _, _, rfl, ?_⟩
      show (if (!inV (.str ax) (ys4.map V.str)) = true then _ else _)
      rw [inV_strs]
      by_cases hin2 : ax ∈ ys4
      · rw [decide_eq_true hin2]
        exact iteF ⟨⟨_, _, rfl⟩, x4, ys4, hl4, h04, by omega, hr4⟩
      · rw [decide_eq_false hin2]
        refine iteT ⟨_, rfl, .inl ⟨rfl, _, SqL.of hl4⟩, _, rfl, _, rfl, d, .str ax, rfl, hdg, l, _, _, rfl, rfl, hl4, by rw [List.length_map, sizeLine_eq]; omega, ⟨_, _, rfl⟩, x4.upd (by simp), ys4 ++ [ax], by rw [upd_same, List.map_append]; rfl, by rw [List.length_append]; omega, by rw [List.length_append]; show _ + 1 ≤ _; omega, fun x hx => ?_⟩
        rcases List.mem_append.mp hx with y | y
        · exact hr4 x y
        · rw [List.mem_singleton.mp y]
          exact reach_snoc (hr4 sx hin) hf
    · rintro σ H4 ⟨⟨v, v', rfl⟩, x4, ys4, hl4, h04, hl5, hr4⟩
      refine ⟨x4.get hnel upd_same, ⟨_, _, rfl⟩, ex_same e2 (lk_ex hd2 hnel x4) (fun b hb => by rw [List.mem_singleton.mp hb]; exact hl), ys4, by rw [upd_ne (Ne.symm hdl)]; exact hl4, h04, by omega, hr4⟩
  · rintro σ' H2 ⟨⟨v, v', rfl⟩, e2, ys, hl2, hy0, hyl, hyr⟩
    have h6 : (6 : Int).toNat = 6 := rfl
    rw [h6] at hyl
    exact ⟨_, rfl, q l ys H2 e2 hl2 hl hy0 (by omega) hyr⟩
end
end Far

set_option Elab.async false
set_option linter.all false
set_option maxRecDepth 100000
set_option maxHeartbeats 4000000
/-! FarLaw3: _law_names -/
namespace Far
open PySem PySem.Spec PyProof.Rows L2 Fz
theorem hid_updn {L : List Addr} {H : Hp} {d : Addr} {o : HO} (h : d ∉ L) : hid L (upd H d o) = upd (hid L H) d o := by
  funext b
  by_cases hb : b = d
  · subst hb
    rw [upd_same, hid_out h, upd_same]
  · rw [upd_ne hb]
    unfold hid
    rw [upd_ne hb]
theorem Ex.mut {L : List Addr} {H H' : Hp} {d : Addr} {o : HO} (a : Ex L H H') (h : d ∉ L) (n : hid L H d = none) : Ex L H (L2.upd H' d o) := by
  unfold Ex
  rw [hid_updn h]
  exact sm_mut a n
theorem Pur.mut {H : Hp} {p g l : Addr} {o o' : HO} (h : Pur H p g) (hl : H l = some o) (n : ∀ x xs, o = .lst (x :: xs) → ∃ s, x = .str s) : Pur (upd H l o') p g := by
  obtain ⟨c, ns, gs, m, h1, h2, h3, hn, h0, r⟩ := h
  have a1 : p ≠ l := fun z => by
    subst z
    rw [h1] at hl
    obtain ⟨s, hs⟩ := n _ _ (Option.some.inj hl).symm
    cases hs
  have a2 : c ≠ l := fun z => by
    subst z
    rw [h2] at hl
    cases ns with
    | nil => cases h0
    | cons x xs =>
      obtain ⟨s, hs⟩ := n _ _ (Option.some.inj hl).symm
      cases hs
  have a3 : g ≠ l := fun z => by
    subst z
    rw [h3] at hl
    cases gs with
    | nil => rw [List.length_nil] at hn; omega
    | cons x xs =>
      obtain ⟨s, hs⟩ := n _ _ (Option.some.inj hl).symm
      cases hs
  exact ⟨c, ns, gs, m, by rw [upd_ne a1]; exact h1, by rw [upd_ne a2]; exact h2, by rw [upd_ne a3]; exact h3, hn, h0, r⟩
theorem strs_head {ys : List Str} : ∀ x xs, HO.lst (ys.map V.str) = .lst (x :: xs) → ∃ s, x = .str s := fun x xs h => by
  cases ys with
  | nil => cases h
  | cons y ys => cases h; exact ⟨y, rfl⟩
def plainS : List Str := ["a", "b", "c", "d", "e", "f", "g", "h", "i", "j"]
theorem plain_ok : ∀ x ∈ plainS, NameOk x := by
  have z : ∀ x ∈ plainS, (1 ≤ x.length ∧ x.length ≤ 8) ∧ ∀ c ∈ x.cps.toList, c ∈ LET.cps.toList := by decide +kernel
  exact fun x hx => ⟨(z x hx).1.1, (z x hx).1.2, (z x hx).2⟩
theorem plain_nodup : plainS.Nodup := by decide +kernel
theorem pigeon {ys : List Str} (h : ys.length < 10) : ∃ z zs, plainS.filter (fun x => decide (x ∉ ys)) = z :: zs := by
  cases e : plainS.filter (fun x => decide (x ∉ ys)) with
  | cons z zs => exact ⟨z, zs, rfl⟩
  | nil =>
    exfalso
    have hs : ∀ x ∈ plainS, x ∈ ys := fun x hx => by
      by_cases q : x ∈ ys
      · exact q
      · have z : x ∈ plainS.filter (fun x => decide (x ∉ ys)) := List.mem_filter.mpr ⟨hx, decide_eq_true q⟩
        rw [e] at z
        cases z
    have hl := nodup_le _ _ plain_nodup hs
    have : plainS.length = 10 := rfl
    omega
section
variable {P : Program} {w : World} {K : PySem.W.Frag} {mg : Str → Option Value} {base : Heap}
theorem law_names_ok (T : Txt K mg) : Cal P w K mg base 3 "_law_names" spNames [] := by
  have c_law_draw := law_draw_ok (P := P) (w := w) (base := base) T
  have c_law_name := law_name_ok (P := P) (w := w) (base := base) T
  have sc : FnScope ["_law_purse_here", "_law_many", "_law_plain", "_law_spelled", "_law_names_here", "_law_k", "_law_word", "_law_each"] ["_law_purse_here", "_law_many"] (defScope s_law_names) := ⟨rfl, rfl, rfl, by decide +kernel, rfl, by decide +kernel, by decide +kernel⟩
  have nd := sc.nd
  refine cal_mk T.g_law_names T.f_law_names sc (fun vs H Q E h => by obtain ⟨_, _, _, rfl, _⟩ := h; rfl) (fun _ _ _ _ _ _ us hl => match us, hl with | [_, _], _ => rfl) (fun cdv A outer s H vs0 Q E hr h => ?_)
  obtain ⟨p, g, many, rfl, hp, hm0, hm6, q⟩ := h
  have hu := hu_of hr
  refine ⟨_, (pss_cons (pset 2 nd (pe_lst (pa_cons pe_str (pa_cons pe_str (pa_cons pe_str (pa_cons pe_str (pa_cons pe_str (pa_cons pe_str (pa_cons pe_str (pa_cons pe_str (pa_cons pe_str (pa_cons pe_str pa_nil))))))))))))
      (pss_cons (pset 3 nd (pe_cmpR op_eq (C8.pe_c c_law_draw hr (by decide) (by rfl) (pa_cons (pv 0) (pa_cons pe_int pa_nil))) pe_int (nomark _)))
      (pss_cons (pset 4 nd (pe_lst pa_nil))
      (pss_cons (ps_for PassesOwn.never rfl (pi_range1 rfl T.b_range (pa_cons (pv 1) pa_nil)) (pgn 5 nd) (pss_cons (pset 6 nd (pe_ix ix_list (pv 2) (C8.pe_c c_law_draw hr (by decide) (by rfl) (pa_cons (pv 0) (pa_cons pe_int pa_nil))) (fun _ _ => rfl)))
      (C8.pss_cut (ps_if (pt_truth (pv 3) (by intro _; rfl)) (pss_one (pset 6 nd (C8.pe_c c_law_name hr (by decide) (by rfl) (pa_cons (pv 0) pa_nil)))) pss_nil)
      (C8.pss_cut (ps_if (pt_cmpR op_in_seq (pv 6) (pv 4) (by rfl)) (pss_one (pset 6 nd (pe_ix ix_list (pe_lc (own := [("_law_each", 7)]) (g := gName 7) rfl nd (pi_list (pv 2)) (blkOk_by (own := [("_law_each", 7)]) (N := ["_law_purse_here", "_law_many", "_law_plain", "_law_spelled", "_law_names_here", "_law_k", "_law_word", "_law_each"]) (sc := defScope s_law_names) (by decide +kernel)) (fun _ _ _ _ _ => (pgn 7 nd)) (fun _ _ _ _ _ => (pts_one (pt_cmpR (op_notInK (K := K)) (pv 7) (pv 4) (by rfl)))) (fun _ _ _ _ _ => (pv 7))) pe_int (fun _ _ => rfl)))) pss_nil)
      (pss_one (ps_expr (pe_bm PySem.F.plainAttrs_list PySem.F.slot_list_append PySem.F.type_list_append mt_append (pv 4) (pa_cons (pv 6) pa_nil))))))))
      (pss_one (ps_ret (pv 4))))))), ?_⟩
  refine ⟨by show 10 ≤ sizeLine; decide, fun pl hpl => ?_⟩
  have x1 : Ex [p, g] H (upd H pl (.lst (plainS.map V.str))) := (Ex.refl _ H).new hpl
  have p1 : Pur (upd H pl (.lst (plainS.map V.str))) p g := hp.mono (sm_new hpl)
  have l1 : hid [p, g] (upd H pl (.lst (plainS.map V.str))) pl = some (.lst (plainS.map V.str)) := hid_fresh hp hpl
  show tSeq _ _ _ _ (upd H pl (.lst (plainS.map V.str)))
  generalize upd H pl (.lst (plainS.map V.str)) = H1 at x1 p1 l1 ⊢
  refine ⟨_, rfl, p, g, 3, rfl, p1, by decide, by decide, fun r H2 hr3 x2 p2 => ?_⟩
  refine ⟨rfl, ?_⟩
  show tSeq _ _ _ [some (.ref p), some (.int many), some (.ref pl), some (.bl (decide (V.int (r : Int) = V.int 0))), none, none, none, none] _
  generalize decide (V.int (r : Int) = V.int 0) = sp
  have x3 := x1.trans x2
  have l3 := x2 _ _ l1
  refine ⟨Nat.zero_le _, fun nl hnl => ?_⟩
  have hidn : hid [p, g] H2 nl = none := by
    unfold hid
    split
    · rfl
    · exact hnl
  have hidn0 : hid [p, g] H nl = none := by
    cases e : hid [p, g] H nl with
    | none => rfl
    | some o => rw [x3 _ _ e] at hidn; cases hidn
  have png := p2.pn hnl
  have hpn : pl ≠ nl := ne_of_none (hid_at l3) hnl
  have hnp : nl ∉ [p, g] := by simp [png.1, png.2]
  refine ⟨_, rfl, _, rfl, by omega, by omega, ?_⟩
  refine for_it walk_range (fun i σ' H' => (∃ v v' v'', σ' = [some (.ref p), some (.int many), some (.ref pl), some (.bl sp), some (.ref nl), v, v', v'']) ∧ Ex [p, g] H H' ∧ Pur H' p g ∧ hid [p, g] H' pl = some (.lst (plainS.map V.str)) ∧ ∃ ys : List Str, hid [p, g] H' nl = some (.lst (ys.map V.str)) ∧ ys.length = i ∧ ys.Nodup ∧ ∀ x ∈ ys, NameOk x) ⟨⟨none, none, none, rfl⟩, x3.new hnl, p2.mono (sm_new hnl), hid_same (sm_new hnl) _ _ l3, [], hid_fresh p2 hnl, rfl, List.nodup_nil, fun x hx => by cases hx⟩ (fun _ _ _ _ _ => trivial) ?_ ?_
  · rintro i y σ' H3 H4 hi ⟨⟨v, v', v'', rfl⟩, x4, p4, l4, ys, n4, hyl, hyn, hyo⟩ ⟨rfl, rfl⟩
    have hi6 : i < 6 := by
      have : i < (many : Int).toNat := hi
      omega
    refine ⟨_, rfl, _, rfl, p, g, 10, rfl, p4, by decide, by decide, fun r5 H5 hr5 x5 p5 => ?_⟩
    obtain ⟨c, hc⟩ : ∃ c, plainS[r5]? = some c := ⟨_, List.getElem?_eq_getElem (show r5 < 10 from hr5)⟩
    have co := plain_ok c (List.mem_of_getElem? hc)
    have l5 := x5 _ _ l4
    have n5 := x5 _ _ n4
    refine ⟨pl, _, _, _, rfl, rfl, SqL.of (hid_at l5), chr_at (by rw [List.getElem?_map, hc] <;> rfl), ?_⟩
    refine ⟨fun σ' H' => (∃ v v' x, σ' = [some (.ref p), some (.int many), some (.ref pl), some (.bl sp), some (.ref nl), v, some (.str x), v'] ∧ NameOk x) ∧ Ex [p, g] H5 H' ∧ Pur H' p g, ?_, ?_⟩
    · refine ⟨_, rfl, sp, rfl, ite2 (fun z => ?_) (fun z => ?_)⟩
      · refine ⟨_, rfl, p, g, rfl, p5, fun x H6 nx x6 p6 => ⟨⟨_, _, x, rfl, nx⟩, x6, p6⟩⟩
      · exact ⟨⟨_, _, c, rfl, co⟩, Ex.refl _ _, p5⟩
    · rintro σ6 H6 ⟨⟨w1, w2, x, rfl, nx⟩, x6, p6⟩
      have l6 := x6 _ _ l5
      have n6 := x6 _ _ n5
      refine ⟨fun σ' H' => (∃ v v' x, σ' = [some (.ref p), some (.int many), some (.ref pl), some (.bl sp), some (.ref nl), v, some (.str x), v'] ∧ NameOk x ∧ x ∉ ys) ∧ Ex [p, g] H6 H' ∧ Pur H' p g, ?_, ?_⟩
      · refine ⟨_, rfl, _, rfl, nl, _, rfl, .inl (SqL.of (hid_at n6)), rfl, flat_strs _, _, rfl, ?_⟩
        show (if inV (.str x) (ys.map V.str) = true then _ else _)
        rw [inV_strs]
        refine ite2 (fun z => ?_) (fun z => ⟨⟨_, _, x, rfl, nx, fun y => z (decide_eq_true y)⟩, Ex.refl _ _, p6⟩)
        refine ⟨_, rfl, pl, rfl, ⟨_, SqL.of (hid_at l6)⟩, fun D hD => ?_⟩
        refine wk_it walk_list (fun i H' => Ex [p, g] H6 H' ∧ Pur H' p g ∧ hid [p, g] H' D = some (.lst (((plainS.take i).filter (fun x => decide (x ∉ ys))).map V.str))) ⟨(Ex.refl _ _).new hD, p6.mono (sm_new hD), hid_fresh p6 hD⟩ (fun i H' _ z => SqL.of (hid_at (z.1 _ _ l6))) ?_ ?_
        · rintro j e H7 H8 hj ⟨x7, p7, d7⟩ ⟨rfl, hx⟩
          obtain ⟨e', he, rfl⟩ := maps_get hx
          have pd := p6.pn hD
          have hDp : D ∉ [p, g] := by simp [pd.1, pd.2]
          have hDn : hid [p, g] H6 D = none := by rw [hid_out hDp]; exact hD
          refine ⟨rfl, _, rfl, _, rfl, nl, _, rfl, .inl (SqL.of (hid_at (x7 _ _ n6))), rfl, flat_strs _, _, rfl, ?_⟩
          show (if (!inV (.str e') (ys.map V.str)) = true then _ else _)
          rw [inV_strs]
          by_cases hin : e' ∈ ys
          · rw [decide_eq_true hin]
            refine iteF ⟨x7, p7, ?_⟩
            rw [d7, take_snoc he, List.filter_append, List.filter_cons_of_neg (by simpa using hin), List.filter_nil, List.append_nil]
          · rw [decide_eq_false hin]
            refine iteT ⟨_, rfl, _, hid_at d7, ?_, x7.mut hDp hDn, p7.mut (hid_at d7) strs_head, ?_⟩
            · rw [List.length_map, sizeLine_eq]
              have z1 := List.length_filter_le (fun x => decide (x ∉ ys)) (plainS.take j)
              have z2 : (plainS.take j).length ≤ 10 := by
                rw [List.length_take]
                exact Nat.min_le_right _ _
              omega
            · rw [hid_updn hDp, upd_same, take_snoc he, List.filter_append, List.filter_cons_of_pos (by simpa using hin), List.filter_nil, List.map_append]
              rfl
        · rintro H7 ⟨x7, p7, d7⟩
          rw [List.length_map, List.take_length] at d7
          obtain ⟨z0, zs, hz⟩ := pigeon (ys := ys) (by omega)
          have hz0 : z0 ∈ plainS.filter (fun x => decide (x ∉ ys)) := by rw [hz]; exact List.mem_cons_self
          rw [hz] at d7
          have hz1 := List.mem_filter.mp hz0
          refine ⟨D, _, _, _, rfl, rfl, SqL.of (hid_at d7), chr_at (c := 0) rfl, ⟨_, _, z0, rfl, plain_ok _ hz1.1, of_decide_eq_true hz1.2⟩, x7, p7⟩
      · rintro σ7 H7 ⟨⟨w1, w2, x, rfl, nx, hxn⟩, x7, p7⟩
        have n7 := x7 _ _ n6
        refine ⟨_, rfl, .inl ⟨rfl, _, SqL.of (hid_at n7)⟩, _, rfl, nl, _, _, rfl, rfl, hid_at n7, by rw [List.length_map, sizeLine_eq]; omega, ⟨_, _, _, rfl⟩, (((x4.trans x5).trans x6).trans x7).mut hnp hidn0, p7.mut (hid_at n7) strs_head, ?_, ys ++ [x], ?_, ?_, ?_, ?_⟩
        · rw [hid_updn hnp, upd_ne hpn]
          exact x7 _ _ l6
        · rw [hid_updn hnp, upd_same, List.map_append]; rfl
        · rw [List.length_append, hyl]; rfl
        · exact List.nodup_append.mpr ⟨hyn, by simp, fun a ha b hb e => by
            rw [List.mem_singleton.mp hb] at e
            exact hxn (e ▸ ha)⟩
        · intro z hz
          rcases List.mem_append.mp hz with y | y
          · exact hyo z y
          · rw [List.mem_singleton.mp y]
            exact nx
  · rintro σ' H3 ⟨⟨v, v', v'', rfl⟩, x4, p4, l4, ys, n4, hyl, hyn, hyo⟩
    refine ⟨_, rfl, q nl ys H3 x4 p4 n4 (by rw [hyl]; exact Int.toNat_natCast many) hyn hyo⟩
end
end Far

set_option Elab.async false
set_option linter.all false
set_option maxRecDepth 100000
set_option maxHeartbeats 4000000
/-! FarLaw4: _law_parts -/
namespace Far
open PySem PySem.Spec PyProof.Rows L2 Fz
structure PD where
  toks : List Str
  start : Str
  ks : List Pt
  mv : Str → Str → Option Str
  fins : List Str
def PaAt (H : Hp) (a : Addr) (D : PD) : Prop := ∃ (tk d fi : Addr) (kvs : Kvs), H a = some (.tup [.ref tk, .str D.start, .ref d, .ref fi]) ∧ H tk = some (.lst (D.toks.map .str)) ∧ H d = some (.dT kvs) ∧ MvK kvs D.ks D.mv ∧ H fi = some (.lst (D.fins.map .str))
theorem PaAt.mono {H H' : Hp} {a : Addr} {D : PD} (e : Same H H') (h : PaAt H a D) : PaAt H' a D := by
  obtain ⟨tk, d, fi, kvs, h1, h2, h3, h4, h5⟩ := h
  exact ⟨tk, d, fi, kvs, e _ _ h1, e _ _ h2, e _ _ h3, h4, e _ _ h5⟩
theorem PaAt.at_ {L : List Addr} {H : Hp} {a : Addr} {D : PD} (h : PaAt (hid L H) a D) : PaAt H a D := h.mono (same_hid _ _)
structure PdOk (D : PD) : Prop where
  ok : PartOk D.toks D.start D.mv D.fins
  k24 : D.ks.length ≤ 24
def spParts : Sp := fun vs H Q _ => ∃ (p g : Addr), vs = [.ref p, .int 6, .int 4] ∧ Pur H p g ∧ ∀ (a : Addr) (D : PD) (H' : Hp), Ex [p, g] H H' → Pur H' p g → PaAt (hid [p, g] H') a D → PdOk D → Q (.ref a) H'
theorem MvK.snoc {kvs : Kvs} {ks : List Pt} {f : Str → Str → Option Str} (m : MvK kvs ks f) {s t x : Str} (hn : (s, t) ∉ ks) : MvK (putK kvs (kp (s, t)) (.str x)) (ks ++ [(s, t)]) (fun a b => if a = s ∧ b = t then some x else f a b) := by
  have h0 : valV kvs (kp (s, t)) = none := val_none (by rw [m.keys, kp_mem]; exact hn)
  refine ⟨?_, ?_, fun a b => ?_⟩
  · rw [putK_new _ h0, List.map_append, List.map_append, m.keys]
    rfl
  · exact List.nodup_append.mpr ⟨m.nd, by simp, fun a ha b hb e => by
      rw [List.mem_singleton.mp hb] at e
      exact hn (e ▸ ha)⟩
  · rw [valV_put]
    by_cases e : a = s ∧ b = t
    · rw [if_pos e, e.1, e.2, if_pos rfl]
      rfl
    · rw [if_neg e, if_neg (fun z => e (by have := kp_inj z; cases this; exact ⟨rfl, rfl⟩)), m.val]
theorem not_take {α : Type} {l : List α} (hn : l.Nodup) {i : Nat} {a : α} (h : l[i]? = some a) : a ∉ l.take i := fun hm => by
  obtain ⟨j, hj⟩ := List.mem_iff_getElem?.mp hm
  rw [List.getElem?_take] at hj
  split at hj
  · have := nd_ix hn hj h
    omega
  · cases hj
theorem Ex.fresh {L : List Addr} {H H' : Hp} {d : Addr} (x : Ex L H H') (hd : H' d = none) : hid L H d = none := by
  cases e : hid L H d with
  | none => rfl
  | some o =>
    have z := hid_at (x _ _ e)
    rw [hd] at z
    cases z
def paI (p g tk sl d : Addr) (toks sts : List Str) (H : Hp) (B : Pt → Prop) (n : Nat) (H' : Hp) : Prop := Ex [p, g] H H' ∧ Pur H' p g ∧ hid [p, g] H' tk = some (.lst (toks.map V.str)) ∧ hid [p, g] H' sl = some (.lst (sts.map V.str)) ∧
  ∃ (kvs : Kvs) (ks : List Pt) (f : Str → Str → Option Str), hid [p, g] H' d = some (.dT kvs) ∧ MvK kvs ks f ∧ ks.length ≤ n ∧ (∀ k ∈ ks, B k) ∧ ∀ s t x, f s t = some x → x ∈ sts
theorem reach_mem {f : Str → Str → Option Str} {S : List Str} (hf : ∀ s t x, f s t = some x → x ∈ S) {a b : Str} (h : Reach f a b) (ha : a ∈ S) : b ∈ S := by
  induction h with
  | refl => exact ha
  | step e _ ih => exact ih (hf _ _ _ e)
section
variable {P : Program} {w : World} {K : PySem.W.Frag} {mg : Str → Option Value} {base : Heap}
theorem law_parts_ok (T : Txt K mg) : Cal P w K mg base 4 "_law_parts" spParts [] := by
  have c_law_draw := law_draw_ok (P := P) (w := w) (base := base) T
  have c_law_names := law_names_ok (P := P) (w := w) (base := base) T
  have c_law_reached := law_reached_ok (P := P) (w := w) (base := base) T
  have sc : FnScope ["_law_purse_here", "_law_most", "_law_width", "_law_tokens", "_law_states_here", "_law_sparse", "_law_moves", "_law_state", "_law_token", "_law_finals", "_law_found", "_law_goal"] ["_law_purse_here", "_law_most", "_law_width"] (defScope s_law_parts) := ⟨rfl, rfl, rfl, by decide +kernel, rfl, by decide +kernel, by decide +kernel⟩
  have nd := sc.nd
  refine cal_mk T.g_law_parts T.f_law_parts sc (fun vs H Q E h => by obtain ⟨_, _, rfl, _⟩ := h; rfl) (fun _ _ _ _ _ _ us hl => match us, hl with | [_, _, _], _ => rfl) (fun cdv A outer s H vs0 Q E hr h => ?_)
  obtain ⟨p, g, rfl, hp, q⟩ := h
  have hu := hu_of hr
  refine ⟨_, (pss_cons (pset 3 nd (C8.pe_c c_law_names hr (by decide) (by rfl) (pa_cons (pv 0) (pa_cons (pe_op op_add pe_int (C8.pe_c c_law_draw hr (by decide) (by rfl) (pa_cons (pv 0) (pa_cons (pv 2) pa_nil)))) pa_nil))))
      (pss_cons (pset 4 nd (C8.pe_c c_law_names hr (by decide) (by rfl) (pa_cons (pv 0) (pa_cons (pe_op op_add pe_int (C8.pe_c c_law_draw hr (by decide) (by rfl) (pa_cons (pv 0) (pa_cons (pv 1) pa_nil)))) pa_nil))))
      (pss_cons (pset 5 nd (pe_op op_add pe_int (C8.pe_c c_law_draw hr (by decide) (by rfl) (pa_cons (pv 0) (pa_cons pe_int pa_nil)))))
      (pss_cons (pset 6 nd pe_dnewT)
      (pss_cons (ps_for PassesOwn.never rfl (pi_list (pv 4)) (pgn 7 nd) (pss_one (ps_for PassesOwn.never rfl (pi_list (pv 3)) (pgn 8 nd) (pss_one (ps_if (pt_cmpR op_gt (C8.pe_c c_law_draw hr (by decide) (by rfl) (pa_cons (pv 0) (pa_cons (pv 5) pa_nil))) pe_int (nomark _)) (pss_one (ps_dput hu (pv 6) (pe_tup (pa_cons (pv 7) (pa_cons (pv 8) pa_nil))) (pe_ix ix_list (pv 4) (C8.pe_c c_law_draw hr (by decide) (by rfl) (pa_cons (pv 0) (pa_cons (pe_callB call_len_seq (by rfl) T.b_len (by decide +kernel) (pa_cons (pv 4) pa_nil)) pa_nil))) (fun _ _ => rfl)) rfl)) pss_nil)))))
      (pss_cons (ps_setLc (i := 9) (own := [("_law_state", 7)]) (g := gName 7) rfl nd rfl rfl (sw_true rfl rfl rfl (by decide +kernel)) (pi_list (pv 4)) (blkOk_by (own := [("_law_state", 7)]) (N := ["_law_purse_here", "_law_most", "_law_width", "_law_tokens", "_law_states_here", "_law_sparse", "_law_moves", "_law_state", "_law_token", "_law_finals", "_law_found", "_law_goal"]) (sc := defScope s_law_parts) (by decide +kernel)) (fun _ _ _ _ _ => (pgn 7 nd)) (fun _ _ _ _ _ => (pts_one (pt_cmpR op_eq (C8.pe_c c_law_draw hr (by decide) (by rfl) (pa_cons (pv 0) (pa_cons pe_int pa_nil))) pe_int (nomark _)))) (fun _ _ _ _ _ => (pv 7)))
      (pss_cons (pset 10 nd (C8.pe_c c_law_reached hr (by decide) (by rfl) (pa_cons (pe_ix ix_list (pv 4) pe_int (fun _ _ => rfl)) (pa_cons (pv 6) pa_nil))))
      (pss_cons (pset 11 nd (pe_ix ix_list (pv 10) (C8.pe_c c_law_draw hr (by decide) (by rfl) (pa_cons (pv 0) (pa_cons (pe_callB call_len_seq (by rfl) T.b_len (by decide +kernel) (pa_cons (pv 10) pa_nil)) pa_nil))) (fun _ _ => rfl)))
      (pss_cons (ps_if (pt_cmpR op_notIn_seq (pv 11) (pv 9) (by rfl)) (pss_one (ps_expr (pe_bm PySem.F.plainAttrs_list PySem.F.slot_list_append PySem.F.type_list_append mt_append (pv 9) (pa_cons (pv 11) pa_nil)))) pss_nil)
      (pss_one (ps_ret (pe_tup (pa_cons (pv 3) (pa_cons (pe_ix ix_list (pv 4) pe_int (fun _ _ => rfl)) (pa_cons (pv 6) (pa_cons (pv 9) pa_nil)))))))))))))))), ?_⟩
  refine ⟨_, rfl, _, rfl, _, rfl, p, g, 4, rfl, hp, by decide, by decide, fun r1 H1 hr1 x1 p1 => ?_⟩
  refine ⟨_, _, rfl, rfl, p, g, 1 + r1, rfl, p1, by omega, by omega, fun tk toks H2 x2 p2 l2 tl tn tok => ?_⟩
  refine ⟨_, rfl, _, rfl, _, rfl, p, g, 6, rfl, p2, by decide, by decide, fun r2 H3 hr2 x3 p3 => ?_⟩
  refine ⟨_, _, rfl, rfl, p, g, 1 + r2, rfl, p3, by omega, by omega, fun sl sts H4 x4 p4 l4 sl4 sn sok => ?_⟩
  refine ⟨_, rfl, p, g, 3, rfl, p4, by decide, by decide, fun r3 H5 hr3 x5 p5 => ?_⟩
  refine ⟨_, _, rfl, rfl, fun d hd => ?_⟩
  have pnd := p5.pn hd
  have hdp : d ∉ [p, g] := by simp [pnd.1, pnd.2]
  have x15 := (((x1.trans x2).trans x3).trans x4).trans x5
  have hdn := x15.fresh hd
  refine ⟨_, rfl, sl, rfl, ⟨_, SqL.of (hid_at (hid_same (sm_new hd) _ _ (x5 _ _ l4)))⟩, ?_⟩
  refine for_it walk_list (fun i σ' H' => (∃ v v', σ' = [some (.ref p), some (.int 6), some (.int 4), some (.ref tk), some (.ref sl), some (.int (2 + (r3 : Int))), some (.ref d), v, v', none, none, none]) ∧ paI p g tk sl d toks sts H (fun k => k.1 ∈ sts.take i ∧ k.2 ∈ toks) (4 * i) H')
    ⟨⟨none, none, rfl⟩, x15.new hd, p5.mono (sm_new hd), hid_same (sm_new hd) _ _ (x5 _ _ (x4 _ _ (x3 _ _ l2))), hid_same (sm_new hd) _ _ (x5 _ _ l4), [], [], fun _ _ => none, hid_fresh p5 hd, ⟨rfl, List.nodup_nil, fun _ _ => rfl⟩, Nat.zero_le _, (fun k hk => nomatch hk), (fun _ _ _ z => nomatch z)⟩
    (fun i σ' H' _ z => SqL.of (hid_at z.2.2.2.2.1)) ?_ ?_
  · rintro i y σ' H6 H7 hi ⟨⟨v, v', rfl⟩, x6, p6, t6, s6, kvs, ks, f, d6, m6, k6, b6, f6⟩ ⟨rfl, hy⟩
    obtain ⟨si, hsi, rfl⟩ := maps_get hy
    refine ⟨_, rfl, tk, rfl, ⟨_, SqL.of (hid_at t6)⟩, ?_⟩
    refine for_it walk_list (fun j σ' H' => (∃ v', σ' = [some (.ref p), some (.int 6), some (.int 4), some (.ref tk), some (.ref sl), some (.int (2 + (r3 : Int))), some (.ref d), some (.str si), v', none, none, none]) ∧ paI p g tk sl d toks sts H (fun k => (k.1 ∈ sts.take i ∧ k.2 ∈ toks) ∨ (k.1 = si ∧ k.2 ∈ toks.take j)) (4 * i + j) H')
      ⟨⟨_, rfl⟩, x6, p6, t6, s6, kvs, ks, f, d6, m6, k6, fun k hk => .inl (b6 k hk), f6⟩ (fun i σ' H' _ z => SqL.of (hid_at z.2.2.2.1)) ?_ ?_
    · rintro j y σ' H8 H9 hj ⟨⟨v', rfl⟩, x8, p8, t8, s8, kvs8, ks8, f8, d8, m8, k8, b8, f8'⟩ ⟨rfl, hy⟩
      obtain ⟨tj, htj, rfl⟩ := maps_get hy
      refine ⟨_, rfl, _, rfl, p, g, 2 + r3, rfl, p8, by omega, by omega, fun r9 H10 hr9 x10 p10 => ?_⟩
      have hj4 : j < 4 := by
        have := (List.getElem?_eq_some_iff.mp htj).1
        omega
      have step : ∀ k : Pt, (k.1 ∈ sts.take i ∧ k.2 ∈ toks) ∨ (k.1 = si ∧ k.2 ∈ toks.take j) → (k.1 ∈ sts.take i ∧ k.2 ∈ toks) ∨ (k.1 = si ∧ k.2 ∈ toks.take (j + 1)) := fun k h => h.imp id fun z => ⟨z.1, by rw [take_snoc htj]; exact List.mem_append_left _ z.2⟩
      refine ⟨_, _, rfl, rfl, _, rfl, ite2 (fun z => ?_) (fun z => ⟨⟨_, rfl⟩, x8.trans x10, p10, x10 _ _ t8, x10 _ _ s8, kvs8, ks8, f8, x10 _ _ d8, m8, by omega, fun k hk => step k (b8 k hk), f8'⟩)⟩
      have sl0 : sts.length < 10000000000 := by omega
      refine ⟨_, rfl, _, rfl, _, rfl, sl, _, rfl, .inl (SqL.of (hid_at (x10 _ _ s8))), p, g, sts.length, by rw [List.length_map]; rfl, p10, by omega, by omega, fun r11 H11 hr11 x11 p11 => ?_⟩
      obtain ⟨xv, hxv⟩ : ∃ c, sts[r11]? = some c := ⟨_, List.getElem?_eq_getElem hr11⟩
      refine ⟨sl, _, _, _, rfl, rfl, SqL.of (hid_at (x11 _ _ (x10 _ _ s8))), chr_at (by rw [List.getElem?_map, hxv] <;> rfl), ?_⟩
      refine ⟨_, rfl, _, rfl, _, rfl, by show 2 ≤ sizeLine; decide, fun b hb => ?_⟩
      have e12 := sm_new hb (o := .tup [.str si, .str tj])
      have x12 := hid_same (L := [p, g]) e12
      have d12 := x12 _ _ (x11 _ _ (x10 _ _ d8))
      have t12 := x12 _ _ (x11 _ _ (x10 _ _ t8))
      have s12 := x12 _ _ (x11 _ _ (x10 _ _ s8))
      have b12 := upd_same (H := H11) (a := b) (o := .tup [.str si, .str tj])
      have p12 := p11.mono e12
      have hnin : (si, tj) ∉ ks8 := fun hm => by
        rcases b8 _ hm with ⟨z1, z2⟩ | ⟨z1, z2⟩
        · exact not_take sn hsi z1
        · exact not_take tn htj z2
      refine ⟨d, _, rfl, DPut.t (k := kp (si, tj)) (hid_at d12) b12 (by rw [kvs_len m8.keys, sizeLine_eq]; have := (List.getElem?_eq_some_iff.mp hsi).1; omega), ⟨_, rfl⟩, ?_⟩
      refine ⟨((((x8.trans x10).trans x11).trans x12)).mut hdp hdn, p12.mut (hid_at d12) (fun _ _ z => nomatch z), ?_, ?_, _, _, _, by rw [hid_updn hdp, upd_same], m8.snoc hnin, ?_, ?_, ?_⟩
      · rw [hid_updn hdp, upd_ne (ne_of t12 d12 (fun z => by cases z))]; exact t12
      · rw [hid_updn hdp, upd_ne (ne_of s12 d12 (fun z => by cases z))]; exact s12
      · rw [List.length_append]; show _ + 1 ≤ _; omega
      · intro k hk
        rcases List.mem_append.mp hk with z | z
        · exact step k (b8 k z)
        · rw [List.mem_singleton.mp z, take_snoc htj]
          exact .inr ⟨rfl, by simp⟩
      · intro s t x hx
        by_cases z : s = si ∧ t = tj
        · rw [if_pos z] at hx
          cases hx
          exact List.mem_of_getElem? hxv
        · rw [if_neg z] at hx
          exact f8' s t x hx
    · rintro σ' H8 ⟨⟨v', rfl⟩, x8, p8, t8, s8, kvs8, ks8, f8, d8, m8, k8, b8, f8'⟩
      refine ⟨⟨_, _, rfl⟩, x8, p8, t8, s8, kvs8, ks8, f8, d8, m8, ?_, ?_, f8'⟩
      · rw [List.length_map] at k8; omega
      · intro k hk
        rw [take_snoc hsi, List.mem_append, List.mem_singleton]
        rcases b8 k hk with ⟨z1, z2⟩ | ⟨z1, z2⟩
        · exact ⟨.inl z1, z2⟩
        · exact ⟨.inr z1, List.mem_of_mem_take z2⟩
  · rintro σ' H6 ⟨⟨v, v', rfl⟩, x6, p6, t6, s6, kvs, ks, f, d6, m6, k6, b6, f6⟩
    rw [List.length_map] at k6
    rw [List.length_map, List.take_length] at b6
    refine ⟨_, rfl, sl, rfl, ⟨_, SqL.of (hid_at s6)⟩, fun D hD => ?_⟩
    have pD := p6.pn hD
    have hDp : D ∉ [p, g] := by simp [pD.1, pD.2]
    have hDn : hid [p, g] H6 D = none := by rw [hid_out hDp]; exact hD
    refine wk_it walk_list (fun i H' => Ex [p, g] H6 H' ∧ Pur H' p g ∧ ∃ zs : List Str, hid [p, g] H' D = some (.lst (zs.map V.str)) ∧ zs.Sublist (sts.take i)) ⟨(Ex.refl _ _).new hD, p6.mono (sm_new hD), [], hid_fresh p6 hD, List.nil_sublist _⟩ (fun i H' _ z => SqL.of (hid_at (z.1 _ _ s6))) ?_ ?_
    · rintro j e H7 H8 hj ⟨x7, p7, zs, d7, z7⟩ ⟨rfl, hx⟩
      obtain ⟨e', he, rfl⟩ := maps_get hx
      refine ⟨rfl, _, rfl, p, g, 3, rfl, p7, by decide, by decide, fun r9 H9 hr9 x9 p9 => ?_⟩
      refine ⟨rfl, _, rfl, ite2 (fun z => ?_) (fun z => ⟨x7.trans x9, p9, zs, x9 _ _ d7, z7.trans (by rw [take_snoc he]; exact List.sublist_append_left _ _)⟩)⟩
      refine ⟨_, rfl, _, hid_at (x9 _ _ d7), ?_, (x7.trans x9).mut hDp hDn, p9.mut (hid_at (x9 _ _ d7)) strs_head, zs ++ [e'], ?_, ?_⟩
      · have := z7.length_le
        rw [List.length_take] at this
        rw [List.length_map, sizeLine_eq]
        omega
      · rw [hid_updn hDp, upd_same, List.map_append]; rfl
      · rw [take_snoc he]
        exact z7.append (List.Sublist.refl _)
    rintro H7 ⟨x7, p7, zs, d7, z7⟩
    rw [List.length_map, List.take_length] at z7
    have t7 := x7 _ _ t6
    have s7 := x7 _ _ s6
    have dd7 := x7 _ _ d6
    obtain ⟨s0, hs0⟩ : ∃ c, sts[0]? = some c := ⟨_, List.getElem?_eq_getElem (by omega)⟩
    have hs0m := List.mem_of_getElem? hs0
    have a0 : atI (sts.map V.str) (0 : Int) = some (.str s0) := chr_at (c := 0) (by rw [List.getElem?_map, hs0] <;> rfl)
    refine ⟨_, rfl, sl, _, _, _, rfl, rfl, SqL.of (hid_at s7), a0, _, rfl, d, s0, kvs, ks, f, rfl, hid_at dd7, m6, by omega, fun l ys H8 e8 l8 ln8 y0 y1000 yr => ?_⟩
    have x8 := hid_same (L := [p, g]) e8
    have p8 := p7.mono e8
    refine ⟨_, rfl, _, rfl, _, rfl, l, _, rfl, .inl (SqL.of l8), p, g, ys.length, by rw [List.length_map]; rfl, p8, by omega, by omega, fun r9 H9 hr9 x9 p9 => ?_⟩
    have pl := p7.pn ln8
    have lp : l ∉ [p, g] := by simp [pl.1, pl.2]
    have l9 := x9.get lp l8
    obtain ⟨gv, hgv⟩ : ∃ c, ys[r9]? = some c := ⟨_, List.getElem?_eq_getElem hr9⟩
    have gr := yr gv (List.mem_of_getElem? hgv)
    have gm := reach_mem f6 gr hs0m
    refine ⟨l, _, _, _, rfl, rfl, SqL.of l9, chr_at (by rw [List.getElem?_map, hgv] <;> rfl), ?_⟩
    have D9 := x9 _ _ (x8 _ _ d7)
    have t9 := x9 _ _ (x8 _ _ t7)
    have s9 := x9 _ _ (x8 _ _ s7)
    have d9 := x9 _ _ (x8 _ _ dd7)
    have X9 := ((x6.trans x7).trans x8).trans x9
    have mk : ∀ (fs : List Str) (H' : Hp) (a : Addr), Ex [p, g] H H' → Pur H' p g → hid [p, g] H' tk = some (.lst (toks.map V.str)) → hid [p, g] H' d = some (.dT kvs) → hid [p, g] H' D = some (.lst (fs.map V.str)) → fs.Nodup → (∀ x ∈ fs, x ∈ sts) → gv ∈ fs → H' a = none → Q (.ref a) (upd H' a (.tup [.ref tk, .str s0, .ref d, .ref D])) := by
      intro fs H' a x' p' t' d' D' fn fm gf ha
      have e' := sm_new ha (o := .tup [.ref tk, .str s0, .ref d, .ref D])
      have h' := hid_same (L := [p, g]) e'
      have f6' : fs.length ≤ 6 := Nat.le_trans (nodup_le _ _ fn fm) (by omega)
      refine q a ⟨toks, s0, ks, f, fs⟩ _ (x'.new ha) (p'.mono e') ⟨tk, d, D, kvs, hid_fresh p' ha, h' _ _ t', h' _ _ d', m6, h' _ _ D'⟩ ⟨⟨tn, by show 0 < toks.length; omega, by show toks.length ≤ 4; omega, tok, sok _ hs0m, fun s t x hx => ?_, fn, List.length_pos_of_mem gf, f6', fun x hx => sok _ (fm x hx), ⟨gv, gf, gr⟩, sts, by omega, hs0m, fm, fun s t x hx => ?_⟩, by show ks.length ≤ 24; omega⟩
      · have := b6 _ ((m6.mem s t).mp (by have hx' : f s t = some x := hx; show (f s t).isSome = true; rw [hx']; rfl))
        exact ⟨sok _ this.1, tok _ this.2, this.2, sok _ (f6 _ _ _ hx)⟩
      · exact ⟨(b6 _ ((m6.mem s t).mp (by have hx' : f s t = some x := hx; show (f s t).isSome = true; rw [hx']; rfl))).1, f6 _ _ _ hx⟩
    have hDp6 : hid [p, g] H D = none := x6.fresh hD
    refine ⟨_, rfl, _, rfl, D, _, rfl, .inl (SqL.of (hid_at D9)), rfl, flat_strs _, _, rfl, ?_⟩
    show (if (!inV (.str gv) (zs.map V.str)) = true then _ else _)
    rw [inV_strs]
    by_cases hin : gv ∈ zs
    · rw [decide_eq_true hin]
      refine iteF ⟨_, rfl, _, rfl, sl, _, _, _, rfl, rfl, SqL.of (hid_at s9), a0, _, rfl, _, rfl, by show 4 ≤ sizeLine; decide, fun a ha => ?_⟩
      exact mk zs H9 a X9 p9 t9 d9 D9 (sn.sublist z7) (fun x hx => z7.subset hx) hin ha
    · rw [decide_eq_false hin]
      refine iteT ⟨_, rfl, .inl ⟨rfl, _, SqL.of (hid_at D9)⟩, _, rfl, D, _, _, rfl, rfl, hid_at D9, by rw [List.length_map, sizeLine_eq]; have := z7.length_le; omega, ?_⟩
      have s10 : hid [p, g] (upd H9 D (.lst (zs.map V.str ++ [.str gv]))) sl = some (.lst (sts.map V.str)) := by rw [hid_updn hDp, upd_ne (ne_of_none (hid_at s6) hD)]; exact s9
      have t10 : hid [p, g] (upd H9 D (.lst (zs.map V.str ++ [.str gv]))) tk = some (.lst (toks.map V.str)) := by rw [hid_updn hDp, upd_ne (ne_of_none (hid_at t6) hD)]; exact t9
      have d10 : hid [p, g] (upd H9 D (.lst (zs.map V.str ++ [.str gv]))) d = some (.dT kvs) := by rw [hid_updn hDp, upd_ne (ne_of_none (hid_at d6) hD)]; exact d9
      refine ⟨_, rfl, _, rfl, sl, _, _, _, rfl, rfl, SqL.of (hid_at s10), a0, _, rfl, _, rfl, by show 4 ≤ sizeLine; decide, fun a ha => ?_⟩
      refine mk (zs ++ [gv]) _ a (X9.mut hDp hDp6) (p9.mut (hid_at D9) strs_head) t10 d10 (by rw [hid_updn hDp, upd_same, List.map_append]; rfl) (List.nodup_append.mpr ⟨sn.sublist z7, by simp, fun a ha b hb e => ?_⟩) (fun x hx => ?_) (by simp) ha
      · rw [List.mem_singleton.mp hb] at e
        exact hin (e ▸ ha)
      · rcases List.mem_append.mp hx with y | y
        · exact z7.subset y
        · rw [List.mem_singleton.mp y]
          exact gm
end
end Far

set_option Elab.async false
set_option linter.all false
set_option maxRecDepth 100000
set_option maxHeartbeats 4000000
/-! FarLaw5: _law_states -/
namespace Far
open PySem PySem.Spec PyProof.Rows L2 Fz
def StOf (D : PD) (x : Str) : Prop := x = D.start ∨ x ∈ D.fins ∨ ∃ s t z, D.mv s t = some z ∧ (x = s ∨ x = z)
def spStates : Sp := fun vs H Q _ => ∃ (a : Addr) (D : PD), vs = [.ref a] ∧ PaAt H a D ∧ PdOk D ∧ ∀ (l : Addr) (ys : List Str) (H' : Hp), Same H H' → H l = none → H' l = some (.lst (ys.map .str)) → ys.Nodup → (∀ x, x ∈ ys ↔ StOf D x) → Q (.ref l) H'
def addS (ys : List Str) (x : Str) : List Str := if x ∈ ys then ys else ys ++ [x]
theorem mem_addS {ys : List Str} {x y : Str} : y ∈ addS ys x ↔ y ∈ ys ∨ y = x := by
  unfold addS
  split
  · exact ⟨.inl, fun h => h.elim id fun e => e ▸ ‹_›⟩
  · rw [List.mem_append, List.mem_singleton]
theorem nodup_addS {ys : List Str} {x : Str} (h : ys.Nodup) : (addS ys x).Nodup := by
  unfold addS
  split
  · exact h
  · rename_i hx
    exact List.nodup_append.mpr ⟨h, by simp, fun a ha b hb e => by
      rw [List.mem_singleton.mp hb] at e
      exact hx (e ▸ ha)⟩
theorem stof_len {D : PD} (ok : PdOk D) {ys : List Str} (hn : ys.Nodup) (h : ∀ x ∈ ys, StOf D x) : ys.length ≤ 6 := by
  obtain ⟨S, s6, s1, s2, s3⟩ := ok.ok.sz
  refine Nat.le_trans (nodup_le _ _ hn fun x hx => ?_) s6
  rcases h x hx with rfl | z | ⟨s, t, z, e, rfl | rfl⟩
  · exact s1
  · exact s2 _ z
  · exact (s3 _ _ _ e).1
  · exact (s3 _ _ _ e).2
section
variable {P : Program} {w : World} {K : PySem.W.Frag} {mg : Str → Option Value} {base : Heap}
theorem law_states_ok (T : Txt K mg) : Cal P w K mg base 1 "_law_states" spStates [] := by
  have sc : FnScope ["_law_parts_here", "_law_found", "_law_state", "_law_pair"] ["_law_parts_here"] (defScope s_law_states) := ⟨rfl, rfl, rfl, by decide +kernel, rfl, by decide +kernel, by decide +kernel⟩
  have nd := sc.nd
  refine cal_mk T.g_law_states T.f_law_states sc (fun vs H Q E h => by obtain ⟨_, _, rfl, _⟩ := h; rfl) (fun _ _ _ _ _ _ us hl => match us, hl with | [_], _ => rfl) (fun cdv A outer s H vs0 Q E hr h => ?_)
  obtain ⟨a, D, rfl, pa, ok, q⟩ := h
  have hu := hu_of hr
  obtain ⟨tk, d, fi, kvs, ha, htk, hd, mv, hfi⟩ := pa
  refine ⟨_, (pss_cons (pset 1 nd (pe_lst (pa_cons (pe_ix ix_tup (pv 0) pe_int (fun _ _ => rfl)) pa_nil)))
      (pss_cons (ps_for PassesOwn.never rfl (pi_list (pe_ix ix_tup (pv 0) pe_int (fun _ _ => rfl))) (pgn 2 nd) (pss_one (ps_if (pt_cmpR op_notIn_seq (pv 2) (pv 1) (by rfl)) (pss_one (ps_expr (pe_bm PySem.F.plainAttrs_list PySem.F.slot_list_append PySem.F.type_list_append mt_append (pv 1) (pa_cons (pv 2) pa_nil)))) pss_nil)))
      (pss_cons (ps_lock (ps_for PassesOwn.never rfl (pi_keys (pe_ix ix_tup (pv 0) pe_int (fun _ _ => rfl))) (pgn 3 nd) (C8.pss_cut (ps_if (pt_cmpR op_notIn_seq (pe_ix ix_tup (pv 3) pe_int (fun _ _ => rfl)) (pv 1) (by rfl)) (pss_one (ps_expr (pe_bm PySem.F.plainAttrs_list PySem.F.slot_list_append PySem.F.type_list_append mt_append (pv 1) (pa_cons (pe_ix ix_tup (pv 3) pe_int (fun _ _ => rfl)) pa_nil)))) pss_nil)
      (pss_one (ps_if (pt_cmpR op_notIn_seq (pe_dget hu (pe_ix ix_tup (pv 0) pe_int (fun _ _ => rfl)) (pv 3) (fun _ _ => rfl)) (pv 1) (by rfl)) (pss_one (ps_expr (pe_bm PySem.F.plainAttrs_list PySem.F.slot_list_append PySem.F.type_list_append mt_append (pv 1) (pa_cons (pe_dget hu (pe_ix ix_tup (pv 0) pe_int (fun _ _ => rfl)) (pv 3) (fun _ _ => rfl)) pa_nil)))) pss_nil)))))
      (pss_one (ps_ret (pe_callB cr_sortedS (by rfl) T.b_sorted (by decide +kernel) (pa_cons (pv 1) pa_nil))))))), ?_⟩
  refine ⟨_, rfl, a, _, _, _, rfl, rfl, SqT.of ha, rfl, by show 1 ≤ sizeLine; decide, fun l hl => ?_⟩
  have e1 := sm_new hl (o := .lst [.str D.start])
  have l1 : (upd H l (.lst [.str D.start])) l = some (.lst ([D.start].map V.str)) := upd_same
  show tSeq _ _ _ _ (upd H l (.lst [.str D.start]))
  generalize upd H l (.lst [.str D.start]) = H1 at e1 l1 ⊢
  have hdl : d ≠ l := ne_of_none hd hl
  have hnel : d ∉ [l] := by simpa using hdl
  refine ⟨_, rfl, a, _, _, _, rfl, rfl, SqT.of (e1 _ _ ha), rfl, fi, rfl, ⟨_, SqL.of (e1 _ _ hfi)⟩, ?_⟩
  refine for_it walk_list (fun i σ' H' => (∃ v, σ' = [some (.ref a), some (.ref l), v, none]) ∧ Same H H' ∧ ∃ ys : List Str, H' l = some (.lst (ys.map V.str)) ∧ ys.Nodup ∧ (∀ x ∈ ys, StOf D x) ∧ D.start ∈ ys ∧ ∀ x ∈ D.fins.take i, x ∈ ys)
    ⟨⟨none, rfl⟩, e1, [D.start], l1, by simp, fun x hx => .inl (List.mem_singleton.mp hx), List.mem_singleton_self _, fun x hx => nomatch hx⟩ (fun i σ' H' _ z => SqL.of (z.2.1 _ _ hfi)) ?_ ?_
  · rintro i y σ' H2 H3 hi ⟨⟨v, rfl⟩, e2, ys, l2, yn, yo, ys0, yf⟩ ⟨rfl, hy⟩
    obtain ⟨x, hx, rfl⟩ := maps_get hy
    have y6 := stof_len ok yn yo
    refine ⟨_, rfl, _, rfl, l, _, rfl, .inl (SqL.of l2), rfl, flat_strs _, _, rfl, ?_⟩
    show (if (!inV (.str x) (ys.map V.str)) = true then _ else _)
    rw [inV_strs]
    by_cases hin : x ∈ ys
    · rw [decide_eq_true hin]
      refine iteF ⟨⟨_, rfl⟩, e2, ys, l2, yn, yo, ys0, fun z hz => ?_⟩
      rw [take_snoc hx, List.mem_append, List.mem_singleton] at hz
      exact hz.elim (yf z) fun e => e ▸ hin
    · rw [decide_eq_false hin]
      refine iteT ⟨_, rfl, .inl ⟨rfl, _, SqL.of l2⟩, _, rfl, l, _, _, rfl, rfl, l2, by rw [List.length_map, sizeLine_eq]; omega, ⟨_, rfl⟩, sm_mut e2 hl, addS ys x, ?_, nodup_addS yn, fun z hz => ?_, mem_addS.mpr (.inl ys0), fun z hz => ?_⟩
      · unfold addS
        rw [upd_same, if_neg hin, List.map_append]; rfl
      · rcases mem_addS.mp hz with z1 | rfl
        · exact yo z z1
        · exact .inr (.inl (List.mem_of_getElem? hx))
      · rw [take_snoc hx, List.mem_append, List.mem_singleton] at hz
        exact mem_addS.mpr (hz.imp (yf z) id)
  · rintro σ' H2 ⟨⟨v, rfl⟩, e2, ys, l2, yn, yo, ys0, yf⟩
    rw [List.length_map, List.take_length] at yf
    have hd2 := e2 _ _ hd
    have ha2 := e2 _ _ ha
    have had : a ≠ d := ne_of ha hd (fun z => by cases z)
    refine ⟨d, _, hd2, trivial, fun od => ?_⟩
    refine ⟨_, rfl, a, _, _, _, rfl, rfl, SqT.of (lk_tup hd2 ha2), rfl, d, od, rfl, .inr ⟨kvs, upd_same, ?_⟩⟩
    refine for_it walk_keysT (fun j σ H' => (∃ v v', σ = [some (.ref a), some (.ref l), v, v']) ∧ Ex [l] (upd H2 d (.frz od (.dT kvs))) H' ∧ ∃ ys : List Str, H' l = some (.lst (ys.map V.str)) ∧ ys.Nodup ∧ (∀ x ∈ ys, StOf D x) ∧ D.start ∈ ys ∧ (∀ x ∈ D.fins, x ∈ ys) ∧ ∀ k ∈ D.ks.take j, k.1 ∈ ys ∧ ∀ z, D.mv k.1 k.2 = some z → z ∈ ys)
      ⟨⟨_, _, rfl⟩, Ex.refl _ _, ys, by rw [upd_ne (Ne.symm hdl)]; exact l2, yn, yo, ys0, yf, fun k hk => nomatch hk⟩ (fun j σ H' _ p => p.2.1.get hnel upd_same) ?_ ?_
    · rintro j yv σ H4 H5 hj ⟨⟨v, v', rfl⟩, x4, ys, l4, yn, yo, ys0, yf, yk⟩ ⟨rfl, k, x, b, hkk, rfl, hb⟩
      obtain ⟨sx, tx, ax, hks, rfl, rfl, hf⟩ := mv.at_ hkk
      have hal : a ∉ [l] := by simpa using ne_of_none ha hl
      have ha4 := x4.get hal (lk_tup (od := od) hd2 ha2)
      have hdg := dg (.inr ⟨od, x4.get hnel upd_same⟩) hb
      rw [mv.val, hf] at hdg
      have y6 := stof_len ok yn yo
      refine ⟨fun σ' H' => σ' = [some (.ref a), some (.ref l), v, some (.ref b)] ∧ Ex [l] (upd H2 d (.frz od (.dT kvs))) H' ∧ H' l = some (.lst ((addS ys sx).map V.str)) ∧ H' b = some (.tup [.str sx, .str tx]), ?_, ?_⟩
      · refine ⟨_, rfl, b, _, _, _, rfl, rfl, SqT.of hb, rfl, _, rfl, l, _, rfl, .inl (SqL.of l4), rfl, flat_strs _, _, rfl, ?_⟩
        show (if (!inV (.str sx) (ys.map V.str)) = true then _ else _)
        rw [inV_strs]
        by_cases hin : sx ∈ ys
        · rw [decide_eq_true hin]
          exact iteF ⟨rfl, x4, by unfold addS; rw [if_pos hin]; exact l4, hb⟩
        · rw [decide_eq_false hin]
          refine iteT ⟨_, rfl, .inl ⟨rfl, _, SqL.of l4⟩, _, rfl, b, _, _, _, rfl, rfl, SqT.of hb, rfl, l, _, _, rfl, rfl, l4, by rw [List.length_map, sizeLine_eq]; omega, rfl, x4.upd (by simp), ?_, ?_⟩
          · unfold addS
            rw [upd_same, if_neg hin, List.map_append]; rfl
          · rw [upd_ne (ne_of hb l4 (fun z => by cases z))]
            exact hb
      · rintro σ' H6 ⟨rfl, x6, l6, b6⟩
        have ha6 := x6.get hal (lk_tup (od := od) hd2 ha2)
        have hdg := dg (.inr ⟨od, x6.get hnel upd_same⟩) b6
        rw [mv.val, hf] at hdg
        have so : ∀ x ∈ addS ys sx, StOf D x := fun x hx => (mem_addS.mp hx).elim (yo x) fun e => .inr (.inr ⟨sx, tx, ax, hf, .inl e⟩)
        have s6 := stof_len ok (nodup_addS yn) so
        have fin : ∀ zs : List Str, zs = addS (addS ys sx) ax → zs.Nodup ∧ (∀ x ∈ zs, StOf D x) ∧ D.start ∈ zs ∧ (∀ x ∈ D.fins, x ∈ zs) ∧ ∀ k ∈ D.ks.take (j + 1), k.1 ∈ zs ∧ ∀ z, D.mv k.1 k.2 = some z → z ∈ zs := by
          rintro zs rfl
          refine ⟨nodup_addS (nodup_addS yn), fun x hx => (mem_addS.mp hx).elim (so x) fun e => .inr (.inr ⟨sx, tx, ax, hf, .inr e⟩), mem_addS.mpr (.inl (mem_addS.mpr (.inl ys0))), fun x hx => mem_addS.mpr (.inl (mem_addS.mpr (.inl (yf x hx)))), fun k hk => ?_⟩
          rw [take_snoc hks, List.mem_append, List.mem_singleton] at hk
          rcases hk with z | rfl
          · have := yk k z
            exact ⟨mem_addS.mpr (.inl (mem_addS.mpr (.inl this.1))), fun z hz => mem_addS.mpr (.inl (mem_addS.mpr (.inl (this.2 z hz))))⟩
          · refine ⟨mem_addS.mpr (.inl (mem_addS.mpr (.inr rfl))), fun z hz => ?_⟩
            have hz' : D.mv sx tx = some z := hz
            rw [hf] at hz'
            cases hz'
            exact mem_addS.mpr (.inr rfl)
        refine ⟨_, rfl, a, _, _, _, rfl, rfl, SqT.of ha6, rfl, _, rfl, d, _, rfl, hdg, _, rfl, l, _, rfl, .inl (SqL.of l6), rfl, flat_strs _, _, rfl, ?_⟩
        show (if (!inV (.str ax) ((addS ys sx).map V.str)) = true then _ else _)
        rw [inV_strs]
        by_cases hin : ax ∈ addS ys sx
        · rw [decide_eq_true hin]
          exact iteF ⟨⟨_, _, rfl⟩, x6, addS ys sx, l6, fin _ (by rw [show addS (addS ys sx) ax = if ax ∈ addS ys sx then addS ys sx else addS ys sx ++ [ax] from rfl, if_pos hin])⟩
        · rw [decide_eq_false hin]
          refine iteT ⟨_, rfl, .inl ⟨rfl, _, SqL.of l6⟩, _, rfl, a, _, _, _, rfl, rfl, SqT.of ha6, rfl, _, rfl, d, _, rfl, hdg, l, _, _, rfl, rfl, l6, by rw [List.length_map, sizeLine_eq]; omega, ⟨_, _, rfl⟩, x6.upd (by simp), addS ys sx ++ [ax], by rw [upd_same, List.map_append]; rfl, fin _ (by rw [show addS (addS ys sx) ax = if ax ∈ addS ys sx then addS ys sx else addS ys sx ++ [ax] from rfl, if_neg hin])⟩
    · rintro σ H4 ⟨⟨v, v', rfl⟩, x4, ys, l4, yn, yo, ys0, yf, yk⟩
      have kl : kvs.length = D.ks.length := kvs_len mv.keys
      rw [kl, List.take_length] at yk
      refine ⟨x4.get hnel upd_same, ?_⟩
      have ef : Same H (upd H4 d (.dT kvs)) := ex_same e2 (lk_ex hd2 hnel x4) (fun b hb => by rw [List.mem_singleton.mp hb]; exact hl)
      have l5 : (upd H4 d (.dT kvs)) l = some (.lst (ys.map V.str)) := by rw [upd_ne (Ne.symm hdl)]; exact l4
      have y6 := stof_len ok yn yo
      refine ⟨_, rfl, l, ys, rfl, SqL.of l5, by omega, fun zs pz hzp hzs hpz => ?_⟩
      refine q pz zs _ (ef.trans (sm_new hpz)) (ef.free hpz) upd_same (hzp.nodup_iff.mpr yn) (fun x => ?_)
      rw [hzp.mem_iff]
      refine ⟨yo x, fun h => ?_⟩
      rcases h with rfl | z | ⟨s, t, z, e, h⟩
      · exact ys0
      · exact yf _ z
      · have hm := yk _ ((mv.mem s t).mp (by rw [e]; rfl))
        rcases h with rfl | rfl
        · exact hm.1
        · exact hm.2 _ e
end
end Far

set_option Elab.async false
set_option linter.all false
set_option maxRecDepth 100000
set_option maxHeartbeats 4000000
/-! FarLaw6: _law_action -/
namespace Far
open PySem PySem.Spec PyProof.Rows L2 Fz
/-- what `_law_action` answers: an action that fits -/
structure LaOk (D : PD) (sts : List Str) (s : Str) (a : FAct Str) : Prop where
  pt : ∀ x, a = .put x ∨ a = .take x → x ∈ D.toks ∧ ∃ s', D.mv s x = some s'
  jp : ∀ s', a = .jump s' → s' ∈ sts ∧ s' ≠ s
  ps : ∀ ts s', a = .pass ts s' → s' ∈ sts ∧ ts.Nodup ∧ 0 < ts.length ∧ (∀ x ∈ ts, x ∈ D.toks) ∧ ts.Pairwise (fun a b => ¬ b.cps.toList < a.cps.toList)
def spAction : Sp := fun vs H Q _ => ∃ (p g a sl : Addr) (D : PD) (sts : List Str) (s : Str), vs = [.ref p, .ref a, .ref sl, .str s] ∧ Pur H p g ∧ PaAt (hid [p, g] H) a D ∧ PdOk D ∧ hid [p, g] H sl = some (.lst (sts.map .str)) ∧ sts.length ≤ 6 ∧ 0 < sts.length ∧
  ∀ (b : Addr) (c : FAct Str) (H' : Hp), Ex [p, g] H H' → Pur H' p g → ActAt (hid [p, g] H') b c → LaOk D sts s c → Q (.ref b) H'
section
variable {P : Program} {w : World} {K : PySem.W.Frag} {mg : Str → Option Value} {base : Heap}
theorem law_action_ok (T : Txt K mg) : Cal P w K mg base 2 "_law_action" spAction [] := by
  have c_law_draw := law_draw_ok (P := P) (w := w) (base := base) T
  have sc : FnScope ["_law_purse_here", "_law_parts_here", "_law_states_here", "_law_state", "_law_tokens", "_law_exits", "_law_token", "_law_others", "_law_each", "_law_kind", "_law_chosen"] ["_law_purse_here", "_law_parts_here", "_law_states_here", "_law_state"] (defScope s_law_action) := ⟨rfl, rfl, rfl, by decide +kernel, rfl, by decide +kernel, by decide +kernel⟩
  have nd := sc.nd
  refine cal_mk T.g_law_action T.f_law_action sc (fun vs H Q E h => by obtain ⟨_, _, _, _, _, _, _, rfl, _⟩ := h; rfl) (fun _ _ _ _ _ _ us hl => match us, hl with | [_, _, _, _], _ => rfl) (fun cdv A outer s H vs0 Q E hr h => ?_)
  obtain ⟨p, g, a, sl, D, sts, st, rfl, hp, pa, ok, hsl, s6, s1, q⟩ := h
  have hu := hu_of hr
  obtain ⟨tk, d, fi, kvs, ha, htk, hd, mv, hfi⟩ := pa
  refine ⟨_, (pss_cons (pset 4 nd (pe_callB cr_sortedS (by rfl) T.b_sorted (by decide +kernel) (pa_cons (pe_ix ix_tup (pv 1) pe_int (fun _ _ => rfl)) pa_nil)))
      (pss_cons (ps_setLc (i := 5) (own := [("_law_token", 6)]) (g := gName 6) rfl nd rfl rfl (sw_true rfl rfl rfl (by decide +kernel)) (pi_list (pv 4)) (blkOk_by (own := [("_law_token", 6)]) (N := ["_law_purse_here", "_law_parts_here", "_law_states_here", "_law_state", "_law_tokens", "_law_exits", "_law_token", "_law_others", "_law_each", "_law_kind", "_law_chosen"]) (sc := defScope s_law_action) (by decide +kernel)) (fun _ _ _ _ _ => (pgn 6 nd)) (fun _ _ _ _ _ => (pts_one (pt_cmp (pc_din hu (pe_tup (pa_cons (pv 3) (pa_cons (pv 6) pa_nil))) (pe_ix (ix_tupK (K := K)) (pv 1) pe_int (fun _ _ => rfl))) (by rfl)))) (fun _ _ _ _ _ => (pv 6)))
      (pss_cons (ps_setLc (i := 7) (own := [("_law_each", 8)]) (g := gName 8) rfl nd rfl rfl (sw_true rfl rfl rfl (by decide +kernel)) (pi_list (pv 2)) (blkOk_by (own := [("_law_each", 8)]) (N := ["_law_purse_here", "_law_parts_here", "_law_states_here", "_law_state", "_law_tokens", "_law_exits", "_law_token", "_law_others", "_law_each", "_law_kind", "_law_chosen"]) (sc := defScope s_law_action) (by decide +kernel)) (fun _ _ _ _ _ => (pgn 8 nd)) (fun _ _ _ _ _ => (pts_one (pt_cmpR op_ne (pv 8) (pv 3) (nomark _)))) (fun _ _ _ _ _ => (pv 8)))
      (pss_cons (pset 9 nd (C8.pe_c c_law_draw hr (by decide) (by rfl) (pa_cons (pv 0) (pa_cons pe_int pa_nil))))
      (C8.pss_cut (ps_if (PW.pt (pw_and (pt_cmpR op_eq (pv 9) pe_int (nomark _)) (pw_and1 (pt_cmpR op_gt (pe_callB call_len_seq (by rfl) T.b_len (by decide +kernel) (pa_cons (pv 5) pa_nil)) pe_int (nomark _))))) (pss_one (ps_ret (pe_tup (pa_cons pe_str (pa_cons (pe_ix ix_list (pv 5) (C8.pe_c c_law_draw hr (by decide) (by rfl) (pa_cons (pv 0) (pa_cons (pe_callB call_len_seq (by rfl) T.b_len (by decide +kernel) (pa_cons (pv 5) pa_nil)) pa_nil))) (fun _ _ => rfl)) pa_nil))))) pss_nil)
      (C8.pss_cut (ps_if (PW.pt (pw_and (pt_cmpR op_eq (pv 9) pe_int (nomark _)) (pw_and1 (pt_cmpR op_gt (pe_callB call_len_seq (by rfl) T.b_len (by decide +kernel) (pa_cons (pv 5) pa_nil)) pe_int (nomark _))))) (pss_one (ps_ret (pe_tup (pa_cons pe_str (pa_cons (pe_ix ix_list (pv 5) (C8.pe_c c_law_draw hr (by decide) (by rfl) (pa_cons (pv 0) (pa_cons (pe_callB call_len_seq (by rfl) T.b_len (by decide +kernel) (pa_cons (pv 5) pa_nil)) pa_nil))) (fun _ _ => rfl)) pa_nil))))) pss_nil)
      (C8.pss_cut (ps_if (PW.pt (pw_and (pt_cmpR op_eq (pv 9) pe_int (nomark _)) (pw_and1 (pt_cmpR op_gt (pe_callB call_len_seq (by rfl) T.b_len (by decide +kernel) (pa_cons (pv 7) pa_nil)) pe_int (nomark _))))) (pss_one (ps_ret (pe_tup (pa_cons pe_str (pa_cons (pe_ix ix_list (pv 7) (C8.pe_c c_law_draw hr (by decide) (by rfl) (pa_cons (pv 0) (pa_cons (pe_callB call_len_seq (by rfl) T.b_len (by decide +kernel) (pa_cons (pv 7) pa_nil)) pa_nil))) (fun _ _ => rfl)) pa_nil))))) pss_nil)
      (C8.pss_cut (ps_if (PW.pt (pw_or (pt_cmpR op_eq (pv 9) pe_int (nomark _)) (pw_or1 (pt_cmpR op_eq (pv 9) pe_int (nomark _))))) (pss_cons (ps_setLc (i := 10) (own := [("_law_token", 6)]) (g := gName 6) rfl nd rfl rfl (sw_true rfl rfl rfl (by decide +kernel)) (pi_list (pv 4)) (blkOk_by (own := [("_law_token", 6)]) (N := ["_law_purse_here", "_law_parts_here", "_law_states_here", "_law_state", "_law_tokens", "_law_exits", "_law_token", "_law_others", "_law_each", "_law_kind", "_law_chosen"]) (sc := defScope s_law_action) (by decide +kernel)) (fun _ _ _ _ _ => (pgn 6 nd)) (fun _ _ _ _ _ => (pts_one (pt_cmpR op_eq (C8.pe_c c_law_draw hr (by decide) (by rfl) (pa_cons (pv 0) (pa_cons pe_int pa_nil))) pe_int (nomark _)))) (fun _ _ _ _ _ => (pv 6)))
      (C8.pss_cut (ps_if (pt_cmpR op_eq (pe_callB call_len_seq (by rfl) T.b_len (by decide +kernel) (pa_cons (pv 10) pa_nil)) pe_int (nomark _)) (pss_one (pset 10 nd (pe_lst (pa_cons (pe_ix ix_list (pv 4) (C8.pe_c c_law_draw hr (by decide) (by rfl) (pa_cons (pv 0) (pa_cons (pe_callB call_len_seq (by rfl) T.b_len (by decide +kernel) (pa_cons (pv 4) pa_nil)) pa_nil))) (fun _ _ => rfl)) pa_nil)))) pss_nil)
      (pss_one (ps_ret (pe_tup (pa_cons pe_str (pa_cons (pe_callTy call_tuple_of (by rfl) T.b_tuple (by decide +kernel) (pa_cons (pv 10) pa_nil)) (pa_cons (pe_ix ix_list (pv 2) (C8.pe_c c_law_draw hr (by decide) (by rfl) (pa_cons (pv 0) (pa_cons (pe_callB call_len_seq (by rfl) T.b_len (by decide +kernel) (pa_cons (pv 2) pa_nil)) pa_nil))) (fun _ _ => rfl)) pa_nil)))))))) pss_nil)
      (pss_one (ps_ret (pe_tup (pa_cons pe_str pa_nil)))))))))))), ?_⟩
  refine ⟨_, rfl, a, _, _, _, rfl, rfl, SqT.of (hid_at ha), rfl, tk, _, rfl, SqL.of (hid_at htk), by have := ok.ok.t4; omega, fun tks tp hperm hsort htp => ?_⟩
  have x1 : Ex [p, g] H (upd H tp (.lst (tks.map V.str))) := (Ex.refl _ H).new htp
  have p1 : Pur (upd H tp (.lst (tks.map V.str))) p g := hp.mono (sm_new htp)
  have l1 : hid [p, g] (upd H tp (.lst (tks.map V.str))) tp = some (.lst (tks.map V.str)) := hid_fresh hp htp
  show tSeq _ _ _ [some (.ref p), some (.ref a), some (.ref sl), some (.str st), some (.ref tp), none, none, none, none, none, none] (upd H tp (.lst (tks.map V.str)))
  generalize upd H tp (.lst (tks.map V.str)) = H1 at x1 p1 l1 ⊢
  have tpw := sorted_pw hsort
  have tn : tks.Nodup := hperm.nodup_iff.mpr ok.ok.tn
  have tl : tks.length = D.toks.length := hperm.length_eq
  have t4 := ok.ok.t4
  have t1 := ok.ok.t1
  -- exits
  refine ⟨_, rfl, tp, rfl, ⟨_, SqL.of (hid_at l1)⟩, fun eD heD => ?_⟩
  have peD := p1.pn heD
  have heDp : eD ∉ [p, g] := by simp [peD.1, peD.2]
  have heDn : hid [p, g] H1 eD = none := by rw [hid_out heDp]; exact heD
  refine wk_it walk_list (fun i H' => Ex [p, g] H1 H' ∧ Pur H' p g ∧ ∃ zs : List Str, hid [p, g] H' eD = some (.lst (zs.map V.str)) ∧ zs.Sublist (tks.take i) ∧ ∀ z ∈ zs, ∃ s', D.mv st z = some s') ⟨(Ex.refl _ _).new heD, p1.mono (sm_new heD), [], hid_fresh p1 heD, List.nil_sublist _, fun z hz => nomatch hz⟩ (fun i H' _ z => SqL.of (hid_at (z.1 _ _ l1))) ?_ ?_
  · rintro j e H2 H3 hj ⟨x2, p2, zs, d2, z2, zm⟩ ⟨rfl, hx⟩
    obtain ⟨e', he, rfl⟩ := maps_get hx
    refine ⟨rfl, _, rfl, _, rfl, by show 2 ≤ sizeLine; decide, fun b hb => ?_⟩
    have e3 := sm_new hb (o := .tup [.str st, .str e'])
    have x3 := hid_same (L := [p, g]) e3
    have p3 := p2.mono e3
    have d3 := x3 _ _ d2
    have hdg := dg (.inl (hid_at (x3 _ _ (x2 _ _ (x1 _ _ hd))))) (upd_same (H := _) (a := b) (o := .tup [.str st, .str e']))
    rw [mv.val] at hdg
    refine ⟨_, rfl, a, _, _, _, rfl, rfl, SqT.of (hid_at (x3 _ _ (x2 _ _ (x1 _ _ ha)))), rfl, d, _, rfl, hdg, _, rfl, ite2 (fun z => ?_) (fun z => ⟨x2.trans x3, p3, zs, d3, z2.trans (by rw [take_snoc he]; exact List.sublist_append_left _ _), zm⟩)⟩
    have hz : ∃ s', D.mv st e' = some s' := by
      rw [Option.isSome_map] at z
      exact Option.isSome_iff_exists.mp z
    refine ⟨_, rfl, _, hid_at d3, ?_, (x2.trans x3).mut heDp heDn, p3.mut (hid_at d3) strs_head, zs ++ [e'], ?_, ?_, ?_⟩
    · have := z2.length_le
      rw [List.length_take] at this
      rw [List.length_map, sizeLine_eq]
      omega
    · rw [hid_updn heDp, upd_same, List.map_append]; rfl
    · rw [take_snoc he]
      exact z2.append (List.Sublist.refl _)
    · intro z hz'
      rcases List.mem_append.mp hz' with y | y
      · exact zm z y
      · rw [List.mem_singleton.mp y]; exact hz
  rintro H2 ⟨x2, p2, zs, d2, z2, zm⟩
  rw [List.length_map, List.take_length] at z2
  -- others
  refine ⟨_, rfl, sl, rfl, ⟨_, SqL.of (hid_at (x2 _ _ (x1 _ _ hsl)))⟩, fun oD hoD => ?_⟩
  have poD := p2.pn hoD
  have hoDp : oD ∉ [p, g] := by simp [poD.1, poD.2]
  have hoDn : hid [p, g] H2 oD = none := by rw [hid_out hoDp]; exact hoD
  refine wk_it walk_list (fun i H' => Ex [p, g] H2 H' ∧ Pur H' p g ∧ ∃ os : List Str, hid [p, g] H' oD = some (.lst (os.map V.str)) ∧ os.Sublist (sts.take i) ∧ ∀ z ∈ os, z ≠ st) ⟨(Ex.refl _ _).new hoD, p2.mono (sm_new hoD), [], hid_fresh p2 hoD, List.nil_sublist _, fun z hz => nomatch hz⟩ (fun i H' _ z => SqL.of (hid_at (z.1 _ _ (x2 _ _ (x1 _ _ hsl))))) ?_ ?_
  · rintro j e H3 H4 hj ⟨x3, p3, os, d3, z3, om⟩ ⟨rfl, hx⟩
    obtain ⟨e', he, rfl⟩ := maps_get hx
    refine ⟨rfl, _, rfl, _, rfl, rfl, _, rfl, ite2 (fun z => ?_) (fun z => ⟨x3, p3, os, d3, z3.trans (by rw [take_snoc he]; exact List.sublist_append_left _ _), om⟩)⟩
    have hne : e' ≠ st := fun q => by
      rw [q] at z
      simp at z
    refine ⟨_, rfl, _, hid_at d3, ?_, x3.mut hoDp hoDn, p3.mut (hid_at d3) strs_head, os ++ [e'], ?_, ?_, ?_⟩
    · have := z3.length_le
      rw [List.length_take] at this
      rw [List.length_map, sizeLine_eq]
      omega
    · rw [hid_updn hoDp, upd_same, List.map_append]; rfl
    · rw [take_snoc he]
      exact z3.append (List.Sublist.refl _)
    · intro z hz'
      rcases List.mem_append.mp hz' with y | y
      · exact om z y
      · rw [List.mem_singleton.mp y]; exact hne
  rintro H3 ⟨x3, p3, os, d3, z3, om⟩
  rw [List.length_map, List.take_length] at z3
  have e3 := x3 _ _ d2
  have a3 := x3 _ _ (x2 _ _ (x1 _ _ ha))
  have l3 := x3 _ _ (x2 _ _ l1)
  have s3 := x3 _ _ (x2 _ _ (x1 _ _ hsl))
  have X3 := (x1.trans x2).trans x3
  have zl := z2.length_le
  have ol := z3.length_le
  refine ⟨_, rfl, p, g, 6, rfl, p3, by decide, by decide, fun r H4 hr4 x4 p4 => ?_⟩
  have e4 := x4 _ _ e3
  have a4 := x4 _ _ a3
  have l4 := x4 _ _ l3
  have s4 := x4 _ _ s3
  have d4 := x4 _ _ d3
  have X4 := X3.trans x4
  show tSeq _ _ _ [some (.ref p), some (.ref a), some (.ref sl), some (.str st), some (.ref tp), some (.ref eD), none, some (.ref oD), none, some (.int (r : Int)), none] _
  refine ⟨fun σ' H' => σ' = [some (.ref p), some (.ref a), some (.ref sl), some (.str st), some (.ref tp), some (.ref eD), none, some (.ref oD), none, some (.int (r : Int)), none] ∧ H' = H4, ?_, ?_⟩
  · refine ⟨_, rfl, rfl, _, rfl, ite2 (fun z => ?_) (fun _ => iteF ⟨rfl, rfl⟩)⟩
    refine ⟨_, rfl, eD, _, rfl, .inl (SqL.of (hid_at e4)), _, _, rfl, rfl, _, rfl, ite2 (fun y => ?_) (fun _ => ⟨rfl, rfl⟩)⟩
    have y := of_decide_eq_true y
    rw [List.length_map] at y
    refine ⟨_, rfl, _, rfl, _, rfl, eD, _, rfl, .inl (SqL.of (hid_at e4)), p, g, zs.length, by rw [List.length_map]; rfl, p4, by omega, by omega, fun r5 H5 hr5 x5 p5 => ?_⟩
    obtain ⟨c, hc⟩ : ∃ c, zs[r5]? = some c := ⟨_, List.getElem?_eq_getElem hr5⟩
    refine ⟨eD, _, _, _, rfl, rfl, SqL.of (hid_at (x5 _ _ e4)), chr_at (by rw [List.getElem?_map, hc] <;> rfl), by show 2 ≤ sizeLine; decide, fun b hb => ?_⟩
    have cm := List.mem_of_getElem? hc
    exact q b (.put c) _ ((X4.trans x5).new hb) (p5.mono (sm_new hb)) (hid_fresh p5 hb) ⟨fun x hx => (by rcases hx with hx | hx <;> cases hx <;> exact ⟨hperm.mem_iff.mp (z2.subset cm), zm _ cm⟩), fun _ hx => (by cases hx), fun _ _ hx => (by cases hx)⟩
  rintro σ5 H5 ⟨rfl, rfl⟩
  refine ⟨fun σ' H' => σ' = [some (.ref p), some (.ref a), some (.ref sl), some (.str st), some (.ref tp), some (.ref eD), none, some (.ref oD), none, some (.int (r : Int)), none] ∧ H' = H5, ?_, ?_⟩
  · refine ⟨_, rfl, rfl, _, rfl, ite2 (fun z => ?_) (fun _ => iteF ⟨rfl, rfl⟩)⟩
    refine ⟨_, rfl, eD, _, rfl, .inl (SqL.of (hid_at e4)), _, _, rfl, rfl, _, rfl, ite2 (fun y => ?_) (fun _ => ⟨rfl, rfl⟩)⟩
    have y := of_decide_eq_true y
    rw [List.length_map] at y
    refine ⟨_, rfl, _, rfl, _, rfl, eD, _, rfl, .inl (SqL.of (hid_at e4)), p, g, zs.length, by rw [List.length_map]; rfl, p4, by omega, by omega, fun r5 H5 hr5 x5 p5 => ?_⟩
    obtain ⟨c, hc⟩ : ∃ c, zs[r5]? = some c := ⟨_, List.getElem?_eq_getElem hr5⟩
    refine ⟨eD, _, _, _, rfl, rfl, SqL.of (hid_at (x5 _ _ e4)), chr_at (by rw [List.getElem?_map, hc] <;> rfl), by show 2 ≤ sizeLine; decide, fun b hb => ?_⟩
    have cm := List.mem_of_getElem? hc
    exact q b (.take c) _ ((X4.trans x5).new hb) (p5.mono (sm_new hb)) (hid_fresh p5 hb) ⟨fun x hx => (by rcases hx with hx | hx <;> cases hx <;> exact ⟨hperm.mem_iff.mp (z2.subset cm), zm _ cm⟩), fun _ hx => (by cases hx), fun _ _ hx => (by cases hx)⟩
  rintro σ5 H6 ⟨rfl, rfl⟩
  refine ⟨fun σ' H' => σ' = [some (.ref p), some (.ref a), some (.ref sl), some (.str st), some (.ref tp), some (.ref eD), none, some (.ref oD), none, some (.int (r : Int)), none] ∧ H' = H6, ?_, ?_⟩
  · refine ⟨_, rfl, rfl, _, rfl, ite2 (fun z => ?_) (fun _ => iteF ⟨rfl, rfl⟩)⟩
    refine ⟨_, rfl, oD, _, rfl, .inl (SqL.of (hid_at d4)), _, _, rfl, rfl, _, rfl, ite2 (fun y => ?_) (fun _ => ⟨rfl, rfl⟩)⟩
    have y := of_decide_eq_true y
    rw [List.length_map] at y
    refine ⟨_, rfl, _, rfl, _, rfl, oD, _, rfl, .inl (SqL.of (hid_at d4)), p, g, os.length, by rw [List.length_map]; rfl, p4, by omega, by omega, fun r5 H5 hr5 x5 p5 => ?_⟩
    obtain ⟨c, hc⟩ : ∃ c, os[r5]? = some c := ⟨_, List.getElem?_eq_getElem hr5⟩
    refine ⟨oD, _, _, _, rfl, rfl, SqL.of (hid_at (x5 _ _ d4)), chr_at (by rw [List.getElem?_map, hc] <;> rfl), by show 2 ≤ sizeLine; decide, fun b hb => ?_⟩
    have cm := List.mem_of_getElem? hc
    exact q b (.jump c) _ ((X4.trans x5).new hb) (p5.mono (sm_new hb)) (hid_fresh p5 hb) ⟨fun x hx => (by rcases hx with hx | hx <;> cases hx), fun _ hx => (by cases hx; exact ⟨z3.subset cm, om _ cm⟩), fun _ _ hx => (by cases hx)⟩
  rintro σ5 H7 ⟨rfl, rfl⟩
  refine ⟨fun σ' H' => σ' = [some (.ref p), some (.ref a), some (.ref sl), some (.str st), some (.ref tp), some (.ref eD), none, some (.ref oD), none, some (.int (r : Int)), none] ∧ H' = H7, ?_, ?_⟩
  · refine (fun key => ⟨_, rfl, rfl, _, rfl, ite2 (fun _ => iteT key) (fun _ => ⟨_, rfl, rfl, _, rfl, ite2 (fun _ => key) (fun _ => ⟨rfl, rfl⟩)⟩)⟩) ?_
    refine ⟨_, rfl, tp, rfl, ⟨_, SqL.of (hid_at l4)⟩, fun cD hcD => ?_⟩
    have pcD := p4.pn hcD
    have hcDp : cD ∉ [p, g] := by simp [pcD.1, pcD.2]
    have hcDn : hid [p, g] H7 cD = none := by rw [hid_out hcDp]; exact hcD
    refine wk_it walk_list (fun i H' => Ex [p, g] H7 H' ∧ Pur H' p g ∧ ∃ cs : List Str, hid [p, g] H' cD = some (.lst (cs.map V.str)) ∧ cs.Sublist (tks.take i)) ⟨(Ex.refl _ _).new hcD, p4.mono (sm_new hcD), [], hid_fresh p4 hcD, List.nil_sublist _⟩ (fun i H' _ z => SqL.of (hid_at (z.1 _ _ l4))) ?_ ?_
    · rintro j e H8 H9 hj ⟨x8, p8, cs, d8, z8⟩ ⟨rfl, hx⟩
      obtain ⟨e', he, rfl⟩ := maps_get hx
      refine ⟨rfl, _, rfl, p, g, 2, rfl, p8, by decide, by decide, fun r9 H9 hr9 x9 p9 => ?_⟩
      refine ⟨rfl, _, rfl, ite2 (fun z => ?_) (fun z => ⟨x8.trans x9, p9, cs, x9 _ _ d8, z8.trans (by rw [take_snoc he]; exact List.sublist_append_left _ _)⟩)⟩
      refine ⟨_, rfl, _, hid_at (x9 _ _ d8), ?_, (x8.trans x9).mut hcDp hcDn, p9.mut (hid_at (x9 _ _ d8)) strs_head, cs ++ [e'], ?_, ?_⟩
      · have := z8.length_le
        rw [List.length_take] at this
        rw [List.length_map, sizeLine_eq]
        omega
      · rw [hid_updn hcDp, upd_same, List.map_append]; rfl
      · rw [take_snoc he]
        exact z8.append (List.Sublist.refl _)
    rintro H8 ⟨x8, p8, cs, d8, z8⟩
    rw [List.length_map, List.take_length] at z8
    have l8 := x8 _ _ l4
    have s8 := x8 _ _ s4
    have X8 := X4.trans x8
    refine ⟨fun σ' H' => ∃ (cl : Addr) (cs : List Str), σ' = [some (.ref p), some (.ref a), some (.ref sl), some (.str st), some (.ref tp), some (.ref eD), none, some (.ref oD), none, some (.int (r : Int)), some (.ref cl)] ∧ Ex [p, g] H8 H' ∧ Pur H' p g ∧ hid [p, g] H' cl = some (.lst (cs.map V.str)) ∧ cs.Sublist tks ∧ 0 < cs.length, ?_, ?_⟩
    · refine ⟨_, rfl, cD, _, rfl, .inl (SqL.of (hid_at d8)), rfl, _, rfl, ite2 (fun y => ?_) (fun y => ?_)⟩
      · refine ⟨_, rfl, _, rfl, _, rfl, tp, _, rfl, .inl (SqL.of (hid_at l8)), p, g, tks.length, by rw [List.length_map]; rfl, p8, by omega, by omega, fun r9 H9 hr9 x9 p9 => ?_⟩
        obtain ⟨c, hc⟩ : ∃ c, tks[r9]? = some c := ⟨_, List.getElem?_eq_getElem hr9⟩
        refine ⟨tp, _, _, _, rfl, rfl, SqL.of (hid_at (x9 _ _ l8)), chr_at (by rw [List.getElem?_map, hc] <;> rfl), by show 1 ≤ sizeLine; decide, fun b hb => ?_⟩
        exact ⟨b, [c], rfl, x9.new hb, p9.mono (sm_new hb), hid_fresh p9 hb, List.singleton_sublist.mpr (List.mem_of_getElem? hc), Nat.succ_pos _⟩
      · refine ⟨cD, cs, rfl, Ex.refl _ _, p8, d8, z8, Nat.pos_of_ne_zero fun z => y ?_⟩
        rw [List.length_map, z]
        rfl
    rintro σ9 H9 ⟨cl, cs, rfl, x9, p9, c9, z9, c1⟩
    refine ⟨_, rfl, cl, _, rfl, .inl ⟨SqL.of (hid_at c9), fun tu htu => ?_⟩⟩
    have x10 := hid_same (L := [p, g]) (sm_new htu (o := .tup (cs.map V.str)))
    have p10 := p9.mono (sm_new htu (o := .tup (cs.map V.str)))
    have u10 := hid_fresh (o := .tup (cs.map V.str)) p9 htu
    have s10 := x10 _ _ (x9 _ _ s8)
    refine ⟨_, rfl, _, rfl, _, rfl, sl, _, rfl, .inl (SqL.of (hid_at s10)), p, g, sts.length, by rw [List.length_map]; rfl, p10, by omega, by omega, fun r11 H11 hr11 x11 p11 => ?_⟩
    obtain ⟨c, hc⟩ : ∃ c, sts[r11]? = some c := ⟨_, List.getElem?_eq_getElem hr11⟩
    have cm := List.mem_of_getElem? hc
    refine ⟨sl, _, _, _, rfl, rfl, SqL.of (hid_at (x11 _ _ s10)), chr_at (by rw [List.getElem?_map, hc] <;> rfl), by show 3 ≤ sizeLine; decide, fun b hb => ?_⟩
    exact q b (.pass cs c) _ (((X8.trans x9).trans (x10.trans x11)).new hb) (p11.mono (sm_new hb)) ⟨tu, hid_fresh p11 hb, hid_same (sm_new hb) _ _ (x11 _ _ u10)⟩ ⟨fun x hx => (by rcases hx with hx | hx <;> cases hx), fun _ hx => (by cases hx), fun _ _ hx => (by cases hx; exact ⟨cm, tn.sublist z9, c1, fun x hx => hperm.mem_iff.mp (z9.subset hx), tpw.sublist z9⟩)⟩
  rintro σ5 H8 ⟨rfl, rfl⟩
  refine ⟨by show 1 ≤ sizeLine; decide, fun b hb => ?_⟩
  exact q b .skip _ (X4.new hb) (p4.mono (sm_new hb)) (hid_fresh p4 hb) ⟨fun x hx => (by rcases hx with hx | hx <;> cases hx), fun _ hx => (by cases hx), fun _ _ hx => (by cases hx)⟩
end
end Far

set_option Elab.async false
set_option linter.all false
set_option maxRecDepth 100000
set_option maxHeartbeats 4000000
/-! FarLaw7: _law_again, _law_rings -/
namespace Far
open PySem PySem.Spec PyProof.Rows L2 Fz
abbrev TF := Str → Str → Option (FAct Str)
/-- what the table must have at a pair for `_law_again` -/
def AgOk (f : Str → Str → Option Str) (h : TF) (s t : Str) : Prop := f s t = none → ∃ c, h s t = some c ∧ ∀ x, c = .put x → ∃ s', f s x = some s'
def spAgain (K : PySem.W.Frag) : Sp := fun vs H Q _ => ∃ (d td pr : Addr) (kvs : Kvs) (ks : List Pt) (f : Str → Str → Option Str) (tkv : Kvs) (tks : List Pt) (h : TF) (s t : Str), vs = [.ref d, .ref td, .ref pr] ∧ H d = some (.dT kvs) ∧ MvK kvs ks f ∧ H td = some (.dT tkv) ∧ TbK H tkv tks h ∧ SqT K H pr [.str s, .str t] ∧ H pr = some (.tup [.str s, .str t]) ∧ AgOk f h s t ∧
  ∀ (v : V) (H' : Hp), Same H H' → (again ⟨f, h, 0⟩ t s = none → v = .non) → (∀ s', again ⟨f, h, 0⟩ t s = some s' → ∃ p', v = .ref p' ∧ H' p' = some (.tup [.str s', .str t])) → Q v H'
def spLrings : Sp := fun vs H Q _ => ∃ (d td pr : Addr) (kvs : Kvs) (ks : List Pt) (f : Str → Str → Option Str) (tkv : Kvs) (tks : List Pt) (h : TF) (s t : Str), vs = [.ref d, .ref td, .ref pr] ∧ H d = some (.dT kvs) ∧ MvK kvs ks f ∧ H td = some (.dT tkv) ∧ TbK H tkv tks h ∧ H pr = some (.tup [.str s, .str t]) ∧ (∀ i s', chs ⟨f, h, 0⟩ t s i = some s' → AgOk f h s' t) ∧
  ∀ H', Same H H' → Q (.bl (!ends ⟨f, h, 0⟩ t 8 s)) H'
section
variable {P : Program} {w : World} {K : PySem.W.Frag} {mg : Str → Option Value} {base : Heap}
theorem law_again_ok (T : Txt K mg) : Cal P w K mg base 1 "_law_again" (spAgain K) [] := by
  have sc : FnScope ["_law_moves", "_law_table_here", "_law_pair", "_law_action_here"] ["_law_moves", "_law_table_here", "_law_pair"] (defScope s_law_again) := ⟨rfl, rfl, rfl, by decide +kernel, rfl, by decide +kernel, by decide +kernel⟩
  have nd := sc.nd
  refine cal_mk T.g_law_again T.f_law_again sc (fun vs H Q E h => by obtain ⟨_, _, _, _, _, _, _, _, _, _, _, rfl, _⟩ := h; rfl) (fun _ _ _ _ _ _ us hl => match us, hl with | [_, _, _], _ => rfl) (fun cdv A outer s H vs0 Q E hr h => ?_)
  obtain ⟨d, td, pr, kvs, ks, f, tkv, tks, h, st, t, rfl, hd, mv, htd, tb, _, hpr, ag, q⟩ := h
  have hu := hu_of hr
  refine ⟨_, (pss_cons (ps_if (pt_cmp (pc_din hu (pv 2) (pv 0)) (by rfl)) (pss_one (ps_ret pe_non)) pss_nil)
      (pss_cons (pset 3 nd (pe_dget hu (pv 1) (pv 2) (fun _ _ => rfl)))
      (pss_cons (ps_if (pt_cmpR op_eq (pe_ix ix_tup (pv 3) pe_int (fun _ _ => rfl)) pe_str (nomark _)) (pss_one (ps_ret (pe_tup (pa_cons (pe_dget hu (pv 0) (pe_tup (pa_cons (pe_ix ix_tup (pv 2) pe_int (fun _ _ => rfl)) (pa_cons (pe_ix ix_tup (pv 3) pe_int (fun _ _ => rfl)) pa_nil))) (fun _ _ => rfl)) (pa_cons (pe_ix ix_tup (pv 2) pe_int (fun _ _ => rfl)) pa_nil))))) pss_nil)
      (pss_cons (ps_if (pt_cmpR op_eq (pe_ix ix_tup (pv 3) pe_int (fun _ _ => rfl)) pe_str (nomark _)) (pss_one (ps_ret (pe_tup (pa_cons (pe_ix ix_tup (pv 3) pe_int (fun _ _ => rfl)) (pa_cons (pe_ix ix_tup (pv 2) pe_int (fun _ _ => rfl)) pa_nil))))) pss_nil)
      (pss_cons (ps_if (PW.pt (pw_and (pt_cmpR op_eq (pe_ix ix_tup (pv 3) pe_int (fun _ _ => rfl)) pe_str (nomark _)) (pw_and1 (pt_cmpR op_in_seq (pe_ix ix_tup (pv 2) pe_int (fun _ _ => rfl)) (pe_ix ix_tup (pv 3) pe_int (fun _ _ => rfl)) (by rfl))))) (pss_one (ps_ret (pe_tup (pa_cons (pe_ix ix_tup (pv 3) pe_int (fun _ _ => rfl)) (pa_cons (pe_ix ix_tup (pv 2) pe_int (fun _ _ => rfl)) pa_nil))))) pss_nil)
      (pss_one (ps_ret pe_non))))))), ?_⟩
  have hdg := dg (.inl hd) hpr
  rw [mv.val] at hdg
  cases hf : f st t with
  | some s1 =>
    rw [hf] at hdg
    refine ⟨_, rfl, _, rfl, d, _, rfl, hdg, _, rfl, iteT ?_⟩
    have hg : Fz.again ⟨f, h, 0⟩ t st = none := by
      have z : (⟨f, h, 0⟩ : FRd Str).mv st t = some s1 := hf
      unfold Fz.again
      rw [z]
    refine q .non H (Same.refl _) (fun _ => rfl) fun s' e => by rw [hg] at e; cases e
  | none =>
    rw [hf] at hdg
    refine ⟨_, rfl, _, rfl, d, _, rfl, hdg, _, rfl, iteF ?_⟩
    obtain ⟨c, hc, hput⟩ := ag hf
    obtain ⟨aa, hva, haa⟩ := tb.val _ _ _ hc
    have hdt := dg (.inl htd) hpr
    rw [hva] at hdt
    refine ⟨_, rfl, _, rfl, td, _, rfl, hdt, ?_⟩
    have hg0 : Fz.again ⟨f, h, 0⟩ t st = nextOf f st t c := again_tb (R := ⟨f, h, 0⟩) hf hc
    cases c with
    | skip =>
      have h1 : H aa = some (.tup [.str "skip"]) := haa
      refine ⟨_, rfl, aa, _, _, _, rfl, rfl, SqT.of h1, rfl, rfl, _, rfl, wF (by decide) ?_⟩
      refine ⟨_, rfl, aa, _, _, _, rfl, rfl, SqT.of h1, rfl, rfl, _, rfl, wF (by decide) ?_⟩
      refine ⟨_, rfl, aa, _, _, _, rfl, rfl, SqT.of h1, rfl, rfl, _, rfl, wF (by decide) (iteF ?_)⟩
      exact q .non H (Same.refl _) (fun _ => rfl) fun s' e => by rw [hg0] at e; cases e
    | take x =>
      have h1 : H aa = some (.tup [.str "take", .str x]) := haa
      refine ⟨_, rfl, aa, _, _, _, rfl, rfl, SqT.of h1, rfl, rfl, _, rfl, wF (by decide) ?_⟩
      refine ⟨_, rfl, aa, _, _, _, rfl, rfl, SqT.of h1, rfl, rfl, _, rfl, wF (by decide) ?_⟩
      refine ⟨_, rfl, aa, _, _, _, rfl, rfl, SqT.of h1, rfl, rfl, _, rfl, wF (by decide) (iteF ?_)⟩
      exact q .non H (Same.refl _) (fun _ => rfl) fun s' e => by rw [hg0] at e; cases e
    | put x =>
      have h1 : H aa = some (.tup [.str "put", .str x]) := haa
      obtain ⟨s2, hs2⟩ := hput x rfl
      have hg9 : nextOf f st t (.put x) = some s2 := hs2
      refine ⟨_, rfl, aa, _, _, _, rfl, rfl, SqT.of h1, rfl, rfl, _, rfl, wT ?_⟩
      refine ⟨_, rfl, _, rfl, pr, _, _, _, rfl, rfl, SqT.of hpr, rfl, _, rfl, aa, _, _, _, rfl, rfl, SqT.of h1, rfl, by show 2 ≤ sizeLine; decide, fun b hb => ?_⟩
      have e2 := sm_new hb (o := .tup [.str st, .str x])
      have hdg2 := dg (.inl (e2 _ _ hd)) (upd_same (H := H) (a := b) (o := .tup [.str st, .str x]))
      rw [mv.val, hs2] at hdg2
      refine ⟨d, _, rfl, hdg2, _, rfl, pr, _, _, _, rfl, rfl, SqT.of (e2 _ _ hpr), rfl, by show 2 ≤ sizeLine; decide, fun p hp => ?_⟩
      refine q (.ref p) _ (e2.trans (sm_new hp)) (fun e => by rw [hg0, hg9] at e; cases e) fun s' e => ?_
      rw [hg0, hg9] at e
      cases e
      exact ⟨p, rfl, upd_same⟩
    | jump s2 =>
      have h1 : H aa = some (.tup [.str "jump", .str s2]) := haa
      refine ⟨_, rfl, aa, _, _, _, rfl, rfl, SqT.of h1, rfl, rfl, _, rfl, wF (by decide) ?_⟩
      refine ⟨_, rfl, aa, _, _, _, rfl, rfl, SqT.of h1, rfl, rfl, _, rfl, wT ?_⟩
      refine ⟨_, rfl, aa, _, _, _, rfl, rfl, SqT.of h1, rfl, _, rfl, pr, _, _, _, rfl, rfl, SqT.of hpr, rfl, by show 2 ≤ sizeLine; decide, fun p hp => ?_⟩
      refine q (.ref p) _ (sm_new hp) (fun e => by rw [hg0] at e; cases e) fun s' e => ?_
      rw [hg0] at e
      cases e
      exact ⟨p, rfl, upd_same⟩
    | pass ts s2 =>
      obtain ⟨bt, h1, h2⟩ := haa
      refine ⟨_, rfl, aa, _, _, _, rfl, rfl, SqT.of h1, rfl, rfl, _, rfl, wF (by decide) ?_⟩
      refine ⟨_, rfl, aa, _, _, _, rfl, rfl, SqT.of h1, rfl, rfl, _, rfl, wF (by decide) ?_⟩
      refine ⟨_, rfl, aa, _, _, _, rfl, rfl, SqT.of h1, rfl, rfl, _, rfl, wT ?_⟩
      refine ⟨_, rfl, pr, _, _, _, rfl, rfl, SqT.of hpr, rfl, _, rfl, aa, _, _, _, rfl, rfl, SqT.of h1, rfl, bt, _, rfl, .inr (SqT.of h2), rfl, flat_strs _, _, rfl, ?_⟩
      show (if inV (.str t) (ts.map V.str) = true then _ else _)
      rw [inV_strs]
      have hg1 : Fz.again ⟨f, h, 0⟩ t st = if t ∈ ts then some s2 else none := hg0
      refine ite2 (fun z => ?_) (fun z => ?_)
      · have hin := of_decide_eq_true z
        rw [if_pos hin] at hg1
        refine ⟨_, rfl, aa, _, _, _, rfl, rfl, SqT.of h1, rfl, _, rfl, pr, _, _, _, rfl, rfl, SqT.of hpr, rfl, by show 2 ≤ sizeLine; decide, fun p hp => ?_⟩
        refine q (.ref p) _ (sm_new hp) (fun e => by rw [hg1] at e; cases e) fun s' e => ?_
        rw [hg1] at e
        cases e
        exact ⟨p, rfl, upd_same⟩
      · rw [if_neg (fun y => z (decide_eq_true y))] at hg1
        exact q .non H (Same.refl _) (fun _ => rfl) fun s' e => by rw [hg1] at e; cases e
theorem law_rings_ok (T : Txt K mg) : Cal P w K mg base 2 "_law_rings" spLrings [] := by
  have c_law_again := law_again_ok (P := P) (w := w) (base := base) T
  have sc : FnScope ["_law_moves", "_law_table_here", "_law_pair", "_law_k"] ["_law_moves", "_law_table_here", "_law_pair"] (defScope s_law_rings) := ⟨rfl, rfl, rfl, by decide +kernel, rfl, by decide +kernel, by decide +kernel⟩
  have nd := sc.nd
  refine cal_mk T.g_law_rings T.f_law_rings sc (fun vs H Q E h => by obtain ⟨_, _, _, _, _, _, _, _, _, _, _, rfl, _⟩ := h; rfl) (fun _ _ _ _ _ _ us hl => match us, hl with | [_, _, _], _ => rfl) (fun cdv A outer s H vs0 Q E hr h => ?_)
  obtain ⟨d, td, pr, kvs, ks, f, tkv, tks, h, st, t, rfl, hd, mv, htd, tb, hpr, ag, q⟩ := h
  refine ⟨_, (pss_cons (ps_for PassesOwn.never rfl (pi_range1 rfl T.b_range (pa_cons pe_int pa_nil)) (pgn 3 nd) (pss_one (ps_if (pt_cmpR op_notN (pv 2) pe_non (nomark _)) (pss_one (pset 2 nd (C8.pe_c c_law_again hr (by decide) (by rfl) (pa_cons (pv 0) (pa_cons (pv 1) (pa_cons (pv 2) pa_nil)))))) pss_nil)))
      (pss_one (ps_ret (pe_cmpR op_notN (pv 2) pe_non (nomark _))))), ?_⟩
  refine ⟨8, rfl, by decide, by decide, for_it walk_range (fun i σ' H' => Same H H' ∧ ∃ v w', σ' = [some (.ref d), some (.ref td), some v, w'] ∧ (chs ⟨f, h, 0⟩ t st i = none → v = .non) ∧ ∀ s', chs ⟨f, h, 0⟩ t st i = some s' → ∃ p', v = .ref p' ∧ H' p' = some (.tup [.str s', .str t])) ⟨Same.refl _, _, none, rfl, fun e => (by cases e), fun s' e => (by cases e; exact ⟨pr, rfl, hpr⟩)⟩ (fun _ _ _ _ _ => trivial) ?_ ?_⟩
  · rintro i y σ' H2 H3 hi ⟨e2, v, w', rfl, hn, hs⟩ ⟨rfl, rfl⟩
    have hch : chs ⟨f, h, 0⟩ t st (i + 1) = (chs ⟨f, h, 0⟩ t st i).bind (again ⟨f, h, 0⟩ t) := rfl
    cases hc : chs ⟨f, h, 0⟩ t st i with
    | none =>
      obtain rfl := hn hc
      rw [hc] at hch
      have hch : chs ⟨f, h, 0⟩ t st (i + 1) = none := hch
      refine ⟨_, rfl, rfl, _, rfl, ite2 (fun z => absurd z (by simp)) (fun _ => ⟨e2, _, _, rfl, fun _ => rfl, fun s' e => (by rw [hch] at e; cases e)⟩)⟩
    | some s' =>
      obtain ⟨p', rfl, hp'⟩ := hs s' hc
      rw [hc] at hch
      have hch : chs ⟨f, h, 0⟩ t st (i + 1) = again ⟨f, h, 0⟩ t s' := hch
      refine ⟨_, rfl, rfl, _, rfl, ite2 (fun _ => ?_) (fun z => absurd (by simp) z)⟩
      refine ⟨_, rfl, _, rfl, _, rfl, d, td, p', kvs, ks, f, tkv, tks, h, s', t, rfl, e2 _ _ hd, mv, e2 _ _ htd, tb.mono e2, SqT.of hp', hp', ag i s' hc, fun v' H4 e4 hn4 hs4 => ⟨e2.trans e4, v', _, rfl, fun e => hn4 (by rw [← hch]; exact e), fun s'' e => hs4 s'' (by rw [← hch]; exact e)⟩⟩
  · rintro σ' H2 ⟨e2, v, w', rfl, hn, hs⟩
    have hq := q H2 e2
    rw [ends_chs] at hq
    refine ⟨_, rfl, rfl, ?_⟩
    have e8 : (8 : Int).toNat = 8 := rfl
    rw [e8] at hn hs
    cases hc : chs ⟨f, h, 0⟩ t st 8 with
    | none =>
      rw [hc] at hq
      rw [hn hc]
      exact hq
    | some s' =>
      rw [hc] at hq
      obtain ⟨p', rfl, hp'⟩ := hs s' hc
      exact hq
end
end Far

set_option Elab.async false
set_option linter.all false
set_option maxRecDepth 100000
set_option maxHeartbeats 4000000
/-! FarLaw8: _law_wild -/
namespace Far
open PySem PySem.Spec PyProof.Rows L2 Fz
structure TabS (D : PD) (sts : List Str) (h : TF) : Prop where
  dom : ∀ s t, (h s t).isSome = true ↔ s ∈ sts ∧ t ∈ D.toks ∧ D.mv s t = none
  act : ∀ s t c, h s t = some c → LaOk D sts s c
theorem TbK.snoc {H : Hp} {kvs : Kvs} {ks : List Pt} {f : TF} (m : TbK H kvs ks f) {s t : Str} {a : Addr} {c : FAct Str} (hn : (s, t) ∉ ks) (ha : ActAt H a c) : TbK H (putK kvs (kp (s, t)) (.ref a)) (ks ++ [(s, t)]) (fun x y => if x = s ∧ y = t then some c else f x y) := by
  have h0 : valV kvs (kp (s, t)) = none := val_none (by rw [m.keys, kp_mem]; exact hn)
  refine ⟨?_, ?_, fun x y => ?_, fun x y c' hc => ?_⟩
  · rw [putK_new _ h0, List.map_append, List.map_append, m.keys]
    rfl
  · exact List.nodup_append.mpr ⟨m.nd, by simp, fun a ha b hb e => by
      rw [List.mem_singleton.mp hb] at e
      exact hn (e ▸ ha)⟩
  · rw [List.mem_append, List.mem_singleton]
    by_cases e : x = s ∧ y = t
    · rw [if_pos e, e.1, e.2]
      exact ⟨fun _ => .inr rfl, fun _ => rfl⟩
    · rw [if_neg e, m.mem]
      exact ⟨.inl, fun z => z.elim id fun z => absurd (by cases z; exact ⟨rfl, rfl⟩) e⟩
  · rw [valV_put]
    by_cases e : x = s ∧ y = t
    · rw [if_pos e] at hc
      cases hc
      rw [e.1, e.2, if_pos rfl]
      exact ⟨a, rfl, ha⟩
    · rw [if_neg e] at hc
      rw [if_neg (fun z => e (by have := kp_inj z; cases this; exact ⟨rfl, rfl⟩))]
      exact m.val _ _ _ hc
def spWild : Sp := fun vs H Q _ => ∃ (p g a : Addr) (D : PD), vs = [.ref p, .ref a] ∧ Pur H p g ∧ PaAt (hid [p, g] H) a D ∧ PdOk D ∧
  ∀ (td : Addr) (tkv : Kvs) (tks : List Pt) (h : TF) (sts : List Str) (H' : Hp), Ex [p, g] H H' → Pur H' p g → hid [p, g] H td = none → hid [p, g] H' td = some (.dT tkv) → TbK (hid [p, g] H') tkv tks h → sts.Nodup → (∀ x, x ∈ sts ↔ StOf D x) → TabS D sts h → tks.length ≤ 24 → Q (.ref td) H'
section
variable {P : Program} {w : World} {K : PySem.W.Frag} {mg : Str → Option Value} {base : Heap}
theorem law_wild_ok (T : Txt K mg) : Cal P w K mg base 3 "_law_wild" spWild [] := by
  have c_law_states := law_states_ok (P := P) (w := w) (base := base) T
  have c_law_action := law_action_ok (P := P) (w := w) (base := base) T
  have sc : FnScope ["_law_purse_here", "_law_parts_here", "_law_states_here", "_law_table_here", "_law_state", "_law_token"] ["_law_purse_here", "_law_parts_here"] (defScope s_law_wild) := ⟨rfl, rfl, rfl, by decide +kernel, rfl, by decide +kernel, by decide +kernel⟩
  have nd := sc.nd
  refine cal_mk T.g_law_wild T.f_law_wild sc (fun vs H Q E h => by obtain ⟨_, _, _, _, rfl, _⟩ := h; rfl) (fun _ _ _ _ _ _ us hl => match us, hl with | [_, _], _ => rfl) (fun cdv A outer s H vs0 Q E hr h => ?_)
  obtain ⟨p, g, a, D, rfl, hp, pa, ok, q⟩ := h
  have hu := hu_of hr
  refine ⟨_, (pss_cons (pset 2 nd (C8.pe_c c_law_states hr (by decide) (by rfl) (pa_cons (pv 1) pa_nil)))
      (pss_cons (pset 3 nd pe_dnewT)
      (pss_cons (ps_for PassesOwn.never rfl (pi_list (pv 2)) (pgn 4 nd) (pss_one (ps_for PassesOwn.never rfl (pi_list (pe_callB cr_sortedS (by rfl) T.b_sorted (by decide +kernel) (pa_cons (pe_ix ix_tup (pv 1) pe_int (fun _ _ => rfl)) pa_nil))) (pgn 5 nd) (pss_one (ps_if (pt_cmp (pc_dnotin hu (pe_tup (pa_cons (pv 4) (pa_cons (pv 5) pa_nil))) (pe_ix ix_tup (pv 1) pe_int (fun _ _ => rfl))) (by rfl)) (pss_one (ps_dput hu (pv 3) (pe_tup (pa_cons (pv 4) (pa_cons (pv 5) pa_nil))) (C8.pe_c c_law_action hr (by decide) (by rfl) (pa_cons (pv 0) (pa_cons (pv 1) (pa_cons (pv 2) (pa_cons (pv 4) pa_nil))))) rfl)) pss_nil)))))
      (pss_one (ps_ret (pv 3)))))), ?_⟩
  refine ⟨_, rfl, a, D, rfl, pa.at_, ok, fun sl sts H1 e1 sln sl1 sn sm => ?_⟩
  have x1 : Ex [p, g] H H1 := hid_same (L := [p, g]) e1
  have pa' := pa
  obtain ⟨tk, d, fi, kvs, ha, htk, hd, mv, hfi⟩ := pa'
  have p1 := hp.mono e1
  have slp := hp.pn sln
  have l1 : hid [p, g] H1 sl = some (.lst (sts.map V.str)) := by rw [hid_out (by simp [slp.1, slp.2])]; exact sl1
  obtain ⟨S, S6, S1, S2, S3⟩ := ok.ok.sz
  have st6 : sts.length ≤ 6 := stof_len ok sn fun x hx => (sm x).mp hx
  have st0 : 0 < sts.length := List.length_pos_of_mem ((sm D.start).mpr (.inl rfl))
  have t4 := ok.ok.t4
  refine fun td htd => ?_
  have ptd := p1.pn htd
  have tdp : td ∉ [p, g] := by simp [ptd.1, ptd.2]
  have tdn : hid [p, g] H td = none := Ex.fresh (L := [p, g]) x1 htd
  refine ⟨_, rfl, sl, rfl, ⟨_, SqL.of (hid_at (hid_same (sm_new htd) _ _ l1))⟩, ?_⟩
  refine for_it walk_list (fun i σ' H' => (∃ v v', σ' = [some (.ref p), some (.ref a), some (.ref sl), some (.ref td), v, v']) ∧ Ex [p, g] H H' ∧ Pur H' p g ∧ hid [p, g] H' sl = some (.lst (sts.map V.str)) ∧ ∃ (tkv : Kvs) (tks : List Pt) (h : TF), hid [p, g] H' td = some (.dT tkv) ∧ TbK (hid [p, g] H') tkv tks h ∧ tks.length ≤ 4 * i ∧ (∀ s t, (h s t).isSome = true ↔ (s ∈ sts.take i ∧ t ∈ D.toks) ∧ D.mv s t = none) ∧ ∀ s t c, h s t = some c → LaOk D sts s c)
    ⟨⟨none, none, rfl⟩, Ex.new x1 htd, p1.mono (sm_new htd), hid_same (sm_new htd) _ _ l1, [], [], fun _ _ => none, hid_fresh p1 htd, ⟨rfl, List.nodup_nil, fun s t => ⟨(fun z => nomatch z), (fun z => nomatch z)⟩, (fun _ _ _ z => nomatch z)⟩, Nat.zero_le _, fun s t => ⟨(fun z => nomatch z), (fun z => nomatch z.1.1)⟩, (fun _ _ _ z => nomatch z)⟩
    (fun i σ' H' _ z => SqL.of (hid_at z.2.2.2.1)) ?_ ?_
  · rintro i y σ' H2 H3 hi ⟨⟨v, v', rfl⟩, x2, p2, l2, tkv, tks, h, d2, tb2, k2, dom2, act2⟩ ⟨rfl, hy⟩
    obtain ⟨si, hsi, rfl⟩ := maps_get hy
    have si6 : i < 6 := by
      have := (List.getElem?_eq_some_iff.mp hsi).1
      omega
    refine ⟨_, rfl, a, _, _, _, rfl, rfl, SqT.of (hid_at (x2 _ _ ha)), rfl, tk, D.toks, rfl, SqL.of (hid_at (x2 _ _ htk)), by omega, fun ts tp hperm hsort htp => ?_⟩
    have ptp := p2.pn htp
    have e3 := sm_new htp (o := .lst (ts.map V.str))
    have x3 := hid_same (L := [p, g]) e3
    have tn : ts.Nodup := hperm.nodup_iff.mpr ok.ok.tn
    have tl : ts.length = D.toks.length := hperm.length_eq
    have tp3 := hid_fresh (o := .lst (ts.map V.str)) p2 htp
    refine ⟨tp, rfl, ⟨_, SqL.of (hid_at tp3)⟩, ?_⟩
    refine for_it walk_list (fun j σ' H' => (∃ v', σ' = [some (.ref p), some (.ref a), some (.ref sl), some (.ref td), some (.str si), v']) ∧ Ex [p, g] H H' ∧ Pur H' p g ∧ hid [p, g] H' sl = some (.lst (sts.map V.str)) ∧ hid [p, g] H' tp = some (.lst (ts.map V.str)) ∧ ∃ (tkv : Kvs) (tks : List Pt) (h : TF), hid [p, g] H' td = some (.dT tkv) ∧ TbK (hid [p, g] H') tkv tks h ∧ tks.length ≤ 4 * i + j ∧ (∀ s t, (h s t).isSome = true ↔ ((s ∈ sts.take i ∧ t ∈ D.toks) ∨ (s = si ∧ t ∈ ts.take j)) ∧ D.mv s t = none) ∧ ∀ s t c, h s t = some c → LaOk D sts s c)
      ⟨⟨_, rfl⟩, x2.trans x3, p2.mono e3, x3 _ _ l2, tp3, tkv, tks, h, x3 _ _ d2, tb2.mono x3, k2, fun s t => (dom2 s t).trans ⟨fun z => ⟨.inl z.1, z.2⟩, fun z => ⟨z.1.elim id (fun y => nomatch y.2), z.2⟩⟩, act2⟩ (fun i σ' H' _ z => SqL.of (hid_at z.2.2.2.2.1)) ?_ ?_
    · rintro j y σ' H4 H5 hj ⟨⟨v', rfl⟩, x4, p4, l4, tp4, tkv4, tks4, h4, d4, tb4, k4, dom4, act4⟩ ⟨rfl, hy⟩
      obtain ⟨tj, htj, rfl⟩ := maps_get hy
      have tj4 : j < 4 := by
        have := (List.getElem?_eq_some_iff.mp htj).1
        omega
      have tjm : tj ∈ D.toks := hperm.mem_iff.mp (List.mem_of_getElem? htj)
      refine ⟨_, rfl, _, rfl, by show 2 ≤ sizeLine; decide, fun b hb => ?_⟩
      have e6 := sm_new hb (o := .tup [.str si, .str tj])
      have x6 := hid_same (L := [p, g]) e6
      have hdg := dg (.inl (hid_at (x6 _ _ (x4 _ _ hd)))) (upd_same (H := _) (a := b) (o := .tup [.str si, .str tj]))
      rw [mv.val] at hdg
      refine ⟨_, rfl, a, _, _, _, rfl, rfl, SqT.of (hid_at (x6 _ _ (x4 _ _ ha))), rfl, d, _, rfl, hdg, _, rfl, ?_⟩
      have p6 := p4.mono e6
      have X6 : Ex [p, g] H _ := x4.trans x6
      have l6 := x6 _ _ l4
      have tp6 := x6 _ _ tp4
      have d6 := x6 _ _ d4
      have tb6 := tb4.mono x6
      generalize upd _ b (.tup [.str si, .str tj]) = H6 at X6 p6 l6 tp6 d6 tb6 ⊢
      have hts : ts.take (j + 1) = ts.take j ++ [tj] := take_snoc htj
      cases hf : D.mv si tj with
      | some x =>
        refine iteF ⟨⟨_, rfl⟩, X6, p6, l6, tp6, tkv4, tks4, h4, d6, tb6, by omega, fun s t => (dom4 s t).trans ?_, act4⟩
        rw [hts]
        refine ⟨fun z => ⟨z.1.imp id fun y => ⟨y.1, List.mem_append_left _ y.2⟩, z.2⟩, fun z => ⟨?_, z.2⟩⟩
        rcases z.1 with y | ⟨rfl, y⟩
        · exact .inl y
        · rcases List.mem_append.mp y with y | y
          · exact .inr ⟨rfl, y⟩
          · rw [List.mem_singleton.mp y, hf] at z
            cases z.2
      | none =>
        refine iteT ?_
        refine ⟨_, rfl, _, rfl, _, rfl, _, rfl, p, g, a, sl, D, sts, si, rfl, p6, pa.mono X6, ok, l6, st6, st0, fun b2 c H7 x7 p7 ac7 la7 => ?_⟩
        refine ⟨_, rfl, _, rfl, _, rfl, by show 2 ≤ sizeLine; decide, fun b3 hb3 => ?_⟩
        have e9 := sm_new hb3 (o := .tup [.str si, .str tj])
        have x9 := hid_same (L := [p, g]) e9
        have d9 := x9 _ _ (x7 _ _ d6)
        have l9 := x9 _ _ (x7 _ _ l6)
        have tp9 := x9 _ _ (x7 _ _ tp6)
        have tb9 := (tb6.mono x7).mono x9
        have ac9 := ac7.mono x9
        have p9 := p7.mono e9
        have b9 := upd_same (H := H7) (a := b3) (o := .tup [.str si, .str tj])
        have X9 := (X6.trans x7).trans x9
        have nin : (si, tj) ∉ tks4 := fun hm => by
          rcases ((dom4 si tj).mp ((tb4.mem si tj).mpr hm)).1 with z | z
          · exact not_take sn hsi z.1
          · exact not_take tn htj z.2
        refine ⟨td, _, rfl, DPut.t (k := kp (si, tj)) (hid_at d9) b9 (by rw [kvs_len tb4.keys, sizeLine_eq]; omega), ⟨_, rfl⟩, X9.mut tdp tdn, p9.mut (hid_at d9) (fun _ _ z => nomatch z), ?_, ?_, _, _, _, by rw [hid_updn tdp, upd_same], (tb9.snoc nin ac9).of_tup fun b xs hb => ?_, ?_, fun s t => ?_, fun s t c' hc => ?_⟩
        · rw [hid_updn tdp, upd_ne (ne_of l9 d9 (fun z => by cases z))]; exact l9
        · rw [hid_updn tdp, upd_ne (ne_of tp9 d9 (fun z => by cases z))]; exact tp9
        · rw [hid_updn tdp, upd_ne (ne_of hb d9 (fun z => by cases z))]; exact hb
        · rw [List.length_append]; show _ + 1 ≤ _; omega
        · by_cases z : s = si ∧ t = tj
          · rw [if_pos z, hts, z.1, z.2]
            exact ⟨fun _ => ⟨.inr ⟨rfl, by simp⟩, hf⟩, fun _ => rfl⟩
          · rw [if_neg z, dom4, hts, List.mem_append, List.mem_singleton]
            exact ⟨fun y => ⟨y.1.imp id fun y => ⟨y.1, .inl y.2⟩, y.2⟩, fun y => ⟨y.1.imp id fun y => ⟨y.1, y.2.elim id fun q => absurd ⟨y.1, q⟩ z⟩, y.2⟩⟩
        · by_cases z : s = si ∧ t = tj
          · rw [if_pos z] at hc
            cases hc
            rw [z.1]
            exact la7
          · rw [if_neg z] at hc
            exact act4 s t c' hc
    · rintro σ' H4 ⟨⟨v', rfl⟩, x4, p4, l4, tp4, tkv4, tks4, h4, d4, tb4, k4, dom4, act4⟩
      rw [List.length_map] at k4
      rw [List.length_map, List.take_length] at dom4
      refine ⟨⟨_, _, rfl⟩, x4, p4, l4, tkv4, tks4, h4, d4, tb4, by omega, fun s t => (dom4 s t).trans ?_, act4⟩
      rw [take_snoc hsi, List.mem_append, List.mem_singleton]
      exact ⟨fun z => ⟨z.1.elim (fun y => ⟨.inl y.1, y.2⟩) fun y => ⟨.inr y.1, hperm.mem_iff.mp y.2⟩, z.2⟩, fun z => ⟨z.1.1.elim (fun y => .inl ⟨y, z.1.2⟩) fun y => .inr ⟨y, hperm.mem_iff.mpr z.1.2⟩, z.2⟩⟩
  · rintro σ' H2 ⟨⟨v, v', rfl⟩, x2, p2, l2, tkv, tks, h, d2, tb2, k2, dom2, act2⟩
    rw [List.length_map] at k2
    rw [List.length_map, List.take_length] at dom2
    exact ⟨_, rfl, q td tkv tks h sts H2 x2 p2 tdn d2 tb2 sn sm ⟨fun s t => by rw [dom2]; exact and_assoc, act2⟩ (by omega)⟩
end
end Far

set_option Elab.async false
set_option linter.all false
set_option maxRecDepth 100000
set_option maxHeartbeats 4000000
/-! FarLaw9: _law_table -/
namespace Far
open PySem PySem.Spec PyProof.Rows L2 Fz
theorem ex_in {L : List Addr} {H H1 H2 : Hp} {d : Addr} (x1 : Ex L H H1) (x2 : Ex [d] H1 H2) (n : hid L H d = none) : Ex L H H2 := fun b o e => by
  have hb : b ∉ L := fun z => by rw [hid_in z] at e; cases e
  have hd : b ≠ d := fun z => by subst z; rw [n] at e; cases e
  have h1 := hid_at (x1 b o e)
  rw [hid_out hb]
  exact x2.get (by simpa using hd) h1
theorem Pur.ex1 {H H' : Hp} {p g d : Addr} {kvs : Kvs} (h : Pur H p g) (x : Ex [d] H H') (hd : H d = some (.dT kvs)) : Pur H' p g := by
  obtain ⟨c, ns, gs, m, h1, h2, h3, r⟩ := h
  have k : ∀ {b : Addr} {xs : List V}, H b = some (.lst xs) → H' b = some (.lst xs) := fun {b xs} e => x.get (by simpa using ne_of e hd (fun z => by cases z)) e
  exact ⟨c, ns, gs, m, k h1, k h2, k h3, r⟩
theorem again_in {D : PD} {sts : List Str} {h : TF} {n : Nat} (tb : TabS D sts h) (cl : ∀ s t x, D.mv s t = some x → x ∈ sts) {s t s' : Str} (e : again ⟨D.mv, h, n⟩ t s = some s') : s' ∈ sts := by
  cases hm : D.mv s t with
  | some x =>
    have z : (⟨D.mv, h, n⟩ : FRd Str).mv s t = some x := hm
    unfold Fz.again at e
    rw [z] at e
    cases e
  | none =>
    cases hc : h s t with
    | none =>
      rw [again_out (R := ⟨D.mv, h, n⟩) hc] at e
      cases e
    | some c =>
      rw [again_tb (R := ⟨D.mv, h, n⟩) hm hc] at e
      cases c with
      | skip => cases e
      | take x => cases e
      | put x => exact cl _ _ _ e
      | jump s2 => cases e; exact ((tb.act _ _ _ hc).jp _ rfl).1
      | pass ts s2 =>
        have e' : (if t ∈ ts then some s2 else none) = some s' := e
        split at e'
        · cases e'; exact ((tb.act _ _ _ hc).ps _ _ rfl).1
        · cases e'
theorem chs_in {D : PD} {sts : List Str} {h : TF} (tb : TabS D sts h) (cl : ∀ s t x, D.mv s t = some x → x ∈ sts) {s t : Str} (hs : s ∈ sts) : ∀ i s', chs ⟨D.mv, h, 0⟩ t s i = some s' → s' ∈ sts
  | 0, s', e => by cases e; exact hs
  | i + 1, s', e => by
    have e' : (chs ⟨D.mv, h, 0⟩ t s i).bind (again ⟨D.mv, h, 0⟩ t) = some s' := e
    cases hc : chs ⟨D.mv, h, 0⟩ t s i with
    | none => rw [hc] at e'; cases e'
    | some s2 => rw [hc] at e'; exact again_in tb cl e'
theorem TabS.ag {D : PD} {sts : List Str} {h : TF} (tb : TabS D sts h) {s t : Str} (hs : s ∈ sts) (ht : t ∈ D.toks) : AgOk D.mv h s t := fun e => by
  obtain ⟨c, hc⟩ := Option.isSome_iff_exists.mp ((tb.dom s t).mpr ⟨hs, ht, e⟩)
  exact ⟨c, hc, fun x hx => ((tb.act _ _ _ hc).pt x (.inl hx)).2⟩
def skF (h : TF) (s t : Str) : TF := fun a b => if a = s ∧ b = t then some .skip else h a b
theorem TabS.sk {D : PD} {sts : List Str} {h : TF} (tb : TabS D sts h) {s t : Str} (hs : (h s t).isSome = true) : TabS D sts (skF h s t) := by
  refine ⟨fun a b => ?_, fun a b c e => ?_⟩
  · unfold skF
    by_cases z : a = s ∧ b = t
    · rw [if_pos z, ← tb.dom, z.1, z.2, hs] <;> simp
    · rw [if_neg z, tb.dom]
  · unfold skF at e
    by_cases z : a = s ∧ b = t
    · rw [if_pos z] at e
      cases e
      exact ⟨fun x hx => (by rcases hx with hx | hx <;> cases hx), fun _ hx => (by cases hx), fun _ _ hx => (by cases hx)⟩
    · rw [if_neg z] at e
      exact tb.act a b c e
theorem sk_again {f : Str → Str → Option Str} {h : TF} {s t : Str} (hf : f s t = none) : again ⟨f, skF h s t, 0⟩ t s = none := by
  rw [again_tb (R := ⟨f, skF h s t, 0⟩) hf (show skF h s t s t = some .skip by unfold skF; rw [if_pos ⟨rfl, rfl⟩])]
  rfl
theorem sk_less {f : Str → Str → Option Str} {h : TF} {s t : Str} (hf : f s t = none) (t' : Str) : ∀ s', again ⟨f, skF h s t, 0⟩ t' s' = none ∨ again ⟨f, skF h s t, 0⟩ t' s' = again ⟨f, h, 0⟩ t' s' := fun s' => by
  by_cases z : s' = s ∧ t' = t
  · rw [z.1, z.2]
    exact .inl (sk_again hf)
  · right
    have e : skF h s t s' t' = h s' t' := by unfold skF; rw [if_neg z]
    cases hm : f s' t' with
    | some x =>
      have z1 : (⟨f, skF h s t, 0⟩ : FRd Str).mv s' t' = some x := hm
      have z2 : (⟨f, h, 0⟩ : FRd Str).mv s' t' = some x := hm
      unfold Fz.again
      rw [z1]
    | none =>
      cases hc : h s' t' with
      | none => rw [again_out (R := ⟨f, skF h s t, 0⟩) (e.trans hc), again_out (R := ⟨f, h, 0⟩) hc]
      | some c => rw [again_tb (R := ⟨f, skF h s t, 0⟩) hm (e.trans hc), again_tb (R := ⟨f, h, 0⟩) hm hc]
def spTable : Sp := fun vs H Q _ => ∃ (p g a : Addr) (D : PD), vs = [.ref p, .ref a] ∧ Pur H p g ∧ PaAt (hid [p, g] H) a D ∧ PdOk D ∧
  ∀ (td : Addr) (tkv : Kvs) (tks : List Pt) (h : TF) (sts : List Str) (H' : Hp), Ex [p, g] H H' → Pur H' p g → hid [p, g] H' td = some (.dT tkv) → TbK (hid [p, g] H') tkv tks h → sts.Nodup → (∀ x, x ∈ sts ↔ StOf D x) → TabS D sts h → tks.length ≤ 24 → (∀ s ∈ sts, ∀ t ∈ D.toks, ends ⟨D.mv, h, 0⟩ t 8 s = true) → Q (.ref td) H'
section
variable {P : Program} {w : World} {K : PySem.W.Frag} {mg : Str → Option Value} {base : Heap}
theorem law_table_ok (T : Txt K mg) : Cal P w K mg base 4 "_law_table" spTable [] := by
  have c_law_wild := law_wild_ok (P := P) (w := w) (base := base) T
  have c_law_rings := law_rings_ok (P := P) (w := w) (base := base) T
  have sc : FnScope ["_law_purse_here", "_law_parts_here", "_law_table_here", "_law_pair"] ["_law_purse_here", "_law_parts_here"] (defScope s_law_table) := ⟨rfl, rfl, rfl, by decide +kernel, rfl, by decide +kernel, by decide +kernel⟩
  have nd := sc.nd
  refine cal_mk T.g_law_table T.f_law_table sc (fun vs H Q E h => by obtain ⟨_, _, _, _, rfl, _⟩ := h; rfl) (fun _ _ _ _ _ _ us hl => match us, hl with | [_, _], _ => rfl) (fun cdv A outer s H vs0 Q E hr h => ?_)
  obtain ⟨p, g, a, D, rfl, hp, pa, ok, q⟩ := h
  have hu := hu_of hr
  have hu65 := hu65_of hr
  refine ⟨_, (pss_cons (pset 2 nd (C8.pe_c c_law_wild hr (by decide) (by rfl) (pa_cons (pv 0) (pa_cons (pv 1) pa_nil))))
      (pss_cons (ps_for PassesOwn.never rfl (pi_list (pe_callB (cr_sortedD hu65) (by rfl) T.b_sorted (by decide +kernel) (pa_cons (pe_callTy (call_list_dT rfl) (by rfl) T.b_list (by decide +kernel) (pa_cons (pv 2) pa_nil)) pa_nil))) (pgn 3 nd) (pss_one (ps_if (pt_val (C8.pe_c c_law_rings hr (by decide) (by rfl) (pa_cons (pe_ix ix_tup (pv 1) pe_int (fun _ _ => rfl)) (pa_cons (pv 2) (pa_cons (pv 3) pa_nil))))) (pss_one (ps_dput hu (pv 2) (pv 3) (pe_tup (pa_cons pe_str pa_nil)) rfl)) pss_nil)))
      (pss_one (ps_ret (pv 2))))), ?_⟩
  refine ⟨_, rfl, _, rfl, p, g, a, D, rfl, hp, pa, ok, fun td tkv tks h sts H1 x1 p1 tdn td1 tb1 sn sm ts1 k1 => ?_⟩
  obtain ⟨tk, d, fi, kvs, ha0, _, hd0, mv, _⟩ := pa
  have ha := hid_at (x1 _ _ ha0)
  have hd := hid_at (x1 _ _ hd0)
  have t1 := hid_at td1
  have tdp : td ∉ [p, g] := fun z => by rw [hid_in z] at td1; cases td1
  have hdn : d ∉ [td] := by
    have : d ≠ td := fun z => by rw [← z, hd0] at tdn; cases tdn
    simpa using this
  have han : a ∉ [td] := by simpa using ne_of ha t1 (fun z => by cases z)
  have cl : ∀ s t x, D.mv s t = some x → x ∈ sts := fun s t x e => (sm x).mpr (.inr (.inr ⟨s, t, x, e, .inr rfl⟩))
  refine ⟨_, rfl, td, tkv, rfl, .inl t1, fun l bs hl hbs => ?_⟩
  obtain ⟨zs, hz1, hz2, hz3⟩ := keys_zip hbs tb1.keys
  have hsq : (zs.map fun z => (V.ref z.1, ptD z.2)).map (·.1) = bs.map V.ref := by
    rw [← hz1, List.map_map, List.map_map] <;> rfl
  obtain ⟨a1, a2, a3⟩ := ptD_alike (zs.map fun z => (V.ref z.1, ptD z.2)) (fun z hz => by
    obtain ⟨z0, _, rfl⟩ := List.mem_map.mp hz
    exact ⟨_, rfl⟩)
  have el := sm_new hl (o := .lst (bs.map V.ref))
  refine ⟨l, zs.map fun z => (V.ref z.1, ptD z.2), rfl, by rw [hsq]; exact SqL.of upd_same, fun z hz => ?_, a1, a2, a3, fun qs b hp2 hb => ?_⟩
  · obtain ⟨z0, hz0, rfl⟩ := List.mem_map.mp hz
    exact ptD_dp (el _ _ (hz3 z0 hz0))
  obtain ⟨zs', hzp, rfl⟩ := perm_map_inv hp2 zs rfl
  have ea := el.trans (sm_new hb (o := .lst ((zs'.map fun z => (V.ref z.1, ptD z.2)).map (·.1))))
  have b5 := upd_same (H := upd H1 l (.lst (bs.map V.ref))) (a := b) (o := .lst ((zs'.map fun z => (V.ref z.1, ptD z.2)).map (·.1)))
  generalize upd (upd H1 l (.lst (bs.map V.ref))) b (.lst ((zs'.map fun z => (V.ref z.1, ptD z.2)).map (·.1))) = H5 at ea b5 ⊢
  have hkp : (zs'.map (·.2)).Perm tks := by
    have z := hzp.map (·.2)
    rwa [hz2] at z
  have hkn : (zs'.map (·.2)).Nodup := hkp.nodup_iff.mpr tb1.nd
  have X5 : Ex [p, g] H H5 := Ex.trans x1 (hid_same ea)
  have t5 := ea _ _ t1
  have p5 := p1.mono ea
  have hbn : b ∉ [td] := by simpa using ne_of b5 t5 (fun z => by cases z)
  refine ⟨b, rfl, ⟨_, SqL.of b5⟩, for_it walk_list (fun i σ' H' => (∃ v, σ' = [some (.ref p), some (.ref a), some (.ref td), v]) ∧ Ex [td] H5 H' ∧ ∃ (tkv' : Kvs) (h' : TF), H' td = some (.dT tkv') ∧ TbK (hid [p, g] H') tkv' tks h' ∧ TabS D sts h' ∧ ∀ k ∈ (zs'.map (·.2)).take i, ends ⟨D.mv, h', 0⟩ k.2 8 k.1 = true)
    ⟨⟨none, rfl⟩, Ex.refl _ _, tkv, h, t5, tb1.mono (hid_same ea), ts1, fun k hk => nomatch hk⟩ (fun i σ' H' _ z => SqL.of (z.2.1.get hbn b5)) ?_ ?_⟩
  · rintro i x σ' H6 H7 hi ⟨⟨v, rfl⟩, x6, tkv', h', t6, tb6, ts6, en6⟩ ⟨rfl, hx⟩
    obtain ⟨z1, hx1, rfl⟩ := get_map hx
    obtain ⟨z, hzi, rfl⟩ := get_map hx1
    have hzm := hzp.mem_iff.mp (List.mem_of_getElem? hzi)
    have hb5 := ea _ _ (hz3 z hzm)
    have hzt : ∀ {H' : Hp}, Ex [td] H5 H' → H' z.1 = some (.tup [.str z.2.1, .str z.2.2]) := fun x => x.get (by simpa using ne_of hb5 t5 (fun z => by cases z)) hb5
    have hki : (zs'.map (·.2))[i]? = some z.2 := by rw [List.getElem?_map, hzi]; rfl
    have hin : (z.2.1, z.2.2) ∈ tks := hkp.mem_iff.mp (List.mem_of_getElem? hki)
    have hsome := (tb6.mem _ _).mpr hin
    have hdm := (ts6.dom _ _).mp hsome
    refine ⟨_, rfl, a, _, _, _, rfl, rfl, SqT.of (x6.get han (ea _ _ ha)), rfl, _, rfl, _, rfl, d, td, z.1, kvs, D.ks, D.mv, tkv', tks, h', z.2.1, z.2.2, rfl, x6.get hdn (ea _ _ hd), mv, t6, tb6.mono (same_hid _ _), hzt x6, fun i s' e => ts6.ag (chs_in ts6 cl hdm.1 i s' e) hdm.2.1, fun H8 e8 => ?_⟩
    have x8 : Ex [td] H5 H8 := x6.trans (Ex.of e8)
    have t8 := e8 _ _ t6
    have tb8 := tb6.mono (hid_same (L := [p, g]) e8)
    refine ⟨_, rfl, ite2 (fun y => ?_) (fun y => ?_)⟩
    · refine ⟨by show 1 ≤ sizeLine; decide, fun nb hnb => ?_⟩
      have e9 := sm_new hnb (o := .tup [.str "skip"])
      have x9 : Ex [td] H5 _ := x8.trans (Ex.of e9)
      have t9 := e9 _ _ t8
      have tb9 := tb8.mono (hid_same (L := [p, g]) e9)
      have hkl := kvs_len tb6.keys
      have p8 := p5.ex1 x8 t5
      have n9 := hid_fresh (o := .tup [.str "skip"]) p8 hnb
      refine ⟨_, rfl, _, rfl, td, _, rfl, DPut.t (k := kp (z.2.1, z.2.2)) t9 (hzt x9) (by rw [hkl, sizeLine_eq]; omega), ⟨_, rfl⟩, x9.upd (by simp), _, skF h' z.2.1 z.2.2, upd_same, ?_, ts6.sk hsome, fun k hk => ?_⟩
      · refine (tb9.put hin (c := .skip) n9).of_tup fun b xs hb => ?_
        rw [hid_updn tdp, upd_ne (ne_of hb (show hid [p, g] _ td = _ by rw [hid_out tdp]; exact t9) (fun z => by cases z))]
        exact hb
      · rw [take_snoc hki, List.mem_append, List.mem_singleton] at hk
        rcases hk with y | rfl
        · exact ends_less (sk_less hdm.2.2 k.2) _ _ (en6 k y)
        · exact ends_none (n := 7) (sk_again hdm.2.2)
    · refine ⟨⟨_, rfl⟩, x8, tkv', h', t8, tb8, ts6, fun k hk => ?_⟩
      rw [take_snoc hki, List.mem_append, List.mem_singleton] at hk
      rcases hk with q | rfl
      · exact en6 k q
      · simpa using y
  · rintro σ' H6 ⟨⟨v, rfl⟩, x6, tkv', h', t6, tb6, ts6, en6⟩
    rw [List.length_map, List.length_map, List.take_of_length_le (by rw [List.length_map]; exact Nat.le_refl _)] at en6
    refine ⟨_, rfl, q td tkv' tks h' sts H6 (ex_in X5 x6 tdn) (p5.ex1 x6 t5) (by rw [hid_out tdp]; exact t6) tb6 sn sm ts6 k1 fun s' hs' t' ht' => ?_⟩
    cases hm : D.mv s' t' with
    | some x =>
      refine ends_none (n := 7) ?_
      have z1 : (⟨D.mv, h', 0⟩ : FRd Str).mv s' t' = some x := hm
      unfold Fz.again
      rw [z1]
    | none => exact en6 (s', t') (hkp.mem_iff.mpr ((tb6.mem _ _).mp ((ts6.dom _ _).mpr ⟨hs', ht', hm⟩)))
end
end Far

set_option Elab.async false
set_option linter.all false
set_option maxRecDepth 100000
set_option maxHeartbeats 4000000
/-! FarLawA: _law_copy, _law_row -/
namespace Far
open PySem PySem.Spec PyProof.Rows L2 Fz
def spCopy : Sp := fun vs H Q _ => ∃ (d : Addr) (kvs : Kvs) (ks : List Pt), vs = [.ref d] ∧ H d = some (.dT kvs) ∧ kvs.map (·.1) = ks.map kp ∧ ks.Nodup ∧ ks.length ≤ 100 ∧ ∀ (c : Addr) (H' : Hp), Same H H' → H c = none → H' c = some (.dT kvs) → Q (.ref c) H'
section
variable {P : Program} {w : World} {K : PySem.W.Frag} {mg : Str → Option Value} {base : Heap}
theorem law_copy_ok (T : Txt K mg) : Cal P w K mg base 1 "_law_copy" spCopy [] := by
  have sc : FnScope ["_law_moves", "_law_found", "_law_pair"] ["_law_moves"] (defScope s_law_copy) := ⟨rfl, rfl, rfl, by decide +kernel, rfl, by decide +kernel, by decide +kernel⟩
  have nd := sc.nd
  refine cal_mk T.g_law_copy T.f_law_copy sc (fun vs H Q E h => by obtain ⟨_, _, _, rfl, _⟩ := h; rfl) (fun _ _ _ _ _ _ us hl => match us, hl with | [_], _ => rfl) (fun cdv A outer s H vs0 Q E hr h => ?_)
  obtain ⟨d, kvs, ks, rfl, hd, hk, hn, hl, q⟩ := h
  have hu := hu_of hr
  refine ⟨_, (pss_cons (pset 1 nd pe_dnewT)
      (pss_cons (ps_lock (ps_for PassesOwn.never rfl (pi_keys (pv 0)) (pgn 2 nd) (pss_one (ps_dput hu (pv 1) (pv 2) (pe_dget hu (pv 0) (pv 2) (fun _ _ => rfl)) rfl))))
      (pss_one (ps_ret (pv 1))))), ?_⟩
  refine fun c hc => ?_
  have e1 := sm_new hc (o := .dT [])
  have c1 := upd_same (H := H) (a := c) (o := .dT [])
  have hd1 := e1 _ _ hd
  have hdc : d ≠ c := ne_of_none hd hc
  have hnel : d ∉ [c] := by simpa using hdc
  have hlen := kvs_len hk
  show tSeq _ _ _ _ (upd H c (.dT []))
  generalize upd H c (.dT []) = H1 at e1 c1 hd1 ⊢
  refine ⟨d, _, hd1, trivial, fun od => ?_⟩
  refine ⟨_, rfl, d, od, rfl, .inr ⟨kvs, upd_same, for_it walk_keysT (fun j σ H' => (∃ v, σ = [some (.ref d), some (.ref c), v]) ∧ Ex [c] (upd H1 d (.frz od (.dT kvs))) H' ∧ H' c = some (.dT (kvs.take j))) ⟨⟨none, rfl⟩, Ex.refl _ _, by rw [upd_ne (Ne.symm hdc)]; exact c1⟩ (fun j σ H' _ p => p.2.1.get hnel upd_same) ?_ ?_⟩⟩
  · rintro j yv σ H4 H5 hj ⟨⟨v, rfl⟩, x4, c4⟩ ⟨rfl, k, x, b, hkk, rfl, hb⟩
    have hnd : (kvs.map (·.1)).Nodup := by rw [hk]; exact kp_nodup hn
    obtain ⟨pt, hpt, rfl⟩ : ∃ pt, ks[j]? = some pt ∧ k = kp pt := by
      have e : (kvs.map (·.1))[j]? = some k := by rw [List.getElem?_map, hkk]; rfl
      rw [hk, List.getElem?_map] at e
      cases hq : ks[j]? with
      | none => rw [hq] at e; cases e
      | some pt => rw [hq] at e; exact ⟨pt, rfl, (Option.some.inj e).symm⟩
    have hb' : H5 b = some (.tup [.str pt.1, .str pt.2]) := hb
    have hdg := dg (.inr ⟨od, x4.get hnel upd_same⟩) hb'
    rw [show kp (pt.1, pt.2) = kp pt from rfl, val_at hnd hkk] at hdg
    have hput : putK (kvs.take j) (kp pt) x = kvs.take (j + 1) := by
      rw [putK_new _ (val_none ?_), take_snoc hkk]
      rw [List.map_take]
      refine not_take hnd ?_
      rw [List.getElem?_map, hkk]
      rfl
    have hj100 : j < 100 := by omega
    refine ⟨_, rfl, _, rfl, d, x, rfl, hdg, _, rfl, _, rfl, c, _, rfl, DPut.t (k := kp pt) c4 hb' (by rw [List.length_take, sizeLine_eq]; omega), ⟨_, rfl⟩, x4.upd (by simp), by rw [upd_same, hput]⟩
  · rintro σ H4 ⟨⟨v, rfl⟩, x4, c4⟩
    rw [List.take_length] at c4
    refine ⟨x4.get hnel upd_same, ⟨_, rfl, q c _ (ex_same e1 (lk_ex hd1 hnel x4) (fun b hb => by rw [List.mem_singleton.mp hb]; exact hc)) hc (by rw [upd_ne (Ne.symm hdc)]; exact c4)⟩⟩
end
end Far

set_option Elab.async false
set_option linter.all false
set_option maxRecDepth 100000
set_option maxHeartbeats 4000000
/-! FarLawB: _law_row -/
namespace Far
open PySem PySem.Spec PyProof.Rows L2 Fz
def spRow : Sp := fun vs H Q _ => ∃ (p g a : Addr) (D : PD) (most : Nat), vs = [.ref p, .ref a, .int most] ∧ Pur H p g ∧ PaAt (hid [p, g] H) a D ∧ PdOk D ∧ most ≤ 12 ∧
  ∀ (tu : Addr) (row : List Str) (H' : Hp), Ex [p, g] H H' → Pur H' p g → hid [p, g] H' tu = some (.tup (row.map .str)) → row.length ≤ most → (∀ x ∈ row, x ∈ D.toks) → Q (.ref tu) H'
section
variable {P : Program} {w : World} {K : PySem.W.Frag} {mg : Str → Option Value} {base : Heap}
theorem law_row_ok (T : Txt K mg) : Cal P w K mg base 2 "_law_row" spRow [] := by
  have c_law_draw := law_draw_ok (P := P) (w := w) (base := base) T
  have sc : FnScope ["_law_purse_here", "_law_parts_here", "_law_most", "_law_row_here", "_law_state", "_law_k", "_law_token", "_law_exits", "_law_each"] ["_law_purse_here", "_law_parts_here", "_law_most"] (defScope s_law_row) := ⟨rfl, rfl, rfl, by decide +kernel, rfl, by decide +kernel, by decide +kernel⟩
  have nd := sc.nd
  refine cal_mk T.g_law_row T.f_law_row sc (fun vs H Q E h => by obtain ⟨_, _, _, _, _, rfl, _⟩ := h; rfl) (fun _ _ _ _ _ _ us hl => match us, hl with | [_, _, _], _ => rfl) (fun cdv A outer s H vs0 Q E hr h => ?_)
  obtain ⟨p, g, a, D, most, rfl, hp, pa, ok, m12, q⟩ := h
  have hu := hu_of hr
  obtain ⟨tk, d, fi, kvs, ha, htk, hd, mv, hfi⟩ := pa
  refine ⟨_, (pss_cons (pset 3 nd (pe_lst pa_nil))
      (pss_cons (pset 4 nd (pe_ix ix_tup (pv 1) pe_int (fun _ _ => rfl)))
      (pss_cons (ps_for PassesOwn.never rfl (pi_range1 rfl T.b_range (pa_cons (C8.pe_c c_law_draw hr (by decide) (by rfl) (pa_cons (pv 0) (pa_cons (pe_op op_add (pv 2) pe_int) pa_nil))) pa_nil)) (pgn 5 nd) (pss_cons (pset 6 nd (pe_ix ix_list (pe_ix ix_tup (pv 1) pe_int (fun _ _ => rfl)) (C8.pe_c c_law_draw hr (by decide) (by rfl) (pa_cons (pv 0) (pa_cons (pe_callB call_len_seq (by rfl) T.b_len (by decide +kernel) (pa_cons (pe_ix ix_tup (pv 1) pe_int (fun _ _ => rfl)) pa_nil)) pa_nil))) (fun _ _ => rfl)))
      (pss_cons (ps_setLc (i := 7) (own := [("_law_each", 8)]) (g := gName 8) rfl nd rfl rfl (sw_true rfl rfl rfl (by decide +kernel)) (pi_list (pe_ix ix_tup (pv 1) pe_int (fun _ _ => rfl))) (blkOk_by (own := [("_law_each", 8)]) (N := ["_law_purse_here", "_law_parts_here", "_law_most", "_law_row_here", "_law_state", "_law_k", "_law_token", "_law_exits", "_law_each"]) (sc := defScope s_law_row) (by decide +kernel)) (fun _ _ _ _ _ => (pgn 8 nd)) (fun _ _ _ _ _ => (pts_one (pt_cmp (pc_din hu (pe_tup (pa_cons (pv 4) (pa_cons (pv 8) pa_nil))) (pe_ix (ix_tupK (K := K)) (pv 1) pe_int (fun _ _ => rfl))) (by rfl)))) (fun _ _ _ _ _ => (pv 8)))
      (C8.pss_cut (ps_if (PW.pt (pw_and (pt_cmpR op_gt (pe_callB call_len_seq (by rfl) T.b_len (by decide +kernel) (pa_cons (pv 7) pa_nil)) pe_int (nomark _)) (pw_and1 (pt_cmpR op_gt (C8.pe_c c_law_draw hr (by decide) (by rfl) (pa_cons (pv 0) (pa_cons pe_int pa_nil))) pe_int (nomark _))))) (pss_one (pset 6 nd (pe_ix ix_list (pv 7) (C8.pe_c c_law_draw hr (by decide) (by rfl) (pa_cons (pv 0) (pa_cons (pe_callB call_len_seq (by rfl) T.b_len (by decide +kernel) (pa_cons (pv 7) pa_nil)) pa_nil))) (fun _ _ => rfl)))) pss_nil)
      (C8.pss_cut (ps_if (pt_cmp (pc_din hu (pe_tup (pa_cons (pv 4) (pa_cons (pv 6) pa_nil))) (pe_ix ix_tup (pv 1) pe_int (fun _ _ => rfl))) (by rfl)) (pss_one (pset 4 nd (pe_dget hu (pe_ix ix_tup (pv 1) pe_int (fun _ _ => rfl)) (pe_tup (pa_cons (pv 4) (pa_cons (pv 6) pa_nil))) (fun _ _ => rfl)))) pss_nil)
      (pss_one (ps_expr (pe_bm PySem.F.plainAttrs_list PySem.F.slot_list_append PySem.F.type_list_append mt_append (pv 3) (pa_cons (pv 6) pa_nil)))))))))
      (pss_one (ps_ret (pe_callTy call_tuple_of (by rfl) T.b_tuple (by decide +kernel) (pa_cons (pv 3) pa_nil))))))), ?_⟩
  refine ⟨Nat.zero_le _, fun rl hrl => ?_⟩
  have prl := hp.pn hrl
  have rlp : rl ∉ [p, g] := by simp [prl.1, prl.2]
  have rln : hid [p, g] H rl = none := by rw [hid_out rlp]; exact hrl
  have t4 := ok.ok.t4
  have t1 := ok.ok.t1
  have e1 := sm_new hrl (o := .lst [])
  have x1 : Ex [p, g] H (upd H rl (.lst [])) := hid_same (L := [p, g]) e1
  have p1 := hp.mono e1
  have r1 := hid_fresh (o := .lst []) hp hrl
  generalize upd H rl (.lst []) = H1 at x1 p1 r1 ⊢
  refine ⟨_, rfl, a, _, _, _, rfl, rfl, SqT.of (hid_at (x1 _ _ ha)), rfl, ?_⟩
  refine ⟨_, rfl, _, rfl, _, _, rfl, rfl, p, g, most + 1, rfl, p1, by omega, by omega, fun r H2 hr2 x2 p2 => ⟨r, rfl, by omega, by omega, ?_⟩⟩
  refine for_it walk_range (fun i σ' H' => (∃ st v v' v'' v3, σ' = [some (.ref p), some (.ref a), some (.int most), some (.ref rl), some (.str st), v, v', v'', v3]) ∧ Ex [p, g] H H' ∧ Pur H' p g ∧ ∃ row : List Str, hid [p, g] H' rl = some (.lst (row.map V.str)) ∧ row.length = i ∧ ∀ x ∈ row, x ∈ D.toks) ⟨⟨_, none, none, none, none, rfl⟩, x1.trans x2, p2, [], x2 _ _ r1, rfl, fun x hx => nomatch hx⟩ (fun _ _ _ _ _ => trivial) ?_ ?_
  · rintro i y σ' H3 H4 hi ⟨⟨st, v, v', v'', v3, rfl⟩, x3, p3, row, r3, rlen, rmem⟩ ⟨rfl, rfl⟩
    have hi12 : i < 13 := by
      have : i < (r : Int).toNat := hi
      omega
    have X3 := x3
    refine ⟨_, rfl, a, _, _, _, rfl, rfl, SqT.of (hid_at (x3 _ _ ha)), rfl, _, rfl, _, rfl, a, _, _, _, rfl, rfl, SqT.of (hid_at (x3 _ _ ha)), rfl, tk, _, rfl, .inl (SqL.of (hid_at (x3 _ _ htk))), p, g, D.toks.length, by rw [List.length_map]; rfl, p3, by omega, by omega, fun r5 H5 hr5 x5 p5 => ?_⟩
    obtain ⟨c, hc⟩ : ∃ c, D.toks[r5]? = some c := ⟨_, List.getElem?_eq_getElem hr5⟩
    have cm := List.mem_of_getElem? hc
    have X5 := x3.trans x5
    refine ⟨tk, _, _, _, rfl, rfl, SqL.of (hid_at (X5 _ _ htk)), chr_at (by rw [List.getElem?_map, hc] <;> rfl), ?_⟩
    have r5' := x5 _ _ r3
    refine ⟨_, rfl, a, _, _, _, rfl, rfl, SqT.of (hid_at (X5 _ _ ha)), rfl, tk, rfl, ⟨_, SqL.of (hid_at (X5 _ _ htk))⟩, fun eD heD => ?_⟩
    have peD := p5.pn heD
    have heDp : eD ∉ [p, g] := by simp [peD.1, peD.2]
    have heDn : hid [p, g] H5 eD = none := by rw [hid_out heDp]; exact heD
    have l5 := X5 _ _ htk
    refine wk_it walk_list (fun i H' => Ex [p, g] H5 H' ∧ Pur H' p g ∧ ∃ zs : List Str, hid [p, g] H' eD = some (.lst (zs.map V.str)) ∧ zs.Sublist (D.toks.take i)) ⟨(Ex.refl _ _).new heD, p5.mono (sm_new heD), [], hid_fresh p5 heD, List.nil_sublist _⟩ (fun i H' _ z => SqL.of (hid_at (z.1 _ _ l5))) ?_ ?_
    · rintro j e H6 H7 hj ⟨x6, p6, zs, d6, z6⟩ ⟨rfl, hx⟩
      obtain ⟨e', he, rfl⟩ := maps_get hx
      refine ⟨rfl, _, rfl, _, rfl, by show 2 ≤ sizeLine; decide, fun b hb => ?_⟩
      have e3 := sm_new hb (o := .tup [.str st, .str e'])
      have x7 := hid_same (L := [p, g]) e3
      have p7 := p6.mono e3
      have d7 := x7 _ _ d6
      have hdg := dg (.inl (hid_at (x7 _ _ (x6 _ _ (X5 _ _ hd))))) (upd_same (H := _) (a := b) (o := .tup [.str st, .str e']))
      rw [mv.val] at hdg
      refine ⟨_, rfl, a, _, _, _, rfl, rfl, SqT.of (hid_at (x7 _ _ (x6 _ _ (X5 _ _ ha)))), rfl, d, _, rfl, hdg, _, rfl, ite2 (fun z => ?_) (fun z => ⟨x6.trans x7, p7, zs, d7, z6.trans (by rw [take_snoc he]; exact List.sublist_append_left _ _)⟩)⟩
      refine ⟨_, rfl, _, hid_at d7, ?_, (x6.trans x7).mut heDp heDn, p7.mut (hid_at d7) strs_head, zs ++ [e'], ?_, ?_⟩
      · have := z6.length_le
        rw [List.length_take] at this
        rw [List.length_map, sizeLine_eq]
        omega
      · rw [hid_updn heDp, upd_same, List.map_append]; rfl
      · rw [take_snoc he]
        exact z6.append (List.Sublist.refl _)
    rintro H6 ⟨x6, p6, zs, d6, z6⟩
    rw [List.length_map, List.take_length] at z6
    have zl := z6.length_le
    have X6 := X5.trans x6
    have r6 := x6 _ _ r5'
    refine ⟨fun σ' H' => (∃ w1 w2 c, σ' = [some (.ref p), some (.ref a), some (.int most), some (.ref rl), some (.str st), w1, some (.str c), some (.ref eD), w2] ∧ c ∈ D.toks) ∧ Ex [p, g] H6 H' ∧ Pur H' p g, ?_, ?_⟩
    · refine ⟨_, rfl, eD, _, rfl, .inl (SqL.of (hid_at d6)), _, _, rfl, rfl, _, rfl, ite2 (fun y => ?_) (fun _ => iteF ⟨⟨_, _, c, rfl, cm⟩, Ex.refl _ _, p6⟩)⟩
      have y := of_decide_eq_true y
      rw [List.length_map] at y
      refine ⟨_, rfl, p, g, 4, rfl, p6, by decide, by decide, fun r7 H7 hr7 x7 p7 => ?_⟩
      refine ⟨_, _, rfl, rfl, _, rfl, ite2 (fun _ => ?_) (fun _ => ⟨⟨_, _, c, rfl, cm⟩, x7, p7⟩)⟩
      refine ⟨_, rfl, _, rfl, _, rfl, eD, _, rfl, .inl (SqL.of (hid_at (x7 _ _ d6))), p, g, zs.length, by rw [List.length_map]; rfl, p7, by omega, by omega, fun r8 H8 hr8 x8 p8 => ?_⟩
      obtain ⟨c2, hc2⟩ : ∃ c, zs[r8]? = some c := ⟨_, List.getElem?_eq_getElem hr8⟩
      exact ⟨eD, _, _, _, rfl, rfl, SqL.of (hid_at (x8 _ _ (x7 _ _ d6))), chr_at (by rw [List.getElem?_map, hc2] <;> rfl), ⟨_, _, c2, rfl, z6.subset (List.mem_of_getElem? hc2)⟩, x7.trans x8, p8⟩
    · rintro σ7 H7 ⟨⟨w1, w2, c, rfl, cm⟩, x7, p7⟩
      have X7 := X6.trans x7
      have r7 := x7 _ _ r6
      refine ⟨fun σ' H' => (∃ st w1 w2, σ' = [some (.ref p), some (.ref a), some (.int most), some (.ref rl), some (.str st), w1, some (.str c), some (.ref eD), w2]) ∧ Ex [p, g] H7 H' ∧ Pur H' p g, ?_, ?_⟩
      · refine ⟨_, rfl, _, rfl, by show 2 ≤ sizeLine; decide, fun b hb => ?_⟩
        have e8 := sm_new hb (o := .tup [.str st, .str c])
        have x8 : Ex [p, g] H7 _ := hid_same (L := [p, g]) e8
        have hdg := dg (.inl (hid_at (x8 _ _ (X7 _ _ hd)))) (upd_same (H := _) (a := b) (o := .tup [.str st, .str c]))
        rw [mv.val] at hdg
        refine ⟨_, rfl, a, _, _, _, rfl, rfl, SqT.of (hid_at (x8 _ _ (X7 _ _ ha))), rfl, d, _, rfl, hdg, _, rfl, ?_⟩
        have a8 := x8 _ _ (X7 _ _ ha)
        have d8 := x8 _ _ (X7 _ _ hd)
        have p8 := p7.mono e8
        generalize upd H7 b (.tup [.str st, .str c]) = H8 at x8 a8 d8 p8 ⊢
        cases hf : D.mv st c with
        | none => exact iteF ⟨⟨_, _, _, rfl⟩, x8, p8⟩
        | some st2 =>
          refine iteT ?_
          refine ⟨_, rfl, a, _, _, _, rfl, rfl, SqT.of (hid_at a8), rfl, _, rfl, _, rfl, by show 2 ≤ sizeLine; decide, fun b2 hb2 => ?_⟩
          have e9 := sm_new hb2 (o := .tup [.str st, .str c])
          have hdg2 := dg (.inl (e9 _ _ (hid_at d8))) (upd_same (H := H8) (a := b2) (o := .tup [.str st, .str c]))
          rw [mv.val, hf] at hdg2
          exact ⟨d, _, rfl, hdg2, ⟨_, _, _, rfl⟩, Ex.trans x8 (hid_same e9), p8.mono e9⟩
      · rintro σ8 H8 ⟨⟨st2, w1, w2, rfl⟩, x8, p8⟩
        have r8 := x8 _ _ r7
        refine ⟨_, rfl, .inl ⟨rfl, _, SqL.of (hid_at r8)⟩, _, rfl, rl, _, _, rfl, rfl, hid_at r8, by rw [List.length_map, sizeLine_eq]; omega, ⟨_, _, _, _, _, rfl⟩, (X7.trans x8).mut rlp rln, p8.mut (hid_at r8) strs_head, row ++ [c], by rw [hid_updn rlp, upd_same, List.map_append]; rfl, by rw [List.length_append, rlen]; rfl, fun x hx => ?_⟩
        rcases List.mem_append.mp hx with y | y
        · exact rmem x y
        · rw [List.mem_singleton.mp y]; exact cm
  · rintro σ' H3 ⟨⟨st, v, v', v'', v3, rfl⟩, x3, p3, row, r3, rlen, rmem⟩
    refine ⟨_, rfl, rl, _, rfl, .inl ⟨SqL.of (hid_at r3), fun tu htu => ?_⟩⟩
    have hl : row.length ≤ most := by
      rw [rlen]
      show (r : Int).toNat ≤ most
      omega
    exact q tu row _ (x3.new htu) (p3.mono (sm_new htu)) (hid_fresh p3 htu) hl rmem
end
end Far

set_option Elab.async false
set_option linter.all false
set_option maxRecDepth 100000
set_option maxHeartbeats 4000000
/-! FarLawC: _law_take -/
namespace Far
open PySem PySem.Spec PyProof.Rows L2 Fz
/-- the law's parts and table, on one heap -/
structure LwAt (H : Hp) (a td : Addr) (D : PD) (h : TF) (sts : List Str) : Prop where
  pa : PaAt H a D
  tb : ∃ tkv tks, H td = some (.dT tkv) ∧ TbK H tkv tks h
  ts : TabS D sts h
  cl : ∀ s t x, D.mv s t = some x → x ∈ sts
  en : ∀ s ∈ sts, ∀ t ∈ D.toks, ends ⟨D.mv, h, 0⟩ t 8 s = true
theorem LwAt.mono {H H' : Hp} {a td : Addr} {D : PD} {h : TF} {sts : List Str} (e : Same H H') (l : LwAt H a td D h sts) : LwAt H' a td D h sts := by
  obtain ⟨pa, ⟨tkv, tks, h1, h2⟩, ts, cl, en⟩ := l
  exact ⟨pa.mono e, ⟨tkv, tks, e _ _ h1, h2.mono e⟩, ts, cl, en⟩
theorem chs_hold (f : Str → Str → Option Str) (h : TF) (n m : Nat) (t s : Str) : ∀ i, chs ⟨f, h, n⟩ t s i = chs ⟨f, h, m⟩ t s i
  | 0 => rfl
  | i + 1 => by
    show (chs ⟨f, h, n⟩ t s i).bind (again ⟨f, h, n⟩ t) = (chs ⟨f, h, m⟩ t s i).bind (again ⟨f, h, m⟩ t)
    rw [chs_hold f h n m t s i]
    rfl
def spLTake : Sp := fun vs H Q _ => ∃ (a td c : Addr) (D : PD) (h : TF) (sts : List Str) (n : Nat) (cf : FCfg Str) (tok : Str), vs = [.ref a, .ref td, .int n, .ref c, .str tok] ∧ LwAt H a td D h sts ∧ CfgAt H c cf ∧ cf.st ∈ sts ∧ tok ∈ D.toks ∧
  ∀ (tu c' : Addr) (H' : Hp), Same H H' → H' tu = some (.tup [.ref c', .int ((step ⟨D.mv, h, n⟩ cf tok).2.1 : Nat), .int ((step ⟨D.mv, h, n⟩ cf tok).2.2 : Nat)]) → CfgAt H' c' (step ⟨D.mv, h, n⟩ cf tok).1 → Q (.ref tu) H'
section
variable {P : Program} {w : World} {K : PySem.W.Frag} {mg : Str → Option Value} {base : Heap}
theorem law_take_ok (T : Txt K mg) : Cal P w K mg base 1 "_law_take" spLTake [] := by
  have sc : FnScope ["_law_parts_here", "_law_table_here", "_law_span", "_law_configuration", "_law_token", "_law_state", "_law_calm", "_law_waiting", "_law_wrong", "_law_looking", "_law_k", "_law_action_here"] ["_law_parts_here", "_law_table_here", "_law_span", "_law_configuration", "_law_token"] (defScope s_law_take) := ⟨rfl, rfl, rfl, by decide +kernel, rfl, by decide +kernel, by decide +kernel⟩
  have nd := sc.nd
  refine cal_mk T.g_law_take T.f_law_take sc (fun vs H Q E h => by obtain ⟨_, _, _, _, _, _, _, _, _, rfl, _⟩ := h; rfl) (fun _ _ _ _ _ _ us hl => match us, hl with | [_, _, _, _, _], _ => rfl) (fun cdv A outer s H vs0 Q E hr h => ?_)
  obtain ⟨a, td, c, D, h, sts, n, cf, tok, rfl, lw, hcf, hst, htok, q⟩ := h
  have hu := hu_of hr
  obtain ⟨cw, hc1, hc2⟩ := hcf
  refine ⟨_, (pss_cons (pset 5 nd (pe_ix ix_tup (pv 3) pe_int (fun _ _ => rfl)))
      (pss_cons (pset 6 nd (pe_callB (call_max2 rfl) (by rfl) T.b_max (by decide +kernel) (pa_cons (pe_op op_sub (pe_ix ix_tup (pv 3) pe_int (fun _ _ => rfl)) pe_int) (pa_cons pe_int pa_nil))))
      (C8.pss_cut (ps_if (PW.pt (pw_and (pt_cmpR op_gt (pe_callB call_len_seq (by rfl) T.b_len (by decide +kernel) (pa_cons (pe_ix ix_tup (pv 3) pe_int (fun _ _ => rfl)) pa_nil)) pe_int (nomark _)) (pw_and1 (pt_cmpR op_notIn_seq (pv 4) (pe_ix ix_tup (pv 3) pe_int (fun _ _ => rfl)) (by rfl))))) (pss_one (ps_ret (pe_tup (pa_cons (pe_tup (pa_cons (pv 5) (pa_cons (pe_ix ix_tup (pv 3) pe_int (fun _ _ => rfl)) (pa_cons (pv 6) pa_nil)))) (pa_cons pe_int (pa_cons pe_int pa_nil)))))) pss_nil)
      (pss_cons (pset 7 nd (pe_tup pa_nil))
      (pss_cons (pset 8 nd pe_int)
      (pss_cons (pset 9 nd pe_bl)
      (pss_cons (ps_for PassesOwn.never rfl (pi_range1 rfl T.b_range (pa_cons pe_int pa_nil)) (pgn 10 nd) (C8.pss_cut (ps_if (PW.pt (pw_and (pt_truth (pv 9) (by intro _; rfl)) (pw_and1 (pt_cmp (pc_din hu (pe_tup (pa_cons (pv 5) (pa_cons (pv 4) pa_nil))) (pe_ix ix_tup (pv 0) pe_int (fun _ _ => rfl))) (by rfl))))) (pss_cons (pset 5 nd (pe_dget hu (pe_ix ix_tup (pv 0) pe_int (fun _ _ => rfl)) (pe_tup (pa_cons (pv 5) (pa_cons (pv 4) pa_nil))) (fun _ _ => rfl)))
      (pss_one (pset 9 nd pe_bl))) pss_nil)
      (pss_one (ps_if (pt_truth (pv 9) (by intro _; rfl)) (pss_cons (pset 11 nd (pe_dget hu (pv 1) (pe_tup (pa_cons (pv 5) (pa_cons (pv 4) pa_nil))) (fun _ _ => rfl)))
      (pss_cons (pset 8 nd (pe_op op_add (pv 8) pe_int))
      (pss_cons (pset 9 nd (pe_or (pe_cmpR op_eq (pe_ix ix_tup (pv 11) pe_int (fun _ _ => rfl)) pe_str (nomark _)) (pe_or (pe_cmpR op_eq (pe_ix ix_tup (pv 11) pe_int (fun _ _ => rfl)) pe_str (nomark _)) (pe_one (pe_and (pe_cmpR op_eq (pe_ix ix_tup (pv 11) pe_int (fun _ _ => rfl)) pe_str (nomark _)) (pe_one (pe_cmpR op_in_seq (pv 4) (pe_ix ix_tup (pv 11) pe_int (fun _ _ => rfl)) (by rfl))))))))
      (pss_cons (ps_if (PW.pt (pw_or (pt_cmpR op_eq (pe_ix ix_tup (pv 11) pe_int (fun _ _ => rfl)) pe_str (nomark _)) (pw_or1 (pt_cmpR op_eq (pe_ix ix_tup (pv 11) pe_int (fun _ _ => rfl)) pe_str (nomark _))))) (pss_one (pset 5 nd (pe_dget hu (pe_ix ix_tup (pv 0) pe_int (fun _ _ => rfl)) (pe_tup (pa_cons (pv 5) (pa_cons (pe_ix ix_tup (pv 11) pe_int (fun _ _ => rfl)) pa_nil))) (fun _ _ => rfl)))) pss_nil)
      (pss_cons (ps_if (pt_cmpR op_eq (pe_ix ix_tup (pv 11) pe_int (fun _ _ => rfl)) pe_str (nomark _)) (pss_one (pset 5 nd (pe_ix ix_tup (pv 11) pe_int (fun _ _ => rfl)))) pss_nil)
      (pss_one (ps_if (pt_cmpR op_eq (pe_ix ix_tup (pv 11) pe_int (fun _ _ => rfl)) pe_str (nomark _)) (pss_cons (pset 5 nd (pe_ix ix_tup (pv 11) pe_int (fun _ _ => rfl)))
      (pss_one (ps_if (pt_cmpR op_notIn_seq (pv 4) (pe_ix ix_tup (pv 11) pe_int (fun _ _ => rfl)) (by rfl)) (pss_one (pset 7 nd (pe_ix ix_tup (pv 11) pe_int (fun _ _ => rfl)))) pss_nil))) pss_nil))))))) pss_nil))))
      (pss_cons (ps_if (PW.pt (pw_and (pt_cmpR op_gt (pv 8) pe_int (nomark _)) (pw_and1 (pt_cmpR op_eq (pe_ix ix_tup (pv 3) pe_int (fun _ _ => rfl)) pe_int (nomark _))))) (pss_one (ps_ret (pe_tup (pa_cons (pe_tup (pa_cons (pv 5) (pa_cons (pv 7) (pa_cons (pv 2) pa_nil)))) (pa_cons pe_int (pa_cons (pv 8) pa_nil)))))) pss_nil)
      (pss_one (ps_ret (pe_tup (pa_cons (pe_tup (pa_cons (pv 5) (pa_cons (pv 7) (pa_cons (pv 6) pa_nil)))) (pa_cons pe_int (pa_cons (pv 8) pa_nil)))))))))))))), ?_⟩
  have hcalm : (if (0 : Int) > (cf.q : Int) - 1 then (0 : Int) else (cf.q : Int) - 1) = ((cf.q - 1 : Nat) : Int) := by
    split <;> omega
  refine ⟨_, rfl, c, _, _, _, rfl, rfl, SqT.of hc1, rfl, ?_⟩
  refine ⟨_, rfl, c, _, _, _, rfl, rfl, SqT.of hc1, rfl, _, _, rfl, rfl, _, _, rfl, ?_⟩
  rw [hcalm]
  show tSeq _ _ _ [some (.ref a), some (.ref td), some (.int n), some (.ref c), some (.str tok), some (.str cf.st), some (.int ((cf.q - 1 : Nat) : Int)), none, none, none, none, none] H
  refine ⟨fun σ' H' => σ' = [some (.ref a), some (.ref td), some (.int n), some (.ref c), some (.str tok), some (.str cf.st), some (.int ((cf.q - 1 : Nat) : Int)), none, none, none, none, none] ∧ H' = H ∧ ¬ (cf.wt ≠ [] ∧ tok ∉ cf.wt), ?_, ?_⟩
  · refine ⟨_, rfl, c, _, _, _, rfl, rfl, SqT.of hc1, rfl, cw, _, rfl, .inr (SqT.of hc2), _, _, rfl, rfl, _, rfl, ite2 (fun y => ⟨_, rfl, _, rfl, c, _, _, _, rfl, rfl, SqT.of hc1, rfl, cw, _, rfl, .inr (SqT.of hc2), rfl, flat_strs _, _, rfl, ?_⟩) (fun y => iteF ⟨rfl, rfl, fun z => y (decide_eq_true ?_)⟩)⟩
    · show (if (!inV (.str tok) (cf.wt.map V.str)) = true then _ else _)
      rw [inV_strs]
      by_cases hin : tok ∈ cf.wt
      · rw [decide_eq_true hin]
        exact iteF ⟨rfl, rfl, fun z => z.2 hin⟩
      · rw [decide_eq_false hin]
        refine iteT ?_
        have hne : cf.wt ≠ [] := fun z => by
          have y' := of_decide_eq_true y
          rw [List.length_map, z] at y'
          exact absurd y' (by decide)
        have hstep : step ⟨D.mv, h, n⟩ cf tok = (⟨cf.st, cf.wt, cf.q - 1⟩, 0, 1) := by unfold Fz.step; rw [if_pos ⟨hne, hin⟩]
        refine ⟨_, rfl, _, rfl, c, _, _, _, rfl, rfl, SqT.of hc1, rfl, _, rfl, by show 3 ≤ sizeLine; decide, fun b1 hb1 => ⟨by show 3 ≤ sizeLine; decide, fun b2 hb2 => ?_⟩⟩
        have e1 := sm_new hb1 (o := .tup [.str cf.st, .ref cw, .int ((cf.q - 1 : Nat) : Int)])
        have e2 := sm_new hb2 (o := .tup [.ref b1, .int 0, .int 1])
        refine q b2 b1 _ (e1.trans e2) (by rw [hstep]; exact upd_same) (by rw [hstep]; exact ⟨cw, e2 _ _ upd_same, e2 _ _ (e1 _ _ hc2)⟩)
    · rw [List.length_map]
      have := List.length_pos_iff.mpr z.1
      omega
  rintro σ1 H1 ⟨rfl, rfl, hno⟩
  refine ⟨Nat.zero_le _, fun we hwe => ?_⟩
  have e1 := sm_new hwe (o := .tup [])
  have w1 := upd_same (H := H1) (a := we) (o := .tup [])
  generalize upd H1 we (.tup []) = H2 at e1 w1 ⊢
  have lw2 := lw.mono e1
  have en : ends ⟨D.mv, h, n⟩ tok 8 cf.st = true := ends_less (R := ⟨D.mv, h, 0⟩) (fun s => .inr rfl) 8 cf.st (lw.en _ hst _ htok)
  show tSeq _ _ _ [some (.ref a), some (.ref td), some (.int n), some (.ref c), some (.str tok), some (.str cf.st), some (.int ((cf.q - 1 : Nat) : Int)), some (.ref we), none, none, none, none] H2
  refine ⟨8, rfl, by decide, by decide, for_it walk_range (fun i σ' H' => Same H2 H' ∧ ∃ (s : Str) (wa : Addr) (ws : List Str) (m : Nat) (lk : Bool) (v v' : Option V), σ' = [some (.ref a), some (.ref td), some (.int n), some (.ref c), some (.str tok), some (.str s), some (.int ((cf.q - 1 : Nat) : Int)), some (.ref wa), some (.int m), some (.bl lk), v, v'] ∧ H' wa = some (.tup (ws.map V.str)) ∧
    ((lk = true ∧ chs ⟨D.mv, h, n⟩ tok cf.st i = some s ∧ m = i ∧ ws = []) ∨ (lk = false ∧ look ⟨D.mv, h, n⟩ tok 8 cf.st = (s, ws, m)))) ⟨Same.refl _, _, we, [], 0, true, none, none, rfl, w1, .inl ⟨rfl, rfl, rfl, rfl⟩⟩ (fun _ _ _ _ _ => trivial) ?_ ?_⟩
  · rintro i y σ' _ H3 hi ⟨e3, s, wa, ws, m, lk, v, v', rfl, hwa, hcase⟩ ⟨rfl, rfl⟩
    have lw3 := lw2.mono e3
    obtain ⟨⟨tk, d, fi, kvs, ha, htk, hd, mv, hfi⟩, ⟨tkv, tks, htd, tb⟩, ts, cl, en0⟩ := lw3
    refine ⟨fun σ' H' => Same H3 H' ∧ ∃ (s' : Str) (lk' : Bool) (v : Option V), σ' = [some (.ref a), some (.ref td), some (.int n), some (.ref c), some (.str tok), some (.str s'), some (.int ((cf.q - 1 : Nat) : Int)), some (.ref wa), some (.int m), some (.bl lk'), v, v'] ∧ ((lk' = true ∧ D.mv s tok = none ∧ s' = s ∧ chs ⟨D.mv, h, n⟩ tok cf.st i = some s ∧ m = i ∧ ws = []) ∨ (lk' = false ∧ look ⟨D.mv, h, n⟩ tok 8 cf.st = (s', ws, m))), ?_, ?_⟩
    · refine ⟨_, rfl, lk, rfl, ?_⟩
      rcases hcase with ⟨rfl, hch, rfl, rfl⟩ | ⟨rfl, hlook⟩
      · refine iteT ?_
        refine ⟨_, rfl, _, rfl, by show 2 ≤ sizeLine; decide, fun b hb => ?_⟩
        have e4 := sm_new hb (o := .tup [.str s, .str tok])
        have hdg := dg (.inl (e4 _ _ hd)) (upd_same (H := H3) (a := b) (o := .tup [.str s, .str tok]))
        rw [mv.val] at hdg
        refine ⟨_, rfl, a, _, _, _, rfl, rfl, SqT.of (e4 _ _ ha), rfl, d, _, rfl, hdg, _, rfl, ?_⟩
        cases hf : D.mv s tok with
        | none => exact iteF ⟨e4, s, true, _, rfl, .inl ⟨rfl, rfl, rfl, hch, rfl, rfl⟩⟩
        | some s1 =>
          refine iteT ⟨_, rfl, a, _, _, _, rfl, rfl, SqT.of (e4 _ _ ha), rfl, _, rfl, _, rfl, by show 2 ≤ sizeLine; decide, fun b2 hb2 => ?_⟩
          have e5 := sm_new hb2 (o := .tup [.str s, .str tok])
          have hdg2 := dg (.inl (e5 _ _ (e4 _ _ hd))) (upd_same (H := _) (a := b2) (o := .tup [.str s, .str tok]))
          rw [mv.val, hf] at hdg2
          refine ⟨d, _, rfl, hdg2, e4.trans e5, s1, false, _, rfl, .inr ⟨rfl, ?_⟩⟩
          obtain ⟨en1, hl⟩ := look_chs en m s hch
          have hm' : (⟨D.mv, h, n⟩ : FRd Str).mv s tok = some s1 := hf
          have hag : again ⟨D.mv, h, n⟩ tok s = none := by unfold Fz.again; rw [hm']
          rw [hl, look_none en1 hag]
          unfold lastStep
          rw [hm', Nat.zero_add]
      · exact iteF (iteF ⟨Same.refl _, s, false, _, rfl, .inr ⟨rfl, hlook⟩⟩)
    · rintro σ4 H4 ⟨e4, s', lk', v, rfl, hc4⟩
      rcases hc4 with ⟨rfl, hmv, rfl, hch, rfl, rfl⟩ | ⟨rfl, hlook⟩
      · refine ⟨_, rfl, true, rfl, iteT ?_⟩
        refine ⟨_, rfl, _, rfl, _, rfl, by show 2 ≤ sizeLine; decide, fun b hb => ?_⟩
        have e5 := sm_new hb (o := .tup [.str s', .str tok])
        have hdg := dg (.inl (e5 _ _ (e4 _ _ htd))) (upd_same (H := H4) (a := b) (o := .tup [.str s', .str tok]))
        have hs' : s' ∈ sts := chs_in (h := h) ts cl hst m s' (by rw [← hch]; exact chs_hold D.mv h 0 n tok cf.st m)
        obtain ⟨c1, hc1'⟩ := Option.isSome_iff_exists.mp ((ts.dom s' tok).mpr ⟨hs', htok, hmv⟩)
        obtain ⟨aa, hva, haa⟩ := tb.val _ _ _ hc1'
        rw [hva] at hdg
        refine ⟨td, _, rfl, hdg, _, rfl, _, _, rfl, rfl, ?_⟩
        have haa5 : ActAt _ aa c1 := haa.mono (e4.trans e5)
        have hd5 := e5 _ _ (e4 _ _ hd)
        have ha5 := e5 _ _ (e4 _ _ ha)
        have hwa5 := e5 _ _ (e4 _ _ hwa)
        have E5 : Same H2 _ := (e3.trans e4).trans e5
        have hg0 : Fz.again ⟨D.mv, h, n⟩ tok s' = nextOf D.mv s' tok c1 := again_tb (R := ⟨D.mv, h, n⟩) hmv hc1'
        have hmv' : (⟨D.mv, h, n⟩ : FRd Str).mv s' tok = none := hmv
        have htb' : (⟨D.mv, h, n⟩ : FRd Str).tb s' tok = some c1 := hc1'
        obtain ⟨en1, hlk⟩ := look_chs en m s' hch
        generalize upd H4 b (.tup [.str s', .str tok]) = H5 at haa5 hd5 ha5 hwa5 E5 ⊢
        cases c1 with
        | skip =>
          have h1 : H5 aa = some (.tup [.str "skip"]) := haa5
          have hl : look ⟨D.mv, h, n⟩ tok 8 cf.st = (s', [], m + 1) := by
            rw [hlk, look_none en1 hg0]
            unfold lastStep
            rw [hmv', htb']
            show (s', ([] : List Str), 1 + m) = _
            rw [Nat.add_comm]
          refine ⟨_, rfl, aa, _, _, _, rfl, rfl, SqT.of h1, rfl, rfl, _, rfl, wF (by decide) ?_⟩
          refine ⟨_, rfl, aa, _, _, _, rfl, rfl, SqT.of h1, rfl, rfl, _, rfl, wF (by decide) ?_⟩
          refine ⟨_, rfl, aa, _, _, _, rfl, rfl, SqT.of h1, rfl, rfl, _, rfl, wF (by decide) ?_⟩
          refine ⟨_, rfl, aa, _, _, _, rfl, rfl, SqT.of h1, rfl, rfl, _, rfl, wF (by decide) ?_⟩
          refine ⟨_, rfl, aa, _, _, _, rfl, rfl, SqT.of h1, rfl, rfl, _, rfl, wF (by decide) ?_⟩
          refine ⟨_, rfl, aa, _, _, _, rfl, rfl, SqT.of h1, rfl, rfl, _, rfl, wF (by decide) ?_⟩
          refine ⟨_, rfl, aa, _, _, _, rfl, rfl, SqT.of h1, rfl, rfl, _, rfl, wF (by decide) ?_⟩
          exact ⟨E5, s', wa, [], m + 1, false, _, _, rfl, hwa5, .inr ⟨rfl, hl⟩⟩
        | take x =>
          have h1 : H5 aa = some (.tup [.str "take", .str x]) := haa5
          obtain ⟨s2, hs2⟩ := ((ts.act _ _ _ hc1').pt x (.inr rfl)).2
          have hs2' : (⟨D.mv, h, n⟩ : FRd Str).mv s' x = some s2 := hs2
          have hl : look ⟨D.mv, h, n⟩ tok 8 cf.st = (s2, [], m + 1) := by
            rw [hlk, look_none en1 hg0]
            unfold lastStep
            rw [hmv', htb']
            show ((((⟨D.mv, h, n⟩ : FRd Str).mv s' x).getD s'), ([] : List Str), 1 + m) = _
            rw [hs2', Nat.add_comm]
            rfl
          refine ⟨_, rfl, aa, _, _, _, rfl, rfl, SqT.of h1, rfl, rfl, _, rfl, wF (by decide) ?_⟩
          refine ⟨_, rfl, aa, _, _, _, rfl, rfl, SqT.of h1, rfl, rfl, _, rfl, wF (by decide) ?_⟩
          refine ⟨_, rfl, aa, _, _, _, rfl, rfl, SqT.of h1, rfl, rfl, _, rfl, wF (by decide) ?_⟩
          refine ⟨_, rfl, aa, _, _, _, rfl, rfl, SqT.of h1, rfl, rfl, _, rfl, wF (by decide) ?_⟩
          refine ⟨_, rfl, aa, _, _, _, rfl, rfl, SqT.of h1, rfl, rfl, _, rfl, wT ?_⟩
          refine ⟨_, rfl, a, _, _, _, rfl, rfl, SqT.of ha5, rfl, _, rfl, _, rfl, aa, _, _, _, rfl, rfl, SqT.of h1, rfl, by show 2 ≤ sizeLine; decide, fun b2 hb2 => ?_⟩
          have e6 := sm_new hb2 (o := .tup [.str s', .str x])
          have hdg2 := dg (.inl (e6 _ _ hd5)) (upd_same (H := H5) (a := b2) (o := .tup [.str s', .str x]))
          rw [mv.val, hs2] at hdg2
          have h1 := e6 _ _ h1
          refine ⟨d, _, rfl, hdg2, ?_⟩
          refine ⟨_, rfl, aa, _, _, _, rfl, rfl, SqT.of h1, rfl, rfl, _, rfl, wF (by decide) ?_⟩
          refine ⟨_, rfl, aa, _, _, _, rfl, rfl, SqT.of h1, rfl, rfl, _, rfl, wF (by decide) ?_⟩
          exact ⟨E5.trans e6, s2, wa, [], m + 1, false, _, _, rfl, e6 _ _ hwa5, .inr ⟨rfl, hl⟩⟩
        | put x =>
          have h1 : H5 aa = some (.tup [.str "put", .str x]) := haa5
          obtain ⟨s2, hs2⟩ := ((ts.act _ _ _ hc1').pt x (.inl rfl)).2
          have hg9 : nextOf D.mv s' tok (.put x) = some s2 := hs2
          have hchs : chs ⟨D.mv, h, n⟩ tok cf.st (m + 1) = some s2 := by
            show (chs ⟨D.mv, h, n⟩ tok cf.st m).bind (again ⟨D.mv, h, n⟩ tok) = some s2
            rw [hch]
            exact hg0.trans hg9
          refine ⟨_, rfl, aa, _, _, _, rfl, rfl, SqT.of h1, rfl, rfl, _, rfl, wT ?_⟩
          refine ⟨_, rfl, aa, _, _, _, rfl, rfl, SqT.of h1, rfl, rfl, _, rfl, wT ?_⟩
          refine ⟨_, rfl, a, _, _, _, rfl, rfl, SqT.of ha5, rfl, _, rfl, _, rfl, aa, _, _, _, rfl, rfl, SqT.of h1, rfl, by show 2 ≤ sizeLine; decide, fun b2 hb2 => ?_⟩
          have e6 := sm_new hb2 (o := .tup [.str s', .str x])
          have hdg2 := dg (.inl (e6 _ _ hd5)) (upd_same (H := H5) (a := b2) (o := .tup [.str s', .str x]))
          rw [mv.val, hs2] at hdg2
          have h1 := e6 _ _ h1
          refine ⟨d, _, rfl, hdg2, ?_⟩
          refine ⟨_, rfl, aa, _, _, _, rfl, rfl, SqT.of h1, rfl, rfl, _, rfl, wF (by decide) ?_⟩
          refine ⟨_, rfl, aa, _, _, _, rfl, rfl, SqT.of h1, rfl, rfl, _, rfl, wF (by decide) ?_⟩
          exact ⟨E5.trans e6, s2, wa, [], m + 1, true, _, _, rfl, e6 _ _ hwa5, .inl ⟨rfl, hchs, rfl, rfl⟩⟩
        | jump s2 =>
          have h1 : H5 aa = some (.tup [.str "jump", .str s2]) := haa5
          have hchs : chs ⟨D.mv, h, n⟩ tok cf.st (m + 1) = some s2 := by
            show (chs ⟨D.mv, h, n⟩ tok cf.st m).bind (again ⟨D.mv, h, n⟩ tok) = some s2
            rw [hch]
            exact hg0
          refine ⟨_, rfl, aa, _, _, _, rfl, rfl, SqT.of h1, rfl, rfl, _, rfl, wF (by decide) ?_⟩
          refine ⟨_, rfl, aa, _, _, _, rfl, rfl, SqT.of h1, rfl, rfl, _, rfl, wT ?_⟩
          refine ⟨_, rfl, aa, _, _, _, rfl, rfl, SqT.of h1, rfl, rfl, _, rfl, wF (by decide) ?_⟩
          refine ⟨_, rfl, aa, _, _, _, rfl, rfl, SqT.of h1, rfl, rfl, _, rfl, wF (by decide) ?_⟩
          refine ⟨_, rfl, aa, _, _, _, rfl, rfl, SqT.of h1, rfl, rfl, _, rfl, wT ?_⟩
          refine ⟨_, rfl, aa, _, _, _, rfl, rfl, SqT.of h1, rfl, ?_⟩
          refine ⟨_, rfl, aa, _, _, _, rfl, rfl, SqT.of h1, rfl, rfl, _, rfl, wF (by decide) ?_⟩
          exact ⟨E5, s2, wa, [], m + 1, true, _, _, rfl, hwa5, .inl ⟨rfl, hchs, rfl, rfl⟩⟩
        | pass ps s2 =>
          obtain ⟨bt, h1, h2⟩ := haa5
          refine ⟨_, rfl, aa, _, _, _, rfl, rfl, SqT.of h1, rfl, rfl, _, rfl, wF (by decide) ?_⟩
          refine ⟨_, rfl, aa, _, _, _, rfl, rfl, SqT.of h1, rfl, rfl, _, rfl, wF (by decide) ?_⟩
          refine ⟨_, rfl, aa, _, _, _, rfl, rfl, SqT.of h1, rfl, rfl, _, rfl, wT ?_⟩
          refine ⟨_, rfl, _, rfl, aa, _, _, _, rfl, rfl, SqT.of h1, rfl, bt, _, rfl, .inr (SqT.of h2), rfl, flat_strs _, ?_⟩
          refine ⟨_, rfl, aa, _, _, _, rfl, rfl, SqT.of h1, rfl, rfl, _, rfl, wF (by decide) ?_⟩
          refine ⟨_, rfl, aa, _, _, _, rfl, rfl, SqT.of h1, rfl, rfl, _, rfl, wF (by decide) ?_⟩
          refine ⟨_, rfl, aa, _, _, _, rfl, rfl, SqT.of h1, rfl, rfl, _, rfl, wF (by decide) ?_⟩
          refine ⟨_, rfl, aa, _, _, _, rfl, rfl, SqT.of h1, rfl, rfl, _, rfl, wT ?_⟩
          refine ⟨_, rfl, aa, _, _, _, rfl, rfl, SqT.of h1, rfl, ?_⟩
          refine ⟨_, rfl, _, rfl, aa, _, _, _, rfl, rfl, SqT.of h1, rfl, bt, _, rfl, .inr (SqT.of h2), rfl, flat_strs _, _, rfl, ?_⟩
          show (if (!inV (.str tok) (ps.map V.str)) = true then _ else _)
          rw [inV_strs]
          have hg1 : Fz.again ⟨D.mv, h, n⟩ tok s' = if tok ∈ ps then some s2 else none := hg0
          by_cases hin : tok ∈ ps
          · rw [if_pos hin] at hg1
            have hchs : chs ⟨D.mv, h, n⟩ tok cf.st (m + 1) = some s2 := by
              show (chs ⟨D.mv, h, n⟩ tok cf.st m).bind (again ⟨D.mv, h, n⟩ tok) = some s2
              rw [hch]
              exact hg1
            rw [decide_eq_true hin]
            exact iteF ⟨E5, s2, wa, [], m + 1, true, _, _, rfl, hwa5, .inl ⟨rfl, hchs, rfl, rfl⟩⟩
          · rw [if_neg hin] at hg1
            have hl : look ⟨D.mv, h, n⟩ tok 8 cf.st = (s2, ps, m + 1) := by
              rw [hlk, look_none en1 hg1]
              unfold lastStep
              rw [hmv', htb']
              show (_, _, 1 + m) = _
              rw [Nat.add_comm]
            rw [decide_eq_false hin]
            refine iteT ⟨_, rfl, aa, _, _, _, rfl, rfl, SqT.of h1, rfl, ?_⟩
            exact ⟨E5, s2, bt, ps, m + 1, false, _, _, rfl, h2, .inr ⟨rfl, hl⟩⟩
      · exact ⟨_, rfl, false, rfl, iteF ⟨e3.trans e4, s', wa, ws, m, false, _, _, rfl, e4 _ _ hwa, .inr ⟨rfl, hlook⟩⟩⟩
  · rintro σ' H3 ⟨e3, s, wa, ws, m, lk, v, v', rfl, hwa, hcase⟩
    have e8 : (8 : Int).toNat = 8 := rfl
    rw [e8] at hcase
    have hlook : look ⟨D.mv, h, n⟩ tok 8 cf.st = (s, ws, m) := by
      rcases hcase with ⟨_, hch, _⟩ | ⟨_, hl⟩
      · rw [ends_chs, hch] at en
        cases en
      · exact hl
    have hc3 := e3 _ _ (e1 _ _ hc1)
    have fin : ∀ (k : Nat) (a1 a2 : Addr), H3 a1 = none → (upd H3 a1 (.tup [.str s, .ref wa, .int k])) a2 = none → CfgAt (upd (upd H3 a1 (.tup [.str s, .ref wa, .int k])) a2 (.tup [.ref a1, .int ((Fz.step ⟨D.mv, h, n⟩ cf tok).2.1 : Nat), .int m])) a1 ⟨s, ws, k⟩ ∧ Same H3 (upd (upd H3 a1 (.tup [.str s, .ref wa, .int k])) a2 (.tup [.ref a1, .int ((Fz.step ⟨D.mv, h, n⟩ cf tok).2.1 : Nat), .int m])) := fun k a1 a2 q1 q2 =>
      ⟨⟨wa, sm_new q2 _ _ upd_same, sm_new q2 _ _ (sm_new q1 _ _ hwa)⟩, (sm_new q1).trans (sm_new q2)⟩
    by_cases hyes : 0 < m ∧ cf.q = 0
    · have hstep : Fz.step ⟨D.mv, h, n⟩ cf tok = (⟨s, ws, n⟩, 1, m) := by
        unfold Fz.step
        rw [if_neg hno, hlook, if_pos hyes]
      refine ⟨_, rfl, _, _, rfl, rfl, _, rfl, ite2 (fun _ => ⟨_, rfl, c, _, _, _, rfl, rfl, SqT.of hc3, rfl, rfl, _, rfl, ite2 (fun _ => ?_) (fun z => absurd ?_ z)⟩) (fun z => absurd ?_ z)⟩
      · refine ⟨_, rfl, _, rfl, _, rfl, by show 3 ≤ sizeLine; decide, fun b1 hb1 => ⟨_, rfl, by show 3 ≤ sizeLine; decide, fun b2 hb2 => ?_⟩⟩
        obtain ⟨f1, f2⟩ := fin n b1 b2 hb1 hb2
        rw [hstep] at f1 f2 q
        exact q b2 b1 _ ((e1.trans e3).trans f2) upd_same f1
      · rw [hyes.2]; decide
      · exact decide_eq_true (by omega)
    · have hstep : Fz.step ⟨D.mv, h, n⟩ cf tok = (⟨s, ws, cf.q - 1⟩, 0, m) := by
        unfold Fz.step
        rw [if_neg hno, hlook, if_neg hyes]
      refine (fun key => ⟨_, rfl, _, _, rfl, rfl, _, rfl, ite2 (fun y1 => ⟨_, rfl, c, _, _, _, rfl, rfl, SqT.of hc3, rfl, rfl, _, rfl, ite2 (fun y2 => absurd (show 0 < m ∧ cf.q = 0 from ⟨(by have := of_decide_eq_true y1; omega), (by have z2 := of_decide_eq_true y2; injection z2 with z2; omega)⟩) hyes) (fun _ => key)⟩) (fun _ => iteF key)⟩) ?_
      refine ⟨_, rfl, _, rfl, _, rfl, by show 3 ≤ sizeLine; decide, fun b1 hb1 => ⟨_, rfl, by show 3 ≤ sizeLine; decide, fun b2 hb2 => ?_⟩⟩
      obtain ⟨f1, f2⟩ := fin (cf.q - 1) b1 b2 hb1 hb2
      rw [hstep] at f1 f2 q
      exact q b2 b1 _ ((e1.trans e3).trans f2) upd_same f1
end
end Far

set_option Elab.async false
set_option linter.all false
set_option maxRecDepth 100000
set_option maxHeartbeats 4000000
/-! FarLawD: _law_over -/
namespace Far
open PySem PySem.Spec PyProof.Rows L2 Fz
/-- a place of the law's own reading: (configuration, told, mends) -/
def PlAt (H : Hp) (a : Addr) (p : FP Str) : Prop := ∃ c, H a = some (.tup [.ref c, .int (p.2.1 : Nat), .int (p.2.2 : Nat)]) ∧ CfgAt H c p.1
theorem PlAt.mono {H H' : Hp} {a : Addr} {p : FP Str} (e : Same H H') (h : PlAt H a p) : PlAt H' a p := by
  obtain ⟨c, h1, h2⟩ := h
  exact ⟨c, e _ _ h1, h2.mono e⟩
theorem LwAt.step {H : Hp} {a td : Addr} {D : PD} {h : TF} {sts : List Str} (l : LwAt H a td D h sts) {n : Nat} {c : FCfg Str} {t : Str} (hc : c.st ∈ sts) (ht : t ∈ D.toks) : (Fz.step ⟨D.mv, h, n⟩ c t).1.st ∈ sts := by
  have lk : ∀ k s, s ∈ sts → (look ⟨D.mv, h, n⟩ t k s).1 ∈ sts := by
    intro k
    induction k with
    | zero => exact fun s hs => hs
    | succ k ih =>
      intro s hs
      unfold look
      cases e : again ⟨D.mv, h, n⟩ t s with
      | some s' => exact ih s' (again_in l.ts l.cl e)
      | none =>
        show (lastStep ⟨D.mv, h, n⟩ t s).1 ∈ sts
        cases hm : D.mv s t with
        | some x =>
          have z : (⟨D.mv, h, n⟩ : FRd Str).mv s t = some x := hm
          unfold lastStep
          rw [z]
          exact l.cl _ _ _ hm
        | none =>
          have z : (⟨D.mv, h, n⟩ : FRd Str).mv s t = none := hm
          obtain ⟨c1, hc1⟩ := Option.isSome_iff_exists.mp ((l.ts.dom s t).mpr ⟨hs, ht, hm⟩)
          have z2 : (⟨D.mv, h, n⟩ : FRd Str).tb s t = some c1 := hc1
          unfold lastStep
          rw [z, z2]
          cases c1 with
          | skip => exact hs
          | put x => exact hs
          | jump x => exact hs
          | take x =>
            obtain ⟨s2, hs2⟩ := ((l.ts.act _ _ _ hc1).pt x (.inr rfl)).2
            have z3 : (⟨D.mv, h, n⟩ : FRd Str).mv s x = some s2 := hs2
            show ((⟨D.mv, h, n⟩ : FRd Str).mv s x).getD s ∈ sts
            rw [z3]
            exact l.cl _ _ _ hs2
          | pass ps s2 => exact ((l.ts.act _ _ _ hc1).ps _ _ rfl).1
  unfold Fz.step
  split
  · exact hc
  · split
    · exact lk 8 _ hc
    · exact lk 8 _ hc
def spOver : Sp := fun vs H Q _ => ∃ (a td pl rw' : Addr) (D : PD) (h : TF) (sts : List Str) (n : Nat) (p : FP Str) (row : List Str), vs = [.ref a, .ref td, .int n, .ref pl, .ref rw'] ∧ LwAt H a td D h sts ∧ PlAt H pl p ∧ p.1.st ∈ sts ∧ H rw' = some (.tup (row.map .str)) ∧ (∀ x ∈ row, x ∈ D.toks) ∧
  ∀ (pl' : Addr) (H' : Hp), Same H H' → PlAt H' pl' (ov ⟨D.mv, h, n⟩ p row) → (ov ⟨D.mv, h, n⟩ p row).1.st ∈ sts → Q (.ref pl') H'
section
variable {P : Program} {w : World} {K : PySem.W.Frag} {mg : Str → Option Value} {base : Heap}
theorem law_over_ok (T : Txt K mg) : Cal P w K mg base 2 "_law_over" spOver [] := by
  have c_law_take := law_take_ok (P := P) (w := w) (base := base) T
  have sc : FnScope ["_law_parts_here", "_law_table_here", "_law_span", "_law_place", "_law_row_here", "_law_configuration", "_law_many", "_law_token", "_law_taken"] ["_law_parts_here", "_law_table_here", "_law_span", "_law_place", "_law_row_here"] (defScope s_law_over) := ⟨rfl, rfl, rfl, by decide +kernel, rfl, by decide +kernel, by decide +kernel⟩
  have nd := sc.nd
  refine cal_mk T.g_law_over T.f_law_over sc (fun vs H Q E h => by obtain ⟨_, _, _, _, _, _, _, _, _, _, rfl, _⟩ := h; rfl) (fun _ _ _ _ _ _ us hl => match us, hl with | [_, _, _, _, _], _ => rfl) (fun cdv A outer s H vs0 Q E hr h => ?_)
  obtain ⟨a, td, pl, rw', D, h, sts, n, pp, row, rfl, lw, hpl, hst, hrw, hrow, q⟩ := h
  have hu := hu_of hr
  obtain ⟨c, h1, h2⟩ := hpl
  refine ⟨_, (pss_cons (pset 5 nd (pe_ix ix_tup (pv 3) pe_int (fun _ _ => rfl)))
      (pss_cons (pset 6 nd (pe_lst (pa_cons (pe_ix ix_tup (pv 3) pe_int (fun _ _ => rfl)) (pa_cons (pe_ix ix_tup (pv 3) pe_int (fun _ _ => rfl)) pa_nil))))
      (pss_cons (ps_for PassesOwn.never rfl (pi_tup (pv 4)) (pgn 7 nd) (pss_cons (pset 8 nd (C8.pe_c c_law_take hr (by decide) (by rfl) (pa_cons (pv 0) (pa_cons (pv 1) (pa_cons (pv 2) (pa_cons (pv 5) (pa_cons (pv 7) pa_nil)))))))
      (pss_cons (pset 5 nd (pe_ix ix_tup (pv 8) pe_int (fun _ _ => rfl)))
      (pss_one (pset 6 nd (pe_lst (pa_cons (pe_op op_add (pe_ix ix_list (pv 6) pe_int (fun _ _ => rfl)) (pe_ix ix_tup (pv 8) pe_int (fun _ _ => rfl))) (pa_cons (pe_op op_add (pe_ix ix_list (pv 6) pe_int (fun _ _ => rfl)) (pe_ix ix_tup (pv 8) pe_int (fun _ _ => rfl))) pa_nil))))))))
      (pss_one (ps_ret (pe_tup (pa_cons (pv 5) (pa_cons (pe_ix ix_list (pv 6) pe_int (fun _ _ => rfl)) (pa_cons (pe_ix ix_list (pv 6) pe_int (fun _ _ => rfl)) pa_nil))))))))), ?_⟩
  refine ⟨_, rfl, pl, _, _, _, rfl, rfl, SqT.of h1, rfl, ?_⟩
  refine ⟨_, rfl, pl, _, _, _, rfl, rfl, SqT.of h1, rfl, _, rfl, pl, _, _, _, rfl, rfl, SqT.of h1, rfl, by show 2 ≤ sizeLine; decide, fun l hl => ?_⟩
  have e1 := sm_new hl (o := .lst [.int (pp.2.1 : Nat), .int (pp.2.2 : Nat)])
  have l1 := upd_same (H := H) (a := l) (o := .lst [.int (pp.2.1 : Nat), .int (pp.2.2 : Nat)])
  generalize upd H l (.lst [.int (pp.2.1 : Nat), .int (pp.2.2 : Nat)]) = H1 at e1 l1 ⊢
  refine ⟨_, rfl, rw', rfl, ⟨_, SqT.of (e1 _ _ hrw)⟩, ?_⟩
  refine for_it walk_tup (fun i σ' H' => Same H H' ∧ ∃ (c' l' : Addr) (v v' : Option V) (r : FP Str), σ' = [some (.ref a), some (.ref td), some (.int n), some (.ref pl), some (.ref rw'), some (.ref c'), some (.ref l'), v, v'] ∧ r = ov ⟨D.mv, h, n⟩ pp (row.take i) ∧ CfgAt H' c' r.1 ∧ H' l' = some (.lst [.int (r.2.1 : Nat), .int (r.2.2 : Nat)]) ∧ r.1.st ∈ sts) ⟨e1, c, l, none, none, pp, rfl, rfl, h2.mono e1, l1, hst⟩ (fun i σ' H' _ z => SqT.of (z.1 _ _ hrw)) ?_ ?_
  · rintro i y σ' _ H3 hi ⟨e3, c', l', v, v', r, rfl, hr3, hc3, hl3, hs3⟩ ⟨rfl, hy⟩
    obtain ⟨t, ht, rfl⟩ := maps_get hy
    refine ⟨_, rfl, _, rfl, _, rfl, _, rfl, _, rfl, a, td, c', D, h, sts, n, r.1, t, rfl, lw.mono e3, hc3, hs3, hrow _ (List.mem_of_getElem? ht), fun tu c4 H4 e4 h4 hc4 => ?_⟩
    refine ⟨_, rfl, tu, _, _, _, rfl, rfl, SqT.of h4, rfl, ?_⟩
    refine ⟨_, rfl, l', _, _, _, rfl, rfl, SqL.of (e4 _ _ hl3), rfl, _, rfl, tu, _, _, _, rfl, rfl, SqT.of h4, rfl, _, _, rfl, rfl, ?_⟩
    refine ⟨_, rfl, l', _, _, _, rfl, rfl, SqL.of (e4 _ _ hl3), rfl, _, rfl, tu, _, _, _, rfl, rfl, SqT.of h4, rfl, _, _, rfl, rfl, by show 2 ≤ sizeLine; decide, fun l2 hl2 => ?_⟩
    refine ⟨(e3.trans e4).trans (sm_new hl2), c4, l2, _, _, ov1 ⟨D.mv, h, n⟩ r t, rfl, ?_, hc4.mono (sm_new hl2), upd_same, lw.step hs3 (hrow _ (List.mem_of_getElem? ht))⟩
    rw [take_snoc ht]
    unfold ov
    rw [List.foldl_append, hr3]
    rfl
  · rintro σ' H3 ⟨e3, c', l', v, v', r, rfl, hr3, hc3, hl3, hs3⟩
    rw [List.length_map, List.take_length] at hr3
    subst hr3
    refine ⟨_, rfl, _, rfl, l', _, _, _, rfl, rfl, SqL.of hl3, rfl, _, rfl, l', _, _, _, rfl, rfl, SqL.of hl3, rfl, by show 3 ≤ sizeLine; decide, fun b hb => ?_⟩
    exact q b _ (e3.trans (sm_new hb)) ⟨c', upd_same, hc3.mono (sm_new hb)⟩ hs3
end
end Far

set_option Elab.async false
set_option linter.all false
set_option maxRecDepth 100000
set_option maxHeartbeats 4000000
/-! FarLawE: _law_far -/
namespace Far
open PySem PySem.Spec PyProof.Rows L2 Fz
def spFarL : Sp := fun vs H Q _ => ∃ (p g a : Addr) (D : PD), vs = [.ref p, .ref a, .int 1000000000000000000000000000000] ∧ Pur H p g ∧ PaAt (hid [p, g] H) a D ∧ PdOk D ∧
  ∀ (f u v x : Addr) (us ws xs : List Str) (n : Nat) (H' : Hp), Ex [p, g] H H' → Pur H' p g → hid [p, g] H' f = some (.lst [.ref u, .ref v, .int n, .ref x]) → hid [p, g] H' u = some (.tup (us.map .str)) → hid [p, g] H' v = some (.tup (ws.map .str)) → hid [p, g] H' x = some (.tup (xs.map .str)) →
    us.length ≤ 12 → ws.length ≤ 8 → xs.length ≤ 12 → (∀ t ∈ us, t ∈ D.toks) → (∀ t ∈ ws, t ∈ D.toks) → (∀ t ∈ xs, t ∈ D.toks) → n ≤ 1000000000000000000000000000000 → Q (.ref f) H'
section
variable {P : Program} {w : World} {K : PySem.W.Frag} {mg : Str → Option Value} {base : Heap}
theorem law_far_ok (T : Txt K mg) : Cal P w K mg base 3 "_law_far" spFarL [] := by
  have c_law_draw := law_draw_ok (P := P) (w := w) (base := base) T
  have c_law_row := law_row_ok (P := P) (w := w) (base := base) T
  have sc : FnScope ["_law_purse_here", "_law_parts_here", "_law_most", "_law_u", "_law_v", "_law_x", "_law_n"] ["_law_purse_here", "_law_parts_here", "_law_most"] (defScope s_law_far) := ⟨rfl, rfl, rfl, by decide +kernel, rfl, by decide +kernel, by decide +kernel⟩
  have nd := sc.nd
  refine cal_mk T.g_law_far T.f_law_far sc (fun vs H Q E h => by obtain ⟨_, _, _, _, rfl, _⟩ := h; rfl) (fun _ _ _ _ _ _ us hl => match us, hl with | [_, _, _], _ => rfl) (fun cdv A outer s H vs0 Q E hr h => ?_)
  obtain ⟨p, g, a, D, rfl, hp, pa, ok, q⟩ := h
  have hu := hu_of hr
  refine ⟨_, (pss_cons (pset 3 nd (C8.pe_c c_law_row hr (by decide) (by rfl) (pa_cons (pv 0) (pa_cons (pv 1) (pa_cons pe_int pa_nil)))))
      (pss_cons (pset 4 nd (C8.pe_c c_law_row hr (by decide) (by rfl) (pa_cons (pv 0) (pa_cons (pv 1) (pa_cons pe_int pa_nil)))))
      (C8.pss_cut (ps_if (pt_cmpR op_eq (C8.pe_c c_law_draw hr (by decide) (by rfl) (pa_cons (pv 0) (pa_cons pe_int pa_nil))) pe_int (nomark _)) (pss_one (pset 4 nd (pe_revT (pv 4)))) pss_nil)
      (pss_cons (pset 5 nd (C8.pe_c c_law_row hr (by decide) (by rfl) (pa_cons (pv 0) (pa_cons (pv 1) (pa_cons pe_int pa_nil)))))
      (pss_cons (pset 6 nd (pe_op op_add (C8.pe_c c_law_draw hr (by decide) (by rfl) (pa_cons (pv 0) (pa_cons pe_int pa_nil))) (C8.pe_c c_law_draw hr (by decide) (by rfl) (pa_cons (pv 0) (pa_cons pe_int pa_nil)))))
      (C8.pss_cut (ps_if (PW.pt (pw_and (pt_cmpR op_gt (pv 2) pe_int (nomark _)) (pw_and1 (pt_cmpR op_gt (C8.pe_c c_law_draw hr (by decide) (by rfl) (pa_cons (pv 0) (pa_cons pe_int pa_nil))) pe_int (nomark _))))) (pss_one (pset 6 nd (pe_op op_add (pe_op op_add (pe_op op_mul (C8.pe_c c_law_draw hr (by decide) (by rfl) (pa_cons (pv 0) (pa_cons (pe_op op_pow pe_int pe_int) pa_nil))) (pe_op op_pow pe_int pe_int)) (pe_op op_mul (C8.pe_c c_law_draw hr (by decide) (by rfl) (pa_cons (pv 0) (pa_cons (pe_op op_pow pe_int pe_int) pa_nil))) (pe_op op_pow pe_int pe_int))) (C8.pe_c c_law_draw hr (by decide) (by rfl) (pa_cons (pv 0) (pa_cons (pe_op op_pow pe_int pe_int) pa_nil)))))) pss_nil)
      (pss_one (ps_ret (pe_lst (pa_cons (pv 3) (pa_cons (pv 4) (pa_cons (pe_callB (call_min2 rfl) (by rfl) T.b_min (by decide +kernel) (pa_cons (pv 6) (pa_cons (pv 2) pa_nil))) (pa_cons (pv 5) pa_nil))))))))))))), ?_⟩
  refine ⟨_, rfl, _, rfl, p, g, a, D, 12, rfl, hp, pa, ok, by decide, fun u us H1 x1 p1 u1 ul um => ?_⟩
  refine ⟨_, rfl, _, rfl, p, g, a, D, 8, rfl, p1, pa.mono x1, ok, by decide, fun v ws H2 x2 p2 v2 vl vm => ?_⟩
  refine ⟨fun σ' H' => ∃ (v' : Addr) (ws' : List Str), σ' = [some (.ref p), some (.ref a), some (.int 1000000000000000000000000000000), some (.ref u), some (.ref v'), none, none] ∧ Ex [p, g] H2 H' ∧ Pur H' p g ∧ hid [p, g] H' v' = some (.tup (ws'.map .str)) ∧ ws'.length ≤ 8 ∧ ∀ t ∈ ws', t ∈ D.toks, ?_, ?_⟩
  · refine ⟨_, rfl, p, g, 3, rfl, p2, by decide, by decide, fun r H3 hr3 x3 p3 => ?_⟩
    refine ⟨rfl, _, rfl, ite2 (fun z => ?_) (fun _ => ⟨v, ws, rfl, x3, p3, x3 _ _ v2, vl, vm⟩)⟩
    refine ⟨_, rfl, v, _, rfl, SqT.of (hid_at (x3 _ _ v2)), fun v' hv' => ?_⟩
    exact ⟨v', ws.reverse, rfl, x3.new hv', p3.mono (sm_new hv'), by rw [List.map_reverse]; exact hid_fresh p3 hv', by rw [List.length_reverse]; exact vl, fun t ht => vm t (List.mem_reverse.mp ht)⟩
  rintro σ3 H3 ⟨v', ws', rfl, x3, p3, v3, vl', vm'⟩
  refine ⟨_, rfl, _, rfl, p, g, a, D, 12, rfl, p3, pa.mono ((x1.trans x2).trans x3), ok, by decide, fun xx xs H4 x4 p4 xx4 xl xm => ?_⟩
  refine ⟨_, rfl, p, g, 4, rfl, p4, by decide, by decide, fun r5 H5 hr5 x5 p5 => ?_⟩
  refine ⟨_, rfl, p, g, 10, rfl, p5, by decide, by decide, fun r6 H6 hr6 x6 p6 => ?_⟩
  refine ⟨_, _, rfl, rfl, ?_⟩
  refine ⟨fun σ' H' => ∃ n : Nat, σ' = [some (.ref p), some (.ref a), some (.int 1000000000000000000000000000000), some (.ref u), some (.ref v'), some (.ref xx), some (.int n)] ∧ Ex [p, g] H6 H' ∧ Pur H' p g, ?_, ?_⟩
  · refine ⟨_, rfl, _, _, rfl, rfl, _, rfl, ite2 (fun _ => ?_) (fun _ => iteF ⟨r5 + r6, rfl, Ex.refl _ _, p6⟩)⟩
    refine ⟨_, rfl, p, g, 3, rfl, p6, by decide, by decide, fun r7 H7 hr7 x7 p7 => ?_⟩
    refine ⟨_, _, rfl, rfl, _, rfl, ite2 (fun _ => ?_) (fun _ => ⟨r5 + r6, rfl, x7, p7⟩)⟩
    have pw : CPow 10 10 := ⟨by decide, by decide, by decide⟩
    have pw2 : CPow 10 20 := ⟨by decide, by decide, by decide⟩
    have e10 : ((10 : Int) ^ (10 : Int).toNat) = ((10000000000 : Nat) : Int) := by decide
    have e20 : ((10 : Int) ^ (20 : Int).toNat) = ((100000000000000000000 : Nat) : Int) := by decide
    have dr : [V.ref p, V.int ((10 : Int) ^ (10 : Int).toNat)] = [V.ref p, V.int ((10000000000 : Nat) : Int)] := by rw [e10]
    refine ⟨_, rfl, _, _, rfl, rfl, pw, p, g, 10000000000, dr, p7, by decide, by decide, fun r8 H8 hr8 x8 p8 => ?_⟩
    refine ⟨_, _, rfl, rfl, pw2, _, _, rfl, rfl, .inl ⟨by omega, by omega⟩, ?_⟩
    refine ⟨_, rfl, _, _, rfl, rfl, pw, p, g, 10000000000, dr, p8, by decide, by decide, fun r9 H9 hr9 x9 p9 => ?_⟩
    refine ⟨_, _, rfl, rfl, pw, _, _, rfl, rfl, .inl ⟨by omega, by omega⟩, _, _, rfl, rfl, ?_⟩
    refine ⟨_, rfl, _, _, rfl, rfl, pw, p, g, 10000000000, dr, p9, by decide, by decide, fun rA HA hrA xA pA => ?_⟩
    refine ⟨_, _, rfl, rfl, r8 * 100000000000000000000 + r9 * 10000000000 + rA, ?_, ((x7.trans x8).trans x9).trans xA, pA⟩
    show [some (V.ref p), some (.ref a), some (.int 1000000000000000000000000000000), some (.ref u), some (.ref v'), some (.ref xx), some (.int ((r8 : Int) * (10 : Int) ^ (20 : Int).toNat + (r9 : Int) * (10 : Int) ^ (10 : Int).toNat + (rA : Int)))] = _
    rw [e10, e20, Int.natCast_add, Int.natCast_add, Int.natCast_mul, Int.natCast_mul]
  rintro σ7 H7 ⟨n, rfl, x7, p7⟩
  have X7 := (((((x1.trans x2).trans x3).trans x4).trans x5).trans x6).trans x7
  have B := ((x4.trans x5).trans x6).trans x7
  have u7 := B _ _ (x3 _ _ (x2 _ _ u1))
  have v7 := B _ _ v3
  have xx7 := x7 _ _ (x6 _ _ (x5 _ _ xx4))
  refine ⟨_, rfl, _, rfl, _, rfl, _, rfl, _, _, rfl, ?_⟩
  refine ⟨_, rfl, by show 4 ≤ sizeLine; decide, fun f hf => ?_⟩
  have hmin : (if (1000000000000000000000000000000 : Int) < (n : Int) then (1000000000000000000000000000000 : Int) else (n : Int)) = ((min n 1000000000000000000000000000000 : Nat) : Int) := by
    split <;> omega
  rw [hmin]
  have xf := fun (o : HO) => hid_same (L := [p, g]) (sm_new hf (o := o))
  exact q f u v' xx us ws' xs (min n 1000000000000000000000000000000) _ (X7.new hf) (p7.mono (sm_new hf)) (hid_fresh p7 hf) (xf _ _ _ u7) (xf _ _ _ v7) (xf _ _ _ xx7) ul vl' xl um vm' xm (Nat.min_le_right _ _)
end
end Far

set_option Elab.async false
set_option linter.all false
set_option maxRecDepth 100000
set_option maxHeartbeats 4000000
/-! FarLawF: _law_turns -/
namespace Far
open PySem PySem.Spec PyProof.Rows L2 Fz
def spTurns : Sp := fun vs H Q _ => ∃ (a td pl rw' : Addr) (D : PD) (h : TF) (sts : List Str) (k : Nat) (p : FP Str) (row : List Str) (n : Nat) (W : List (List Str)), vs = [.ref a, .ref td, .int k, .ref pl, .ref rw', .int n] ∧ LwAt H a td D h sts ∧ PlAt H pl p ∧ H rw' = some (.tup (row.map .str)) ∧ (∀ x ∈ row, x ∈ D.toks) ∧ row.length ≤ 8 ∧
  RdOk ⟨D.mv, h, k⟩ sts D.toks W ∧ CfIn sts W p.1 ∧ sts.length ≤ 6 ∧ W.length ≤ 25 ∧ (∀ x ∈ sts, NameOk x) ∧ (∀ ts ∈ W, ∀ x ∈ ts, NameOk x) ∧ n ≤ 1000000000000000000000000000000 ∧
  ∀ (pl' : Addr) (H' : Hp), Same H H' → PlAt H' pl' (rep ⟨D.mv, h, k⟩ row p n) → Q (.ref pl') H'
theorem PlAt.keep {H : Hp} {a l : Addr} {p : FP Str} {xs : List V} {o : HO} (hl : H l = some (.lst xs)) (h : PlAt H a p) : PlAt (upd H l o) a p := by
  obtain ⟨c, h1, h2⟩ := h
  refine ⟨c, ?_, h2.keep hl⟩
  rw [upd_ne (ne_of h1 hl (fun z => by cases z))]
  exact h1
/-- i turns are done: the places lie in the line at ln -/
structure TuI (R : FRd Str) (row : List Str) (p : FP Str) (n : Nat) (H : Hp) (ln : Addr) (i : Nat) (bgs : List Addr) (b : Addr) (H' : Hp) : Prop where
  e : Same H H'
  ln : H' ln = some (.lst (bgs.map V.ref))
  len : bgs.length = i + 1
  at_ : ∀ j a, bgs[j]? = some a → PlAt H' a (rep R row p j)
  b : bgs[i]? = some b
  nd : ((List.range i).map (cfs R row p.1)).Nodup
  le : i ≤ n
theorem psum_le {f : Nat → Nat} {B : Nat} (h : ∀ i, f i ≤ B) : ∀ n, psum f n ≤ n * B
  | 0 => by simp [psum]
  | n + 1 => by
    have z := psum_le h n
    have y := h n
    show psum f n + f n ≤ (n + 1) * B
    rw [Nat.succ_mul]
    omega
theorem psum_mono {f : Nat → Nat} {m i : Nat} (h : m ≤ i) : psum f m ≤ psum f i := by
  have z := psum_add f m (i - m)
  rw [show m + (i - m) = i by omega] at z
  omega
theorem rep_bounds {R : FRd Str} {row : List Str} {p : FP Str} {m i : Nat} (h : m ≤ i) (hi : i ≤ 600) (h8 : row.length ≤ 8) : (rep R row p m).2.1 ≤ (rep R row p i).2.1 ∧ (rep R row p i).2.1 ≤ (rep R row p m).2.1 + 100000 ∧ (rep R row p m).2.2 ≤ (rep R row p i).2.2 ∧ (rep R row p i).2.2 ≤ (rep R row p m).2.2 + 100000 := by
  have b1 : ∀ j, tls R row p.1 j ≤ 8 := fun j => by
    have z := (blk_le R row (cfs R row p.1 j, 0, 0)).1
    have z2 : tls R row p.1 j ≤ 0 + row.length := z
    omega
  have b2 : ∀ j, mns R row p.1 j ≤ 64 := fun j => by
    have z := (blk_le R row (cfs R row p.1 j, 0, 0)).2
    have z2 : mns R row p.1 j ≤ 0 + 8 * row.length := z
    omega
  have c1 := psum_le b1 i
  have c2 := psum_le b2 i
  have d1 := psum_mono (f := tls R row p.1) h
  have d2 := psum_mono (f := mns R row p.1) h
  show p.2.1 + psum (tls R row p.1) m ≤ p.2.1 + psum (tls R row p.1) i ∧ p.2.1 + psum (tls R row p.1) i ≤ p.2.1 + psum (tls R row p.1) m + 100000 ∧ p.2.2 + psum (mns R row p.1) m ≤ p.2.2 + psum (mns R row p.1) i ∧ p.2.2 + psum (mns R row p.1) i ≤ p.2.2 + psum (mns R row p.1) m + 100000
  omega
theorem TuI.mono {R : FRd Str} {row : List Str} {p : FP Str} {n : Nat} {H H1 H2 : Hp} {ln b : Addr} {i : Nat} {bgs : List Addr} (I : TuI R row p n H ln i bgs b H1) (e : Same H1 H2) : TuI R row p n H ln i bgs b H2 :=
  ⟨I.e.trans e, e _ _ I.ln, I.len, fun j a h => (I.at_ j a h).mono e, I.b, I.nd, I.le⟩
theorem cut_last (xs : List V) (h : 0 < xs.length) : cutV xs none (some (-1)) = xs.take (xs.length - 1) := by
  unfold cutV
  have e1 : HT.sIx xs.length 0 none = 0 := rfl
  have e2 : HT.sIx xs.length xs.length (some (-1)) = xs.length - 1 := by
    show (if (-1 : Int) < 0 then ((-1 : Int) + (xs.length : Int)).toNat else min (-1 : Int).toNat xs.length) = xs.length - 1
    rw [if_pos (by decide)]
    omega
  rw [e1, e2] <;> rfl
/-- [each[0] for each in ..] over the first places -/
theorem tu_lc {K : PySem.W.Frag} {R : FRd Str} {row : List Str} {p : FP Str} {Hs : Hp} {src Dl : Addr} {as : List Addr} {σ : L2.St} {Qd : Hp → Prop} (hs : Hs src = some (.lst (as.map V.ref))) (ha : ∀ j a, as[j]? = some a → PlAt Hs a (rep R row p j)) (hl : as.length ≤ 1000) (hD : Hs Dl = none) (h7 : 7 < σ.length)
    (hk : ∀ (cs : List Addr) (H' : Hp), Same Hs H' → H' Dl = some (.lst (cs.map V.ref)) → cs.length = as.length → (∀ j a, cs[j]? = some a → CfgAt H' a (cfs R row p.1 j)) → Qd H') :
    ∃ W : Nat → Nat → Hp → Prop, (∃ m, W 0 m (upd Hs Dl (.lst []))) ∧ ∀ i m H, W i m H →
      ((Itl K src).stop i H ∧ Qd H) ∨ ((Itl K src).go i H ∧ ∃ Nx : Hp → Prop, (∀ H', Nx H' → ∃ m', m' < m ∧ W (i + 1) m' H') ∧ ∀ x H', (Itl K src).yld i H x H' → gName 7 x (wipe σ [7]) H' fun σ2 H2 => wipe σ2 [7] = wipe σ [7] ∧ tYes σ2 H2 fun b H3 =>
        if b = true then tOp (rIxT K) (tVar 7) (tC (.int 0)) σ2 H3 fun y H4 => ∃ acc, H4 Dl = some (.lst acc) ∧ acc.length < sizeLine ∧ Nx (upd H4 Dl (.lst (acc ++ [y]))) else Nx H3) := by
  refine lc_it (Qd := Qd) walk_list (fun i H' => Same Hs H' ∧ ∃ cs : List Addr, H' Dl = some (.lst (cs.map V.ref)) ∧ cs.length = i ∧ ∀ j a, cs[j]? = some a → CfgAt H' a (cfs R row p.1 j)) ⟨sm_new hD, [], upd_same, rfl, fun j a h => by simp at h⟩ (fun i H' _ z => SqL.of (z.1 _ _ hs)) ?_ ?_
  · rintro i x H5 H6 hi ⟨e, cs, hc, hcl, hca⟩ ⟨rfl, hx⟩
    obtain ⟨a0, ha0, rfl⟩ := get_map hx
    obtain ⟨c, h1, h2⟩ := (ha _ _ ha0).mono e
    refine ⟨?_, _, ?_, a0, _, _, _, rfl, rfl, SqT.of h1, rfl, _, hc, ?_, sm_mut e hD, cs ++ [c], ?_, ?_, ?_⟩
    · simp [wipe]
    · simp [wipe, h7]
    · rw [List.length_map, hcl, sizeLine_eq]
      have : i < as.length := by rw [List.length_map] at hi; exact hi
      omega
    · rw [upd_same, List.map_append] <;> rfl
    · rw [List.length_append, hcl] <;> rfl
    · intro j a hj
      by_cases hji : j < cs.length
      · rw [List.getElem?_append_left hji] at hj
        exact (hca j a hj).keep hc
      · have hj2 : j = i := by
          have z := (List.getElem?_eq_some_iff.mp hj).1
          rw [List.length_append] at z
          have z2 : ([c] : List Addr).length = 1 := rfl
          omega
        rw [hj2, ← hcl, List.getElem?_append_right (Nat.le_refl _), Nat.sub_self] at hj
        cases hj
        rw [hj2]
        exact h2.keep hc
  · rintro H2 ⟨e, cs, hc, hcl, hca⟩
    refine hk cs H2 e hc ?_ hca
    rw [hcl, List.length_map]
section
variable {P : Program} {w : World} {K : PySem.W.Frag} {mg : Str → Option Value} {base : Heap}
theorem law_turns_ok (T : Txt K mg) : Cal P w K mg base 3 "_law_turns" spTurns [] := by
  have c_law_over := law_over_ok (P := P) (w := w) (base := base) T
  have sc : FnScope ["_law_parts_here", "_law_table_here", "_law_span", "_law_place", "_law_row_here", "_law_n", "_law_line", "_law_each", "_law_back", "_law_width", "_law_turns_here", "_law_rest"] ["_law_parts_here", "_law_table_here", "_law_span", "_law_place", "_law_row_here", "_law_n"] (defScope s_law_turns) := ⟨rfl, rfl, rfl, by decide +kernel, rfl, by decide +kernel, by decide +kernel⟩
  have nd := sc.nd
  refine cal_mk T.g_law_turns T.f_law_turns sc (fun vs H Q E h => by obtain ⟨_, _, _, _, _, _, _, _, _, _, _, _, rfl, _⟩ := h; rfl) (fun _ _ _ _ _ _ us hl => match us, hl with | [_, _, _, _, _, _], _ => rfl) (fun cdv A outer s H vs0 Q E hr h => ?_)
  obtain ⟨a, td, pl, rw', D, h, sts, k, pp, row, n, W, rfl, lw, hpl, hrw, hrow, row8, rok, cin, s6, w25, sn, wn, hn, q⟩ := h
  have hu := hu_of hr
  have hu65 := hu65_of hr
  refine ⟨_, (pss_cons (pset 6 nd (pe_lst (pa_cons (pv 3) pa_nil)))
      (C8.pss_cut (ps_while PassesOwn.never (PW.pt (pw_and (pt_cmpR (op_notInD hu65) (pe_ix ix_tup (pv 3) pe_int (fun _ _ => rfl)) (pe_lc (own := [("_law_each", 7)]) (g := gName 7) (tt := tYes) rfl nd (pi_list (pe_slice sl_list (pv 6) po_none (po_some (pe_un un_neg pe_int)))) (blkOk_by (own := [("_law_each", 7)]) (N := ["_law_parts_here", "_law_table_here", "_law_span", "_law_place", "_law_row_here", "_law_n", "_law_line", "_law_each", "_law_back", "_law_width", "_law_turns_here", "_law_rest"]) (sc := defScope s_law_turns) (by decide +kernel)) (fun _ _ _ _ _ => (pgn 7 nd)) (fun _ _ _ _ _ => pts_nil) (fun _ _ _ _ _ => (pe_ix (ix_tupK (K := K)) (pv 7) pe_int (fun _ _ => rfl)))) (by rfl)) (pw_and1 (pt_cmpR op_le (pe_callB call_len_seq (by rfl) T.b_len (by decide +kernel) (pa_cons (pv 6) pa_nil)) (pv 5) (nomark _))))) (pss_cons (pset 3 nd (C8.pe_c c_law_over hr (by decide) (by rfl) (pa_cons (pv 0) (pa_cons (pv 1) (pa_cons (pv 2) (pa_cons (pv 3) (pa_cons (pv 4) pa_nil)))))))
      (pss_one (ps_expr (pe_bm PySem.F.plainAttrs_list PySem.F.slot_list_append PySem.F.type_list_append mt_append (pv 6) (pa_cons (pv 3) pa_nil))))))
      (pss_cons (ps_if (pt_cmpR op_eq (pe_op op_sub (pe_callB call_len_seq (by rfl) T.b_len (by decide +kernel) (pa_cons (pv 6) pa_nil)) pe_int) (pv 5) (nomark _)) (pss_one (ps_ret (pv 3))) pss_nil)
      (pss_cons (pset 8 nd (pe_bm PySem.F.plainAttrs_list PySem.F.slot_list_index PySem.F.type_list_index (mt_indexD hu65) (pe_lc (own := [("_law_each", 7)]) (g := gName 7) (tt := tYes) rfl nd (pi_list (pv 6)) (blkOk_by (own := [("_law_each", 7)]) (N := ["_law_parts_here", "_law_table_here", "_law_span", "_law_place", "_law_row_here", "_law_n", "_law_line", "_law_each", "_law_back", "_law_width", "_law_turns_here", "_law_rest"]) (sc := defScope s_law_turns) (by decide +kernel)) (fun _ _ _ _ _ => (pgn 7 nd)) (fun _ _ _ _ _ => pts_nil) (fun _ _ _ _ _ => (pe_ix (ix_tupK (K := K)) (pv 7) pe_int (fun _ _ => rfl)))) (pa_cons (pe_ix ix_tup (pv 3) pe_int (fun _ _ => rfl)) pa_nil)))
      (pss_cons (pset 9 nd (pe_op op_sub (pe_op op_sub (pe_callB call_len_seq (by rfl) T.b_len (by decide +kernel) (pa_cons (pv 6) pa_nil)) pe_int) (pv 8)))
      (pss_cons (pset 10 nd (pe_op op_fdiv (pe_op op_sub (pv 5) (pv 8)) (pv 9)))
      (pss_cons (pset 11 nd (pe_ix ix_list (pv 6) (pe_op op_add (pv 8) (pe_op op_mod (pe_callTy call_int1 (by rfl) T.b_int (by decide +kernel) (pa_cons (pe_op op_sub (pv 5) (pv 8)) pa_nil)) (pv 9))) (fun _ _ => rfl)))
      (pss_one (ps_ret (pe_tup (pa_cons (pe_ix ix_tup (pv 11) pe_int (fun _ _ => rfl)) (pa_cons (pe_op op_add (pe_ix ix_tup (pv 11) pe_int (fun _ _ => rfl)) (pe_op op_mul (pv 10) (pe_op op_sub (pe_ix ix_tup (pv 3) pe_int (fun _ _ => rfl)) (pe_ix ix_tup (pe_ix ix_list (pv 6) (pv 8) (fun _ _ => rfl)) pe_int (fun _ _ => rfl))))) (pa_cons (pe_op op_add (pe_ix ix_tup (pv 11) pe_int (fun _ _ => rfl)) (pe_op op_mul (pv 10) (pe_op op_sub (pe_ix ix_tup (pv 3) pe_int (fun _ _ => rfl)) (pe_ix ix_tup (pe_ix ix_list (pv 6) (pv 8) (fun _ _ => rfl)) pe_int (fun _ _ => rfl))))) pa_nil))))))))))))), ?_⟩
  refine ⟨_, rfl, by show 1 ≤ sizeLine; decide, fun ln hln => ?_⟩
  have e0 := sm_new hln (o := .lst [.ref pl])
  have l0 := upd_same (H := H) (a := ln) (o := .lst [.ref pl])
  generalize upd H ln (.lst [.ref pl]) = H0 at e0 l0 ⊢
  refine ⟨fun σ' H' => ∃ i bgs b, σ' = [some (.ref a), some (.ref td), some (.int k), some (.ref b), some (.ref rw'), some (.int n), some (.ref ln), none, none, none, none, none] ∧ TuI ⟨D.mv, h, k⟩ row pp n H ln i bgs b H' ∧ (i = n ∨ ∃ m, m < i ∧ cfs ⟨D.mv, h, k⟩ row pp.1 i = cfs ⟨D.mv, h, k⟩ row pp.1 m), ?_, ?_⟩
  · refine ⟨fun m σ' H' => ∃ i bgs b, m = 601 - i ∧ σ' = [some (.ref a), some (.ref td), some (.int k), some (.ref b), some (.ref rw'), some (.int n), some (.ref ln), none, none, none, none, none] ∧ TuI ⟨D.mv, h, k⟩ row pp n H ln i bgs b H', ⟨601, 0, [pl], pl, rfl, rfl, e0, l0, rfl, fun j a hj => ?_, rfl, List.nodup_nil, Nat.zero_le _⟩, ?_⟩
    · match j, hj with
      | 0, hj => cases hj; exact hpl.mono e0
    rintro m σ' H1 ⟨i, bgs, b, rfl, rfl, I⟩
    obtain ⟨pc, hp1, hp2⟩ := id (I.at_ _ _ I.b)
    refine ⟨_, rfl, b, _, _, _, rfl, rfl, SqT.of hp1, rfl, ?_⟩
    refine ⟨_, rfl, _, rfl, _, rfl, ln, _, rfl, SqL.of I.ln, fun sl hsl => ⟨sl, rfl, ⟨_, SqL.of upd_same⟩, fun Dl hDl => ?_⟩⟩
    have inN := cfs_in rok row pp.1 cin
    have okc : ∀ j, CfOk (cfs ⟨D.mv, h, k⟩ row pp.1 j) := fun j => cf_ok sn wn (inN j)
    have hi6 := cfs_few rok row pp.1 cin s6 w25 I.nd
    have hcut : cutV (bgs.map V.ref) none (some (-1)) = (bgs.take i).map V.ref := by
      rw [cut_last _ (by rw [List.length_map, I.len]; omega), List.length_map, I.len, Nat.add_sub_cancel, List.map_take]
    have htl : (bgs.take i).length = i := by rw [List.length_take, I.len]; omega
    refine tu_lc (K := K) (R := ⟨D.mv, h, k⟩) (row := row) (p := pp) (as := bgs.take i) (σ := [some (.ref a), some (.ref td), some (.int k), some (.ref b), some (.ref rw'), some (.int n), some (.ref ln), none, none, none, none, none]) (by rw [upd_same, hcut]) ?_ (by omega) hDl (by show 7 < 12; decide) fun cs H2 e2 hcs hcl hca => ?_
    · intro j a' hj
      refine (I.at_ j a' ?_).mono (sm_new hsl)
      rw [List.getElem?_take] at hj
      split at hj
      · exact hj
      · cases hj
    have e12 : Same H1 H2 := (sm_new hsl).trans e2
    have I2 := I.mono e12
    refine ⟨_, _, (hp2.mono e12).dp, cfgs_at (hcl.trans htl) hca hcs, cfgD_shaped (okc i), cfgDs_shaped (fun z hz => by
      obtain ⟨j, _, rfl⟩ := List.mem_map.mp hz
      exact okc j), _, rfl, ?_⟩
    show (if (!(((List.range i).map (cfs ⟨D.mv, h, k⟩ row pp.1)).map cfgD).any fun z => PyData.eqv z (cfgD (cfs ⟨D.mv, h, k⟩ row pp.1 i))) = true then _ else _)
    rw [any_cfg]
    by_cases hin : cfs ⟨D.mv, h, k⟩ row pp.1 i ∈ (List.range i).map (cfs ⟨D.mv, h, k⟩ row pp.1)
    · rw [decide_eq_true hin]
      obtain ⟨m, hm, e⟩ := List.mem_map.mp hin
      exact iteF (iteF ⟨i, bgs, b, rfl, I2, .inr ⟨m, List.mem_range.mp hm, e.symm⟩⟩)
    · rw [decide_eq_false hin]
      have hnd2 : ((List.range (i + 1)).map (cfs ⟨D.mv, h, k⟩ row pp.1)).Nodup := by
        rw [List.range_succ, List.map_append]
        exact nd_snoc I.nd hin
      have hi7 := cfs_few rok row pp.1 cin s6 w25 hnd2
      refine iteT ⟨_, rfl, ln, _, rfl, .inl (SqL.of I2.ln), _, rfl, _, _, rfl, rfl, _, rfl, ite2 (fun z => ?_) (fun z => ?_)⟩
      · have hin2 : i + 1 ≤ n := by
          have := of_decide_eq_true z
          rw [List.length_map, I.len] at this
          omega
        refine ⟨fun σ' H' => ∃ m', m' < 601 - i ∧ ∃ i bgs b, m' = 601 - i ∧ σ' = [some (.ref a), some (.ref td), some (.int k), some (.ref b), some (.ref rw'), some (.int n), some (.ref ln), none, none, none, none, none] ∧ TuI ⟨D.mv, h, k⟩ row pp n H ln i bgs b H', fun _ _ z => z, ?_⟩
        refine ⟨_, rfl, _, rfl, _, rfl, _, rfl, _, rfl, a, td, b, rw', D, h, sts, k, rep ⟨D.mv, h, k⟩ row pp i, row, rfl, lw.mono I2.e, I2.at_ _ _ I2.b, (inN i).st, I2.e _ _ hrw, hrow, fun pl' H3 e3 hpl' hst' => ?_⟩
        rw [← rep_succ] at hpl'
        have I3 := I2.mono e3
        refine ⟨_, rfl, .inl ⟨rfl, _, SqL.of I3.ln⟩, _, rfl, ln, _, _, rfl, rfl, I3.ln, by rw [List.length_map, I.len, sizeLine_eq]; omega, 601 - (i + 1), by omega, i + 1, bgs ++ [pl'], pl', rfl, rfl, sm_mut I3.e hln, ?_, ?_, ?_, ?_, hnd2, hin2⟩
        · rw [upd_same, List.map_append] <;> rfl
        · rw [List.length_append, I.len] <;> rfl
        · intro j a' hj
          by_cases hji : j < bgs.length
          · rw [List.getElem?_append_left hji] at hj
            exact (I3.at_ j a' hj).keep I3.ln
          · have hj2 : j = i + 1 := by
              have z := (List.getElem?_eq_some_iff.mp hj).1
              rw [List.length_append, I.len] at z
              have z2 : ([pl'] : List Addr).length = 1 := rfl
              rw [I.len] at hji
              omega
            rw [hj2, ← I.len, List.getElem?_append_right (Nat.le_refl _), Nat.sub_self] at hj
            cases hj
            rw [hj2]
            exact hpl'.keep I3.ln
        · rw [← I.len, List.getElem?_append_right (Nat.le_refl _), Nat.sub_self] <;> rfl
      · have hin2 : i = n := by
          have z2 : ¬ ((bgs.map V.ref).length : Int) ≤ (n : Int) := fun y => z (decide_eq_true y)
          rw [List.length_map, I.len] at z2
          have := I.le
          omega
        exact ⟨i, bgs, b, rfl, I2, .inl hin2⟩
  rintro σ9 H9 ⟨i, bgs, b, rfl, I, hex⟩
  refine ⟨_, rfl, ln, _, rfl, .inl (SqL.of I.ln), _, _, rfl, rfl, _, rfl, rfl, _, rfl, ite2 (fun z => ?_) (fun z => ?_)⟩
  · have hin2 : i = n := by
      have z2 := of_decide_eq_true z
      have z3 : ((bgs.map V.ref).length : Int) - 1 = (n : Int) := by injection z2
      rw [List.length_map, I.len] at z3
      omega
    have hb := I.at_ _ _ I.b
    rw [hin2] at hb
    exact ⟨_, rfl, q b H9 I.e hb⟩
  have hne : i ≠ n := fun y => z (decide_eq_true (by
    rw [List.length_map, I.len, ← y]
    refine congrArg V.int ?_
    omega))
  obtain ⟨m, hm, hc⟩ := hex.resolve_left hne
  have hlt : i < n := Nat.lt_of_le_of_ne I.le hne
  have inN := cfs_in rok row pp.1 cin
  have okc : ∀ j, CfOk (cfs ⟨D.mv, h, k⟩ row pp.1 j) := fun j => cf_ok sn wn (inN j)
  have hi6 := cfs_few rok row pp.1 cin s6 w25 I.nd
  obtain ⟨pc, hp1, hp2⟩ := id (I.at_ _ _ I.b)
  refine ⟨_, rfl, ln, rfl, ⟨_, SqL.of I.ln⟩, fun Dl hDl => ?_⟩
  refine tu_lc (K := K) (R := ⟨D.mv, h, k⟩) (row := row) (p := pp) (as := bgs) (σ := [some (.ref a), some (.ref td), some (.int k), some (.ref b), some (.ref rw'), some (.int n), some (.ref ln), none, none, none, none, none]) I.ln I.at_ (by rw [I.len]; omega) hDl (by show 7 < 12; decide) fun cs H2 e2 hcs hcl hca => ?_
  have I2 := I.mono e2
  refine ⟨.inl ⟨rfl, _, SqL.of hcs⟩, _, rfl, b, _, _, _, rfl, rfl, SqT.of (e2 _ _ hp1), rfl, Dl, _, _, _, m, cfgD (cfs ⟨D.mv, h, k⟩ row pp.1 m), rfl, rfl, cfgs_at (hcl.trans I.len) hca hcs, (hp2.mono e2).dp, cfgDs_shaped (fun z hz => by
      obtain ⟨j, _, rfl⟩ := List.mem_map.mp hz
      exact okc j), cfgD_shaped (okc i), ?_, ?_, ?_, ?_⟩
  · rw [List.getElem?_map, List.getElem?_map, List.getElem?_range (by omega)] <;> rfl
  · show PyData.eqv (cfgD (cfs ⟨D.mv, h, k⟩ row pp.1 m)) (cfgD (cfs ⟨D.mv, h, k⟩ row pp.1 i)) = true
    rw [cfgD_eqv, hc]
    exact decide_eq_true rfl
  · intro m' z' hm' hz
    rw [List.getElem?_map, List.getElem?_map, List.getElem?_range (by omega)] at hz
    rw [← Option.some.inj hz]
    show PyData.eqv (cfgD (cfs ⟨D.mv, h, k⟩ row pp.1 m')) (cfgD (cfs ⟨D.mv, h, k⟩ row pp.1 i)) = false
    rw [cfgD_eqv, hc]
    refine decide_eq_false fun e => ?_
    have h1 : ((List.range i).map (cfs ⟨D.mv, h, k⟩ row pp.1))[m']? = some (cfs ⟨D.mv, h, k⟩ row pp.1 m') := by rw [List.getElem?_map, List.getElem?_range (by omega)]; rfl
    have h2 : ((List.range i).map (cfs ⟨D.mv, h, k⟩ row pp.1))[m]? = some (cfs ⟨D.mv, h, k⟩ row pp.1 m') := by rw [List.getElem?_map, List.getElem?_range hm, e]; rfl
    have := nd_ix I.nd h1 h2
    omega
  have w0 : ((bgs.map V.ref).length : Int) - 1 = (i : Int) := by
    rw [List.length_map, I.len]
    omega
  have w1 : (i : Int) - (m : Int) = ((i - m : Nat) : Int) := by omega
  have w2 : (n : Int) - (m : Int) = ((n - m : Nat) : Int) := by omega
  have w3 : ((n - m : Nat) : Int) / ((i - m : Nat) : Int) = (((n - m) / (i - m) : Nat) : Int) := (Int.natCast_ediv _ _).symm
  have w5 : (m : Int) + ((n - m : Nat) : Int) % ((i - m : Nat) : Int) = ((m + (n - m) % (i - m) : Nat) : Int) := by rw [Int.natCast_add, Int.natCast_emod]
  have hmod : (n - m) % (i - m) < i - m := Nat.mod_lt _ (by omega)
  obtain ⟨ax, hax⟩ : ∃ ax, bgs[m + (n - m) % (i - m)]? = some ax := ⟨_, List.getElem?_eq_getElem (by rw [I.len]; omega)⟩
  obtain ⟨am, ham⟩ : ∃ am, bgs[m]? = some am := ⟨_, List.getElem?_eq_getElem (by rw [I.len]; omega)⟩
  obtain ⟨cx, hx1, hx2⟩ := I2.at_ _ _ hax
  obtain ⟨cm, hm1, hm2⟩ := I2.at_ _ _ ham
  have hb1 := e2 _ _ hp1
  obtain ⟨bd1, bd2, bd3, bd4⟩ := rep_bounds (R := ⟨D.mv, h, k⟩) (row := row) (p := pp) (Nat.le_of_lt hm) hi6 row8
  have hlaw := rep_law (R := ⟨D.mv, h, k⟩) (v := row) (p := pp) (n := n) hm hc (by omega)
  generalize hri : rep ⟨D.mv, h, k⟩ row pp i = ri at *
  generalize hrm : rep ⟨D.mv, h, k⟩ row pp m = rm at *
  generalize hrx : rep ⟨D.mv, h, k⟩ row pp (m + (n - m) % (i - m)) = rx at *
  have t1 : (ri.2.1 : Int) - (rm.2.1 : Int) = ((ri.2.1 - rm.2.1 : Nat) : Int) := by omega
  have t2 : (ri.2.2 : Int) - (rm.2.2 : Int) = ((ri.2.2 - rm.2.2 : Nat) : Int) := by omega
  have m1 : (((n - m) / (i - m) : Nat) : Int) * ((ri.2.1 - rm.2.1 : Nat) : Int) = (((n - m) / (i - m) * (ri.2.1 - rm.2.1) : Nat) : Int) := (Int.natCast_mul _ _).symm
  have m2 : (((n - m) / (i - m) : Nat) : Int) * ((ri.2.2 - rm.2.2 : Nat) : Int) = (((n - m) / (i - m) * (ri.2.2 - rm.2.2) : Nat) : Int) := (Int.natCast_mul _ _).symm
  refine ⟨_, rfl, ln, _, rfl, .inl (SqL.of I2.ln), _, _, rfl, rfl, _, rfl, (i : Int), (m : Int), congrArg V.int w0, rfl, ?_⟩
  refine ⟨_, rfl, _, rfl, _, _, rfl, rfl, _, rfl, ((n - m : Nat) : Int), ((i - m : Nat) : Int), congrArg V.int w2, congrArg V.int w1, ⟨by omega, by omega⟩, ?_⟩
  refine ⟨_, rfl, _, rfl, _, rfl, _, rfl, _, _, rfl, rfl, .inl ⟨((n - m : Nat) : Int), congrArg (fun z => [V.int z]) w2, _, rfl, ((n - m : Nat) : Int), ((i - m : Nat) : Int), rfl, congrArg V.int w1, by omega, (m : Int), _, rfl, rfl, ?_⟩⟩
  refine ⟨ln, _, ((m + (n - m) % (i - m) : Nat) : Int), .ref ax, rfl, congrArg V.int w5, SqL.of I2.ln, at_of rfl (by rw [List.getElem?_map, hax]; rfl), ?_⟩
  refine ⟨_, rfl, ax, _, _, _, rfl, rfl, SqT.of hx1, rfl, ?_⟩
  refine ⟨_, rfl, ax, _, _, _, rfl, rfl, SqT.of hx1, rfl, _, rfl, _, rfl, b, _, _, _, rfl, rfl, SqT.of hb1, rfl, ?_⟩
  refine ⟨_, rfl, _, rfl, ln, _, (m : Int), .ref am, rfl, rfl, SqL.of I2.ln, at_of rfl (by rw [List.getElem?_map, ham]; rfl), am, _, _, _, rfl, rfl, SqT.of hm1, rfl, _, _, rfl, rfl, ?_⟩
  refine ⟨(((n - m) / (i - m) : Nat) : Int), ((ri.2.1 - rm.2.1 : Nat) : Int), congrArg V.int w3, congrArg V.int t1, .inr ⟨by omega, by omega⟩, (rx.2.1 : Int), _, rfl, congrArg V.int m1, ?_⟩
  refine ⟨_, rfl, ax, _, _, _, rfl, rfl, SqT.of hx1, rfl, _, rfl, _, rfl, b, _, _, _, rfl, rfl, SqT.of hb1, rfl, ?_⟩
  refine ⟨_, rfl, _, rfl, ln, _, (m : Int), .ref am, rfl, rfl, SqL.of I2.ln, at_of rfl (by rw [List.getElem?_map, ham]; rfl), am, _, _, _, rfl, rfl, SqT.of hm1, rfl, _, _, rfl, rfl, ?_⟩
  refine ⟨(((n - m) / (i - m) : Nat) : Int), ((ri.2.2 - rm.2.2 : Nat) : Int), congrArg V.int w3, congrArg V.int t2, .inr ⟨by omega, by omega⟩, (rx.2.2 : Int), _, rfl, congrArg V.int m2, by show 3 ≤ sizeLine; decide, fun pt hpt => ?_⟩
  refine q pt _ (I2.e.trans (sm_new hpt)) ?_
  rw [hlaw]
  refine ⟨cx, ?_, hx2.mono (sm_new hpt)⟩
  rw [upd_same]
  show some (HO.tup [V.ref cx, V.int ((rx.2.1 : Int) + (((n - m) / (i - m) * (ri.2.1 - rm.2.1) : Nat) : Int)), V.int ((rx.2.2 : Int) + (((n - m) / (i - m) * (ri.2.2 - rm.2.2) : Nat) : Int))]) = some (HO.tup [V.ref cx, V.int ((rx.2.1 + (n - m) / (i - m) * (ri.2.1 - rm.2.1) : Nat) : Int), V.int ((rx.2.2 + (n - m) / (i - m) * (ri.2.2 - rm.2.2) : Nat) : Int)])
  rw [Int.natCast_add, Int.natCast_add]
end
end Far

set_option Elab.async false
set_option linter.all false
set_option maxRecDepth 100000
set_option maxHeartbeats 4000000
/-! FarLawG: _law_reader -/
namespace Far
open PySem PySem.Spec PyProof.Rows L2 Fz
def spLReader (K : PySem.W.Frag) : Sp := fun vs H Q _ => ∃ (a td : Addr) (D : PD) (h : TF) (sts : List Str) (k : Nat), vs = [.ref a, .ref td, .int k] ∧ LwAt H a td D h sts ∧ PdOk D ∧ sts.Nodup ∧ (∀ x, x ∈ sts ↔ StOf D x) ∧ k ≤ 3 ∧
  ∀ (r : Addr) (M : MD) (H' : Hp), Same H H' → RdrAt K H' r M ⟨D.mv, h, k⟩ → M.start = D.start → M.mv = D.mv → M.toks.Perm D.toks → M.fins.Perm D.fins → Q (.ref r) H'
theorem same_none {H H' : Hp} {b : Addr} (e : Same H H') (h : H' b = none) : H b = none := by
  cases z : H b with
  | none => rfl
  | some o => rw [e _ _ z] at h; cases h
/-- the law's states are the machine's places -/
theorem places_of {D : PD} {M : MD} {sts : List Str} (sm : ∀ x, x ∈ sts ↔ StOf D x) (h : ∀ x, x ∈ M.places ↔ x = D.start ∨ x ∈ D.fins ∨ ∃ s t y, D.mv s t = some y ∧ (x = s ∨ x = y)) (x : Str) : x ∈ M.places ↔ x ∈ sts := (h x).trans (sm x).symm
theorem stof_name {D : PD} (ok : PdOk D) {x : Str} (h : StOf D x) : NameOk x := by
  rcases h with rfl | z | ⟨s, t, z, e, rfl | rfl⟩
  · exact ok.ok.st
  · exact ok.ok.fnm _ z
  · exact (ok.ok.mv _ _ _ e).1
  · exact (ok.ok.mv _ _ _ e).2.2.2
theorem tabok_of {D : PD} {M : MD} {sts : List Str} {h : TF} (ok : PdOk D) (ts : TabS D sts h) (sm : ∀ x, x ∈ sts ↔ StOf D x) (hp : ∀ x, x ∈ M.places ↔ x ∈ sts) (hm : M.mv = D.mv) (ht : M.toks.Perm D.toks) : TabOk M h := by
  refine ⟨fun s t => ?_, fun s t c hc => ⟨fun x hx => ?_, fun s' hx => ?_, fun l s' hx => ?_⟩⟩
  · rw [ts.dom, hp, ht.mem_iff, hm]
  · obtain ⟨h1, h2⟩ := (ts.act _ _ _ hc).pt x hx
    rw [hm]
    exact ⟨ok.ok.tok _ h1, h2⟩
  · obtain ⟨h1, h2⟩ := (ts.act _ _ _ hc).jp s' hx
    exact ⟨stof_name ok ((sm _).mp h1), (hp _).mpr h1, h2⟩
  · obtain ⟨h1, h2, h3, h4, h5⟩ := (ts.act _ _ _ hc).ps l s' hx
    refine ⟨stof_name ok ((sm _).mp h1), (hp _).mpr h1, h2, h3, ?_, fun x hx => ⟨ok.ok.tok _ (h4 x hx), ht.mem_iff.mpr (h4 x hx)⟩, h5⟩
    exact Nat.le_trans (nodup_le _ _ h2 h4) ok.ok.t4
section
variable {P : Program} {w : World} {K : PySem.W.Frag} {mg : Str → Option Value} {base : Heap}
theorem law_reader_ok (T : Txt K mg) : Cal P w K mg base 8 "_law_reader" (spLReader K) [] := by
  have c_Machine := machine_ok (P := P) (w := w) (base := base) T
  have c_law_copy := law_copy_ok (P := P) (w := w) (base := base) T
  obtain ⟨fdR, FR⟩ := T.f_Reader_init
  have FnR := reader_init_ok (P := P) (w := w) (base := base) T FR
  obtain ⟨mv0, hbR⟩ := FR.kbinds0 (ps := ["self", "machine", "table", "hold"]) 3 ["hold"] [] (fun us _ ws => us ++ ws) (fun z => nomatch z) (fun q z => nomatch z) (fun r1 _ r2 => r1.append r2) (fun _ _ _ _ _ _ us mv ws l1 l2 l3 => match us, mv, ws, l1, l2, l3 with | [_, _, _], [], [_], _, _, _ => rfl)
  have sc : FnScope ["_law_parts_here", "_law_table_here", "_law_span", "_law_machine"] ["_law_parts_here", "_law_table_here", "_law_span"] (defScope s_law_reader) := ⟨rfl, rfl, rfl, by decide +kernel, rfl, by decide +kernel, by decide +kernel⟩
  have nd := sc.nd
  refine cal_mk T.g_law_reader T.f_law_reader sc (fun vs H Q E h => by obtain ⟨_, _, _, _, _, _, rfl, _⟩ := h; rfl) (fun _ _ _ _ _ _ us hl => match us, hl with | [_, _, _], _ => rfl) (fun cdv A outer s H vs0 Q E hr h => ?_)
  obtain ⟨a, td, D, h, sts, k, rfl, lw, ok, sn, sm, k3, q⟩ := h
  have hu := hu_of hr
  refine ⟨_, (pss_cons (pset 3 nd (C8.pe_mk c_Machine hr (by decide) (by rfl) (pa_cons (pe_callTy call_list_of (by rfl) T.b_list (by decide +kernel) (pa_cons (pe_ix ix_tup (pv 0) pe_int (fun _ _ => rfl)) pa_nil)) (pa_cons (pe_ix ix_tup (pv 0) pe_int (fun _ _ => rfl)) (pa_cons (C8.pe_c c_law_copy hr (by decide) (by rfl) (pa_cons (pe_ix ix_tup (pv 0) pe_int (fun _ _ => rfl)) pa_nil)) (pa_cons (pe_callTy call_list_of (by rfl) T.b_list (by decide +kernel) (pa_cons (pe_ix ix_tup (pv 0) pe_int (fun _ _ => rfl)) pa_nil)) pa_nil))))))
      (pss_one (ps_ret (pe_makeK (E := C8.E0) T.mk_Reader FnR hr (by rfl) T.g_Reader hbR C8.pass0 (pa_cons (pv 3) (pa_cons (C8.pe_c c_law_copy hr (by decide) (by rfl) (pa_cons (pv 1) pa_nil)) pa_nil)) (pk_cons (pv 2) pk_nil))))), ?_⟩
  obtain ⟨tk, d, fi, kvs, pa1, pa2, pa3, pa4, pa5⟩ := id lw.pa
  obtain ⟨tkv, tks, tb1, tb2⟩ := lw.tb
  have kl : D.ks.length ≤ 100 := Nat.le_trans ok.k24 (by decide)
  have stl : sts.length ≤ 6 := stof_len ok sn fun x hx => (sm x).mp hx
  have tkl : tks.length ≤ 100 := by
    have z := nodup_le tks (prodP sts D.toks) tb2.nd fun p hp => by
      have := (lw.ts.dom p.1 p.2).mp ((tb2.mem p.1 p.2).mpr hp)
      exact mem_prodP.mpr ⟨this.1, this.2.1⟩
    rw [prodP_len] at z
    have z2 : sts.length * D.toks.length ≤ 6 * 4 := Nat.mul_le_mul stl ok.ok.t4
    omega
  refine ⟨_, rfl, a, _, _, _, rfl, rfl, SqT.of pa1, rfl, tk, _, rfl, .inl (SqL.of pa2), fun l1 hl1 => ?_⟩
  have e1 := sm_new hl1 (o := .lst (D.toks.map .str))
  have o1 := upd_same (H := H) (a := l1) (o := .lst (D.toks.map .str))
  generalize upd H l1 (.lst (D.toks.map .str)) = H1 at e1 o1 ⊢
  refine ⟨_, rfl, a, _, _, _, rfl, rfl, SqT.of (e1 _ _ pa1), rfl, _, rfl, a, _, _, _, rfl, rfl, SqT.of (e1 _ _ pa1), rfl, d, kvs, D.ks, rfl, e1 _ _ pa3, pa4.keys, pa4.nd, kl, fun c1 H2 e2 hc1 oc1 => ?_⟩
  have e12 := e1.trans e2
  refine ⟨_, rfl, a, _, _, _, rfl, rfl, SqT.of (e12 _ _ pa1), rfl, fi, _, rfl, .inl (SqL.of (e12 _ _ pa5)), fun l2 hl2 => ?_⟩
  have e3 := e12.trans (sm_new hl2 (o := .lst (D.fins.map .str)))
  have o1' := sm_new hl2 (o := .lst (D.fins.map .str)) _ _ (e2 _ _ o1)
  have oc1' := sm_new hl2 (o := .lst (D.fins.map .str)) _ _ oc1
  have o2 := upd_same (H := H2) (a := l2) (o := .lst (D.fins.map .str))
  generalize upd H2 l2 (.lst (D.fins.map .str)) = H3 at e3 o1' oc1' o2 ⊢
  refine fun m dx hm hdx hne => ?_
  have e4 : Same H3 (upd (upd H3 dx (.own m)) m (.ins (He.ga K "Machine") dx [])) := (sm_new hdx).trans (sm_new (by rw [upd_ne hne.symm]; exact hm))
  refine ⟨m, dx, l1, c1, l2, kvs, D.ks, D.mv, D.toks, D.start, D.fins, rfl, upd_same, SqL.of (e4 _ _ o1'), e4 _ _ oc1', pa4, SqL.of (e4 _ _ o2), ok.ok, kl, fun H5 M x5 hM hst hmv htok hfin hpn hpl => ⟨rfl, ?_⟩⟩
  have e5 : Same H H5 := e3.trans (ex_same (sm_new hdx |>.trans (sm_new (by rw [upd_ne hne.symm]; exact hm))) x5 fun b hb => by rw [List.mem_singleton.mp hb]; exact hm)
  have hp := places_of sm hpl
  refine ⟨_, rfl, _, rfl, td, tkv, tks, rfl, e5 _ _ tb1, tb2.keys, tb2.nd, tkl, fun c2 H6 e6 hc2 oc2 => ⟨_, rfl, rfl, rfl, fun r dr hr' hdr hner => ?_⟩⟩
  have eR : Same H6 (upd (upd H6 dr (.own r)) r (.ins (He.ga K "Reader") dr [])) := (sm_new hdr).trans (sm_new (by rw [upd_ne hner.symm]; exact hr'))
  have oR := upd_same (H := upd H6 dr (.own r)) (a := r) (o := .ins (He.ga K "Reader") dr [])
  generalize upd (upd H6 dr (.own r)) r (.ins (He.ga K "Reader") dr []) = HR at eR oR ⊢
  have e56 := e5.trans e6
  refine ⟨r, dr, m, c2, M, tkv, tks, h, k, rfl, oR, hM.mono (hid_new (e6.trans eR) fun b hb => ?_), ⟨hpn, htok.nodup_iff.mpr ok.ok.tn, ?_, ?_, fun x hx => stof_name ok ((sm x).mp ((hp x).mp hx)), fun x hx => ok.ok.tok _ (htok.mem_iff.mp hx)⟩, eR _ _ oc2, tb2.mono (e56.trans eR), tabok_of ok lw.ts sm hp hmv htok, fun s hs t ht => ?_, k3, fun H' x' hR => ⟨rfl, q r M H' (ex_same (e56.trans eR) x' fun b hb => ?_) (by rw [← hmv]; exact hR) hst hmv htok hfin⟩⟩
  · rcases List.mem_cons.mp hb with z | z
    · rw [z]; exact hc2
    · rw [List.mem_singleton.mp z]; exact same_none e6 hr'
  · exact Nat.le_trans (nodup_le _ _ hpn fun x hx => (hp x).mp hx) stl
  · rw [htok.length_eq]; exact ok.ok.t4
  · rw [hmv]
    exact lw.en s ((hp s).mp hs) t (htok.mem_iff.mp ht)
  · rw [List.mem_singleton.mp hb]; exact same_none e56 hr'
end
end Far

set_option Elab.async false
set_option linter.all false
set_option maxRecDepth 100000
set_option maxHeartbeats 4000000
/-! FarLawH: _law_same, where both hold the same -/
namespace Far
open PySem PySem.Spec PyProof.Rows L2 Fz
/-- the same at both, of the depth d at most -/
def SmAt (H : Hp) : Nat → V → V → Prop
  | 0, x, y => (∃ i : Int, x = .int i ∧ y = .int i) ∨ ∃ s : Str, x = .str s ∧ y = .str s
  | d + 1, x, y => ((∃ i : Int, x = .int i ∧ y = .int i) ∨ ∃ s : Str, x = .str s ∧ y = .str s) ∨
    ∃ (a b : Addr) (xs ys : List V), x = .ref a ∧ y = .ref b ∧ ((H a = some (.lst xs) ∧ H b = some (.lst ys)) ∨ (H a = some (.tup xs) ∧ H b = some (.tup ys))) ∧ xs.length = ys.length ∧ xs.length ≤ 100 ∧ ∀ (i : Nat) (x y : V), xs[i]? = some x → ys[i]? = some y → SmAt H d x y
def spSame (d : Nat) : Sp := fun vs H Q _ => ∃ x y : V, vs = [x, y] ∧ SmAt H d x y ∧ Q (.bl true) H
section
variable {X : Cx}
theorem ix_sq : IxR X (fun x y H Q => rIxL X.K x y H Q ∨ rIxT X.K x y H Q) := by
  intro value slice pins s σ H x y v u Q I rx ry h hs
  rcases h with h | h
  · exact ix_list value slice pins s σ H x y v u Q I rx ry h hs
  · exact ix_tup value slice pins s σ H x y v u Q I rx ry h hs
end
section
variable {P : Program} {w : World} {K : PySem.W.Frag} {mg : Str → Option Value} {base : Heap}
theorem law_same_ok (T : Txt K mg) : ∀ d : Nat, Cal P w K mg base (d + 1) "_law_same" (spSame d) [] := by
  have sc : FnScope ["_law_actual", "_law_due", "_law_key", "_law_k"] ["_law_actual", "_law_due"] (defScope s_law_same) := ⟨rfl, rfl, rfl, by decide +kernel, rfl, by decide +kernel, by decide +kernel⟩
  have nd := sc.nd
  intro d
  induction d with
  | zero =>
    refine cal_mk T.g_law_same T.f_law_same sc (fun vs H Q E h => by obtain ⟨_, _, rfl, _⟩ := h; rfl) (fun _ _ _ _ _ _ us hl => match us, hl with | [_, _], _ => rfl) (fun cdv A outer s H vs0 Q E hr h => ?_)
    obtain ⟨x, y, rfl, hs, q⟩ := h
    have hu := hu_of hr
    refine ⟨_, (pss_cons (ps_if (pt_cmpR op_isN (pv 1) pe_non (nomark _)) pss_never pss_nil)
      (pss_cons (ps_if (pt_val (pe_callB call_isi (by rfl) T.b_isinstance (by decide +kernel) (pa_cons (pv 1) (pa_cons (pe_bltn (v := .ty "bool") (by rfl) T.b_bool (by decide +kernel) rfl) pa_nil)))) pss_never pss_nil)
      (pss_cons (ps_if (pt_val (pe_callB call_isi (by rfl) T.b_isinstance (by decide +kernel) (pa_cons (pv 1) (pa_cons (pe_bltn (v := .ty "int") (by rfl) T.b_int (by decide +kernel) rfl) pa_nil)))) (pss_one (ps_ret (pe_and (pe_callB call_isi (by rfl) T.b_isinstance (by decide +kernel) (pa_cons (pv 0) (pa_cons (pe_bltn (v := .ty "int") (by rfl) T.b_int (by decide +kernel) rfl) pa_nil))) (pe_and (pe_not (pe_callB call_isi (by rfl) T.b_isinstance (by decide +kernel) (pa_cons (pv 0) (pa_cons (pe_bltn (v := .ty "bool") (by rfl) T.b_bool (by decide +kernel) rfl) pa_nil)))) (pe_one (pe_cmpR op_eq (pv 0) (pv 1) (nomark _))))))) pss_nil)
      (pss_cons (ps_if (pt_val (pe_callB call_isi (by rfl) T.b_isinstance (by decide +kernel) (pa_cons (pv 1) (pa_cons (pe_bltn (v := .ty "str") (by rfl) T.b_str (by decide +kernel) rfl) pa_nil)))) (pss_one (ps_ret (pe_and (pe_callB call_isi (by rfl) T.b_isinstance (by decide +kernel) (pa_cons (pv 0) (pa_cons (pe_bltn (v := .ty "str") (by rfl) T.b_str (by decide +kernel) rfl) pa_nil))) (pe_one (pe_cmpR op_eq (pv 0) (pv 1) (nomark _)))))) pss_nil)
      pss_never)))), ?_⟩
    rcases hs with ⟨i, rfl, rfl⟩ | ⟨z, rfl, rfl⟩
    · refine ⟨_, rfl, rfl, _, rfl, ite2 (fun z => absurd z (by simp)) (fun _ => ?_)⟩
      refine ⟨_, rfl, _, _, _, _, false, rfl, .ty _, .base (.int i), kit_ty (by decide +kernel), false, rfl, iteF ?_⟩
      refine ⟨_, rfl, _, _, _, _, true, rfl, .ty _, .base (.int i), kit_ty (by decide +kernel), true, rfl, iteT ?_⟩
      refine ⟨_, rfl, _, _, _, _, true, rfl, .ty _, .base (.int i), kit_ty (by decide +kernel), true, rfl, iteT ?_⟩
      refine ⟨_, rfl, _, _, _, _, false, rfl, .ty _, .base (.int i), kit_ty (by decide +kernel), false, rfl, true, rfl, iteT ?_⟩
      refine ⟨_, rfl, _, rfl, rfl, ?_⟩
      show Q (.bl (decide (V.int i = V.int i))) H
      rw [decide_eq_true rfl]
      exact q
    · refine ⟨_, rfl, rfl, _, rfl, ite2 (fun z => absurd z (by simp)) (fun _ => ?_)⟩
      refine ⟨_, rfl, _, _, _, _, false, rfl, .ty _, .base (.str z), kit_ty (by decide +kernel), false, rfl, iteF ?_⟩
      refine ⟨_, rfl, _, _, _, _, false, rfl, .ty _, .base (.str z), kit_ty (by decide +kernel), false, rfl, iteF ?_⟩
      refine ⟨_, rfl, _, _, _, _, true, rfl, .ty _, .base (.str z), kit_ty (by decide +kernel), true, rfl, iteT ?_⟩
      refine ⟨_, rfl, _, _, _, _, true, rfl, .ty _, .base (.str z), kit_ty (by decide +kernel), true, rfl, iteT ?_⟩
      refine ⟨_, rfl, _, rfl, rfl, ?_⟩
      show Q (.bl (decide (V.str z = V.str z))) H
      rw [decide_eq_true rfl]
      exact q
  | succ d ih =>
    have c_law_same := ih
    refine cal_mk T.g_law_same T.f_law_same sc (fun vs H Q E h => by obtain ⟨_, _, rfl, _⟩ := h; rfl) (fun _ _ _ _ _ _ us hl => match us, hl with | [_, _], _ => rfl) (fun cdv A outer s H vs0 Q E hr h => ?_)
    obtain ⟨x, y, rfl, hs, q⟩ := h
    have hu := hu_of hr
    refine ⟨_, (pss_cons (ps_if (pt_cmpR op_isN (pv 1) pe_non (nomark _)) pss_never pss_nil)
      (pss_cons (ps_if (pt_val (pe_callB call_isi (by rfl) T.b_isinstance (by decide +kernel) (pa_cons (pv 1) (pa_cons (pe_bltn (v := .ty "bool") (by rfl) T.b_bool (by decide +kernel) rfl) pa_nil)))) pss_never pss_nil)
      (pss_cons (ps_if (pt_val (pe_callB call_isi (by rfl) T.b_isinstance (by decide +kernel) (pa_cons (pv 1) (pa_cons (pe_bltn (v := .ty "int") (by rfl) T.b_int (by decide +kernel) rfl) pa_nil)))) (pss_one (ps_ret (pe_and (pe_callB call_isi (by rfl) T.b_isinstance (by decide +kernel) (pa_cons (pv 0) (pa_cons (pe_bltn (v := .ty "int") (by rfl) T.b_int (by decide +kernel) rfl) pa_nil))) (pe_and (pe_not (pe_callB call_isi (by rfl) T.b_isinstance (by decide +kernel) (pa_cons (pv 0) (pa_cons (pe_bltn (v := .ty "bool") (by rfl) T.b_bool (by decide +kernel) rfl) pa_nil)))) (pe_one (pe_cmpR op_eq (pv 0) (pv 1) (nomark _))))))) pss_nil)
      (pss_cons (ps_if (pt_val (pe_callB call_isi (by rfl) T.b_isinstance (by decide +kernel) (pa_cons (pv 1) (pa_cons (pe_bltn (v := .ty "str") (by rfl) T.b_str (by decide +kernel) rfl) pa_nil)))) (pss_one (ps_ret (pe_and (pe_callB call_isi (by rfl) T.b_isinstance (by decide +kernel) (pa_cons (pv 0) (pa_cons (pe_bltn (v := .ty "str") (by rfl) T.b_str (by decide +kernel) rfl) pa_nil))) (pe_one (pe_cmpR op_eq (pv 0) (pv 1) (nomark _)))))) pss_nil)
      (pss_cons (ps_if (pt_val (pe_callB call_isi (by rfl) T.b_isinstance (by decide +kernel) (pa_cons (pv 1) (pa_cons (pe_bltn (v := .ty "dict") (by rfl) T.b_dict (by decide +kernel) rfl) pa_nil)))) pss_never pss_nil)
      (pss_cons (ps_if (PW.pt (pw_and (pt_val (pe_callB call_isi (by rfl) T.b_isinstance (by decide +kernel) (pa_cons (pv 1) (pa_cons (pe_bltn (v := .ty "tuple") (by rfl) T.b_tuple (by decide +kernel) rfl) pa_nil)))) (pw_and1 (pt_not (pt_val (pe_callB call_isi (by rfl) T.b_isinstance (by decide +kernel) (pa_cons (pv 0) (pa_cons (pe_bltn (v := .ty "tuple") (by rfl) T.b_tuple (by decide +kernel) rfl) pa_nil)))))))) pss_never pss_nil)
      (pss_cons (ps_if (PW.pt (pw_and (pt_val (pe_callB call_isi (by rfl) T.b_isinstance (by decide +kernel) (pa_cons (pv 1) (pa_cons (pe_bltn (v := .ty "list") (by rfl) T.b_list (by decide +kernel) rfl) pa_nil)))) (pw_and1 (pt_not (pt_val (pe_callB call_isi (by rfl) T.b_isinstance (by decide +kernel) (pa_cons (pv 0) (pa_cons (pe_bltn (v := .ty "list") (by rfl) T.b_list (by decide +kernel) rfl) pa_nil)))))))) pss_never pss_nil)
      (pss_cons (ps_if (pt_cmpR op_ne (pe_callB call_len_seq (by rfl) T.b_len (by decide +kernel) (pa_cons (pv 0) pa_nil)) (pe_callB call_len_seq (by rfl) T.b_len (by decide +kernel) (pa_cons (pv 1) pa_nil)) (nomark _)) pss_never pss_nil)
      (pss_cons (ps_for PassesOwn.never rfl (pi_range1 rfl T.b_range (pa_cons (pe_callB call_len_seq (by rfl) T.b_len (by decide +kernel) (pa_cons (pv 1) pa_nil)) pa_nil)) (pgn 3 nd) (pss_one (ps_if (pt_not (pt_val (C8.pe_c c_law_same hr (Nat.le_refl _) (by rfl) (pa_cons (pe_ix ix_sq (pv 0) (pv 3) (fun _ _ => rfl)) (pa_cons (pe_ix ix_sq (pv 1) (pv 3) (fun _ _ => rfl)) pa_nil))))) pss_never pss_nil)))
      (pss_one (ps_ret pe_bl))))))))))), ?_⟩
    rcases hs with hs | ⟨a, b, xs, ys, rfl, rfl, hab, hl, h100, hall⟩
    · rcases hs with ⟨i, rfl, rfl⟩ | ⟨z, rfl, rfl⟩
      · refine ⟨_, rfl, rfl, _, rfl, ite2 (fun z => absurd z (by simp)) (fun _ => ?_)⟩
        refine ⟨_, rfl, _, _, _, _, false, rfl, .ty _, .base (.int i), kit_ty (by decide +kernel), false, rfl, iteF ?_⟩
        refine ⟨_, rfl, _, _, _, _, true, rfl, .ty _, .base (.int i), kit_ty (by decide +kernel), true, rfl, iteT ?_⟩
        refine ⟨_, rfl, _, _, _, _, true, rfl, .ty _, .base (.int i), kit_ty (by decide +kernel), true, rfl, iteT ?_⟩
        refine ⟨_, rfl, _, _, _, _, false, rfl, .ty _, .base (.int i), kit_ty (by decide +kernel), false, rfl, true, rfl, iteT ?_⟩
        refine ⟨_, rfl, _, rfl, rfl, ?_⟩
        show Q (.bl (decide (V.int i = V.int i))) H
        rw [decide_eq_true rfl]
        exact q
      · refine ⟨_, rfl, rfl, _, rfl, ite2 (fun z => absurd z (by simp)) (fun _ => ?_)⟩
        refine ⟨_, rfl, _, _, _, _, false, rfl, .ty _, .base (.str z), kit_ty (by decide +kernel), false, rfl, iteF ?_⟩
        refine ⟨_, rfl, _, _, _, _, false, rfl, .ty _, .base (.str z), kit_ty (by decide +kernel), false, rfl, iteF ?_⟩
        refine ⟨_, rfl, _, _, _, _, true, rfl, .ty _, .base (.str z), kit_ty (by decide +kernel), true, rfl, iteT ?_⟩
        refine ⟨_, rfl, _, _, _, _, true, rfl, .ty _, .base (.str z), kit_ty (by decide +kernel), true, rfl, iteT ?_⟩
        refine ⟨_, rfl, _, rfl, rfl, ?_⟩
        show Q (.bl (decide (V.str z = V.str z))) H
        rw [decide_eq_true rfl]
        exact q
    · refine ⟨_, rfl, rfl, _, rfl, ite2 (fun z => absurd z (by simp)) (fun _ => ?_)⟩
      rcases hab with ⟨ha, hb⟩ | ⟨ha, hb⟩
      · have tb : TyX K H (.ref b) (.type "list") := tyx_l (SqL.of hb)
        have ta : TyX K H (.ref a) (.type "list") := tyx_l (SqL.of ha)
        refine ⟨_, rfl, _, _, _, _, false, rfl, .ty _, tb, kit_ty (by decide +kernel), false, rfl, iteF ?_⟩
        refine ⟨_, rfl, _, _, _, _, false, rfl, .ty _, tb, kit_ty (by decide +kernel), false, rfl, iteF ?_⟩
        refine ⟨_, rfl, _, _, _, _, false, rfl, .ty _, tb, kit_ty (by decide +kernel), false, rfl, iteF ?_⟩
        refine ⟨_, rfl, _, _, _, _, false, rfl, .ty _, tb, kit_ty (by decide +kernel), false, rfl, iteF ?_⟩
        refine ⟨_, rfl, _, _, _, _, false, rfl, .ty _, tb, kit_ty (by decide +kernel), false, rfl, iteF (iteF ?_)⟩
        refine ⟨_, rfl, _, _, _, _, true, rfl, .ty _, tb, kit_ty (by decide +kernel), true, rfl, iteT ?_⟩
        refine ⟨_, rfl, _, _, _, _, true, rfl, .ty _, ta, kit_ty (by decide +kernel), true, rfl, iteF ?_⟩
        refine ⟨_, rfl, a, _, rfl, .inl (SqL.of ha), _, rfl, b, _, rfl, .inl (SqL.of hb), rfl, _, rfl, ?_⟩
        have e : decide (V.int (xs.length : Int) = V.int (ys.length : Int)) = true := by rw [hl]; exact decide_eq_true rfl
        show (if (!decide (V.int (xs.length : Int) = V.int (ys.length : Int))) = true then _ else _)
        rw [e]
        refine iteF ?_
        refine ⟨_, rfl, b, _, rfl, .inl (SqL.of hb), _, rfl, by omega, by omega, for_it walk_range (fun i σ' H' => H' = H ∧ ∃ v, σ' = [some (.ref a), some (.ref b), none, v]) ⟨rfl, none, rfl⟩ (fun _ _ _ _ _ => trivial) ?_ ?_⟩
        · rintro i y σ' H2 H3 hi ⟨rfl, v, rfl⟩ ⟨rfl, rfl⟩
          have hi' : i < ys.length := by omega
          have h0i : (0 : Int) + (i : Nat) = ((i : Nat) : Int) := by omega
          have hx : xs[i]? = some (xs[i]'(by omega)) := List.getElem?_eq_getElem (by omega)
          have hy : ys[i]? = some (ys[i]'(by omega)) := List.getElem?_eq_getElem (by omega)
          refine ⟨_, rfl, _, rfl, Or.inl ?_⟩
          refine ⟨a, xs, _, _, rfl, rfl, SqL.of ha, at_of h0i hx, ?_⟩
          refine ⟨_, rfl, _, rfl, Or.inl ?_⟩
          refine ⟨b, ys, _, _, rfl, rfl, SqL.of hb, at_of h0i hy, ?_⟩
          exact ⟨_, _, rfl, hall i _ _ hx hy, true, rfl, iteF ⟨rfl, _, rfl⟩⟩
        · rintro σ' H2 ⟨rfl, v, rfl⟩
          exact q
      · have tb : TyX K H (.ref b) (.type "tuple") := tyx_t (SqT.of hb)
        have ta : TyX K H (.ref a) (.type "tuple") := tyx_t (SqT.of ha)
        refine ⟨_, rfl, _, _, _, _, false, rfl, .ty _, tb, kit_ty (by decide +kernel), false, rfl, iteF ?_⟩
        refine ⟨_, rfl, _, _, _, _, false, rfl, .ty _, tb, kit_ty (by decide +kernel), false, rfl, iteF ?_⟩
        refine ⟨_, rfl, _, _, _, _, false, rfl, .ty _, tb, kit_ty (by decide +kernel), false, rfl, iteF ?_⟩
        refine ⟨_, rfl, _, _, _, _, false, rfl, .ty _, tb, kit_ty (by decide +kernel), false, rfl, iteF ?_⟩
        refine ⟨_, rfl, _, _, _, _, true, rfl, .ty _, tb, kit_ty (by decide +kernel), true, rfl, iteT ?_⟩
        refine ⟨_, rfl, _, _, _, _, true, rfl, .ty _, ta, kit_ty (by decide +kernel), true, rfl, iteF ?_⟩
        refine ⟨_, rfl, _, _, _, _, false, rfl, .ty _, tb, kit_ty (by decide +kernel), false, rfl, iteF (iteF ?_)⟩
        refine ⟨_, rfl, a, _, rfl, .inr (SqT.of ha), _, rfl, b, _, rfl, .inr (SqT.of hb), rfl, _, rfl, ?_⟩
        have e : decide (V.int (xs.length : Int) = V.int (ys.length : Int)) = true := by rw [hl]; exact decide_eq_true rfl
        show (if (!decide (V.int (xs.length : Int) = V.int (ys.length : Int))) = true then _ else _)
        rw [e]
        refine iteF ?_
        refine ⟨_, rfl, b, _, rfl, .inr (SqT.of hb), _, rfl, by omega, by omega, for_it walk_range (fun i σ' H' => H' = H ∧ ∃ v, σ' = [some (.ref a), some (.ref b), none, v]) ⟨rfl, none, rfl⟩ (fun _ _ _ _ _ => trivial) ?_ ?_⟩
        · rintro i y σ' H2 H3 hi ⟨rfl, v, rfl⟩ ⟨rfl, rfl⟩
          have hi' : i < ys.length := by omega
          have h0i : (0 : Int) + (i : Nat) = ((i : Nat) : Int) := by omega
          have hx : xs[i]? = some (xs[i]'(by omega)) := List.getElem?_eq_getElem (by omega)
          have hy : ys[i]? = some (ys[i]'(by omega)) := List.getElem?_eq_getElem (by omega)
          refine ⟨_, rfl, _, rfl, Or.inr ?_⟩
          refine ⟨a, xs, _, _, rfl, rfl, SqT.of ha, at_of h0i hx, ?_⟩
          refine ⟨_, rfl, _, rfl, Or.inr ?_⟩
          refine ⟨b, ys, _, _, rfl, rfl, SqT.of hb, at_of h0i hy, ?_⟩
          exact ⟨_, _, rfl, hall i _ _ hx hy, true, rfl, iteF ⟨rfl, _, rfl⟩⟩
        · rintro σ' H2 ⟨rfl, v, rfl⟩
          exact q
end
end Far

set_option Elab.async false
set_option linter.all false
set_option maxRecDepth 100000
set_option maxHeartbeats 4000000
/-! FarLawI: law -/
namespace Far
open PySem PySem.Spec PyProof.Rows L2 Fz
/-- the lists a reading can wait for -/
def passW (tks : List Pt) (h : TF) : List (List Str) := [] :: tks.map fun p => match h p.1 p.2 with | some a => tsOf a | none => []
theorem rdok_of {D : PD} {sts : List Str} {h : TF} {tks : List Pt} {k : Nat} (ok : PdOk D) (ts : TabS D sts h) (sm : ∀ x, x ∈ sts ↔ StOf D x) (hm : ∀ s t, (h s t).isSome = true ↔ (s, t) ∈ tks) (en : ∀ s ∈ sts, ∀ t ∈ D.toks, ends ⟨D.mv, h, 0⟩ t 8 s = true) (k3 : k ≤ 3) : RdOk ⟨D.mv, h, k⟩ sts D.toks (passW tks h) where
  tot := fun s hs t ht e => Option.isSome_iff_exists.mp ((ts.dom s t).mpr ⟨hs, ht, e⟩)
  mvS := fun s t s' e => (sm _).mpr (.inr (.inr ⟨s, t, s', e, .inr rfl⟩))
  put := fun s t x e => ((ts.act _ _ _ e).pt x (.inl rfl)).2
  tak := fun s t x e => ((ts.act _ _ _ e).pt x (.inr rfl)).2
  jmp := fun s t s' e => ((ts.act _ _ _ e).jp s' rfl).1
  pas := fun s t l s' e => by
    refine ⟨((ts.act _ _ _ e).ps l s' rfl).1, List.mem_cons_of_mem _ (List.mem_map.mpr ⟨(s, t), (hm s t).mp (by rw [show h s t = some (.pass l s') from e]; rfl), ?_⟩)⟩
    show (match h s t with | some a => tsOf a | none => []) = l
    rw [show h s t = some (.pass l s') from e]
    rfl
  nil := List.mem_cons_self
  wl := fun l hl => by
    rcases List.mem_cons.mp hl with rfl | hl
    · exact Nat.zero_le _
    · obtain ⟨⟨s, t⟩, _, e⟩ := List.mem_map.mp hl
      have e : (match h s t with | some a => tsOf a | none => []) = l := e
      cases hc : h s t with
      | none => rw [hc] at e; rw [← e]; exact Nat.zero_le _
      | some c =>
        rw [hc] at e
        cases c with
        | pass l' s' =>
          have e : l' = l := e
          rw [← e]
          obtain ⟨h1, h2, h3, h4, h5⟩ := (ts.act _ _ _ hc).ps l' s' rfl
          exact Nat.le_trans (nodup_le _ _ h2 h4) ok.ok.t4
        | skip => rw [← e]; exact Nat.zero_le _
        | put x => rw [← e]; exact Nat.zero_le _
        | take x => rw [← e]; exact Nat.zero_le _
        | jump x => rw [← e]; exact Nat.zero_le _
  fin := en
  hld := k3
theorem passW_names {D : PD} {sts : List Str} {h : TF} {tks : List Pt} (ok : PdOk D) (ts : TabS D sts h) : ∀ l ∈ passW tks h, ∀ x ∈ l, NameOk x := fun l hl x hx => by
  rcases List.mem_cons.mp hl with rfl | hl
  · cases hx
  · obtain ⟨⟨s, t⟩, _, e⟩ := List.mem_map.mp hl
    have e : (match h s t with | some a => tsOf a | none => []) = l := e
    cases hc : h s t with
    | none => rw [hc] at e; rw [← e] at hx; cases hx
    | some c =>
      rw [hc] at e
      cases c with
      | pass l' s' =>
        have e : l' = l := e
        rw [← e] at hx
        exact ok.ok.tok _ (((ts.act _ _ _ hc).ps l' s' rfl).2.2.2.1 x hx)
      | skip => rw [← e] at hx; cases hx
      | put x => rw [← e] at hx; cases hx
      | take x => rw [← e] at hx; cases hx
      | jump x => rw [← e] at hx; cases hx
/-- the purse's own lists are no lists of texts -/
theorem pur_out {H : Hp} {p g b : Addr} {o : HO} (pu : Pur H p g) (hb : H b = some o) (h : (∀ xs, o ≠ .lst xs) ∨ ∃ xs : List Str, o = .lst (xs.map V.str)) : hid [p, g] H b = some o := by
  obtain ⟨c, ns, gs, n, h1, h2, h3, hl, h0, _⟩ := pu
  rw [hid_out]
  · exact hb
  intro z
  rcases List.mem_cons.mp z with z | z
  · rw [z, h1] at hb
    have e := Option.some.inj hb
    rcases h with h | ⟨xs, h⟩
    · exact h _ e.symm
    · rw [h] at e
      have e2 : [V.ref c, V.ref g, V.int n] = xs.map V.str := by injection e
      cases xs with
      | nil => cases e2
      | cons x xs => injection e2 with e3; cases e3
  · rw [List.mem_singleton.mp z, h3] at hb
    have e := Option.some.inj hb
    rcases h with h | ⟨xs, h⟩
    · exact h _ e.symm
    · rw [h] at e
      have e2 : gs.map V.int = xs.map V.str := by injection e
      cases gs with
      | nil => exact absurd h0 (by rw [hl]; decide)
      | cons y gs =>
        cases xs with
        | nil => cases e2
        | cons x xs => injection e2 with e3; cases e3
theorem ActAt.pur {H : Hp} {p g a : Addr} {c : FAct Str} (pu : Pur H p g) (h : ActAt H a c) : ActAt (hid [p, g] H) a c := by
  have k : ∀ {b : Addr} {xs : List V}, H b = some (.tup xs) → hid [p, g] H b = some (.tup xs) := fun hb => pur_out pu hb (.inl fun _ z => nomatch z)
  cases c with
  | skip => exact k h
  | put x => exact k h
  | take x => exact k h
  | jump x => exact k h
  | pass ts x =>
    obtain ⟨b, h1, h2⟩ := h
    exact ⟨b, k h1, k h2⟩
theorem RdrAt.pur {K : PySem.W.Frag} {H : Hp} {p g r : Addr} {M : MD} {R : FRd Str} (pu : Pur H p g) (h : RdrAt K H r M R) : RdrAt K (hid [p, g] H) r M R := by
  obtain ⟨dr, m, ac, pa, kvs, ks, h1, ⟨dm, al, ed, en, pl, kv, g1, g2, g3, g4, g5, g6⟩, h3, h4, h5⟩ := h
  exact ⟨dr, m, ac, pa, kvs, ks, pur_out pu h1 (.inl fun _ z => nomatch z), ⟨dm, al, ed, en, pl, kv, pur_out pu g1 (.inl fun _ z => nomatch z), pur_out pu g2 (.inr ⟨_, rfl⟩), pur_out pu g3 (.inl fun _ z => nomatch z), g4, pur_out pu g5 (.inr ⟨_, rfl⟩), pur_out pu g6 (.inr ⟨_, rfl⟩)⟩, pur_out pu h3 (.inl fun _ z => nomatch z), ⟨h4.keys, h4.nd, h4.mem, fun s t a e => let ⟨aa, k1, k2⟩ := h4.val s t a e; ⟨aa, k1, k2.pur pu⟩⟩, h5⟩
/-- where the law's own reading ends -/
def endV (R : FRd Str) (start : Str) (us ws : List Str) (n : Nat) (xs : List Str) : FP Str := ((goalV R start us ws n xs).1, (blk R ⟨start, [], 0⟩ us).2.1 + psum (tls R ws (c0v R start us)) n + (goalV R start us ws n xs).2.1, (blk R ⟨start, [], 0⟩ us).2.2 + psum (mns R ws (c0v R start us)) n + (goalV R start us ws n xs).2.2)
theorem told_eq {R : FRd Str} {start : Str} {us ws : List Str} {n : Nat} {xs : List Str} : ov R (rep R ws (ov R (⟨start, [], 0⟩, 0, 0) us) n) xs = endV R start us ws n xs := by
  show ov R (cfs R ws (blk R ⟨start, [], 0⟩ us).1 n, (blk R ⟨start, [], 0⟩ us).2.1 + psum (tls R ws (blk R ⟨start, [], 0⟩ us).1) n, (blk R ⟨start, [], 0⟩ us).2.2 + psum (mns R ws (blk R ⟨start, [], 0⟩ us).1) n) xs = _
  rw [ov_add]
  rfl
theorem told_of {R : FRd Str} {start : Str} {us ws : List Str} {n : Nat} {xs fins fins' : List Str} (h : fins.Perm fins') : toldV R start us ws n xs fins = (endV R start us ws n xs).2.1 + (if (endV R start us ws n xs).1.st ∈ fins' then 0 else if (endV R start us ws n xs).1.q = 0 then 1 else 0) := by
  show (endV R start us ws n xs).2.1 + (if (endV R start us ws n xs).1.st ∈ fins then 0 else if (endV R start us ws n xs).1.q = 0 then 1 else 0) = _
  by_cases z : (endV R start us ws n xs).1.st ∈ fins
  · rw [if_pos z, if_pos (h.mem_iff.mp z)]
  · rw [if_neg z, if_neg fun y => z (h.mem_iff.mpr y)]
theorem mend_of {R : FRd Str} {start : Str} {us ws : List Str} {n : Nat} {xs fins fins' : List Str} (h : fins.Perm fins') : mendV R start us ws n xs fins = (endV R start us ws n xs).2.2 + (if (endV R start us ws n xs).1.st ∈ fins' then 0 else 1) := by
  show (endV R start us ws n xs).2.2 + (if (endV R start us ws n xs).1.st ∈ fins then 0 else 1) = _
  by_cases z : (endV R start us ws n xs).1.st ∈ fins
  · rw [if_pos z, if_pos (h.mem_iff.mp z)]
  · rw [if_neg z, if_neg fun y => z (h.mem_iff.mpr y)]
theorem sm_cfg {H : Hp} {a b : Addr} {c : FCfg Str} (h1 : CfgAt H a c) (h2 : CfgAt H b c) (hl : c.wt.length ≤ 100) : SmAt H 2 (.ref a) (.ref b) := by
  obtain ⟨w1, a1, a2⟩ := h1
  obtain ⟨w2, b1, b2⟩ := h2
  refine .inr ⟨a, b, _, _, rfl, rfl, .inr ⟨a1, b1⟩, rfl, by show 3 ≤ 100; decide, fun i x y hx hy => ?_⟩
  match i, hx, hy with
  | 0, hx, hy => cases hx; cases hy; exact .inl (.inr ⟨_, rfl, rfl⟩)
  | 1, hx, hy =>
    cases hx
    cases hy
    refine .inr ⟨w1, w2, _, _, rfl, rfl, .inr ⟨a2, b2⟩, rfl, by rw [List.length_map]; exact hl, fun j x y hx hy => ?_⟩
    rw [hx] at hy
    cases hy
    obtain ⟨t, _, rfl⟩ := maps_get hx
    exact .inr ⟨t, rfl, rfl⟩
  | 2, hx, hy => cases hx; cases hy; exact .inl (.inl ⟨_, rfl, rfl⟩)
section
variable {P : Program} {w : World} {K : PySem.W.Frag} {mg : Str → Option Value} {base : Heap}
/-- the law's promise, as the top wants it -/
def spLawI (K : PySem.W.Frag) : Sp := fun vs H Q _ => ∃ (a : Addr) (ns : List Int), vs = [.ref a] ∧ SqL K H a (ns.map V.int) ∧ ns.length ≤ 63 ∧ ∀ H', Q (.bl true) H'
theorem law_ok (T : Txt K mg) {fd : FuncData} (F : FunD K "law" "law" (defArgs s_law) (defBody s_law) (defScope s_law) [] [] (He.ga K "law") fd) :
    FnOk P w K mg base C8.CX0 11 (He.ga K "law") fd ["_law_script"] (spLawI K) := by
  have c_law_purse := law_purse_ok (P := P) (w := w) (base := base) T
  have c_law_parts := law_parts_ok (P := P) (w := w) (base := base) T
  have c_law_table := law_table_ok (P := P) (w := w) (base := base) T
  have c_law_draw := law_draw_ok (P := P) (w := w) (base := base) T
  have c_law_reader := law_reader_ok (P := P) (w := w) (base := base) T
  have c_law_far := law_far_ok (P := P) (w := w) (base := base) T
  have c_law_over := law_over_ok (P := P) (w := w) (base := base) T
  have c_law_turns := law_turns_ok (P := P) (w := w) (base := base) T
  have c_law_same := law_same_ok (P := P) (w := w) (base := base) T 3
  have c_told_far := told_far_ok (P := P) (w := w) (base := base) T
  have c_mends_far := mends_far_ok (P := P) (w := w) (base := base) T
  have c_arrive_far := arrive_far_ok (P := P) (w := w) (base := base) T
  have sc : FnScope ["_law_script", "_law_purse_here", "_law_parts_here", "_law_table_here", "_law_span", "_law_reader_here", "_law_far_here", "_law_place", "_law_wrong", "_law_due", "_law_again_here"] ["_law_script"] (defScope s_law) := ⟨rfl, rfl, rfl, by decide +kernel, rfl, by decide +kernel, by decide +kernel⟩
  have nd := sc.nd
  refine F.ok sc (fun vs H Q E h => by obtain ⟨_, _, rfl, _⟩ := h; rfl) (fun cdv A outer s H vs0 Q E hr h => ?_)
  suffices hs : ∃ t, PSs (cxOf C8.CX0 P w K mg base ["_law_script", "_law_purse_here", "_law_parts_here", "_law_table_here", "_law_span", "_law_reader_here", "_law_far_here", "_law_place", "_law_wrong", "_law_due", "_law_again_here"] "law" (defScope s_law) (He.ga K "law") cdv A outer s H E).nox (defBody s_law) t ∧ t { nx := fun _ H' => Q .non H', rt := Q } (start ["_law_script", "_law_purse_here", "_law_parts_here", "_law_table_here", "_law_span", "_law_reader_here", "_law_far_here", "_law_place", "_law_wrong", "_law_due", "_law_again_here"] vs0) H by
    obtain ⟨t, h1, h2⟩ := hs
    exact ⟨t, h1.nox, h2⟩
  obtain ⟨a0, ns, rfl, hs0, n63, q⟩ := h
  have hu := hu_of hr
  refine ⟨_, (pss_cons (pset 1 nd (C8.pe_c c_law_purse hr (by decide) (by rfl) (pa_cons (pv 0) pa_nil)))
      (pss_cons (pset 2 nd (C8.pe_c c_law_parts hr (by decide) (by rfl) (pa_cons (pv 1) (pa_cons pe_int (pa_cons pe_int pa_nil)))))
      (pss_cons (pset 3 nd (C8.pe_c c_law_table hr (by decide) (by rfl) (pa_cons (pv 1) (pa_cons (pv 2) pa_nil))))
      (pss_cons (pset 4 nd (C8.pe_c c_law_draw hr (by decide) (by rfl) (pa_cons (pv 1) (pa_cons pe_int pa_nil))))
      (pss_cons (pset 5 nd (C8.pe_c c_law_reader hr (by decide) (by rfl) (pa_cons (pv 2) (pa_cons (pv 3) (pa_cons (pv 4) pa_nil)))))
      (pss_cons (pset 6 nd (C8.pe_c c_law_far hr (by decide) (by rfl) (pa_cons (pv 1) (pa_cons (pv 2) (pa_cons (pe_op op_pow pe_int pe_int) pa_nil)))))
      (pss_cons (pset 7 nd (C8.pe_c c_law_over hr (by decide) (by rfl) (pa_cons (pv 2) (pa_cons (pv 3) (pa_cons (pv 4) (pa_cons (pe_tup (pa_cons (pe_tup (pa_cons (pe_ix ix_tup (pv 2) pe_int (fun _ _ => rfl)) (pa_cons (pe_tup pa_nil) (pa_cons pe_int pa_nil)))) (pa_cons pe_int (pa_cons pe_int pa_nil)))) (pa_cons (pe_ix ix_list (pv 6) pe_int (fun _ _ => rfl)) pa_nil)))))))
      (pss_cons (pset 7 nd (C8.pe_c c_law_turns hr (by decide) (by rfl) (pa_cons (pv 2) (pa_cons (pv 3) (pa_cons (pv 4) (pa_cons (pv 7) (pa_cons (pe_ix ix_list (pv 6) pe_int (fun _ _ => rfl)) (pa_cons (pe_ix ix_list (pv 6) pe_int (fun _ _ => rfl)) pa_nil))))))))
      (pss_cons (pset 7 nd (C8.pe_c c_law_over hr (by decide) (by rfl) (pa_cons (pv 2) (pa_cons (pv 3) (pa_cons (pv 4) (pa_cons (pv 7) (pa_cons (pe_ix ix_list (pv 6) pe_int (fun _ _ => rfl)) pa_nil)))))))
      (pss_cons (pset 8 nd (pe_callTy call_int1 (by rfl) T.b_int (by decide +kernel) (pa_cons (pe_cmpR op_notIn_seq (pe_ix ix_tup (pe_ix ix_tup (pv 7) pe_int (fun _ _ => rfl)) pe_int (fun _ _ => rfl)) (pe_ix ix_tup (pv 2) pe_int (fun _ _ => rfl)) (by rfl)) pa_nil)))
      (pss_cons (pset 9 nd (pe_lst (pa_cons (pe_op op_add (pe_ix ix_tup (pv 7) pe_int (fun _ _ => rfl)) (pe_op op_mul (pv 8) (pe_callTy call_int1 (by rfl) T.b_int (by decide +kernel) (pa_cons (pe_cmpR op_eq (pe_ix ix_tup (pe_ix ix_tup (pv 7) pe_int (fun _ _ => rfl)) pe_int (fun _ _ => rfl)) pe_int (nomark _)) pa_nil)))) (pa_cons (pe_op op_add (pe_ix ix_tup (pv 7) pe_int (fun _ _ => rfl)) (pv 8)) (pa_cons (pe_ix ix_tup (pv 7) pe_int (fun _ _ => rfl)) pa_nil)))))
      (pss_cons (ps_for PassesOwn.never rfl (pi_range1 rfl T.b_range (pa_cons pe_int pa_nil)) (pgn 10 nd) (pss_one (ps_if (pt_not (pt_val (C8.pe_c c_law_same hr (by decide) (by rfl) (pa_cons (pe_lst (pa_cons (C8.pe_c c_told_far hr (by decide) (by rfl) (pa_cons (pv 5) (pa_cons (pv 6) pa_nil))) (pa_cons (C8.pe_c c_mends_far hr (by decide) (by rfl) (pa_cons (pv 5) (pa_cons (pe_callTy call_tuple_of (by rfl) T.b_tuple (by decide +kernel) (pa_cons (pv 6) pa_nil)) pa_nil))) (pa_cons (C8.pe_c c_arrive_far hr (by decide) (by rfl) (pa_cons (pv 5) (pa_cons (pv 6) pa_nil))) pa_nil)))) (pa_cons (pv 9) pa_nil))))) pss_never pss_nil)))
      (pss_one (ps_ret pe_bl)))))))))))))), ?_⟩
  refine ⟨_, rfl, a0, ns, rfl, hs0, n63, fun p g H1 e1 p1 => ?_⟩
  refine ⟨_, rfl, p, g, rfl, p1, fun a D H2 x2 p2 pa ok => ?_⟩
  refine ⟨_, rfl, _, rfl, p, g, a, D, rfl, p2, pa, ok, fun td tkv tks h sts H3 x3 p3 htd tb sn sm ts tkl en => ?_⟩
  refine ⟨_, rfl, p, g, 4, rfl, p3, by decide, by decide, fun k H4 hk x4 p4 => ?_⟩
  have cl : ∀ s t x, D.mv s t = some x → x ∈ sts := fun s t x e => (sm _).mpr (.inr (.inr ⟨s, t, x, e, .inr rfl⟩))
  have lw3 : LwAt (hid [p, g] H3) a td D h sts := ⟨pa.mono x3, ⟨tkv, tks, htd, tb⟩, ts, cl, en⟩
  have lw4 : LwAt (hid [p, g] H4) a td D h sts := lw3.mono x4
  -- the reader
  refine ⟨_, rfl, _, rfl, _, rfl, a, td, D, h, sts, k, rfl, lw4.mono (same_hid _ _), ok, sn, sm, by omega, fun r M H5 e5 rd hst hmv htok hfin => ?_⟩
  have p5 := p4.mono e5
  have rd5 := rd.pur p5
  have lw5 : LwAt (hid [p, g] H5) a td D h sts := lw4.mono (hid_same e5)
  -- the far row
  have pw : CPow 10 30 := ⟨by decide, by decide, by decide⟩
  have e30 : ((10 : Int) ^ (30 : Int).toNat) = 1000000000000000000000000000000 := by decide
  have dr : [V.ref p, V.ref a, V.int ((10 : Int) ^ (30 : Int).toNat)] = [V.ref p, V.ref a, V.int 1000000000000000000000000000000] := by rw [e30]
  refine ⟨_, rfl, _, rfl, _, _, rfl, rfl, pw, p, g, a, D, dr, p5, lw5.pa, ok, fun f u v x us ws xs n H6 x6 p6 hf hu6 hv6 hx6 ul vl xl um vm xm n30 => ?_⟩
  have lw6 : LwAt H6 a td D h sts := (lw5.mono x6).mono (same_hid _ _)
  have rd6 : RdrAt K H6 r M ⟨D.mv, h, k⟩ := (rd5.mono x6).mono (same_hid _ _)
  have hf := hid_at hf
  have hu6 := hid_at hu6
  have hv6 := hid_at hv6
  have hx6 := hid_at hx6
  obtain ⟨tk, d, fi, kvs, pa1, pa2, pa3, pa4, pa5⟩ := id lw6.pa
  have rok := rdok_of ok ts sm tb.mem en (show k ≤ 3 by omega)
  have wn := passW_names (tks := tks) ok ts
  have stl : sts.length ≤ 6 := stof_len ok sn fun x hx => (sm x).mp hx
  have snm : ∀ x ∈ sts, NameOk x := fun x hx => stof_name ok ((sm x).mp hx)
  have w25 : (passW tks h).length ≤ 25 := by
    show (tks.map _).length + 1 ≤ 25
    rw [List.length_map]
    omega
  have st0 : D.start ∈ sts := (sm _).mpr (.inl rfl)
  have cin0 : CfIn sts (passW tks h) (⟨D.start, [], 0⟩ : FCfg Str) := ⟨st0, rok.nil, Nat.zero_le _⟩
  clear pa lw3 lw4 lw5 rd rd5 tb htd x3 x4
  -- the law's own reading: u
  refine ⟨_, rfl, _, rfl, _, rfl, _, rfl, a, _, _, _, rfl, rfl, SqT.of pa1, rfl, Nat.zero_le _, fun b0 hb0 => ⟨by show 3 ≤ sizeLine; decide, fun c0 hc0 => ⟨by show 3 ≤ sizeLine; decide, fun q0 hq0 => ?_⟩⟩⟩
  have b1 := upd_same (H := H6) (a := b0) (o := .tup [])
  have e7 := sm_new hb0 (o := .tup [])
  generalize upd H6 b0 (.tup []) = H7 at e7 b1 hc0 hq0 ⊢
  have c1 := upd_same (H := H7) (a := c0) (o := .tup [.str D.start, .ref b0, .int 0])
  have e8 := sm_new hc0 (o := .tup [.str D.start, .ref b0, .int 0])
  have b2 := e8 _ _ b1
  have e68 := e7.trans e8
  generalize upd H7 c0 (.tup [.str D.start, .ref b0, .int 0]) = H8 at e8 e68 c1 b2 hq0 ⊢
  have q1 := upd_same (H := H8) (a := q0) (o := .tup [.ref c0, .int 0, .int 0])
  have e9 := sm_new hq0 (o := .tup [.ref c0, .int 0, .int 0])
  have c2 := e9 _ _ c1
  have b3 := e9 _ _ b2
  have e69 := e68.trans e9
  generalize upd H8 q0 (.tup [.ref c0, .int 0, .int 0]) = H9 at e9 e69 q1 c2 b3 ⊢
  have hp0 : PlAt H9 q0 ((⟨D.start, [], 0⟩ : FCfg Str), 0, 0) := ⟨c0, q1, b0, c2, b3⟩
  refine ⟨_, rfl, f, _, _, _, rfl, rfl, SqL.of (e69 _ _ hf), rfl, a, td, q0, u, D, h, sts, k, _, us, rfl, lw6.mono e69, hp0, st0, e69 _ _ hu6, um, fun pl1 HA eA hpl1 hst1 => ?_⟩
  have e6A := e69.trans eA
  -- v, n times
  refine ⟨_, rfl, _, rfl, _, rfl, _, rfl, _, rfl, f, _, _, _, rfl, rfl, SqL.of (e6A _ _ hf), rfl, _, rfl, f, _, _, _, rfl, rfl, SqL.of (e6A _ _ hf), rfl, ?_⟩
  refine ⟨a, td, pl1, v, D, h, sts, k, _, ws, n, passW tks h, rfl, lw6.mono e6A, hpl1, e6A _ _ hv6, vm, vl, rok, ov_in rok us _ cin0, stl, w25, snm, wn, n30, fun pl2 HB eB hpl2 => ?_⟩
  have e6B := e6A.trans eB
  have hst2 : (rep ⟨D.mv, h, k⟩ ws (ov ⟨D.mv, h, k⟩ ((⟨D.start, [], 0⟩ : FCfg Str), 0, 0) us) n).1.st ∈ sts := (cfs_in rok ws _ (ov_in rok us ((⟨D.start, [], 0⟩ : FCfg Str), 0, 0) cin0) n).st
  -- x
  refine ⟨_, rfl, _, rfl, _, rfl, _, rfl, _, rfl, f, _, _, _, rfl, rfl, SqL.of (e6B _ _ hf), rfl, a, td, pl2, x, D, h, sts, k, _, xs, rfl, lw6.mono e6B, hpl2, hst2, e6B _ _ hx6, xm, fun pl3 HC eC hpl3 hst3 => ?_⟩
  have e6C := e6B.trans eC
  rw [told_eq] at hpl3
  have hwt := rok.wl _ (ov_in rok xs (rep ⟨D.mv, h, k⟩ ws (ov ⟨D.mv, h, k⟩ ((⟨D.start, [], 0⟩ : FCfg Str), 0, 0) us) n) (cfs_in rok ws _ (ov_in rok us ((⟨D.start, [], 0⟩ : FCfg Str), 0, 0) cin0) n)).wt
  rw [told_eq] at hwt
  have vT : toldV ⟨D.mv, h, k⟩ M.start us ws n xs M.fins = _ := told_of hfin
  have vM : mendV ⟨D.mv, h, k⟩ M.start us ws n xs M.fins = _ := mend_of hfin
  have vA : (goalV ⟨D.mv, h, k⟩ M.start us ws n xs).1 = (endV ⟨D.mv, h, k⟩ M.start us ws n xs).1 := rfl
  rw [← hst] at hpl3 hwt
  generalize endV ⟨D.mv, h, k⟩ M.start us ws n xs = A at hpl3 vT vM vA hwt
  obtain ⟨gc, g1, gb, g2, g3⟩ := id hpl3
  -- wrong, due
  refine ⟨_, rfl, pl3, _, _, _, rfl, rfl, SqT.of g1, rfl, gc, _, _, _, rfl, rfl, SqT.of g2, rfl, _, rfl, a, _, _, _, rfl, rfl, SqT.of (e6C _ _ pa1), rfl, fi, _, rfl, .inl (SqL.of (e6C _ _ pa5)), rfl, flat_strs _, .inr ⟨_, rfl, ?_⟩⟩
  have hw : V.int (if (if true = true then !inV (.str A.1.st) (D.fins.map V.str) else inV (.str A.1.st) (D.fins.map V.str)) = true then (1 : Int) else 0) = V.int ((if A.1.st ∈ D.fins then 0 else 1 : Nat) : Int) := by
    rw [if_pos rfl, inV_strs]
    by_cases z : A.1.st ∈ D.fins
    · rw [decide_eq_true z, if_pos z]; rfl
    · rw [decide_eq_false z, if_neg z]; rfl
  rw [hw]
  have hq : ∀ b : Bool, b = decide (V.int (A.1.q : Int) = V.int 0) → V.int (if b = true then (1 : Int) else 0) = V.int ((if A.1.q = 0 then 1 else 0 : Nat) : Int) := fun b e => by
    by_cases z : A.1.q = 0
    · rw [e, z, if_pos rfl]; rfl
    · rw [e, decide_eq_false (fun y => z (by injection y; omega)), if_neg z]; rfl
  have wr1 : (if A.1.st ∈ D.fins then 0 else 1) ≤ 1 := by split <;> omega
  have vT2 : (A.2.1 : Int) + (((if A.1.st ∈ D.fins then 0 else 1) * (if A.1.q = 0 then 1 else 0) : Nat) : Int) = ((toldV ⟨D.mv, h, k⟩ M.start us ws n xs M.fins : Nat) : Int) := by
    rw [vT]
    by_cases z : A.1.st ∈ D.fins
    · simp only [if_pos z]; omega
    · simp only [if_neg z]; omega
  have vM2 : (A.2.2 : Int) + ((if A.1.st ∈ D.fins then 0 else 1 : Nat) : Int) = ((mendV ⟨D.mv, h, k⟩ M.start us ws n xs M.fins : Nat) : Int) := by
    rw [vM, Int.natCast_add]
  generalize hwr : (if A.1.st ∈ D.fins then 0 else 1 : Nat) = wr at *
  refine ⟨_, rfl, pl3, _, _, _, rfl, rfl, SqT.of g1, rfl, _, rfl, _, rfl, pl3, _, _, _, rfl, rfl, SqT.of g1, rfl, gc, _, _, _, rfl, rfl, SqT.of g2, rfl, rfl, .inr ⟨_, rfl, ?_⟩⟩
  refine ⟨(wr : Int), ((if A.1.q = 0 then 1 else 0 : Nat) : Int), rfl, hq _ rfl, .inl ⟨by omega, by omega⟩, (A.2.1 : Int), ((wr * (if A.1.q = 0 then 1 else 0) : Nat) : Int), rfl, congrArg V.int (Int.natCast_mul _ _).symm, ?_⟩
  refine ⟨_, rfl, pl3, _, _, _, rfl, rfl, SqT.of g1, rfl, _, rfl, _, _, rfl, rfl, _, rfl, pl3, _, _, _, rfl, rfl, SqT.of g1, rfl, by show 3 ≤ sizeLine; decide, fun du hdu => ?_⟩
  have du1 : upd HC du (.lst [V.int ((A.2.1 : Int) + ((wr * (if A.1.q = 0 then 1 else 0) : Nat) : Int)), V.int ((A.2.2 : Int) + (wr : Int)), V.ref gc]) du = some (.lst [V.int ((toldV ⟨D.mv, h, k⟩ M.start us ws n xs M.fins : Nat) : Int), V.int ((mendV ⟨D.mv, h, k⟩ M.start us ws n xs M.fins : Nat) : Int), V.ref gc]) := by
    rw [upd_same, vT2, vM2]
  have eD := sm_new hdu (o := .lst [V.int ((A.2.1 : Int) + ((wr * (if A.1.q = 0 then 1 else 0) : Nat) : Int)), V.int ((A.2.2 : Int) + (wr : Int)), V.ref gc])
  have hgc : CfgAt (upd HC du (.lst [V.int ((A.2.1 : Int) + ((wr * (if A.1.q = 0 then 1 else 0) : Nat) : Int)), V.int ((A.2.2 : Int) + (wr : Int)), V.ref gc])) gc A.1 := CfgAt.mono eD ⟨gb, g2, g3⟩
  have e6D := e6C.trans eD
  have all : RdAll ⟨D.mv, h, k⟩ M sts D.toks (passW tks h) := ⟨rok, by rw [hst]; exact st0, stl, w25, snm, wn⟩
  have row : ∀ {l : List Str}, l.length ≤ 12 → (∀ t ∈ l, t ∈ D.toks) → RowOk M.toks l := fun hl hm => ⟨by omega, fun t ht => ⟨ok.ok.tok _ (hm t ht), htok.mem_iff.mpr (hm t ht)⟩⟩
  have fin : ∀ {H' : Hp}, Same H6 H' → FarIn K H' r f M ⟨D.mv, h, k⟩ sts D.toks (passW tks h) us ws n xs := fun e => ⟨rd6.mono e, all, ⟨u, v, x, .inl (SqL.of (e _ _ hf)), e _ _ hu6, e _ _ hv6, e _ _ hx6⟩, row ul um, row (by omega) vm, row xl xm, fun t ht => htok.mem_iff.mp ht, n30⟩
  have fint : ∀ {H' : Hp} {l : Addr}, Same H6 H' → H' l = some (.tup [.ref u, .ref v, .int n, .ref x]) → FarIn K H' r l M ⟨D.mv, h, k⟩ sts D.toks (passW tks h) us ws n xs := fun e hl => ⟨rd6.mono e, all, ⟨u, v, x, .inr (SqT.of hl), e _ _ hu6, e _ _ hv6, e _ _ hx6⟩, row ul um, row (by omega) vm, row xl xm, fun t ht => htok.mem_iff.mp ht, n30⟩
  show tSeq _ _ _ [some (.ref a0), some (.ref p), some (.ref a), some (.ref td), some (.int k), some (.ref r), some (.ref f), some (.ref pl3), some (.int wr), some (.ref du), none] (upd HC du (.lst [V.int ((A.2.1 : Int) + ((wr * (if A.1.q = 0 then 1 else 0) : Nat) : Int)), V.int ((A.2.2 : Int) + (wr : Int)), V.ref gc]))
  generalize upd HC du (.lst [V.int ((A.2.1 : Int) + ((wr * (if A.1.q = 0 then 1 else 0) : Nat) : Int)), V.int ((A.2.2 : Int) + (wr : Int)), V.ref gc]) = HD at du1 eD hgc e6D ⊢
  refine ⟨2, rfl, by decide, by decide, for_it walk_range (fun i σ' H' => Same HD H' ∧ ∃ v, σ' = [some (.ref a0), some (.ref p), some (.ref a), some (.ref td), some (.int k), some (.ref r), some (.ref f), some (.ref pl3), some (.int wr), some (.ref du), v]) ⟨Same.refl _, none, rfl⟩ (fun _ _ _ _ _ => trivial) ?_ ?_⟩
  · rintro i y σ' H2 H3 hi ⟨e3, v3, rfl⟩ ⟨rfl, rfl⟩
    have e63 := e6D.trans e3
    refine ⟨_, rfl, _, rfl, r, f, M, ⟨D.mv, h, k⟩, sts, D.toks, passW tks h, us, ws, n, xs, rfl, fin e63, fun H4 e4 => ?_⟩
    have e64 := e63.trans e4
    refine ⟨_, rfl, _, rfl, f, _, rfl, .inl ⟨SqL.of (e64 _ _ hf), fun l hl => ?_⟩⟩
    have e65 := e64.trans (sm_new hl (o := .tup [.ref u, .ref v, .int n, .ref x]))
    refine ⟨r, l, M, ⟨D.mv, h, k⟩, sts, D.toks, passW tks h, us, ws, n, xs, rfl, fint e65 upd_same, fun H5 e5 => ?_⟩
    have e66 := e65.trans e5
    refine ⟨_, rfl, _, rfl, r, f, M, ⟨D.mv, h, k⟩, sts, D.toks, passW tks h, us, ws, n, xs, rfl, fin e66, fun ac H6' e6' hac => ?_⟩
    refine ⟨by show 3 ≤ sizeLine; decide, fun ls hls => ?_⟩
    have eD7 := (((e3.trans e4).trans (sm_new hl (o := .tup [.ref u, .ref v, .int n, .ref x]))).trans e5).trans (e6'.trans (sm_new hls (o := .lst [V.int ((toldV ⟨D.mv, h, k⟩ M.start us ws n xs M.fins : Nat) : Int), V.int ((mendV ⟨D.mv, h, k⟩ M.start us ws n xs M.fins : Nat) : Int), V.ref ac])))
    refine ⟨_, rfl, .ref ls, .ref du, rfl, .inr ⟨ls, du, _, _, rfl, rfl, .inl ⟨upd_same, eD7 _ _ du1⟩, rfl, by show 3 ≤ 100; decide, fun j xv yv hxv hyv => ?_⟩, true, rfl, iteF ⟨eD7, _, rfl⟩⟩
    match j, hxv, hyv with
    | 0, hxv, hyv => cases hxv; cases hyv; exact .inl (.inl ⟨_, rfl, rfl⟩)
    | 1, hxv, hyv => cases hxv; cases hyv; exact .inl (.inl ⟨_, rfl, rfl⟩)
    | 2, hxv, hyv =>
      cases hxv
      cases hyv
      exact sm_cfg ((vA ▸ hac).mono (sm_new hls)) (hgc.mono eD7) (by omega)
  · rintro σ' H2 ⟨e2, v3, rfl⟩
    exact q _
end
end Far

set_option Elab.async false
set_option linter.all false
set_option maxRecDepth 100000
set_option maxHeartbeats 0
namespace Far
open PySem PySem.Spec PyProof.Rows L2
abbrev R : PySem.W.OpenRow := PySem.W.OpenLaw.row PySem.Challenge.rw_slipstold_k38_whole_far_rounds
abbrev hk : PySem.W.Hook := hookF 636 fas exs fns
def ob (s : PySem.W.SharedT) : AlF := obsFG 636 fas exs fns (HandSHeadRun.getT s)
theorem ob_eq (s : PySem.W.SharedT) : ob s = hk.obs s.abs := obsFG_eq (HandSHeadRun.getT_eq s)
theorem run (w : World) : HandSHeadRun.RunEq R (PySem.W.view R.prog [67]) hk ob 8000 loose w := by
  intro os
  kernel_rfl
end Far

set_option Elab.async false
set_option linter.all false
set_option maxRecDepth 100000
set_option maxHeartbeats 0
namespace Far
open PySem PySem.W PySem.Calls PyProof.Rows L2
/-- the law's promise: a list of at most 63 ints is handed in, True comes out -/
def spLaw (K : PySem.W.Frag) : Sp := fun vs H Q _ => ∃ (a : Addr) (ns : List Int), vs = [.ref a] ∧ SqL K H a (ns.map V.int) ∧ ns.length ≤ 63 ∧ ∀ H', Q (.bl true) H'
abbrev dLaw : DefRec := HandSHeadRun.topDef R.prog 67
theorem h1 : opening R.prog = plainProg R.prog.main.scope.names := by kernel_rfl
theorem h2 (s : Shared) : fenceModules? R.prog s = some s := by kernel_rfl
theorem h3 : defOf (view R.prog [67]) R.name = some (dLaw, []) := by kernel_rfl
theorem h4 : R.prog.theDef R.name = some (dLaw.params, dLaw.body, dLaw.scope) := by kernel_rfl
theorem h5 : kwWritten? dLaw.params.kwonlyargs dLaw.params.kw_defaults = some [] := by kernel_rfl
theorem h6 : (!R.writes || R.records.isEmpty) = true := by rfl
theorem h7 : R.wellSaid = true := by decide +kernel
theorem h8 : (chainsOk (view R.prog [67]) && opensWell R.prog && (frees R.toRowW && R.within.isEmpty)) = true := by decide +kernel
theorem h9 : R.prog.bare := ⟨rfl, rfl, rfl, rfl, rfl, by decide +kernel⟩
theorem h10 : R.toRowW.promised := by w_witness2
theorem h11 : dLaw.params.defaults = [] := by kernel_rfl
theorem h12 : dLaw.name = ("law" : PySem.Str) := by kernel_rfl
theorem of_walk (call : WalkO (view R.prog [67]) loose (XL (view R.prog [67]) []) hk.says R.toRowW dLaw [] fun f vs => PySem.call f vs) : R.Holds :=
  HandSHeadRun.head_any (r := R) (q := view R.prog [67]) (H := hk) (ob := ob) (M := 8000) (loose := loose) (d := dLaw) (kwd := []) ob_eq h1 h2 run h3 h4 h5 h6 h7 h8 h9 h10 call
theorem top_holds {k : Nat} (hkr : Room k callerA) (LAW : ∀ (w : World) (K : PySem.W.Frag) (mg : PySem.Str → Option Value), Txt K mg → ∃ fd, FunD K "law" "law" (defArgs s_law) (defBody s_law) (defScope s_law) [] [] (He.ga K "law") fd ∧
    ∀ base : Heap, FnOk PySem.Challenge.pw_slipstold_k38_whole_far_rounds w K mg base CX0 k (He.ga K "law") fd ["_law_script"] (spLaw K)) : R.Holds := by
  refine of_walk (walk_ofE (l := PySem.Challenge.rw_slipstold_k38_whole_far_rounds) (n := 63) (k := k) (x := "_law_script") (CX := CX0) rfl (by decide) h11 hkr ?_ (fun _ _ _ _ z => z))
  intro w mg fa h Y G hmg0
  obtain ⟨K, KX, c⟩ := Y
  have T := txt_of KX G c
  have hmg : mg ("law" : PySem.Str) = some (.ref fa) := by
    rw [← h12]
    exact hmg0
  obtain ⟨fd, F, hF⟩ := LAW w K mg T
  have efa := hmg.symm.trans T.g_law
  cases efa
  exact ⟨K, fd, spLaw K, KX, fun s v => (FunD.bindsA (ps := ["_law_script"]) F fun _ _ _ _ _ _ us hl => match us, hl with | [_], _ => rfl) s [v] rfl, fun H a ns hl _ hS => ⟨a, ns, rfl, hS, hl, fun _ => rfl⟩, fun base _ _ => hF base⟩
end Far
theorem Far.law_holds (LAW : PySem.Challenge.rw_slipstold_k38_whole_far_rounds.row.Holds) : PySem.Challenge.rw_slipstold_k38_whole_far_rounds.Holds := by
  w_on; o_law
  exact LAW

set_option Elab.async false
set_option linter.all false
set_option maxRecDepth 100000
set_option maxHeartbeats 0
namespace Far
open PySem PySem.Spec PyProof.Rows L2
/-- room for the law's call at the top -/
theorem room_top : Room 11 callerA := by
  exact ⟨rfl, by decide, by decide⟩
theorem row_holds : R.Holds := top_holds room_top fun w K mg T => by
  obtain ⟨fd, F⟩ := T.f_law
  exact ⟨fd, F, fun base => law_ok T F⟩
end Far
theorem PySem.Challenge.cw_slipstold_k38_whole_far_rounds_holds : PySem.Challenge.rw_slipstold_k38_whole_far_rounds.Holds := by
  exact Far.law_holds Far.row_holds
