import PyProof.Rows.All
import Wide.All
import OpenK.AllK
import Wide.FinOn
import HandS.ForMost
import HandS.Style
import HandS.Walk
import PySem.Challenge.RW_circuits_k28_whole_one_graph
set_option Elab.async false
set_option linter.all false
set_option maxRecDepth 100000
/-! Forms, stores of nodes, and what the program's functions compute, in plain Lean. -/
namespace BD

inductive Op where
  | con | dis | odd
  deriving DecidableEq

def Op.ap : Op → Bool → Bool → Bool
  | .con, a, b => a && b
  | .dis, a, b => a || b
  | .odd, a, b => a != b

inductive Form where
  | lit (b : Bool)
  | var (k : Nat)
  | neg (f : Form)
  | bin (o : Op) (f g : Form)
  deriving DecidableEq

def Form.eval : Form → (Nat → Bool) → Bool
  | .lit b, _ => b
  | .var k, e => e k
  | .neg f, e => !(f.eval e)
  | .bin o f g, e => o.ap (f.eval e) (g.eval e)

def Form.und (n : Nat) : Form → Prop
  | .lit _ => True
  | .var k => k < n
  | .neg f => f.und n
  | .bin _ f g => f.und n ∧ g.und n

def Form.size : Form → Nat
  | .lit _ => 1
  | .var _ => 1
  | .neg f => f.size + 1
  | .bin _ f g => f.size + g.size + 1

def Form.depth : Form → Nat
  | .lit _ => 1
  | .var _ => 1
  | .neg f => f.depth + 1
  | .bin _ f g => max f.depth g.depth + 1

theorem Form.und_mono {f : Form} {n m : Nat} (h : n ≤ m) : f.und n → f.und m := by
  induction f with
  | lit _ => intro _; trivial
  | var k => intro q; exact Nat.lt_of_lt_of_le q h
  | neg f ih => exact ih
  | bin o f g ihf ihg => intro q; exact ⟨ihf q.1, ihg q.2⟩

theorem Form.eval_congr {f : Form} {n : Nat} {e e' : Nat → Bool} (hb : f.und n) (h : ∀ k, k < n → e k = e' k) : f.eval e = f.eval e' := by
  induction f with
  | lit _ => rfl
  | var k => exact h k hb
  | neg f ih => show (!(f.eval e)) = (!(f.eval e')); rw [ih hb]
  | bin o f g ihf ihg => show o.ap (f.eval e) (g.eval e) = o.ap (f.eval e') (g.eval e'); rw [ihf hb.1, ihg hb.2]

theorem Form.size_pos (f : Form) : 1 ≤ f.size := by
  cases f with
  | lit _ => exact Nat.le_refl _
  | var _ => exact Nat.le_refl _
  | neg f => exact Nat.le_add_left _ _
  | bin _ f g => exact Nat.le_add_left _ _
theorem Form.depth_le (f : Form) : f.depth ≤ f.size := by
  induction f with
  | lit _ => exact Nat.le_refl _
  | var _ => exact Nat.le_refl _
  | neg f ih => exact Nat.succ_le_succ ih
  | bin _ f g ihf ihg =>
    show max f.depth g.depth + 1 ≤ f.size + g.size + 1
    have := f.size_pos
    have := g.size_pos
    omega

/-! ### trees -/
/-- more than the places -/
abbrev NP : Nat := 6
abbrev CAP : Nat := 1000000

inductive T where
  | leaf (b : Bool)
  | nd (p : Nat) (l h : T)
  deriving DecidableEq

def T.ev : T → (Nat → Bool) → Bool
  | .leaf b, _ => b
  | .nd p l h, e => if e p then h.ev e else l.ev e
/-- reduced, ordered, all places from p on -/
def T.ok : T → Nat → Prop
  | .leaf _, _ => True
  | .nd q l h, p => p ≤ q ∧ q < NP ∧ l ≠ h ∧ l.ok (q + 1) ∧ h.ok (q + 1)
def T.sz : T → Nat
  | .leaf _ => 1
  | .nd _ l h => l.sz + h.sz + 1
def T.ht : T → Nat
  | .leaf _ => 0
  | .nd _ l h => max l.ht h.ht + 1

theorem T.ok_mono {t : T} {p q : Nat} (h : p ≤ q) (k : t.ok q) : t.ok p := by
  cases t with
  | leaf b => trivial
  | nd r l m => exact ⟨Nat.le_trans h k.1, k.2⟩
theorem T.ht_le {t : T} : ∀ {p : Nat}, t.ok p → t.ht ≤ NP - p := by
  induction t with
  | leaf b => intro p _; exact Nat.zero_le _
  | nd q l h ihl ihh =>
    intro p k
    have a := ihl k.2.2.2.1
    have b := ihh k.2.2.2.2
    have c := k.1
    have d := k.2.1
    show max l.ht h.ht + 1 ≤ NP - p
    omega

/-- the env with one place set -/
def setE (e : Nat → Bool) (p : Nat) (b : Bool) : Nat → Bool := fun k => if k = p then b else e k
theorem setE_same {e : Nat → Bool} {p : Nat} {b : Bool} : setE e p b p = b := if_pos rfl
theorem T.ev_set {t : T} : ∀ {q : Nat} {p : Nat} {b : Bool} {e : Nat → Bool}, t.ok q → p < q → t.ev (setE e p b) = t.ev e := by
  induction t with
  | leaf b => intros; rfl
  | nd r l h ihl ihh =>
    intro q p b e k hp
    have k1 := k.1
    have er : setE e p b r = e r := if_neg (by omega)
    show (if setE e p b r then h.ev (setE e p b) else l.ev (setE e p b)) = (if e r then h.ev e else l.ev e)
    rw [er, ihl k.2.2.2.1 (by omega), ihh k.2.2.2.2 (by omega)]

theorem ev_low {p : Nat} {l h : T} (e : Nat → Bool) (k : l.ok (p + 1)) : (T.nd p l h).ev (setE e p false) = l.ev e := by
  show (if setE e p false p then h.ev (setE e p false) else l.ev (setE e p false)) = l.ev e
  rw [setE_same, if_neg (by decide)]
  exact T.ev_set k (Nat.lt_succ_self _)
theorem ev_high {p : Nat} {l h : T} (e : Nat → Bool) (k : h.ok (p + 1)) : (T.nd p l h).ev (setE e p true) = h.ev e := by
  show (if setE e p true p then h.ev (setE e p true) else l.ev (setE e p true)) = h.ev e
  rw [setE_same, if_pos rfl]
  exact T.ev_set k (Nat.lt_succ_self _)

/-- reduced ordered trees that say the same are the same -/
theorem canon_aux : ∀ (n : Nat) (s t : T), s.sz + t.sz ≤ n → s.ok 0 → t.ok 0 → (∀ e, s.ev e = t.ev e) → s = t := by
  intro n
  induction n with
  | zero =>
    intro s t h
    cases s <;> simp only [T.sz] at h <;> omega
  | succ n ih =>
    -- a node whose place another does not have from there on
    have apart : ∀ (p : Nat) (l h t : T), (T.nd p l h).sz + t.sz ≤ n + 1 → (T.nd p l h).ok 0 → t.ok (p + 1) → (∀ e, (T.nd p l h).ev e = t.ev e) → False := by
      intro p l h t hs hk ht he
      have hl := hk.2.2.2.1
      have hh := hk.2.2.2.2
      have ev : ∀ e, l.ev e = h.ev e := fun e => by
        have a := he (setE e p false)
        have b := he (setE e p true)
        rw [ev_low e hl, T.ev_set ht (Nat.lt_succ_self _)] at a
        rw [ev_high e hh, T.ev_set ht (Nat.lt_succ_self _)] at b
        rw [a, b]
      simp only [T.sz] at hs
      exact hk.2.2.1 (ih l h (by cases t <;> simp only [T.sz] at hs <;> omega) (T.ok_mono (Nat.zero_le _) hl) (T.ok_mono (Nat.zero_le _) hh) ev)
    intro s t hs ks kt he
    cases s with
    | leaf a =>
      cases t with
      | leaf b => rw [show a = b from he fun _ => false]
      | nd q l h => exact (apart q l h (.leaf a) (by omega) kt trivial fun e => (he e).symm).elim
    | nd p l h =>
      cases t with
      | leaf b => exact (apart p l h (.leaf b) hs ks trivial he).elim
      | nd q l' h' =>
        rcases Nat.lt_trichotomy p q with c | c | c
        · exact (apart p l h (.nd q l' h') hs ks ⟨c, kt.2⟩ he).elim
        · subst c
          simp only [T.sz] at hs
          have e1 : l = l' := ih l l' (by omega) (T.ok_mono (Nat.zero_le _) ks.2.2.2.1) (T.ok_mono (Nat.zero_le _) kt.2.2.2.1) fun e => by
            have a := he (setE e p false)
            rw [ev_low e ks.2.2.2.1, ev_low e kt.2.2.2.1] at a
            exact a
          have e2 : h = h' := ih h h' (by omega) (T.ok_mono (Nat.zero_le _) ks.2.2.2.2) (T.ok_mono (Nat.zero_le _) kt.2.2.2.2) fun e => by
            have a := he (setE e p true)
            rw [ev_high e ks.2.2.2.2, ev_high e kt.2.2.2.2] at a
            exact a
          rw [e1, e2]
        · exact (apart q l' h' (.nd p l h) (by omega) kt ⟨c, ks.2⟩ fun e => (he e).symm).elim
theorem canon {s t : T} (ks : s.ok 0) (kt : t.ok 0) (he : ∀ e, s.ev e = t.ev e) : s = t := canon_aux _ s t (Nat.le_refl _) ks kt he

/-- a node, or what it comes to -/
def mk (p : Nat) (l h : T) : T := if l = h then l else .nd p l h
theorem mk_ok {p : Nat} {l h : T} (hp : p < NP) (kl : l.ok (p + 1)) (kh : h.ok (p + 1)) : (mk p l h).ok p := by
  unfold mk
  split
  · exact T.ok_mono (Nat.le_succ _) kl
  · rename_i c; exact ⟨Nat.le_refl _, hp, c, kl, kh⟩
theorem mk_ev {p : Nat} {l h : T} (e : Nat → Bool) : (mk p l h).ev e = if e p then h.ev e else l.ev e := by
  unfold mk
  split
  · rename_i c
    rw [c]
    cases e p <;> rfl
  · rfl

/-! ### the store -/
abbrev Node := Nat × Nat × Nat
abbrev Store := List Node

inductive Rep (S : Store) : Nat → T → Prop where
  | leaf (b : Bool) : Rep S b.toNat (.leaf b)
  | nd {i p l h : Nat} {tl th : T} : S[i]? = some (p, l, h) → Rep S l tl → Rep S h th → Rep S (i + 2) (.nd p tl th)

theorem Rep.leaf_inv {S : Store} {a : Nat} {b : Bool} (r : Rep S a (.leaf b)) : a = b.toNat := by cases r; rfl
theorem Rep.nd_inv {S : Store} {a p : Nat} {tl th : T} (r : Rep S a (.nd p tl th)) : ∃ i l h, a = i + 2 ∧ S[i]? = some (p, l, h) ∧ Rep S l tl ∧ Rep S h th := by
  cases r with
  | nd e rl rh => exact ⟨_, _, _, rfl, e, rl, rh⟩
theorem toNat_lt (b : Bool) : b.toNat < 2 := by cases b <;> decide
theorem Rep.small {S : Store} {a : Nat} {t : T} (r : Rep S a t) (h : a < 2) : t = .leaf (a == 1) := by
  cases r with
  | leaf b => cases b <;> rfl
  | nd e _ _ => omega
theorem Rep.big {S : Store} {i : Nat} {t : T} (r : Rep S (i + 2) t) : ∃ p l h tl th, t = .nd p tl th ∧ S[i]? = some (p, l, h) ∧ Rep S l tl ∧ Rep S h th := by
  generalize e : i + 2 = a at r
  cases r with
  | leaf b => have := toNat_lt b; omega
  | nd e' rl rh =>
    have : i = _ := Nat.add_right_cancel e
    subst this
    exact ⟨_, _, _, _, _, rfl, e', rl, rh⟩
theorem Rep.fn {S : Store} {a : Nat} {t t' : T} (r : Rep S a t) (r' : Rep S a t') : t = t' := by
  induction r generalizing t' with
  | leaf b =>
    have := r'.small (toNat_lt b)
    rw [this]
    cases b <;> rfl
  | nd e _ _ ihl ihh =>
    obtain ⟨p, l, h, tl, th, rfl, e', rl, rh⟩ := r'.big
    rw [e] at e'
    cases e'
    rw [ihl rl, ihh rh]
theorem Rep.mono {S S' : Store} (h : S <+: S') {a : Nat} {t : T} (r : Rep S a t) : Rep S' a t := by
  induction r with
  | leaf b => exact .leaf b
  | nd e _ _ ihl ihh =>
    refine .nd ?_ ihl ihh
    obtain ⟨X, rfl⟩ := h
    rw [List.getElem?_append_left (List.getElem?_eq_some_iff.mp e).1]
    exact e
theorem nodup_ix {α : Type} {l : List α} (hN : l.Nodup) {i j : Nat} {x : α} (a : l[i]? = some x) (b : l[j]? = some x) : i = j := by
  obtain ⟨h1, e1⟩ := List.getElem?_eq_some_iff.mp a
  obtain ⟨h2, e2⟩ := List.getElem?_eq_some_iff.mp b
  exact (List.getElem_inj hN).mp (e1.trans e2.symm)
theorem Rep.inj {S : Store} (hN : S.Nodup) {t : T} : ∀ {a b : Nat}, Rep S a t → Rep S b t → a = b := by
  induction t with
  | leaf b => intro x y r q; rw [r.leaf_inv, q.leaf_inv]
  | nd p tl th ihl ihh =>
    intro x y r q
    obtain ⟨i, l, h, rfl, e, rl, rh⟩ := r.nd_inv
    obtain ⟨j, l', h', rfl, e', rl', rh'⟩ := q.nd_inv
    rw [ihl rl rl', ihh rh rh'] at e
    rw [nodup_ix hN e e']

structure WF (S : Store) : Prop where
  nd : S.Nodup
  all : ∀ i, i < S.length → ∃ t, Rep S (i + 2) t ∧ t.ok 0
theorem WF.nil : WF [] := ⟨List.nodup_nil, fun i h => absurd h (Nat.not_lt_zero i)⟩

/-! ### what the program computes -/
def plOf (S : Store) (a : Nat) : Option Nat := if a < 2 then some 99 else (S[a - 2]?).map (·.1)
def go (S : Store) (a p : Nat) (t : Bool) : Option Nat :=
  match plOf S a with
  | none => none
  | some q => if q ≠ p then some a else if a < 2 then none else (S[a - 2]?).map fun n => if t then n.2.2 else n.2.1
def made (S : Store) (p l h : Nat) : Option (Store × Nat) :=
  if l = h then some (S, l) else
  match S.idxOf? (p, l, h) with
  | some i => some (S, i + 2)
  | none => if S.length < CAP then some (S ++ [(p, l, h)], S.length + 2) else none

structure Memo where
  f : Nat → Nat → Option Nat
  n : Nat
def Memo.emp : Memo := ⟨fun _ _ => none, 0⟩
def Memo.put (m : Memo) (a b r : Nat) : Memo := ⟨fun x y => if x = a ∧ y = b then some r else m.f x y, m.n + 1⟩

def join (o : Op) : Nat → Store → Memo → Nat → Nat → Option (Store × Memo × Nat)
  | 0, _, _, _, _ => none
  | n + 1, S, D, a, b =>
    if a < 2 ∧ b < 2 then some (S, D, (o.ap (a == 1) (b == 1)).toNat)
    else match D.f a b with
    | some r => some (S, D, r)
    | none => do
      let pa ← plOf S a
      let pb ← plOf S b
      let a0 ← go S a (min pa pb) false
      let b0 ← go S b (min pa pb) false
      let (S1, D1, l) ← join o n S D a0 b0
      let a1 ← go S1 a (min pa pb) true
      let b1 ← go S1 b (min pa pb) true
      let (S2, D2, h) ← join o n S1 D1 a1 b1
      let (S3, r) ← made S2 (min pa pb) l h
      if D2.n < CAP then some (S3, D2.put a b r, r) else none
/-- the fuel of each join -/
abbrev JF : Nat := 8
def numIn : Store → Form → Option (Store × Nat)
  | S, .lit b => some (S, b.toNat)
  | S, .var k => made S k 0 1
  | S, .neg f => do
    let (S1, a) ← numIn S f
    let (S2, _, r) ← join .odd JF S1 Memo.emp a 1
    some (S2, r)
  | S, .bin o f g => do
    let (S1, a) ← numIn S f
    let (S2, b) ← numIn S1 g
    let (S3, _, r) ← join o JF S2 Memo.emp a b
    some (S3, r)
def updM (m : Nat → Option Nat) (a r : Nat) : Nat → Option Nat := fun x => if x = a then some r else m x
def numb (S : Store) : Nat → List Node → (Nat → Option Nat) → Nat → Option (List Node × (Nat → Option Nat) × Nat)
  | 0, _, _, _ => none
  | n + 1, F, m, a =>
    if a < 2 then some (F, m, a)
    else match m a with
    | some r => some (F, m, r)
    | none => do
      let nd ← S[a - 2]?
      let (F1, m1, l) ← numb S n F m nd.2.1
      let (F2, m2, h) ← numb S n F1 m1 nd.2.2
      if F2.length < CAP then some (F2 ++ [(nd.1, l, h)], updM m2 a (F2.length + 2), F2.length + 2) else none
def ordered (S : Store) (a : Nat) : Option (List Node × Nat) := (numb S JF [] (fun _ => none) a).map fun r => (r.1, r.2.2)
def graphM (f : Form) : Option (List Node × Nat) := (numIn [] f).bind fun r => ordered r.1 r.2
/-- a table of 2 ^ k rows -/
def tabIn : Nat → Store → List Bool → Nat → Option (Store × Nat)
  | 0, S, rows, _ => some (S, (rows.headD false).toNat)
  | k + 1, S, rows, p => do
    let (S1, l) ← tabIn k S (rows.take (2 ^ k)) (p + 1)
    let (S2, h) ← tabIn k S1 (rows.drop (2 ^ k)) (p + 1)
    made S2 p l h
def tableM (k : Nat) (rows : List Bool) : Option (List Node × Nat) := (tabIn k [] rows 0).bind fun r => ordered r.1 r.2
/-- the row of a number -/
def rowE (many n k : Nat) : Bool := n / 2 ^ (many - 1 - k) % 2 == 1
def valuesM (f : Form) (many : Nat) : List Bool := (List.range (2 ^ many)).map fun n => f.eval (rowE many n)
end BD

namespace BD

theorem idx_some {S : Store} {x : Node} {i : Nat} (h : S.idxOf? x = some i) : S[i]? = some x := by
  obtain ⟨hi, he, _⟩ := List.findIdx?_eq_some_iff_getElem.mp h
  rw [List.getElem?_eq_getElem hi, eq_of_beq he]
theorem idx_none {S : Store} {x : Node} (h : S.idxOf? x = none) : ¬ x ∈ S := List.idxOf?_eq_none_iff.mp h
theorem idx_snoc {x : Node} (y : Node) : ∀ {S : Store}, ¬ x ∈ S → (S ++ [x]).idxOf? y = if y = x then some S.length else S.idxOf? y
  | [], _ => by
    show ([x] : Store).idxOf? y = _
    rw [List.idxOf?_cons]
    by_cases e : y = x
    · subst e; simp
    · rw [if_neg e, if_neg (by simpa using fun z => e z.symm)]; rfl
  | a :: r, h => by
    have hr : ¬ x ∈ r := fun z => h (List.mem_cons_of_mem _ z)
    have ha : ¬ a = x := fun z => h (by rw [z]; exact List.mem_cons_self)
    show (a :: (r ++ [x])).idxOf? y = _
    rw [List.idxOf?_cons, List.idxOf?_cons, idx_snoc y hr]
    by_cases e : y = x
    · subst e
      rw [if_pos rfl, if_pos rfl, if_neg (by simpa using ha)]
      rfl
    · rw [if_neg e, if_neg e]

theorem WF.snoc {S : Store} (w : WF S) {p l h : Nat} {tl th : T} (rl : Rep S l tl) (rh : Rep S h th) (k : (T.nd p tl th).ok 0) (hn : ¬ (p, l, h) ∈ S) : WF (S ++ [(p, l, h)]) ∧ Rep (S ++ [(p, l, h)]) (S.length + 2) (.nd p tl th) := by
  have pre : S <+: S ++ [(p, l, h)] := List.prefix_append _ _
  have rep : Rep (S ++ [(p, l, h)]) (S.length + 2) (.nd p tl th) := .nd (by simp) (rl.mono pre) (rh.mono pre)
  refine ⟨⟨?_, fun i hi => ?_⟩, rep⟩
  · rw [List.nodup_append]
    refine ⟨w.nd, by simp, fun a ha b hb => ?_⟩
    rw [List.mem_singleton] at hb
    subst hb
    rintro rfl
    exact hn ha
  · rw [List.length_append, List.length_singleton] at hi
    by_cases c : i < S.length
    · obtain ⟨t, r, k⟩ := w.all i c
      exact ⟨t, r.mono pre, k⟩
    · have : i = S.length := by omega
      subst this
      exact ⟨_, rep, k⟩

theorem made_spec {S : Store} {p l h : Nat} {tl th : T} (w : WF S) (rl : Rep S l tl) (rh : Rep S h th) (hp : p < NP) (kl : tl.ok (p + 1)) (kh : th.ok (p + 1)) (hc : S.length < CAP) :
    ∃ S' r, made S p l h = some (S', r) ∧ S <+: S' ∧ WF S' ∧ S'.length ≤ S.length + 1 ∧ Rep S' r (mk p tl th) := by
  unfold made
  by_cases e : l = h
  · rw [if_pos e]
    subst e
    have : tl = th := rl.fn rh
    subst this
    refine ⟨S, l, rfl, List.prefix_refl _, w, Nat.le_succ _, ?_⟩
    unfold mk
    rw [if_pos rfl]
    exact rl
  · rw [if_neg e]
    have ne : ¬ tl = th := fun z => e (Rep.inj w.nd rl (by rw [z]; exact rh))
    have emk : mk p tl th = .nd p tl th := if_neg ne
    rw [emk]
    cases q : S.idxOf? (p, l, h) with
    | some i => exact ⟨S, i + 2, rfl, List.prefix_refl _, w, Nat.le_succ _, .nd (idx_some q) rl rh⟩
    | none =>
      obtain ⟨w', r'⟩ := w.snoc rl rh (p := p) ⟨Nat.zero_le _, hp, ne, kl, kh⟩ (idx_none q)
      refine ⟨S ++ [(p, l, h)], S.length + 2, by simp only [if_pos hc], List.prefix_append _ _, w', by simp, r'⟩

/-- the place of a tree, beyond all of an end -/
def T.top : T → Nat
  | .leaf _ => 99
  | .nd p _ _ => p
/-- the parts of what a number stands for -/
theorem place_small {S : Store} {a : Nat} (h : a < 2) : plOf S a = some 99 := if_pos h
theorem place_big {S : Store} {i p l h : Nat} (e : S[i]? = some (p, l, h)) : plOf S (i + 2) = some p := by
  unfold plOf
  rw [if_neg (by omega), show i + 2 - 2 = i by omega, e]
  rfl

/-- the low part at a place, the high part -/
def T.at (t : T) (p : Nat) (b : Bool) : T := match t with
  | .leaf c => .leaf c
  | .nd q l h => if q = p then (if b then h else l) else .nd q l h
theorem T.at_ok {t : T} {p : Nat} {b : Bool} (k : t.ok p) : (t.at p b).ok (p + 1) := by
  cases t with
  | leaf c => trivial
  | nd q l h =>
    show T.ok (if q = p then (if b then h else l) else T.nd q l h) (p + 1)
    by_cases e : q = p
    · subst e
      rw [if_pos rfl]
      cases b
      · exact k.2.2.2.1
      · exact k.2.2.2.2
    · rw [if_neg e]
      have := k.1
      exact ⟨by omega, k.2⟩
theorem T.at_ok' {t : T} {p q : Nat} {b : Bool} (k : t.ok q) : (t.at p b).ok q := by
  cases t with
  | leaf c => trivial
  | nd r l h =>
    show T.ok (if r = p then (if b then h else l) else T.nd r l h) q
    by_cases e : r = p
    · subst e
      rw [if_pos rfl]
      have := k.1
      cases b
      · exact T.ok_mono (by omega) k.2.2.2.1
      · exact T.ok_mono (by omega) k.2.2.2.2
    · rw [if_neg e]
      exact k
theorem T.at_ev {t : T} {p : Nat} (e : Nat → Bool) : (t.at p (e p)).ev e = t.ev e := by
  cases t with
  | leaf c => rfl
  | nd q l h =>
    show T.ev (if q = p then (if e p then h else l) else T.nd q l h) e = _
    by_cases c : q = p
    · subst c
      rw [if_pos rfl]
      show _ = (if e q then h.ev e else l.ev e)
      cases e q <;> rfl
    · rw [if_neg c]
theorem go_spec {S : Store} {a p q : Nat} {t : T} (r : Rep S a t) (b : Bool) (hp : p < NP) (hq : plOf S a = some q) : ∃ x, go S a p b = some x ∧ Rep S x (t.at p b) := by
  unfold go
  rw [hq]
  cases t with
  | leaf c =>
    have e := r.leaf_inv
    have e2 : plOf S a = some 99 := place_small (by rw [e]; exact toNat_lt c)
    rw [e2] at hq
    cases hq
    refine ⟨a, ?_, r⟩
    show (if 99 ≠ p then some a else _) = _
    rw [if_pos (by show 99 ≠ p; have : NP = 6 := rfl; omega)]
  | nd z tl th =>
    obtain ⟨i, l, h, rfl, e, rl, rh⟩ := r.nd_inv
    have e2 : plOf S (i + 2) = some z := place_big e
    rw [e2] at hq
    obtain rfl : z = q := Option.some.inj hq
    by_cases c : z = p
    · subst c
      refine ⟨if b then h else l, ?_, ?_⟩
      · show (if z ≠ z then _ else if i + 2 < 2 then _ else _) = _
        rw [if_neg (by simp), if_neg (by omega), show i + 2 - 2 = i by omega, e]
        rfl
      · show Rep S _ (if z = z then (if b then th else tl) else T.nd z tl th)
        rw [if_pos rfl]
        cases b
        · exact rl
        · exact rh
    · refine ⟨i + 2, ?_, ?_⟩
      · show (if z ≠ p then _ else _) = _
        rw [if_pos c]
      · show Rep S _ (if z = p then (if b then th else tl) else T.nd z tl th)
        rw [if_neg c]
        exact r
theorem Rep.place {S : Store} {a : Nat} {t : T} (r : Rep S a t) : plOf S a = some t.top := by
  cases t with
  | leaf c => exact place_small (by rw [r.leaf_inv]; exact toNat_lt c)
  | nd z tl th =>
    obtain ⟨i, l, h, rfl, e, rl, rh⟩ := r.nd_inv
    exact place_big e

/-- what a memo may hold -/
def MOk (o : Op) (S : Store) (D : Memo) : Prop := ∀ a b r, D.f a b = some r → ∃ ta tb tr, Rep S a ta ∧ Rep S b tb ∧ Rep S r tr ∧ (∀ q, ta.ok q → tb.ok q → tr.ok q) ∧ ∀ e, tr.ev e = o.ap (ta.ev e) (tb.ev e)
theorem MOk.emp {o : Op} {S : Store} : MOk o S Memo.emp := fun _ _ _ h => nomatch h
theorem MOk.mono {o : Op} {S S' : Store} {D : Memo} (h : S <+: S') (m : MOk o S D) : MOk o S' D := fun a b r e => by
  obtain ⟨ta, tb, tr, ra, rb, rr, k, ev⟩ := m a b r e
  exact ⟨ta, tb, tr, ra.mono h, rb.mono h, rr.mono h, k, ev⟩
theorem MOk.put {o : Op} {S : Store} {D : Memo} (m : MOk o S D) {a b r : Nat} {ta tb tr : T} (ra : Rep S a ta) (rb : Rep S b tb) (rr : Rep S r tr) (k : ∀ q, ta.ok q → tb.ok q → tr.ok q) (ev : ∀ e, tr.ev e = o.ap (ta.ev e) (tb.ev e)) : MOk o S (D.put a b r) := fun x y z e => by
  have e' : (if x = a ∧ y = b then some r else D.f x y) = some z := e
  by_cases c : x = a ∧ y = b
  · rw [if_pos c] at e'
    obtain ⟨rfl, rfl⟩ := c
    cases e'
    exact ⟨ta, tb, tr, ra, rb, rr, k, ev⟩
  · rw [if_neg c] at e'
    exact m x y z e'

theorem ok_min {t : T} {q : Nat} (k : t.ok 0) (h : q ≤ t.top) : t.ok q := by
  cases t with
  | leaf _ => trivial
  | nd p l h' => exact ⟨h, k.2⟩

theorem join_spec (o : Op) : ∀ (n : Nat) (p : Nat) (S : Store) (D : Memo) (a b : Nat) (ta tb : T), p ≤ NP → NP + 1 ≤ n + p → WF S → MOk o S D → Rep S a ta → Rep S b tb → ta.ok p → tb.ok p → S.length + 2 ^ (NP - p) ≤ CAP → D.n + 2 ^ (NP - p) ≤ CAP →
    ∃ S' D' r tr, join o n S D a b = some (S', D', r) ∧ S <+: S' ∧ WF S' ∧ MOk o S' D' ∧ Rep S' r tr ∧ (∀ q, ta.ok q → tb.ok q → tr.ok q) ∧ (∀ e, tr.ev e = o.ap (ta.ev e) (tb.ev e)) ∧
      S'.length + 1 ≤ S.length + 2 ^ (NP - p) ∧ D'.n + 1 ≤ D.n + 2 ^ (NP - p) := by
  intro n
  induction n with
  | zero => intro p S D a b ta tb hp hn; omega
  | succ n ih =>
    intro p S D a b ta tb hp hn w m ra rb ka kb hc hd
    have pos : 1 ≤ 2 ^ (NP - p) := Nat.one_le_two_pow
    have hNP : NP = 6 := rfl
    unfold join
    by_cases c : a < 2 ∧ b < 2
    · rw [if_pos c]
      have ea := ra.small c.1
      have eb := rb.small c.2
      refine ⟨S, D, _, .leaf (o.ap (a == 1) (b == 1)), rfl, List.prefix_refl _, w, m, .leaf _, fun _ _ _ => trivial, fun e => ?_, by omega, by omega⟩
      rw [ea, eb]
      rfl
    · rw [if_neg c]
      cases q : D.f a b with
      | some r =>
        obtain ⟨ta', tb', tr, ra', rb', rr, k, ev⟩ := m a b r q
        have := ra.fn ra'
        subst this
        have := rb.fn rb'
        subst this
        exact ⟨S, D, r, tr, rfl, List.prefix_refl _, w, m, rr, k, ev, by omega, by omega⟩
      | none =>
        -- the least place of both
        obtain ⟨pa, hpa⟩ : ∃ z, z = ta.top := ⟨_, rfl⟩
        obtain ⟨pb, hpb⟩ : ∃ z, z = tb.top := ⟨_, rfl⟩
        have epa : plOf S a = some pa := by rw [hpa]; exact ra.place
        have epb : plOf S b = some pb := by rw [hpb]; exact rb.place
        obtain ⟨z, hz⟩ : ∃ z, z = min pa pb := ⟨_, rfl⟩
        have zlt : z < NP ∧ p ≤ z := by
          rw [hz]
          cases ta with
          | leaf x =>
            cases tb with
            | leaf y => exact absurd ⟨by rw [ra.leaf_inv]; exact toNat_lt x, by rw [rb.leaf_inv]; exact toNat_lt y⟩ c
            | nd r l h =>
              have k1 := kb.1
              have k2 := kb.2.1
              simp only [T.top] at hpa hpb
              omega
          | nd r l h =>
            have k1 := ka.1
            have k2 := ka.2.1
            cases tb with
            | leaf y =>
              simp only [T.top] at hpa hpb
              omega
            | nd r' l' h' =>
              have k1' := kb.1
              have k2' := kb.2.1
              simp only [T.top] at hpa hpb
              omega
        obtain ⟨zl, zp⟩ := zlt
        have kaz : ta.ok z := ok_min (T.ok_mono (Nat.zero_le _) ka) (by rw [← hpa]; omega)
        have kbz : tb.ok z := ok_min (T.ok_mono (Nat.zero_le _) kb) (by rw [← hpb]; omega)
        have two : 2 ^ (NP - p) ≥ 2 ^ (NP - (z + 1)) + 2 ^ (NP - (z + 1)) := by
          have : 2 ^ (NP - p) ≥ 2 ^ (NP - (z + 1) + 1) := Nat.pow_le_pow_right (by decide) (by omega)
          rw [Nat.pow_succ] at this
          omega
        have pos2 : 1 ≤ 2 ^ (NP - (z + 1)) := Nat.one_le_two_pow
        obtain ⟨a0, ega0, ra0⟩ := go_spec ra false zl epa
        obtain ⟨b0, egb0, rb0⟩ := go_spec rb false zl epb
        obtain ⟨S1, D1, l, tl, e1, s1, w1, m1, rl, kl, evl, c1, d1⟩ := ih (z + 1) S D a0 b0 _ _ (by omega) (by omega) w m ra0 rb0 (T.at_ok kaz) (T.at_ok kbz) (by omega) (by omega)
        have epa1 : plOf S1 a = some pa := by rw [hpa]; exact (ra.mono s1).place
        have epb1 : plOf S1 b = some pb := by rw [hpb]; exact (rb.mono s1).place
        obtain ⟨a1, ega1, ra1⟩ := go_spec (ra.mono s1) true zl epa1
        obtain ⟨b1, egb1, rb1⟩ := go_spec (rb.mono s1) true zl epb1
        obtain ⟨S2, D2, h, th, e2, s2, w2, m2, rh, kh, evh, c2, d2⟩ := ih (z + 1) S1 D1 a1 b1 _ _ (by omega) (by omega) w1 m1 ra1 rb1 (T.at_ok kaz) (T.at_ok kbz) (by omega) (by omega)
        obtain ⟨S3, r, e3, s3, w3, c3, r3⟩ := made_spec w2 (rl.mono s2) rh zl (kl _ (T.at_ok kaz) (T.at_ok kbz)) (kh _ (T.at_ok kaz) (T.at_ok kbz)) (by omega)
        have s03 : S <+: S3 := (s1.trans s2).trans s3
        have kr : ∀ q, ta.ok q → tb.ok q → (mk z tl th).ok q := fun q qa qb => by
          unfold mk
          split
          · exact kl q (T.at_ok' qa) (T.at_ok' qb)
          · rename_i ne
            refine ⟨?_, zl, ne, kl _ (T.at_ok kaz) (T.at_ok kbz), kh _ (T.at_ok kaz) (T.at_ok kbz)⟩
            rw [hz]
            cases ta with
            | leaf x =>
              cases tb with
              | leaf y => exact absurd ⟨by rw [ra.leaf_inv]; exact toNat_lt x, by rw [rb.leaf_inv]; exact toNat_lt y⟩ c
              | nd r l h =>
                have k1 := qb.1
                have k2 := qb.2.1
                simp only [T.top] at hpa hpb
                omega
            | nd r l h =>
              have k1 := qa.1
              have k2 := qa.2.1
              cases tb with
              | leaf y =>
                simp only [T.top] at hpa hpb
                omega
              | nd r' l' h' =>
                have k1' := qb.1
                simp only [T.top] at hpa hpb
                omega
        have evr : ∀ e, (mk z tl th).ev e = o.ap (ta.ev e) (tb.ev e) := fun e => by
          rw [mk_ev]
          cases q : e z with
          | false =>
            rw [if_neg (by decide), evl]
            have x := T.at_ev (t := ta) (p := z) e
            have y := T.at_ev (t := tb) (p := z) e
            rw [q] at x y
            rw [x, y]
          | true =>
            rw [if_pos rfl, evh]
            have x := T.at_ev (t := ta) (p := z) e
            have y := T.at_ev (t := tb) (p := z) e
            rw [q] at x y
            rw [x, y]
        refine ⟨S3, D2.put a b r, r, mk z tl th, ?_, s03, w3, (m2.mono s3).put (ra.mono s03) (rb.mono s03) r3 kr evr, r3, kr, evr, by omega, ?_⟩
        · simp only [epa, epb, ← hz, ega0, egb0, e1, ega1, egb1, e2, e3, Option.bind_eq_bind, Option.bind_some]
          rw [if_pos (by omega)]
        · show D2.n + 1 + 1 ≤ _
          omega
end BD

namespace BD

/-- what a form's number says -/
theorem numIn_spec : ∀ (f : Form) (S : Store), f.und NP → WF S → S.length + 64 * f.size ≤ CAP →
    ∃ S' r t, numIn S f = some (S', r) ∧ S <+: S' ∧ WF S' ∧ Rep S' r t ∧ t.ok 0 ∧ (∀ e, t.ev e = f.eval e) ∧ S'.length ≤ S.length + 64 * f.size := by
  have h64 : 2 ^ NP = 64 := rfl
  have hz : NP - 0 = NP := rfl
  intro f
  induction f with
  | lit b => intro S _ w _; exact ⟨S, b.toNat, .leaf b, rfl, List.prefix_refl _, w, .leaf b, trivial, fun _ => rfl, by omega⟩
  | var k =>
    intro S hu w hc
    have hc' : S.length + 64 * 1 ≤ CAP := hc
    obtain ⟨S', r, e, s, w', c, rr⟩ := made_spec (p := k) w (Rep.leaf false) (Rep.leaf true) hu trivial trivial (by omega)
    refine ⟨S', r, _, e, s, w', rr, T.ok_mono (Nat.zero_le _) (mk_ok hu trivial trivial), fun e => ?_, ?_⟩
    · rw [mk_ev]
      show (if e k then true else false) = e k
      cases e k <;> rfl
    · show S'.length ≤ S.length + 64 * 1
      omega
  | neg f ih =>
    intro S hu w hc
    have hc' : S.length + 64 * (f.size + 1) ≤ CAP := hc
    obtain ⟨S1, a, t, e1, s1, w1, r1, k1, ev1, c1⟩ := ih S hu w (by omega)
    obtain ⟨S2, D, r, tr, e2, s2, w2, _, r2, k2, ev2, c2, _⟩ := join_spec .odd JF 0 S1 Memo.emp a 1 t (.leaf true) (Nat.zero_le _) (by decide) w1 MOk.emp r1 (.leaf true) k1 trivial (by rw [hz]; omega) (by decide)
    rw [hz] at c2
    refine ⟨S2, r, tr, ?_, s1.trans s2, w2, r2, k2 0 k1 trivial, fun e => ?_, ?_⟩
    · unfold numIn
      simp only [e1, e2, Option.bind_eq_bind, Option.bind_some]
    · rw [ev2, ev1]
      show (f.eval e != true) = !(f.eval e)
      cases f.eval e <;> rfl
    · show S2.length ≤ S.length + 64 * (f.size + 1)
      omega
  | bin o f g ihf ihg =>
    intro S hu w hc
    have hc' : S.length + 64 * (f.size + g.size + 1) ≤ CAP := hc
    obtain ⟨S1, a, t, e1, s1, w1, r1, k1, ev1, c1⟩ := ihf S hu.1 w (by omega)
    obtain ⟨S2, b, u, e2, s2, w2, r2, k2, ev2, c2⟩ := ihg S1 hu.2 w1 (by omega)
    obtain ⟨S3, D, r, tr, e3, s3, w3, _, r3, k3, ev3, c3, _⟩ := join_spec o JF 0 S2 Memo.emp a b t u (Nat.zero_le _) (by decide) w2 MOk.emp (r1.mono s2) r2 k1 k2 (by rw [hz]; omega) (by decide)
    rw [hz] at c3
    refine ⟨S3, r, tr, ?_, (s1.trans s2).trans s3, w3, r3, k3 0 k1 k2, fun e => ?_, ?_⟩
    · unfold numIn
      simp only [e1, e2, e3, Option.bind_eq_bind, Option.bind_some]
    · rw [ev3, ev1, ev2]
      rfl
    · show S3.length ≤ S.length + 64 * (f.size + g.size + 1)
      omega

/-! ### the numbering, by trees alone -/
abbrev TM := T → Option Nat
def updT (m : TM) (t : T) (r : Nat) : TM := fun x => if x = t then some r else m x
def numT : T → List Node → TM → List Node × TM × Nat
  | .leaf b, F, m => (F, m, b.toNat)
  | .nd p l h, F, m =>
    match m (.nd p l h) with
    | some r => (F, m, r)
    | none =>
      let A := numT l F m
      let B := numT h A.1 A.2.1
      (B.1 ++ [(p, A.2.2, B.2.2)], updT B.2.1 (.nd p l h) (B.1.length + 2), B.1.length + 2)
def gr (t : T) : List Node × Nat := ((numT t [] fun _ => none).1, (numT t [] fun _ => none).2.2)

theorem numT_len : ∀ (t : T) (F : List Node) (m : TM), (numT t F m).1.length + 1 ≤ F.length + 2 ^ t.ht := by
  intro t
  induction t with
  | leaf b => intro F m; exact Nat.le_refl _
  | nd p l h ihl ihh =>
    intro F m
    unfold numT
    cases q : m (.nd p l h) with
    | some r =>
      have : 1 ≤ 2 ^ (T.nd p l h).ht := Nat.one_le_two_pow
      show F.length + 1 ≤ _
      omega
    | none =>
      have a := ihl F m
      have b := ihh (numT l F m).1 (numT l F m).2.1
      show ((numT h (numT l F m).1 (numT l F m).2.1).1 ++ [_]).length + 1 ≤ F.length + 2 ^ (max l.ht h.ht + 1)
      rw [List.length_append, List.length_singleton]
      have x : 2 ^ l.ht ≤ 2 ^ max l.ht h.ht := Nat.pow_le_pow_right (by decide) (Nat.le_max_left _ _)
      have y : 2 ^ h.ht ≤ 2 ^ max l.ht h.ht := Nat.pow_le_pow_right (by decide) (Nat.le_max_right _ _)
      rw [Nat.pow_succ]
      omega

theorem numb_spec {S : Store} (w : WF S) : ∀ (n : Nat) (a : Nat) (t : T) (F : List Node) (m : Nat → Option Nat) (mT : TM), Rep S a t → t.ht < n → F.length + 2 ^ t.ht ≤ CAP → (∀ x u, 2 ≤ x → Rep S x u → m x = mT u) →
    ∃ m', numb S n F m a = some ((numT t F mT).1, m', (numT t F mT).2.2) ∧ ∀ x u, 2 ≤ x → Rep S x u → m' x = (numT t F mT).2.1 u := by
  intro n
  induction n with
  | zero => intro a t F m mT _ h; exact absurd h (Nat.not_lt_zero _)
  | succ n ih =>
    intro a t F m mT r hn hc hm
    unfold numb
    cases t with
    | leaf b =>
      have e := r.leaf_inv
      rw [if_pos (by rw [e]; exact toNat_lt b), e]
      exact ⟨m, rfl, hm⟩
    | nd p tl th =>
      have hma := hm a _ (by obtain ⟨i, l, h, e, _⟩ := r.nd_inv; omega) r
      obtain ⟨i, l, h, rfl, e, rl, rh⟩ := r.nd_inv
      rw [if_neg (by omega), hma]
      unfold numT
      cases q : mT (.nd p tl th) with
      | some x => exact ⟨m, rfl, hm⟩
      | none =>
        have hn' : max tl.ht th.ht + 1 < n + 1 := hn
        have hc' : F.length + 2 ^ (max tl.ht th.ht + 1) ≤ CAP := hc
        rw [Nat.pow_succ] at hc'
        have x : 2 ^ tl.ht ≤ 2 ^ max tl.ht th.ht := Nat.pow_le_pow_right (by decide) (Nat.le_max_left _ _)
        have y : 2 ^ th.ht ≤ 2 ^ max tl.ht th.ht := Nat.pow_le_pow_right (by decide) (Nat.le_max_right _ _)
        have l1 := numT_len tl F mT
        have l2 := numT_len th (numT tl F mT).1 (numT tl F mT).2.1
        have p1 : 1 ≤ 2 ^ tl.ht := Nat.one_le_two_pow
        obtain ⟨m1, e1, h1⟩ := ih l tl F m mT rl (by omega) (by omega) hm
        obtain ⟨m2, e2, h2⟩ := ih h th (numT tl F mT).1 m1 (numT tl F mT).2.1 rh (by omega) (by omega) h1
        have ei : i + 2 - 2 = i := by omega
        refine ⟨updM m2 (i + 2) ((numT th (numT tl F mT).1 (numT tl F mT).2.1).1.length + 2), ?_, fun z u hz rz => ?_⟩
        · simp only [ei, e, e1, e2, Option.bind_eq_bind, Option.bind_some]
          rw [if_pos (by omega)]
        · show (if z = i + 2 then _ else m2 z) = (if u = .nd p tl th then _ else _)
          by_cases c : z = i + 2
          · rw [if_pos c]
            subst c
            rw [if_pos (rz.fn r)]
          · rw [if_neg c, if_neg (fun q => c (Rep.inj w.nd rz (by rw [q]; exact r)))]
            exact h2 z u hz rz

/-- the graph's list of nodes bears the tree -/
def TMok (F : List Node) (m : TM) : Prop := ∀ t r, m t = some r → Rep F r t
theorem numT_rep : ∀ (t : T) (F : List Node) (m : TM), TMok F m → F <+: (numT t F m).1 ∧ TMok (numT t F m).1 (numT t F m).2.1 ∧ Rep (numT t F m).1 (numT t F m).2.2 t := by
  intro t
  induction t with
  | leaf b => intro F m h; exact ⟨List.prefix_refl _, h, .leaf b⟩
  | nd p l h ihl ihh =>
    intro F m hm
    unfold numT
    cases q : m (.nd p l h) with
    | some r => exact ⟨List.prefix_refl _, hm, hm _ _ q⟩
    | none =>
      obtain ⟨s1, m1, r1⟩ := ihl F m hm
      obtain ⟨s2, m2, r2⟩ := ihh (numT l F m).1 (numT l F m).2.1 m1
      have s3 : (numT h (numT l F m).1 (numT l F m).2.1).1 <+: (numT h (numT l F m).1 (numT l F m).2.1).1 ++ [(p, (numT l F m).2.2, (numT h (numT l F m).1 (numT l F m).2.1).2.2)] := List.prefix_append _ _
      have rr : Rep ((numT h (numT l F m).1 (numT l F m).2.1).1 ++ [(p, (numT l F m).2.2, (numT h (numT l F m).1 (numT l F m).2.1).2.2)]) ((numT h (numT l F m).1 (numT l F m).2.1).1.length + 2) (.nd p l h) :=
        .nd (by simp) ((r1.mono s2).mono s3) (r2.mono s3)
      refine ⟨(s1.trans s2).trans s3, fun t r e => ?_, rr⟩
      have e' : (if t = .nd p l h then some _ else _) = some r := e
      by_cases c : t = .nd p l h
      · rw [if_pos c] at e'
        cases e'
        rw [c]
        exact rr
      · rw [if_neg c] at e'
        exact (m2 t r e').mono s3
theorem gr_inj {t u : T} (h : gr t = gr u) : t = u := by
  obtain ⟨_, _, r⟩ := numT_rep t [] (fun _ => none) fun _ _ e => nomatch e
  obtain ⟨_, _, q⟩ := numT_rep u [] (fun _ => none) fun _ _ e => nomatch e
  have e1 : (numT t [] fun _ => none).1 = (numT u [] fun _ => none).1 := (Prod.mk.inj h).1
  have e2 : (numT t [] fun _ => none).2.2 = (numT u [] fun _ => none).2.2 := (Prod.mk.inj h).2
  rw [e1, e2] at r
  exact r.fn q
theorem ordered_spec {S : Store} (w : WF S) {a : Nat} {t : T} (r : Rep S a t) (k : t.ok 0) : ordered S a = some (gr t) := by
  have hh := T.ht_le k
  have hNP : NP = 6 := rfl
  have : 2 ^ t.ht ≤ 2 ^ 6 := Nat.pow_le_pow_right (by decide) (by omega)
  obtain ⟨m', e, _⟩ := numb_spec w JF a t [] (fun _ => none) (fun _ => none) r (by show t.ht < 8; omega) (by show 0 + 2 ^ t.ht ≤ 1000000; omega) fun _ _ _ _ => rfl
  unfold ordered
  rw [e]
  rfl

/-- a form's graph is that of the one tree that says what it says -/
theorem graphM_spec {f : Form} (hu : f.und NP) (hs : f.size ≤ 15000) : ∃ t, graphM f = some (gr t) ∧ t.ok 0 ∧ ∀ e, t.ev e = f.eval e := by
  have h64 : 2 ^ NP = 64 := rfl
  have hC : CAP = 1000000 := rfl
  obtain ⟨S', r, t, e, _, w, rr, k, ev, _⟩ := numIn_spec f [] hu WF.nil (by show 0 + 64 * f.size ≤ CAP; omega)
  refine ⟨t, ?_, k, ev⟩
  unfold graphM
  rw [e]
  exact ordered_spec w rr k

/-! ### tables -/
/-- the number of a row's part of k places from p on -/
def numE (e : Nat → Bool) : Nat → Nat → Nat
  | 0, _ => 0
  | k + 1, p => (if e p then 2 ^ k else 0) + numE e k (p + 1)
theorem numE_lt (e : Nat → Bool) : ∀ k p, numE e k p < 2 ^ k
  | 0, _ => Nat.one_pos
  | k + 1, p => by
    have := numE_lt e k (p + 1)
    show (if e p then 2 ^ k else 0) + numE e k (p + 1) < 2 ^ (k + 1)
    rw [Nat.pow_succ]
    split <;> omega
theorem tabIn_spec : ∀ (k : Nat) (S : Store) (rows : List Bool) (p : Nat), WF S → rows.length = 2 ^ k → k + p ≤ NP → S.length + 2 ^ k ≤ CAP →
    ∃ S' r t, tabIn k S rows p = some (S', r) ∧ S <+: S' ∧ WF S' ∧ Rep S' r t ∧ t.ok p ∧ (∀ e, rows[numE e k p]? = some (t.ev e)) ∧ S'.length + 1 ≤ S.length + 2 ^ k := by
  intro k
  induction k with
  | zero =>
    intro S rows p w hl hp hc
    match rows, hl with
    | [b], _ => exact ⟨S, b.toNat, .leaf b, rfl, List.prefix_refl _, w, .leaf b, trivial, fun _ => rfl, Nat.le_refl _⟩
  | succ k ih =>
    intro S rows p w hl hp hc
    rw [Nat.pow_succ] at hl hc
    obtain ⟨S1, l, tl, e1, s1, w1, r1, k1, ev1, c1⟩ := ih S (rows.take (2 ^ k)) (p + 1) w (by rw [List.length_take]; omega) (by omega) (by omega)
    obtain ⟨S2, h, th, e2, s2, w2, r2, k2, ev2, c2⟩ := ih S1 (rows.drop (2 ^ k)) (p + 1) w1 (by rw [List.length_drop]; omega) (by omega) (by omega)
    have pos : 1 ≤ 2 ^ k := Nat.one_le_two_pow
    obtain ⟨S3, r, e3, s3, w3, c3, r3⟩ := made_spec (p := p) w2 (r1.mono s2) r2 (by omega) k1 k2 (by omega)
    refine ⟨S3, r, _, ?_, (s1.trans s2).trans s3, w3, r3, mk_ok (by omega) k1 k2, fun e => ?_, by rw [Nat.pow_succ]; omega⟩
    · unfold tabIn
      simp only [e1, e2, e3, Option.bind_eq_bind, Option.bind_some]
    · rw [mk_ev]
      show rows[(if e p then 2 ^ k else 0) + numE e k (p + 1)]? = _
      cases e p with
      | false =>
        have q := ev1 e
        rw [List.getElem?_take_of_lt (numE_lt e k (p + 1))] at q
        rw [if_neg (by decide), if_neg (by decide), Nat.zero_add]
        exact q
      | true =>
        have q := ev2 e
        rw [List.getElem?_drop] at q
        rw [if_pos rfl, if_pos rfl]
        exact q

/-- the row of a row's number is that row -/
theorem numE_row (e : Nat → Bool) (many : Nat) : ∀ k p, p + k = many → ∀ hi i, p ≤ i → i < many → rowE many (hi * 2 ^ k + numE e k p) i = e i
  | 0, p, h, hi, i, h1, h2 => by omega
  | k + 1, p, h, hi, i, h1, h2 => by
    by_cases c : i = p
    · subst c
      have lt := numE_lt e k (i + 1)
      have ek : many - 1 - i = k := by omega
      show ((hi * 2 ^ (k + 1) + ((if e i then 2 ^ k else 0) + numE e k (i + 1))) / 2 ^ (many - 1 - i) % 2 == 1) = e i
      rw [ek, Nat.pow_succ]
      have pos : 0 < 2 ^ k := Nat.two_pow_pos k
      cases q : e i with
      | false =>
        have e1 : hi * (2 ^ k * 2) + ((if false = true then 2 ^ k else 0) + numE e k (i + 1)) = numE e k (i + 1) + 2 ^ k * (hi * 2) := by
          rw [if_neg (by decide), Nat.mul_comm (2 ^ k) (hi * 2), Nat.mul_assoc, Nat.mul_comm 2 (2 ^ k)]
          omega
        rw [e1, Nat.add_mul_div_left _ _ pos, Nat.div_eq_of_lt lt]
        have : (0 + hi * 2) % 2 = 0 := by omega
        rw [this]
        rfl
      | true =>
        have e1 : hi * (2 ^ k * 2) + ((if true = true then 2 ^ k else 0) + numE e k (i + 1)) = numE e k (i + 1) + 2 ^ k * (hi * 2 + 1) := by
          rw [if_pos rfl, Nat.mul_add, Nat.mul_comm (2 ^ k) (hi * 2), Nat.mul_assoc, Nat.mul_comm 2 (2 ^ k)]
          omega
        rw [e1, Nat.add_mul_div_left _ _ pos, Nat.div_eq_of_lt lt]
        have : (0 + (hi * 2 + 1)) % 2 = 1 := by omega
        rw [this]
        rfl
    · have e1 : hi * 2 ^ (k + 1) + numE e (k + 1) p = (hi * 2 + (if e p then 1 else 0)) * 2 ^ k + numE e k (p + 1) := by
        show hi * 2 ^ (k + 1) + ((if e p then 2 ^ k else 0) + numE e k (p + 1)) = _
        rw [Nat.pow_succ, Nat.add_mul, Nat.mul_assoc, Nat.mul_comm 2 (2 ^ k)]
        cases e p <;> simp <;> omega
      rw [e1]
      exact numE_row e many k (p + 1) (by omega) _ i (by omega) h2
theorem valuesM_length (f : Form) (many : Nat) : (valuesM f many).length = 2 ^ many := by
  unfold valuesM
  rw [List.length_map, List.length_range]
theorem valuesM_at {f : Form} {many : Nat} (hu : f.und many) (e : Nat → Bool) : (valuesM f many)[numE e many 0]? = some (f.eval e) := by
  have lt := numE_lt e many 0
  unfold valuesM
  rw [List.getElem?_map, List.getElem?_range lt]
  show some (f.eval (rowE many (numE e many 0))) = _
  exact congrArg some (Form.eval_congr hu fun k hk => by
    have := numE_row e many many 0 (by omega) 0 k (Nat.zero_le _) hk
    rwa [Nat.zero_mul, Nat.zero_add] at this)

/-- T2: the graph of a form's table is the form's graph -/
theorem tableM_eq {f : Form} {many : Nat} (hm : many ≤ NP) (hu : f.und many) (hs : f.size ≤ 15000) : tableM many (valuesM f many) = graphM f := by
  have hC : CAP = 1000000 := rfl
  have hNP : NP = 6 := rfl
  have : 2 ^ many ≤ 2 ^ 6 := Nat.pow_le_pow_right (by decide) (by omega)
  obtain ⟨t, e, k, ev⟩ := graphM_spec (Form.und_mono hm hu) hs
  obtain ⟨S', r, u, e2, _, w, rr, k2, ev2, _⟩ := tabIn_spec many [] (valuesM f many) 0 WF.nil (valuesM_length f many) (by omega) (by show 0 + 2 ^ many ≤ CAP; omega)
  have tu : u = t := canon k2 k fun e => by
    have a := ev2 e
    rw [valuesM_at hu] at a
    rw [ev]
    exact (Option.some.inj a).symm
  subst tu
  rw [e]
  unfold tableM
  rw [e2]
  exact ordered_spec w rr k
/-- T1: two forms have one graph just where their truths are the same -/
theorem graphM_iff {f g : Form} {many : Nat} (hm : many ≤ NP) (hf : f.und many) (hg : g.und many) (sf : f.size ≤ 15000) (sg : g.size ≤ 15000) :
    ∃ F G, graphM f = some F ∧ graphM g = some G ∧ (F = G ↔ valuesM f many = valuesM g many) := by
  obtain ⟨t, e1, k1, ev1⟩ := graphM_spec (Form.und_mono hm hf) sf
  obtain ⟨u, e2, k2, ev2⟩ := graphM_spec (Form.und_mono hm hg) sg
  refine ⟨_, _, e1, e2, fun h => ?_, fun h => ?_⟩
  · have := gr_inj h
    subst this
    unfold valuesM
    refine List.map_congr_left fun n _ => ?_
    rw [← ev1, ← ev2]
  · rw [canon k1 k2 fun e => ?_]
    have a := valuesM_at hf e
    rw [h, valuesM_at hg e] at a
    rw [ev1, ev2]
    exact (Option.some.inj a).symm
/-! ### what a computed answer went through -/
theorem join_inv {o : Op} {n : Nat} {S : Store} {D : Memo} {a b : Nat} {S' : Store} {D' : Memo} {r : Nat} (h : join o (n + 1) S D a b = some (S', D', r)) (c : ¬ (a < 2 ∧ b < 2)) (hD : D.f a b = none) :
    ∃ pa pb a0 b0 S1 D1 l a1 b1 S2 D2 g, plOf S a = some pa ∧ plOf S b = some pb ∧ go S a (min pa pb) false = some a0 ∧ go S b (min pa pb) false = some b0 ∧ join o n S D a0 b0 = some (S1, D1, l) ∧
      go S1 a (min pa pb) true = some a1 ∧ go S1 b (min pa pb) true = some b1 ∧ join o n S1 D1 a1 b1 = some (S2, D2, g) ∧ made S2 (min pa pb) l g = some (S', r) ∧ D2.n < CAP ∧ D' = D2.put a b r := by
  unfold join at h
  rw [if_neg c, hD] at h
  simp only [Option.bind_eq_bind, Option.bind_eq_some_iff] at h
  obtain ⟨pa, h1, pb, h2, a0, h3, b0, h4, ⟨S1, D1, l⟩, h5, a1, h6, b1, h7, ⟨S2, D2, g⟩, h8, ⟨S3, r'⟩, h9, h10⟩ := h
  by_cases q : D2.n < CAP
  · simp only [if_pos q] at h10
    cases h10
    exact ⟨pa, pb, a0, b0, S1, D1, l, a1, b1, S2, D2, g, h1, h2, h3, h4, h5, h6, h7, h8, h9, q, rfl⟩
  · simp only [if_neg q] at h10
    cases h10
theorem numb_inv {S : Store} {n : Nat} {F : List Node} {m : Nat → Option Nat} {a : Nat} {F' : List Node} {m' : Nat → Option Nat} {r : Nat} (h : numb S (n + 1) F m a = some (F', m', r)) (c : ¬ a < 2) (hm : m a = none) :
    ∃ nd F1 m1 l F2 m2 g, S[a - 2]? = some nd ∧ numb S n F m nd.2.1 = some (F1, m1, l) ∧ numb S n F1 m1 nd.2.2 = some (F2, m2, g) ∧ F2.length < CAP ∧ F' = F2 ++ [(nd.1, l, g)] ∧ m' = updM m2 a (F2.length + 2) ∧ r = F2.length + 2 := by
  unfold numb at h
  rw [if_neg c, hm] at h
  simp only [Option.bind_eq_bind, Option.bind_eq_some_iff] at h
  obtain ⟨nd, h1, ⟨F1, m1, l⟩, h2, ⟨F2, m2, g⟩, h3, h4⟩ := h
  by_cases q : F2.length < CAP
  · simp only [if_pos q] at h4
    cases h4
    exact ⟨nd, F1, m1, l, F2, m2, g, h1, h2, h3, q, rfl, rfl, rfl⟩
  · simp only [if_neg q] at h4
    cases h4
theorem numIn_neg {S : Store} {f : Form} {S' : Store} {r : Nat} (h : numIn S (.neg f) = some (S', r)) : ∃ S1 a D, numIn S f = some (S1, a) ∧ join .odd JF S1 Memo.emp a 1 = some (S', D, r) := by
  unfold numIn at h
  simp only [Option.bind_eq_bind, Option.bind_eq_some_iff] at h
  obtain ⟨⟨S1, a⟩, h1, ⟨S2, D, r'⟩, h2, h3⟩ := h
  cases h3
  exact ⟨S1, a, D, h1, h2⟩
theorem numIn_bin {S : Store} {o : Op} {f g : Form} {S' : Store} {r : Nat} (h : numIn S (.bin o f g) = some (S', r)) : ∃ S1 a S2 b D, numIn S f = some (S1, a) ∧ numIn S1 g = some (S2, b) ∧ join o JF S2 Memo.emp a b = some (S', D, r) := by
  unfold numIn at h
  simp only [Option.bind_eq_bind, Option.bind_eq_some_iff] at h
  obtain ⟨⟨S1, a⟩, h1, ⟨S2, b⟩, h2, ⟨S3, D, r'⟩, h3, h4⟩ := h
  cases h4
  exact ⟨S1, a, S2, b, D, h1, h2, h3⟩
theorem tabIn_inv {k : Nat} {S : Store} {rows : List Bool} {p : Nat} {S' : Store} {r : Nat} (h : tabIn (k + 1) S rows p = some (S', r)) :
    ∃ S1 l S2 g, tabIn k S (rows.take (2 ^ k)) (p + 1) = some (S1, l) ∧ tabIn k S1 (rows.drop (2 ^ k)) (p + 1) = some (S2, g) ∧ made S2 p l g = some (S', r) := by
  unfold tabIn at h
  simp only [Option.bind_eq_bind, Option.bind_eq_some_iff] at h
  obtain ⟨⟨S1, l⟩, h1, ⟨S2, g⟩, h2, h3⟩ := h
  exact ⟨S1, l, S2, g, h1, h2, h3⟩
theorem ordered_inv {S : Store} {a : Nat} {G : List Node × Nat} (h : ordered S a = some G) : ∃ m, numb S JF [] (fun _ => none) a = some (G.1, m, G.2) := by
  obtain ⟨⟨F, m, r⟩, h1, h2⟩ := Option.map_eq_some_iff.mp h
  cases h2
  exact ⟨m, h1⟩
end BD

/-! What stands in the heap: stores, memos, graphs, forms. -/
namespace Wk
open PySem L2 BD

def top (i : Nat) : Stmt := PySem.Challenge.pw_circuits_k28_whole_one_graph.main.body.getD i (.Pass ⟨0, 0, 0, 0⟩)
abbrev sManyRows : Stmt := top 5
abbrev sPlacesOf : Stmt := top 8
abbrev sHalf : Stmt := top 9
abbrev sInit : Stmt := inClass (top 12) 0
abbrev sPlaceOf : Stmt := inClass (top 12) 1
abbrev sGo : Stmt := inClass (top 12) 2
abbrev sMade : Stmt := inClass (top 12) 3
abbrev sTruthBy : Stmt := top 13
abbrev sJoined : Stmt := top 14
abbrev sNumberIn : Stmt := top 15
abbrev sNumbered : Stmt := top 16
abbrev sOrdered : Stmt := top 17
abbrev sGraph : Stmt := top 18
abbrev sTableIn : Stmt := top 19
abbrev sGraphOf : Stmt := top 20
abbrev sCellAt : Stmt := top 22
abbrev sMixed : Stmt := top 23
abbrev sLeaf : Stmt := top 24
abbrev sFormBy : Stmt := top 26
abbrev sTruth : Stmt := top 27
abbrev sCount : Stmt := top 29
abbrev sRowOf : Stmt := top 30
abbrev sLike : Stmt := top 31
abbrev sValues : Stmt := top 32
abbrev sLaw : Stmt := top 33

/-! ### small things -/
theorem cap_line : CAP < sizeLine := by decide
theorem paired_get {α β : Type} {F : α → β → Prop} : ∀ {xs : List α} {ys : List β} {i : Nat} {y : β}, Paired F xs ys → ys[i]? = some y → ∃ x, xs[i]? = some x ∧ F x y
  | _, _, _, _, .nil, e => by simp at e
  | _, _, 0, _, .cons r _, e => by
    simp at e
    subst e
    exact ⟨_, rfl, r⟩
  | _, _, i + 1, y, .cons _ t, e => by
    obtain ⟨u, h1, h2⟩ := paired_get (i := i) (y := y) t (by simpa using e)
    exact ⟨u, by simpa using h1, h2⟩
theorem int_dec {a b : Int} {c : Prop} [Decidable c] (h : a = b ↔ c) : decide (V.int a = V.int b) = decide c := by
  by_cases e : a = b
  · rw [decide_eq_true (congrArg V.int e), decide_eq_true (h.mp e)]
  · rw [decide_eq_false fun q => e (V.int.inj q), decide_eq_false fun q => e (h.mpr q)]

/-! ### what stays -/
structure Keep (xs : List Addr) (H H' : Hp) : Prop where
  all : ∀ c o, H c = some o → ¬ c ∈ xs → H' c = some o
  tup : ∀ c ys, H c = some (.tup ys) → H' c = some (.tup ys)
theorem Keep.refl {xs : List Addr} {H : Hp} : Keep xs H H := ⟨fun _ _ h _ => h, fun _ _ h => h⟩
theorem Keep.trans {xs : List Addr} {H H1 H2 : Hp} (a : Keep xs H H1) (b : Keep xs H1 H2) : Keep xs H H2 :=
  ⟨fun c o h n => b.all c o (a.all c o h n) n, fun c ys h => b.tup c ys (a.tup c ys h)⟩
theorem Keep.mono {xs ys : List Addr} {H H' : Hp} (k : Keep xs H H') (h : ∀ c, c ∈ xs → c ∈ ys) : Keep ys H H' :=
  ⟨fun c o e n => k.all c o e fun z => n (h c z), k.tup⟩
theorem Keep.set {xs : List Addr} {H : Hp} {a : Addr} {o o' : HO} (ha : H a = some o) (nt : ∀ ys, o ≠ .tup ys) (m : a ∈ xs) : Keep xs H (upd H a o') :=
  ⟨fun c u e n => by rw [upd_ne (fun z => n (by rw [z]; exact m))]; exact e,
   fun c ys e => by rw [upd_ne (ne_of e ha fun z => nt ys z.symm)]; exact e⟩
theorem Keep.new {xs : List Addr} {H : Hp} {a : Addr} {o : HO} (ha : H a = none) : Keep xs H (upd H a o) :=
  ⟨fun c u e _ => by rw [upd_ne (ne_of_none e ha)]; exact e, fun c ys e => by rw [upd_ne (ne_of_none e ha)]; exact e⟩
theorem Keep.same {H H' : Hp} (k : Keep [] H H') : Same H H' := fun b o e => k.all b o e (by simp)
theorem Keep.of {xs : List Addr} {H H' : Hp} (k : Same H H') : Keep xs H H' := ⟨fun c o e _ => k c o e, fun c ys e => k c _ e⟩
/-- what was not there ahead does not count -/
theorem Keep.drop {xs : List Addr} {e : Addr} {H H1 H' : Hp} (a : Same H H1) (k : Keep (e :: xs) H1 H') (n : H e = none) : Keep xs H H' :=
  ⟨fun c o q m => k.all c o (a c o q) fun z => by
    rcases List.mem_cons.mp z with z | z
    · exact ne_of_none q n z
    · exact m z, fun c ys q => k.tup c ys (a c _ q)⟩
theorem same_new {H : Hp} {p : Addr} (h : H p = none) (o : HO) : Same H (upd H p o) := fun b u q => by rw [upd_ne (ne_of_none q h)]; exact q

/-! ### nodes and stores -/
def nodeV (n : Node) : List V := [.int (n.1 : Nat), .int (n.2.1 : Nat), .int (n.2.2 : Nat)]
def keyN (n : Node) : List Key := [.inl (n.1 : Nat), .inl (n.2.1 : Nat), .inl (n.2.2 : Nat)]
theorem keyN_V (n : Node) : (keyN n).map kV = nodeV n := rfl
theorem keyN_inj {a b : Node} (h : keyN a = keyN b) : a = b := by
  obtain ⟨p, l, g⟩ := a
  obtain ⟨q, m, i⟩ := b
  injection h with h1 h2
  injection h2 with h2 h3
  injection h3 with h3 _
  have e1 : ((p : Nat) : Int) = q := Sum.inl.inj h1
  have e2 : ((l : Nat) : Int) = m := Sum.inl.inj h2
  have e3 : ((g : Nat) : Int) = i := Sum.inl.inj h3
  have e1 : p = q := by omega
  have e2 : l = m := by omega
  have e3 : g = i := by omega
  rw [e1, e2, e3]
/-- at the addresses as stand the nodes S -/
abbrev NodesAt (H : Hp) (as : List Addr) (S : List Node) : Prop := Paired (fun a n => H a = some (.tup (nodeV n))) as S
theorem NodesAt.keep {H H' : Hp} {as : List Addr} {S : List Node} (k : ∀ c ys, H c = some (.tup ys) → H' c = some (.tup ys)) (h : NodesAt H as S) : NodesAt H' as S := Paired.mapP h fun _ _ q => k _ _ q
/-- a list of nodes -/
def FoundAt (H : Hp) (q : Addr) (F : List Node) : Prop := ∃ as : List Addr, H q = some (.lst (as.map V.ref)) ∧ NodesAt H as F
theorem FoundAt.keep {H H' : Hp} {q : Addr} {F : List Node} (h : FoundAt H q F) (k : ∀ c ys, H c = some (.tup ys) → H' c = some (.tup ys)) (e : ∀ o, H q = some o → H' q = some o) : FoundAt H' q F := by
  obtain ⟨as, h1, h2⟩ := h
  exact ⟨as, e _ h1, h2.keep k⟩
theorem FoundAt.get {H : Hp} {q : Addr} {F : List Node} {i : Nat} {n : Node} (h : FoundAt H q F) (e : F[i]? = some n) : ∃ (vs : List V) (a : Addr), H q = some (.lst vs) ∧ vs[i]? = some (.ref a) ∧ H a = some (.tup (nodeV n)) := by
  obtain ⟨as, h1, h2⟩ := h
  obtain ⟨a, e1, e2⟩ := paired_get h2 e
  exact ⟨_, a, h1, by rw [List.getElem?_map, e1]; rfl, e2⟩
theorem FoundAt.len {H : Hp} {q : Addr} {F : List Node} (h : FoundAt H q F) : ∃ vs : List V, H q = some (.lst vs) ∧ vs.length = F.length := by
  obtain ⟨as, h1, h2⟩ := h
  exact ⟨_, h1, by rw [List.length_map]; exact h2.length⟩
/-- one more -/
theorem FoundAt.snoc {H H' : Hp} {q t : Addr} {F : List Node} {n : Node} {vs : List V} (h : FoundAt H q F) (hv : H q = some (.lst vs)) (ht : H' t = some (.tup (nodeV n))) (k : ∀ c ys, H c = some (.tup ys) → H' c = some (.tup ys)) (e : H' q = some (.lst (vs ++ [.ref t]))) : FoundAt H' q (F ++ [n]) := by
  obtain ⟨as, h1, h2⟩ := h
  rw [h1] at hv
  cases hv
  exact ⟨as ++ [t], by rw [e, List.map_append]; rfl, Paired.snoc (h2.keep k) ht⟩

theorem knk : ¬ (("nodes" : Str) = "known") := by decide +kernel
theorem kkn : ¬ (("known" : Str) = "nodes") := by decide +kernel
/-- a store's attributes -/
def flds (l d : Addr) : List (Str × V) := putF "known" (.ref d) (putF "nodes" (.ref l) [])
theorem flds_nodes (l d : Addr) : (flds l d).lookup ("nodes" : Str) = some (.ref l) := by
  unfold flds
  rw [lookup_putF, if_neg knk, lookup_putF, if_pos rfl]
theorem flds_known (l d : Addr) : (flds l d).lookup ("known" : Str) = some (.ref d) := by
  unfold flds
  rw [lookup_putF, if_pos rfl]
theorem flds_no (l d : Addr) {m : Str} (h1 : ¬ m = "known") (h2 : ¬ m = "nodes") : (flds l d).lookup m = none := by
  unfold flds
  rw [lookup_putF, if_neg h1, lookup_putF, if_neg h2]
  all_goals rfl

structure StoreAt (C p l d : Addr) (H : Hp) (S : Store) : Prop where
  ob : ∃ dx, H p = some (.ins C dx (flds l d))
  ls : FoundAt H l S
  dc : ∃ kvs : List (List Key × V), H d = some (.dT kvs) ∧ kvs.length ≤ S.length ∧ ∀ n : Node, valV kvs (keyN n) = (S.idxOf? n).map fun i => V.int ((i + 2 : Nat) : Int)
section
variable {C p l d : Addr} {H H' : Hp} {S : Store}
theorem StoreAt.keep {xs : List Addr} (h : StoreAt C p l d H S) (k : Keep xs H H') (np : ¬ p ∈ xs) (nl : ¬ l ∈ xs) (nd : ¬ d ∈ xs) : StoreAt C p l d H' S := by
  obtain ⟨⟨dx, h1⟩, h2, kvs, h3, h4⟩ := h
  exact ⟨⟨dx, k.all _ _ h1 np⟩, h2.keep k.tup fun o e => k.all _ _ e nl, kvs, k.all _ _ h3 nd, h4⟩
theorem StoreAt.same (h : StoreAt C p l d H S) (k : Same H H') : StoreAt C p l d H' S := h.keep (Keep.of (xs := []) k) (by simp) (by simp) (by simp)
theorem StoreAt.npl (h : StoreAt C p l d H S) : p ≠ l := by
  obtain ⟨⟨dx, h1⟩, ⟨as, h2, _⟩, _⟩ := h
  exact ne_of h1 h2 (by intro z; cases z)
theorem StoreAt.npd (h : StoreAt C p l d H S) : p ≠ d := by
  obtain ⟨⟨dx, h1⟩, _, kvs, h2, _⟩ := h
  exact ne_of h1 h2 (by intro z; cases z)
theorem StoreAt.nld (h : StoreAt C p l d H S) : l ≠ d := by
  obtain ⟨_, ⟨as, h1, _⟩, kvs, h2, _⟩ := h
  exact ne_of h1 h2 (by intro z; cases z)
theorem StoreAt.hl (h : StoreAt C p l d H S) : ∃ o, H l = some o ∧ ∀ ys, o ≠ .tup ys := by
  obtain ⟨_, ⟨as, h1, _⟩, _⟩ := h
  exact ⟨_, h1, fun ys z => nomatch z⟩
theorem StoreAt.hd (h : StoreAt C p l d H S) : ∃ o, H d = some o ∧ ∀ ys, o ≠ .tup ys := by
  obtain ⟨_, _, kvs, h1, _⟩ := h
  exact ⟨_, h1, fun ys z => nomatch z⟩
end

/-! ### memos -/
def MemoAt (H : Hp) (e : Addr) (D : Memo) : Prop := ∃ kvs : List (List Key × V), H e = some (.dT kvs) ∧ kvs.length ≤ D.n ∧ ∀ a b : Nat, valV kvs [Sum.inl (a : Int), Sum.inl (b : Int)] = (D.f a b).map fun r => V.int ((r : Nat) : Int)
theorem MemoAt.keep {H H' : Hp} {e : Addr} {D : Memo} (h : MemoAt H e D) (k : ∀ o, H e = some o → H' e = some o) : MemoAt H' e D := by
  obtain ⟨kvs, h1, h2⟩ := h
  exact ⟨kvs, k _ h1, h2⟩
theorem MemoAt.emp {H : Hp} {e : Addr} (h : H e = some (.dT [])) : MemoAt H e Memo.emp := ⟨[], h, Nat.le_refl _, fun _ _ => rfl⟩
theorem putK_len {κ : Type} [DecidableEq κ] (kvs : List (κ × V)) (k : κ) (v : V) : (putK kvs k v).length ≤ kvs.length + 1 := by
  unfold putK
  split
  · rw [List.length_map]
    exact Nat.le_succ _
  · rw [List.length_append]
    exact Nat.le_refl _
theorem MemoAt.put {H H' : Hp} {e : Addr} {D : Memo} {kvs : List (List Key × V)} {a b r : Nat} (h : MemoAt H e D) (hk : H e = some (.dT kvs)) (e' : H' e = some (.dT (putK kvs [Sum.inl (a : Int), Sum.inl (b : Int)] (V.int ((r : Nat) : Int))))) : MemoAt H' e (D.put a b r) := by
  obtain ⟨kvs', h1, h2, h3⟩ := h
  rw [hk] at h1
  cases h1
  refine ⟨_, e', Nat.le_trans (putK_len _ _ _) (Nat.succ_le_succ h2), fun x y => ?_⟩
  rw [valV_put, h3]
  show _ = (if x = a ∧ y = b then some r else D.f x y).map _
  by_cases c : x = a ∧ y = b
  · rw [if_pos c, if_pos (by rw [c.1, c.2])]
    rfl
  · rw [if_neg c, if_neg fun q => c ?_]
    injection q with q1 q2
    injection q2 with q2 _
    have e1 : ((x : Nat) : Int) = a := Sum.inl.inj q1
    have e2 : ((y : Nat) : Int) = b := Sum.inl.inj q2
    exact ⟨by omega, by omega⟩
/-- the numbers that a numbering has given -/
def PlacesAt (H : Hp) (m : Addr) (f : Nat → Option Nat) (n : Nat) : Prop := ∃ kvs : List (Key × V), H m = some (.dK kvs) ∧ kvs.length ≤ n ∧ ∀ a : Nat, valV kvs (Sum.inl (a : Int)) = (f a).map fun r => V.int ((r : Nat) : Int)
theorem PlacesAt.put {H H' : Hp} {m : Addr} {f : Nat → Option Nat} {n : Nat} {kvs : List (Key × V)} {a r : Nat} (h : PlacesAt H m f n) (hk : H m = some (.dK kvs)) (e' : H' m = some (.dK (putK kvs (Sum.inl (a : Int)) (V.int ((r : Nat) : Int))))) : PlacesAt H' m (updM f a r) (n + 1) := by
  obtain ⟨kvs', h1, h2, h3⟩ := h
  rw [hk] at h1
  cases h1
  refine ⟨_, e', Nat.le_trans (putK_len _ _ _) (Nat.succ_le_succ h2), fun x => ?_⟩
  rw [valV_put, h3]
  show _ = (if x = a then some r else f x).map _
  by_cases c : x = a
  · rw [if_pos c, if_pos (by rw [c])]
    rfl
  · rw [if_neg c, if_neg fun q => c ?_]
    have e1 : ((x : Nat) : Int) = a := Sum.inl.inj q
    omega

/-! ### graphs, forms -/
def GraphAt (H : Hp) (g : Addr) (G : List Node × Nat) : Prop := ∃ q, H g = some (.tup [.ref q, .int ((G.2 : Nat) : Int)]) ∧ FoundAt H q G.1
theorem GraphAt.same {H H' : Hp} {g : Addr} {G : List Node × Nat} (h : GraphAt H g G) (k : Same H H') : GraphAt H' g G := by
  obtain ⟨q, h1, h2⟩ := h
  exact ⟨q, k _ _ h1, h2.keep (fun c ys e => k _ _ e) fun o e => k _ _ e⟩
/-- an and's, or's, odd's word -/
def wd : Op → Str
  | .con => "and"
  | .dis => "or"
  | .odd => "odd"
inductive FormAt (H : Hp) : V → Form → Prop where
  | lit {a : Addr} {b : Bool} : H a = some (.tup [.str "is", .bl b]) → FormAt H (.ref a) (.lit b)
  | var {a : Addr} {k : Nat} : H a = some (.tup [.str "at", .int (k : Int)]) → FormAt H (.ref a) (.var k)
  | neg {a : Addr} {v : V} {f : Form} : H a = some (.tup [.str "not", v]) → FormAt H v f → FormAt H (.ref a) (.neg f)
  | bin {a : Addr} {o : Op} {v u : V} {f g : Form} : H a = some (.tup [.str (wd o), v, u]) → FormAt H v f → FormAt H u g → FormAt H (.ref a) (.bin o f g)
theorem FormAt.keep {H H' : Hp} (k : ∀ c ys, H c = some (.tup ys) → H' c = some (.tup ys)) {v : V} {f : Form} (h : FormAt H v f) : FormAt H' v f := by
  induction h with
  | lit e => exact .lit (k _ _ e)
  | var e => exact .var (k _ _ e)
  | neg e _ ih => exact .neg (k _ _ e) ih
  | bin e _ _ ih1 ih2 => exact .bin (k _ _ e) ih1 ih2
theorem FormAt.same {H H' : Hp} (k : Same H H') {v : V} {f : Form} (h : FormAt H v f) : FormAt H' v f := h.keep fun c ys e => k c _ e

/-- the words of forms -/
theorem w_is_at : ¬ (("is" : Str) = "at") := by decide +kernel
theorem w_at_is : ¬ (("at" : Str) = "is") := by decide +kernel
theorem w_not_is : ¬ (("not" : Str) = "is") := by decide +kernel
theorem w_not_at : ¬ (("not" : Str) = "at") := by decide +kernel
theorem w_not_and : ¬ (("not" : Str) = "and") := by decide +kernel
theorem wd_is (o : Op) : ¬ (wd o = "is") := by cases o <;> decide +kernel
theorem wd_at (o : Op) : ¬ (wd o = "at") := by cases o <;> decide +kernel
theorem wd_not (o : Op) : ¬ (wd o = "not") := by cases o <;> decide +kernel
theorem wd_and (o : Op) : (wd o = "and") ↔ o = .con := by cases o <;> decide +kernel
theorem wd_or (o : Op) : (wd o = "or") ↔ o = .dis := by cases o <;> decide +kernel
theorem wd_odd (o : Op) : (wd o = "odd") ↔ o = .odd := by cases o <;> decide +kernel
theorem sdec {x y : Str} (h : ¬ x = y) : decide (V.str x = V.str y) = false := decide_eq_false fun q => h (V.str.inj q)
theorem sdecT {x : Str} : decide (V.str x = V.str x) = true := decide_eq_true rfl
theorem sdecI {x y : Str} {c : Prop} [Decidable c] (h : x = y ↔ c) : decide (V.str x = V.str y) = decide c := by
  by_cases e : x = y
  · rw [decide_eq_true (congrArg V.str e), decide_eq_true (h.mp e)]
  · rw [sdec e, decide_eq_false fun q => e (h.mpr q)]

/-- what the walks ask of the top -/
structure Txt (K : PySem.W.Frag) (mg : Str → Option Value) (C : Addr) : Prop where
  cl : Cls K C
  nN : NoAttr K C "nodes"
  nK : NoAttr K C "known"
  mgC : mg "Store" = some (.ref C)
  beyond : ∃ t, mg "BEYOND" = some (.int 99 t)
  most : ∃ t, mg "MOST_PLACES" = some (.int 10 t)
  len : mg "len" = none
  int : mg "int" = none
  min : mg "min" = none
  range : mg "range" = none
  enumerate : mg "enumerate" = none
  tuple : mg "tuple" = none
  list : mg "list" = none
end Wk

/-! The store's methods. -/
namespace Wk
open PySem L2 BD
def spInit (C : Addr) : Sp := fun vs H Q _ => ∃ (p dx : Addr), vs = [.ref p] ∧ H p = some (.ins C dx []) ∧
  ∀ (l d : Addr) (H' : Hp), H l = none → H d = none → StoreAt C p l d H' [] → (∀ b o, H b = some o → b ≠ p → H' b = some o) → Q .non H'
def spPlaceOf (C : Addr) : Sp := fun vs H Q _ => ∃ (p l d : Addr) (S : Store) (a q : Nat), vs = [.ref p, .int (a : Int)] ∧ StoreAt C p l d H S ∧ plOf S a = some q ∧ Q (.int (q : Int)) H
def spGo (C : Addr) : Sp := fun vs H Q _ => ∃ (p l d : Addr) (S : Store) (a z : Nat) (t : Bool) (x : Nat), vs = [.ref p, .int (a : Int), .int (z : Int), .bl t] ∧ StoreAt C p l d H S ∧ go S a z t = some x ∧ Q (.int (x : Int)) H
def spMade (C : Addr) : Sp := fun vs H Q _ => ∃ (p l d : Addr) (S : Store) (z lo hi : Nat) (S' : Store) (r : Nat), vs = [.ref p, .int (z : Int), .int (lo : Int), .int (hi : Int)] ∧ StoreAt C p l d H S ∧ made S z lo hi = some (S', r) ∧
  ∀ H', Keep [l, d] H H' → StoreAt C p l d H' S' → Q (.int (r : Int)) H'
section
variable {P : Program} {w : World} {K : PySem.W.Frag} {mg : Str → Option Value} {base : Heap}
theorem scI : FnScope ["self"] ["self"] (defScope sInit) := ⟨rfl, rfl, rfl, by decide +kernel, rfl, by decide +kernel, by decide +kernel⟩
theorem ok_init {f C : Addr} {fd : FuncData} (F : Fun K "__init__" "Store.__init__" sInit f fd) (T : Txt K mg C) : FnOk P w K mg base CX0 1 f fd ["self"] (spInit C) := by
  refine F.ok scI (fun vs H Q E h => ?_) (fun cdv A outer s H vs Q E hr h => ?_)
  · obtain ⟨p, dx, rfl, _⟩ := h
    rfl
  · obtain ⟨p, dx, rfl, hp, k⟩ := h
    refine ⟨_, pss_cons (ps_fld (pv 0) (pe_lst pa_nil) rfl) (pss_one (ps_fld (pv 0) pe_dnewT rfl)), ?_⟩
    refine ⟨Nat.zero_le _, fun l hl => ?_⟩
    have npl : p ≠ l := ne_of_none hp hl
    refine ⟨_, rfl, p, C, dx, [], rfl, (by rw [upd_ne npl]; exact hp), T.cl, T.nN, (by show 0 < 1000; decide), ?_⟩
    intro d hd
    have npd : p ≠ d := fun q => by
      rw [← q, upd_same] at hd
      cases hd
    have nld : l ≠ d := fun q => by
      rw [← q, upd_ne npl.symm, upd_same] at hd
      cases hd
    refine ⟨_, rfl, p, C, dx, _, rfl, (by rw [upd_ne npd, upd_same]), T.cl, T.nK, (by show 1 < 1000; decide), ?_⟩
    have hd0 : H d = none := by
      rw [upd_ne npd.symm, upd_ne nld.symm] at hd
      exact hd
    refine k l d _ hl hd0 ⟨⟨dx, upd_same⟩, ⟨[], ?_, .nil⟩, [], ?_, Nat.le_refl _, fun n => rfl⟩ fun b o e hb => ?_
    · rw [upd_ne npl.symm, upd_ne nld, upd_ne npl.symm, upd_same]
      rfl
    · rw [upd_ne npd.symm, upd_same]
    · rw [upd_ne hb, upd_ne (ne_of_none e hd0), upd_ne hb, upd_ne (ne_of_none e hl)]
      exact e
theorem scPO : FnScope ["self", "at"] ["self", "at"] (defScope sPlaceOf) := ⟨rfl, rfl, rfl, by decide +kernel, rfl, by decide +kernel, by decide +kernel⟩
theorem ok_placeOf {f C : Addr} {fd : FuncData} (F : Fun K "place_of" "Store.place_of" sPlaceOf f fd) (T : Txt K mg C) : FnOk P w K mg base CX0 1 f fd ["self", "at"] (spPlaceOf C) := by
  refine F.ok scPO (fun vs H Q E h => ?_) (fun cdv A outer s H vs Q E hr h => ?_)
  · obtain ⟨p, l, d, S, a, q, rfl, _⟩ := h
    rfl
  · obtain ⟨p, l, d, S, a, q, rfl, hS, hq, k⟩ := h
    obtain ⟨tb, mgB⟩ := T.beyond
    refine ⟨_, pss_cons (ps_if (pt_cmpR op_lt (pv 1) pe_int (nomark _)) (pss_one (ps_ret (pe_glob (v := .int 99) rfl mgB ⟨_, rfl⟩))) pss_nil)
      (pss_one (ps_ret (pe_ix ix_tup (pe_ix ix_list (pe_fld (pv 0) rfl) (pe_op op_sub (pv 1) pe_int) (fun _ _ => rfl)) pe_int (fun _ _ => rfl)))), ?_⟩
    refine ⟨_, rfl, _, _, rfl, rfl, _, rfl, ?_⟩
    refine ite2 (fun c => ?_) (fun c => ?_)
    · have c' : (a : Int) < 2 := of_decide_eq_true c
      have ha : a < 2 := by omega
      rw [place_small ha] at hq
      cases hq
      exact k
    · have c' : ¬ (a : Int) < 2 := of_decide_eq_false (Bool.eq_false_iff.mpr c)
      have ha : ¬ a < 2 := by omega
      unfold plOf at hq
      rw [if_neg ha] at hq
      obtain ⟨n, hn, e⟩ := Option.map_eq_some_iff.mp hq
      subst e
      obtain ⟨⟨dx, h1⟩, h2, _⟩ := id hS
      obtain ⟨vs, b, e1, e2, e3⟩ := h2.get hn
      refine ⟨_, rfl, p, C, dx, _, _, rfl, h1, T.cl, T.nN, flds_nodes _ _, _, rfl, _, _, rfl, rfl, l, vs, _, _, rfl, rfl, SqL.of e1, at_of (j := a - 2) (by omega) e2, b, _, _, _, rfl, rfl, SqT.of e3, atI_nat (j := 0) rfl, k⟩
theorem scGo : FnScope ["self", "at", "place", "truth"] ["self", "at", "place", "truth"] (defScope sGo) := ⟨rfl, rfl, rfl, by decide +kernel, rfl, by decide +kernel, by decide +kernel⟩
theorem ok_go {f C fP : Addr} {fd fdP : FuncData} (F : Fun K "go" "Store.go" sGo f fd) (T : Txt K mg C) (FP : Fun K "place_of" "Store.place_of" sPlaceOf fP fdP) (bP : Binds K fdP ["self", "at"] []) (mP : Meth K C "place_of" fP) :
    FnOk P w K mg base CX0 2 f fd ["self", "at", "place", "truth"] (spGo C) := by
  have GP : FnOk P w K mg base CX0 1 fP fdP ["self", "at"] (spPlaceOf C) := ok_placeOf FP T
  refine F.ok scGo (fun vs H Q E h => ?_) (fun cdv A outer s H vs Q E hr h => ?_)
  · obtain ⟨p, l, d, S, a, z, t, x, rfl, _⟩ := h
    rfl
  · obtain ⟨p, l, d, S, a, z, t, x, rfl, hS, hx, k⟩ := h
    refine ⟨_, pss_cons (ps_if (pt_cmpR op_ne (pe_meth (pv 0) T.cl mP GP hr bP .nil pass0 (pa_cons (pv 1) pa_nil)) (pv 2) (nomark _)) (pss_one (ps_ret (pv 1))) pss_nil)
      (pss_one (ps_ret (pe_ix ix_tup (pe_ix ix_list (pe_fld (pv 0) rfl) (pe_op op_sub (pv 1) pe_int) (fun _ _ => rfl)) (pe_op op_add pe_int (pe_callTy call_int1 (by rfl) T.int (by decide +kernel) (pa_cons (pv 3) pa_nil))) (fun _ _ => rfl)))), ?_⟩
    obtain ⟨⟨dx, h1⟩, h2, _⟩ := id hS
    unfold go at hx
    cases hq : plOf S a with
    | none =>
      rw [hq] at hx
      cases hx
    | some q =>
      rw [hq] at hx
      refine ⟨_, rfl, p, dx, _, rfl, h1, flds_no _ _ (by decide +kernel) (by decide +kernel), _, rfl, p, l, d, S, a, q, rfl, hS, hq, _, rfl, rfl, _, rfl, ?_⟩
      have ed : decide (V.int (q : Int) = V.int (z : Int)) = decide (q = z) := int_dec (by omega)
      rw [ed]
      by_cases c : q = z
      · have hx : (if q ≠ z then some a else if a < 2 then none else (S[a - 2]?).map fun n => if t then n.2.2 else n.2.1) = some x := hx
        rw [if_neg (by simpa using c)] at hx
        rw [decide_eq_true c]
        refine iteF ?_
        by_cases ha : a < 2
        · rw [if_pos ha] at hx
          cases hx
        · rw [if_neg ha] at hx
          obtain ⟨n, hn, e⟩ := Option.map_eq_some_iff.mp hx
          subst e
          obtain ⟨vs, b, e1, e2, e3⟩ := h2.get hn
          refine ⟨_, rfl, p, C, dx, _, _, rfl, h1, T.cl, T.nN, flds_nodes _ _, _, rfl, _, _, rfl, rfl, l, vs, _, _, rfl, rfl, SqL.of e1, at_of (j := a - 2) (by omega) e2, _, rfl, .inr ⟨_, rfl, _, _, rfl, rfl, b, _, _, _, rfl, rfl, SqT.of e3, ?_, k⟩⟩
          cases t with
          | true => exact atI_nat (j := 2) rfl
          | false => exact atI_nat (j := 1) rfl
      · have hx : (if q ≠ z then some a else if a < 2 then none else (S[a - 2]?).map fun n => if t then n.2.2 else n.2.1) = some x := hx
        rw [if_pos (by simpa using c)] at hx
        cases hx
        rw [decide_eq_false c]
        refine iteT ?_
        exact ⟨_, rfl, k⟩
theorem scM : FnScope ["self", "place", "low", "high", "node"] ["self", "place", "low", "high"] (defScope sMade) := ⟨rfl, rfl, rfl, by decide +kernel, rfl, by decide +kernel, by decide +kernel⟩
theorem ok_made {f C : Addr} {fd : FuncData} (F : Fun K "made" "Store.made" sMade f fd) (T : Txt K mg C) : FnOk P w K mg base CX0 1 f fd ["self", "place", "low", "high"] (spMade C) := by
  refine F.ok scM (fun vs H Q E h => ?_) (fun cdv A outer s H vs Q E hr h => ?_)
  · obtain ⟨p, l, d, S, z, lo, hi, S', r, rfl, _⟩ := h
    rfl
  · obtain ⟨p, l, d, S, z, lo, hi, S', r, rfl, hS, hm, k⟩ := h
    have hu := hu_of hr
    refine ⟨_, pss_cons (ps_if (pt_cmpR op_eq (pv 2) (pv 3) (nomark _)) (pss_one (ps_ret (pv 2))) pss_nil)
      (pss_cons (ps_set (i := 4) scM.nd rfl (Or.inl rfl) (pe_tup (pa_cons (pv 1) (pa_cons (pv 2) (pa_cons (pv 3) pa_nil)))))
      (pss_cons (ps_if (pt_cmp (pc_dnotin hu (pv 4) (pe_fld (pv 0) rfl)))
        (pss_cons (ps_dput hu (pe_fld (pv 0) rfl) (pv 4) (pe_op op_add (pe_callB call_len_seq (by rfl) T.len PySem.boot_len (pa_cons (pe_fld (pv 0) rfl) pa_nil)) pe_int) rfl)
        (pss_one (ps_expr (pe_bm PySem.F.plainAttrs_list PySem.F.slot_list_append PySem.F.type_list_append mt_append (pe_fld (pv 0) rfl) (pa_cons (pv 4) pa_nil))))) pss_nil)
      (pss_one (ps_ret (pe_dget hu (pe_fld (pv 0) rfl) (pv 4) (fun _ _ => rfl)))))), ?_⟩
    refine ⟨_, rfl, _, rfl, rfl, _, rfl, ?_⟩
    unfold made at hm
    have ed : decide (V.int (lo : Int) = V.int (hi : Int)) = decide (lo = hi) := int_dec (by omega)
    rw [ed]
    by_cases c : lo = hi
    · rw [if_pos c] at hm
      cases hm
      rw [decide_eq_true c]
      exact iteT ⟨_, rfl, k H Keep.refl hS⟩
    · rw [if_neg c] at hm
      rw [decide_eq_false c]
      refine iteF ?_
      refine ⟨_, rfl, _, rfl, _, rfl, (by show 3 ≤ sizeLine; decide), fun t ht => ?_⟩
      -- the new node's tuple stands at t
      have k0 : Same H (upd H t (.tup (nodeV (z, lo, hi)))) := same_new ht _
      have S0 := hS.same k0
      obtain ⟨⟨dx, h1⟩, h2, kvs, h3, h4, h5⟩ := id S0
      have et : (upd H t (.tup (nodeV (z, lo, hi)))) t = some (.tup ((keyN (z, lo, hi)).map kV)) := upd_same
      refine ⟨_, rfl, _, rfl, p, C, dx, _, _, rfl, h1, T.cl, T.nK, flds_known _ _, d, _, rfl, DGet.t (k := keyN (z, lo, hi)) h3 et, _, rfl, ?_⟩
      rw [h5]
      cases hi' : S.idxOf? (z, lo, hi) with
      | some i =>
        rw [hi'] at hm
        cases hm
        refine iteF ?_
        refine ⟨_, rfl, p, C, dx, _, _, rfl, h1, T.cl, T.nK, flds_known _ _, _, rfl, d, V.int ((i + 2 : Nat) : Int), rfl, ?_, k _ (Keep.of k0) S0⟩
        have e := DGet.t (k := keyN (z, lo, hi)) h3 et
        rw [h5, hi'] at e
        exact e
      | none =>
        rw [hi'] at hm
        have hm : (if S.length < CAP then some (S ++ [(z, lo, hi)], S.length + 2) else none) = some (S', r) := hm
        by_cases hc : S.length < CAP
        · rw [if_pos hc] at hm
          cases hm
          refine iteT ?_
          obtain ⟨vs, e1, e2⟩ := h2.len
          have line : S.length < sizeLine := Nat.lt_trans hc cap_line
          -- self.known[node] = len(self.nodes) + 2
          refine ⟨_, rfl, p, C, dx, _, _, rfl, h1, T.cl, T.nN, flds_nodes _ _, l, vs, rfl, .inl (SqL.of e1), _, _, rfl, rfl, _, rfl, p, C, dx, _, _, rfl, h1, T.cl, T.nK, flds_known _ _, _, rfl, d, _, rfl, DPut.t (k := keyN (z, lo, hi)) h3 et (Nat.lt_of_le_of_lt h4 line), ?_⟩
          have npd := S0.npd
          have nld := S0.nld
          have npl := S0.npl
          have ntd : t ≠ d := ne_of et h3 (by intro q; cases q)
          have ntl : t ≠ l := ne_of et e1 (by intro q; cases q)
          -- self.nodes.append(node)
          refine ⟨_, rfl, p, C, dx, _, _, rfl, (by rw [upd_ne npd]; exact h1), T.cl, T.nN, flds_nodes _ _, .inl ⟨rfl, vs, SqL.of (by rw [upd_ne nld]; exact e1)⟩, _, rfl, l, vs, _, rfl, rfl, (by rw [upd_ne nld]; exact e1), (by rw [e2]; exact line), ?_⟩
          -- return self.known[node]
          have S1 : StoreAt C p l d (upd (upd (upd H t (.tup (nodeV (z, lo, hi)))) d (.dT (putK kvs (keyN (z, lo, hi)) (V.int (((vs.length : Nat) : Int) + 2))))) l (.lst (vs ++ [V.ref t]))) (S ++ [(z, lo, hi)]) := by
            refine ⟨⟨dx, by rw [upd_ne npl, upd_ne npd]; exact h1⟩, ?_, _, by rw [upd_ne nld.symm, upd_same], ?_, fun n => ?_⟩
            · refine h2.snoc e1 ?_ (fun c ys e => ?_) upd_same
              · rw [upd_ne ntl, upd_ne ntd, upd_same]
              · rw [upd_ne (ne_of e e1 (by intro q; cases q)), upd_ne (ne_of e h3 (by intro q; cases q))]
                exact e
            · rw [List.length_append]
              exact Nat.le_trans (putK_len _ _ _) (Nat.succ_le_succ h4)
            · rw [valV_put, h5, idx_snoc n (idx_none hi')]
              by_cases q : n = (z, lo, hi)
              · rw [if_pos q, if_pos (by rw [q]), e2]
                exact congrArg (fun i => some (V.int i)) (by show ((S.length : Nat) : Int) + 2 = ((S.length + 2 : Nat) : Int); omega)
              · rw [if_neg q, if_neg fun e => q (keyN_inj e)]
          obtain ⟨⟨dx', g1⟩, _, kvs', g3, _, g5⟩ := id S1
          refine ⟨_, rfl, p, C, dx', _, _, rfl, g1, T.cl, T.nK, flds_known _ _, _, rfl, d, V.int ((S.length + 2 : Nat) : Int), rfl, ?_, k _ ?_ S1⟩
          · have e := DGet.t (b := t) (k := keyN (z, lo, hi)) g3 (by rw [upd_ne ntl, upd_ne ntd, upd_same]; rfl)
            rw [g5, idx_snoc _ (idx_none hi'), if_pos rfl] at e
            exact e
          · refine (Keep.of k0).trans ((Keep.set h3 (fun ys q => nomatch q) (by simp)).trans (Keep.set (o := .lst vs) (by rw [upd_ne nld]; exact e1) (fun ys q => nomatch q) (by simp)))
        · rw [if_neg hc] at hm
          cases hm
end
end Wk

/-! truth_by, joined_in. -/
namespace Wk
open PySem L2 BD
/-- a def of the top as it stands -/
structure Has (K : PySem.W.Frag) (mg : Str → Option Value) (x : Str) (st : Stmt) (ps : List Str) (f : Addr) (fd : FuncData) : Prop where
  F : Fun K x x st f fd
  g : mg x = some (.ref f)
  b : Binds K fd ps []
/-- a method of the store's -/
structure HasM (K : PySem.W.Frag) (C : Addr) (x q : Str) (st : Stmt) (ps : List Str) (f : Addr) (fd : FuncData) : Prop where
  F : Fun K x q st f fd
  m : Meth K C x f
  b : Binds K fd ps []
abbrev HasP (K : PySem.W.Frag) (C : Addr) (f : Addr) (fd : FuncData) := HasM K C "place_of" "Store.place_of" sPlaceOf ["self", "at"] f fd
abbrev HasG (K : PySem.W.Frag) (C : Addr) (f : Addr) (fd : FuncData) := HasM K C "go" "Store.go" sGo ["self", "at", "place", "truth"] f fd
abbrev HasMd (K : PySem.W.Frag) (C : Addr) (f : Addr) (fd : FuncData) := HasM K C "made" "Store.made" sMade ["self", "place", "low", "high"] f fd
abbrev HasT (K : PySem.W.Frag) (mg : Str → Option Value) (f : Addr) (fd : FuncData) := Has K mg "truth_by" sTruthBy ["word", "one", "other"] f fd
abbrev HasJ (K : PySem.W.Frag) (mg : Str → Option Value) (f : Addr) (fd : FuncData) := Has K mg "joined_in" sJoined ["store", "word", "one", "other", "done"] f fd

theorem thenB {A B : Prop} (h : B → A) (b : B) : A := h b
theorem eqB {x y : Bool} : (V.bl (!decide (V.bl x = V.bl y))) = V.bl (x != y) := by cases x <;> cases y <;> rfl
def spTruthBy : Sp := fun vs H Q _ => ∃ (o : Op) (x y : Bool), vs = [.str (wd o), .bl x, .bl y] ∧ Q (.bl (o.ap x y)) H
def spJoin (C : Addr) (n : Nat) : Sp := fun vs H Q _ => ∃ (p l d e : Addr) (S : Store) (D : Memo) (o : Op) (a b : Nat) (S' : Store) (D' : Memo) (r : Nat), vs = [.ref p, .str (wd o), .int (a : Int), .int (b : Int), .ref e] ∧
  StoreAt C p l d H S ∧ MemoAt H e D ∧ e ≠ d ∧ join o n S D a b = some (S', D', r) ∧ ∀ H', Keep [l, d, e] H H' → StoreAt C p l d H' S' → MemoAt H' e D' → Q (.int (r : Int)) H'
section
variable {P : Program} {w : World} {K : PySem.W.Frag} {mg : Str → Option Value} {base : Heap}
theorem none_of {k : Nat} {f : Addr} {fd : FuncData} {ps : List Str} {sp : Sp} (h : ∀ vs H Q E, ¬ sp vs H Q E) : FnOk P w K mg base CX0 k f fd ps sp :=
  ⟨fun vs H Q E q => absurd q (h vs H Q E), fun A outer s H args us vs Q E _ _ _ _ q => absurd q (h vs H Q E)⟩
theorem scT : FnScope ["word", "one", "other"] ["word", "one", "other"] (defScope sTruthBy) := ⟨rfl, rfl, rfl, by decide +kernel, rfl, by decide +kernel, by decide +kernel⟩
theorem ok_truthBy {f : Addr} {fd : FuncData} (F : HasT K mg f fd) : FnOk P w K mg base CX0 1 f fd ["word", "one", "other"] spTruthBy := by
  refine F.F.ok scT (fun vs H Q E h => ?_) (fun cdv A outer s H vs Q E hr h => ?_)
  · obtain ⟨o, x, y, rfl, _⟩ := h
    rfl
  · obtain ⟨o, x, y, rfl, k⟩ := h
    refine ⟨_, pss_cons (ps_if (pt_cmpR op_eq (pv 0) pe_str (nomark _)) (pss_one (ps_ret (pe_and (pv 1) (pe_one (pv 2))))) pss_nil)
      (pss_cons (ps_if (pt_cmpR op_eq (pv 0) pe_str (nomark _)) (pss_one (ps_ret (pe_or (pv 1) (pe_one (pv 2))))) pss_nil)
      (pss_one (ps_ret (pe_cmpR op_ne (pv 1) (pv 2) (nomark _))))), ?_⟩
    refine ⟨_, rfl, rfl, _, rfl, ?_⟩
    cases o with
    | con =>
      rw [show decide (V.str (wd .con) = V.str "and") = true from decide_eq_true rfl]
      refine iteT ⟨_, rfl, x, rfl, ?_⟩
      cases x with
      | true => exact iteT ⟨_, rfl, k⟩
      | false => exact iteF k
    | dis =>
      rw [show decide (V.str (wd .dis) = V.str "and") = false from sdec (by decide +kernel)]
      refine iteF ⟨_, rfl, rfl, _, rfl, ?_⟩
      rw [show decide (V.str (wd .dis) = V.str "or") = true from decide_eq_true rfl]
      refine iteT ⟨_, rfl, x, rfl, ?_⟩
      cases x with
      | true => exact iteT k
      | false => exact iteF ⟨_, rfl, k⟩
    | odd =>
      rw [show decide (V.str (wd .odd) = V.str "and") = false from sdec (by decide +kernel)]
      refine iteF ⟨_, rfl, rfl, _, rfl, ?_⟩
      rw [show decide (V.str (wd .odd) = V.str "or") = false from sdec (by decide +kernel)]
      refine iteF ⟨_, rfl, _, rfl, rfl, ?_⟩
      rw [eqB]
      exact k
theorem scJ : FnScope ["store", "word", "one", "other", "done", "place", "low", "high"] ["store", "word", "one", "other", "done"] (defScope sJoined) := ⟨rfl, rfl, rfl, by decide +kernel, rfl, by decide +kernel, by decide +kernel⟩
theorem ap_int (o : Op) (a b : Nat) : V.int (if o.ap (decide (V.int (a : Int) = V.int 1)) (decide (V.int (b : Int) = V.int 1)) then 1 else 0) = V.int (((o.ap (a == 1) (b == 1)).toNat : Nat) : Int) := by
  have e (x : Nat) : decide (V.int (x : Int) = V.int 1) = (x == 1) := by
    rw [int_dec (c := x = 1) (by omega)]
    rfl
  rw [e, e]
  cases o.ap (a == 1) (b == 1) <;> rfl
theorem min_int (a b : Nat) : V.int (if (b : Int) < (a : Int) then (b : Int) else (a : Int)) = V.int ((min a b : Nat) : Int) := by
  congr 1
  split <;> omega
theorem ok_joined {C f fP fG fM fT : Addr} {fd fdP fdG fdM fdT : FuncData} (F : HasJ K mg f fd) (T : Txt K mg C) (FP : HasP K C fP fdP) (FG : HasG K C fG fdG) (FM : HasMd K C fM fdM) (FT : HasT K mg fT fdT) :
    ∀ n : Nat, FnOk P w K mg base CX0 (n + 3) f fd ["store", "word", "one", "other", "done"] (spJoin C n) := by
  have GP : FnOk P w K mg base CX0 1 fP fdP _ (spPlaceOf C) := ok_placeOf FP.F T
  have GG : FnOk P w K mg base CX0 2 fG fdG _ (spGo C) := ok_go FG.F T FP.F FP.b FP.m
  have GM : FnOk P w K mg base CX0 1 fM fdM _ (spMade C) := ok_made FM.F T
  have GT : FnOk P w K mg base CX0 1 fT fdT _ spTruthBy := ok_truthBy FT
  intro n
  induction n with
  | zero =>
    refine none_of fun vs H Q E h => ?_
    obtain ⟨p, l, d, e, S, D, o, a, b, S', D', r, _, _, _, _, hj, _⟩ := h
    cases hj
  | succ n ih =>
    refine F.F.ok scJ (fun vs H Q E h => ?_) (fun cdv A outer s H vs Q E hr h => ?_)
    · obtain ⟨p, l, d, e, S, D, o, a, b, S', D', r, rfl, _⟩ := h
      rfl
    obtain ⟨p, l, d, e, S, D, o, a, b, S', D', r, rfl, hS, hM, ned, hj, k⟩ := h
    have hu := hu_of hr
    have hr1 : Room 1 _ := hr.mono (by omega)
    have hr2 : Room 2 _ := hr.mono (by omega)
    refine ⟨_, pss_cons (ps_if (PW.pt (pw_and (pt_cmpR op_lt (pv 2) pe_int (nomark _)) (pw_and1 (pt_cmpR op_lt (pv 3) pe_int (nomark _)))))
        (pss_one (ps_ret (pe_callTy call_int1 (by rfl) T.int (by decide +kernel) (pa_cons (pe_call GT hr1 rfl FT.g FT.F.kp FT.b .nil pass0 (pa_cons (pv 1) (pa_cons (pe_cmpR op_eq (pv 2) pe_int (nomark _)) (pa_cons (pe_cmpR op_eq (pv 3) pe_int (nomark _)) pa_nil)))) pa_nil)))) pss_nil)
      (pss_cons (ps_if (pt_cmp (pc_dnotin hu (pe_tup (pa_cons (pv 2) (pa_cons (pv 3) pa_nil))) (pv 4)))
        (pss_cons (ps_set (i := 5) scJ.nd rfl (Or.inl rfl) (pe_callB (call_min2 rfl) (by rfl) T.min (by decide +kernel) (pa_cons (pe_meth (pv 0) T.cl FP.m GP hr1 FP.b .nil pass0 (pa_cons (pv 2) pa_nil)) (pa_cons (pe_meth (pv 0) T.cl FP.m GP hr1 FP.b .nil pass0 (pa_cons (pv 3) pa_nil)) pa_nil))))
        (pss_cons (ps_set (i := 6) scJ.nd rfl (Or.inl rfl) (pe_call ih hr rfl F.g F.F.kp F.b .nil pass0 (pa_cons (pv 0) (pa_cons (pv 1) (pa_cons (pe_meth (pv 0) T.cl FG.m GG hr2 FG.b .nil pass0 (pa_cons (pv 2) (pa_cons (pv 5) (pa_cons pe_bl pa_nil)))) (pa_cons (pe_meth (pv 0) T.cl FG.m GG hr2 FG.b .nil pass0 (pa_cons (pv 3) (pa_cons (pv 5) (pa_cons pe_bl pa_nil)))) (pa_cons (pv 4) pa_nil)))))))
        (pss_cons (ps_set (i := 7) scJ.nd rfl (Or.inl rfl) (pe_call ih hr rfl F.g F.F.kp F.b .nil pass0 (pa_cons (pv 0) (pa_cons (pv 1) (pa_cons (pe_meth (pv 0) T.cl FG.m GG hr2 FG.b .nil pass0 (pa_cons (pv 2) (pa_cons (pv 5) (pa_cons pe_bl pa_nil)))) (pa_cons (pe_meth (pv 0) T.cl FG.m GG hr2 FG.b .nil pass0 (pa_cons (pv 3) (pa_cons (pv 5) (pa_cons pe_bl pa_nil)))) (pa_cons (pv 4) pa_nil)))))))
        (pss_one (ps_dput hu (pv 4) (pe_tup (pa_cons (pv 2) (pa_cons (pv 3) pa_nil))) (pe_meth (pv 0) T.cl FM.m GM hr1 FM.b .nil pass0 (pa_cons (pv 5) (pa_cons (pv 6) (pa_cons (pv 7) pa_nil)))) rfl))))) pss_nil)
      (pss_one (ps_ret (pe_dget hu (pv 4) (pe_tup (pa_cons (pv 2) (pa_cons (pv 3) pa_nil))) (fun _ _ => rfl))))), ?_⟩
    refine ⟨_, rfl, _, _, rfl, rfl, _, rfl, ?_⟩
    by_cases both : a < 2 ∧ b < 2
    · have ea : decide ((a : Int) < 2) = true := decide_eq_true (by omega)
      have eb : decide ((b : Int) < 2) = true := decide_eq_true (by omega)
      rw [ea]
      refine iteT ⟨_, rfl, _, _, rfl, rfl, _, rfl, ?_⟩
      rw [eb]
      refine iteT ?_
      unfold join at hj
      rw [if_pos both] at hj
      cases hj
      refine ⟨_, rfl, _, rfl, rfl, _, rfl, rfl, o, _, _, rfl, .inr ⟨_, rfl, ?_⟩⟩
      rw [ap_int]
      exact k H Keep.refl hS hM
    · refine thenB (fun hB => ite2 (fun c1 => ⟨_, rfl, _, _, rfl, rfl, _, rfl, ite2 (fun c2 => absurd ⟨by have := of_decide_eq_true c1; omega, by have := of_decide_eq_true c2; omega⟩ both) (fun _ => hB)⟩) (fun _ => hB)) ?_
      -- (one, other) not in done
      refine ⟨_, rfl, _, rfl, (by show 2 ≤ sizeLine; decide), fun t ht => ?_⟩
      have k0 : Same H (upd H t (.tup [.int (a : Int), .int (b : Int)])) := same_new ht _
      have S0 := hS.same k0
      have M0 : MemoAt _ e D := hM.keep fun o q => k0 _ _ q
      obtain ⟨kvs, m1, m2, m3⟩ := id M0
      refine ⟨_, rfl, e, _, rfl, DGet.t (k := [Sum.inl (a : Int), Sum.inl (b : Int)]) m1 upd_same, _, rfl, ?_⟩
      rw [m3]
      -- the last row: return done[one, other]
      have last : ∀ (H1 : Hp) (S1 : Store) (D1 : Memo), Keep [l, d, e] H H1 → StoreAt C p l d H1 S1 → MemoAt H1 e D1 → S1 = S' → D1 = D' → D1.f a b = some r → ∀ t2, H1 t2 = none → ∃ v, DGet (upd H1 t2 (.tup [.int (a : Int), .int (b : Int)])) e (.ref t2) (some v) ∧ Q v (upd H1 t2 (.tup [.int (a : Int), .int (b : Int)])) := by
        intro H1 S1 D1 kk s1 mm es ed er t2 ht2
        subst es ed
        have k2 : Same H1 (upd H1 t2 (.tup [.int (a : Int), .int (b : Int)])) := same_new ht2 _
        obtain ⟨kvs', n1, n2, n3⟩ := mm.keep fun o q => k2 _ _ q
        refine ⟨V.int (r : Int), ?_, k _ (kk.trans (Keep.of k2)) (s1.same k2) ⟨kvs', n1, n2, n3⟩⟩
        have g := DGet.t (b := t2) (k := [Sum.inl (a : Int), Sum.inl (b : Int)]) n1 upd_same
        rw [n3, er] at g
        exact g
      cases hD : D.f a b with
      | some x =>
        unfold join at hj
        rw [if_neg both, hD] at hj
        cases hj
        refine iteF ?_
        refine ⟨_, rfl, _, rfl, _, rfl, (by show 2 ≤ sizeLine; decide), fun t2 ht2 => ?_⟩
        obtain ⟨v, g, q⟩ := last _ _ _ (Keep.of k0) S0 M0 rfl rfl hD t2 ht2
        exact ⟨e, v, rfl, g, q⟩
      | none =>
        obtain ⟨pa, pb, a0, b0, S1, D1, lo, a1, b1, S2, D2, hi, h1, h2, h3, h4, h5, h6, h7, h8, h9, h10, rfl⟩ := join_inv hj both hD
        refine iteT ?_
        obtain ⟨⟨dx, o1⟩, _⟩ := id S0
        have nP : (flds l d).lookup ("place_of" : Str) = none := flds_no _ _ (by decide +kernel) (by decide +kernel)
        have nG : (flds l d).lookup ("go" : Str) = none := flds_no _ _ (by decide +kernel) (by decide +kernel)
        have nM : (flds l d).lookup ("made" : Str) = none := flds_no _ _ (by decide +kernel) (by decide +kernel)
        -- place
        refine ⟨_, rfl, p, dx, _, rfl, o1, nP, _, rfl, p, l, d, S, a, pa, rfl, S0, h1, _, rfl, p, dx, _, rfl, o1, nP, _, rfl, p, l, d, S, b, pb, rfl, S0, h2, _, _, rfl, ?_⟩
        rw [min_int]
        -- low
        refine ⟨_, rfl, _, rfl, _, rfl, p, dx, _, rfl, o1, nG, _, rfl, _, rfl, p, l, d, S, a, _, false, a0, rfl, S0, h3, _, rfl, p, dx, _, rfl, o1, nG, _, rfl, _, rfl, p, l, d, S, b, _, false, b0, rfl, S0, h4, _, rfl, ?_⟩
        refine ⟨p, l, d, e, S, D, o, a0, b0, S1, D1, lo, rfl, S0, M0, ned, h5, fun H1 k1 st1 me1 => ?_⟩
        -- high
        obtain ⟨⟨dx1, o2⟩, _⟩ := id st1
        refine ⟨_, rfl, _, rfl, _, rfl, p, dx1, _, rfl, o2, nG, _, rfl, _, rfl, p, l, d, S1, a, _, true, a1, rfl, st1, h6, _, rfl, p, dx1, _, rfl, o2, nG, _, rfl, _, rfl, p, l, d, S1, b, _, true, b1, rfl, st1, h7, _, rfl, ?_⟩
        refine ⟨p, l, d, e, S1, D1, o, a1, b1, S2, D2, hi, rfl, st1, me1, ned, h8, fun H2 k2 st2 me2 => ?_⟩
        -- done[one, other] = store.made(place, low, high)
        obtain ⟨⟨dx2, o3⟩, _⟩ := id st2
        refine ⟨_, rfl, p, dx2, _, rfl, o3, nM, _, rfl, _, rfl, _, rfl, p, l, d, S2, _, lo, hi, S', r, rfl, st2, h9, fun H3 k3 st3 => ?_⟩
        have me3 : MemoAt H3 e D2 := by
          obtain ⟨kv, z1, _⟩ := id me2
          have nel : e ≠ l := by
            obtain ⟨_, ⟨as, z2, _⟩, _⟩ := id st2
            exact ne_of z1 z2 (by intro q; cases q)
          exact me2.keep fun o q => k3.all _ _ q (by simp [nel, ned])
        refine ⟨_, rfl, _, rfl, _, rfl, (by show 2 ≤ sizeLine; decide), fun t3 ht3 => ?_⟩
        have k4 : Same H3 (upd H3 t3 (.tup [.int (a : Int), .int (b : Int)])) := same_new ht3 _
        have st4 := st3.same k4
        have me4 : MemoAt _ e D2 := me3.keep fun o q => k4 _ _ q
        obtain ⟨kv, z1, z2, z3⟩ := id me4
        refine ⟨e, _, rfl, DPut.t (k := [Sum.inl (a : Int), Sum.inl (b : Int)]) z1 upd_same (Nat.lt_of_le_of_lt z2 (Nat.lt_trans h10 cap_line)), ?_⟩
        -- return done[one, other]
        refine ⟨_, rfl, _, rfl, _, rfl, (by show 2 ≤ sizeLine; decide), fun t5 ht5 => ?_⟩
        have k5 : Keep [e] (upd H3 t3 (.tup [.int (a : Int), .int (b : Int)])) (upd (upd H3 t3 (.tup [.int (a : Int), .int (b : Int)])) e (.dT (putK kv [Sum.inl (a : Int), Sum.inl (b : Int)] (V.int (r : Int))))) := Keep.set z1 (fun ys q => nomatch q) (by simp)
        have npe : p ≠ e := by
          obtain ⟨kv', y1, _⟩ := id me2
          exact ne_of o3 y1 (by intro q; cases q)
        have nle : l ≠ e := by
          obtain ⟨_, ⟨as, y2, _⟩, _⟩ := id st4
          exact ne_of y2 z1 (by intro q; cases q)
        obtain ⟨v, g, q⟩ := last _ S' (D2.put a b r) ((((Keep.of k0).trans k1).trans k2).trans ((k3.mono (by simp)).trans ((Keep.of k4).trans (k5.mono (by simp)))))
          (st4.keep k5 (by simp [npe]) (by simp [nle]) (by simp [ned.symm])) (me4.put z1 upd_same) rfl rfl (by show (if a = a ∧ b = b then some r else D2.f a b) = some r; rw [if_pos ⟨rfl, rfl⟩]) t5 ht5
        exact ⟨e, v, rfl, g, q⟩
end
end Wk

/-! number_in, numbered, ordered, graph. -/
namespace Wk
open PySem L2 BD
abbrev HasN (K : PySem.W.Frag) (mg : Str → Option Value) (f : Addr) (fd : FuncData) := Has K mg "number_in" sNumberIn ["store", "form"] f fd
abbrev HasNb (K : PySem.W.Frag) (mg : Str → Option Value) (f : Addr) (fd : FuncData) := Has K mg "numbered" sNumbered ["store", "at", "found", "places"] f fd
abbrev HasO (K : PySem.W.Frag) (mg : Str → Option Value) (f : Addr) (fd : FuncData) := Has K mg "ordered" sOrdered ["store", "at"] f fd
abbrev HasGr (K : PySem.W.Frag) (mg : Str → Option Value) (f : Addr) (fd : FuncData) := Has K mg "graph" sGraph ["form"] f fd
abbrev HasI (K : PySem.W.Frag) (C : Addr) (f : Addr) (fd : FuncData) := HasM K C "__init__" "Store.__init__" sInit ["self"] f fd

def spNum (C : Addr) (n : Nat) : Sp := fun vs H Q _ => ∃ (p l d : Addr) (S : Store) (f : Form) (v : V) (S' : Store) (r : Nat), vs = [.ref p, v] ∧ StoreAt C p l d H S ∧ FormAt H v f ∧ f.depth ≤ n ∧ numIn S f = some (S', r) ∧
  ∀ H', Keep [l, d] H H' → StoreAt C p l d H' S' → Q (.int (r : Int)) H'
def spNumbered (C : Addr) (n : Nat) : Sp := fun vs H Q _ => ∃ (p l d q m : Addr) (S : Store) (F : List Node) (f : Nat → Option Nat) (a : Nat) (F' : List Node) (f' : Nat → Option Nat) (r : Nat), vs = [.ref p, .int (a : Int), .ref q, .ref m] ∧
  StoreAt C p l d H S ∧ FoundAt H q F ∧ PlacesAt H m f F.length ∧ q ≠ l ∧ numb S n F f a = some (F', f', r) ∧ ∀ H', Keep [q, m] H H' → FoundAt H' q F' → PlacesAt H' m f' F'.length → Q (.int (r : Int)) H'
def spOrdered (C : Addr) : Sp := fun vs H Q _ => ∃ (p l d : Addr) (S : Store) (a : Nat) (G : List Node × Nat), vs = [.ref p, .int (a : Int)] ∧ StoreAt C p l d H S ∧ BD.ordered S a = some G ∧
  ∀ g H', Same H H' → GraphAt H' g G → Q (.ref g) H'
def spGraph : Sp := fun vs H Q _ => ∃ (v : V) (f : Form) (G : List Node × Nat), vs = [v] ∧ FormAt H v f ∧ f.depth ≤ 40 ∧ graphM f = some G ∧ ∀ g H', Same H H' → GraphAt H' g G → Q (.ref g) H'
section
variable {P : Program} {w : World} {K : PySem.W.Frag} {mg : Str → Option Value} {base : Heap}
theorem scN : FnScope ["store", "form", "word", "one"] ["store", "form"] (defScope sNumberIn) := ⟨rfl, rfl, rfl, by decide +kernel, rfl, by decide +kernel, by decide +kernel⟩
theorem ok_number {C f fJ fM : Addr} {fd fdJ fdM : FuncData} (F : HasN K mg f fd) (T : Txt K mg C) (FJ : HasJ K mg fJ fdJ) (FM : HasMd K C fM fdM)
    (GJ : FnOk P w K mg base CX0 11 fJ fdJ ["store", "word", "one", "other", "done"] (spJoin C JF)) : ∀ n : Nat, FnOk P w K mg base CX0 (n + 12) f fd ["store", "form"] (spNum C n) := by
  have GM : FnOk P w K mg base CX0 1 fM fdM _ (spMade C) := ok_made FM.F T
  intro n
  induction n with
  | zero =>
    refine none_of fun vs H Q E h => ?_
    obtain ⟨p, l, d, S, f, v, S', r, _, _, _, hd, _⟩ := h
    cases f <;> simp [Form.depth] at hd
  | succ n ih =>
    refine F.F.ok scN (fun vs H Q E h => ?_) (fun cdv A outer s H vs Q E hr h => ?_)
    · obtain ⟨p, l, d, S, f, v, S', r, rfl, _⟩ := h
      rfl
    obtain ⟨p, l, d, S, f, v, S', r, rfl, hS, hf, hd, hn, k⟩ := h
    have hr1 : Room 1 _ := hr.mono (by omega)
    have hrJ : Room 11 _ := hr.mono (by omega)
    refine ⟨_, pss_cons (ps_set (i := 2) scN.nd rfl (Or.inl rfl) (pe_ix ix_tup (pv 1) pe_int (fun _ _ => rfl)))
      (pss_cons (ps_if (pt_cmpR op_eq (pv 2) pe_str (nomark _)) (pss_one (ps_ret (pe_callTy call_int1 (by rfl) T.int (by decide +kernel) (pa_cons (pe_ix ix_tup (pv 1) pe_int (fun _ _ => rfl)) pa_nil)))) pss_nil)
      (pss_cons (ps_if (pt_cmpR op_eq (pv 2) pe_str (nomark _)) (pss_one (ps_ret (pe_meth (pv 0) T.cl FM.m GM hr1 FM.b .nil pass0 (pa_cons (pe_ix ix_tup (pv 1) pe_int (fun _ _ => rfl)) (pa_cons pe_int (pa_cons pe_int pa_nil)))))) pss_nil)
      (pss_cons (ps_set (i := 3) scN.nd rfl (Or.inl rfl) (pe_call ih hr rfl F.g F.F.kp F.b .nil pass0 (pa_cons (pv 0) (pa_cons (pe_ix ix_tup (pv 1) pe_int (fun _ _ => rfl)) pa_nil))))
      (pss_cons (ps_if (pt_cmpR op_eq (pv 2) pe_str (nomark _)) (pss_one (ps_ret (pe_call GJ hrJ rfl FJ.g FJ.F.kp FJ.b .nil pass0 (pa_cons (pv 0) (pa_cons pe_str (pa_cons (pv 3) (pa_cons pe_int (pa_cons pe_dnewT pa_nil)))))))) pss_nil)
      (pss_one (ps_ret (pe_call GJ hrJ rfl FJ.g FJ.F.kp FJ.b .nil pass0 (pa_cons (pv 0) (pa_cons (pv 2) (pa_cons (pv 3) (pa_cons (pe_call ih hr rfl F.g F.F.kp F.b .nil pass0 (pa_cons (pv 0) (pa_cons (pe_ix ix_tup (pv 1) pe_int (fun _ _ => rfl)) pa_nil))) (pa_cons pe_dnewT pa_nil)))))))))))), ?_⟩
    obtain ⟨⟨dx, o1⟩, _⟩ := id hS
    cases hf with
    | @lit a b e =>
      refine ⟨_, rfl, a, _, _, _, rfl, rfl, SqT.of e, atI_nat (j := 0) rfl, _, rfl, rfl, _, rfl, ?_⟩
      rw [sdecT]
      refine iteT ⟨_, rfl, a, _, _, _, rfl, rfl, SqT.of e, atI_nat (j := 1) rfl, .inr ⟨b, rfl, ?_⟩⟩
      cases hn
      have := k H Keep.refl hS
      cases b <;> exact this
    | @var a x e =>
      refine ⟨_, rfl, a, _, _, _, rfl, rfl, SqT.of e, atI_nat (j := 0) rfl, _, rfl, rfl, _, rfl, ?_⟩
      rw [sdec w_at_is]
      refine iteF ⟨_, rfl, rfl, _, rfl, ?_⟩
      rw [sdecT]
      refine iteT ⟨_, rfl, p, dx, _, rfl, o1, flds_no _ _ (by decide +kernel) (by decide +kernel), _, rfl, a, _, _, _, rfl, rfl, SqT.of e, atI_nat (j := 1) rfl, ?_⟩
      exact ⟨p, l, d, S, x, 0, 1, S', r, rfl, hS, hn, k⟩
    | @neg a u g e hg =>
      refine ⟨_, rfl, a, _, _, _, rfl, rfl, SqT.of e, atI_nat (j := 0) rfl, _, rfl, rfl, _, rfl, ?_⟩
      rw [sdec w_not_is]
      refine iteF ⟨_, rfl, rfl, _, rfl, ?_⟩
      rw [sdec w_not_at]
      obtain ⟨S1, a1, D, h1, h2⟩ := numIn_neg hn
      refine iteF ⟨_, rfl, _, rfl, a, _, _, _, rfl, rfl, SqT.of e, atI_nat (j := 1) rfl, p, l, d, S, g, u, S1, a1, rfl, hS, hg, Nat.le_of_succ_le_succ hd, h1, fun H1 k1 st1 => ?_⟩
      refine ⟨_, rfl, rfl, _, rfl, ?_⟩
      rw [sdecT]
      refine iteT ⟨_, rfl, _, rfl, fun m hm => ?_⟩
      obtain ⟨od, hd', _⟩ := st1.hd
      refine ⟨p, l, d, m, S1, Memo.emp, .odd, a1, 1, S', D, r, rfl, st1.same (same_new hm _), MemoAt.emp upd_same, (ne_of_none hd' hm).symm, h2, fun H2 k2 st2 _ => ?_⟩
      exact k H2 (k1.trans (Keep.drop (same_new hm _) (k2.mono (by simp)) hm)) st2
    | @bin a o u v g g' e hg hg' =>
      refine ⟨_, rfl, a, _, _, _, rfl, rfl, SqT.of e, atI_nat (j := 0) rfl, _, rfl, rfl, _, rfl, ?_⟩
      rw [sdec (wd_is o)]
      refine iteF ⟨_, rfl, rfl, _, rfl, ?_⟩
      rw [sdec (wd_at o)]
      obtain ⟨S1, a1, S2, b1, D, h1, h2, h3⟩ := numIn_bin hn
      have hd : max g.depth g'.depth + 1 ≤ n + 1 := hd
      refine iteF ⟨_, rfl, _, rfl, a, _, _, _, rfl, rfl, SqT.of e, atI_nat (j := 1) rfl, p, l, d, S, g, u, S1, a1, rfl, hS, hg, by omega, h1, fun H1 k1 st1 => ?_⟩
      refine ⟨_, rfl, rfl, _, rfl, ?_⟩
      rw [sdec (wd_not o)]
      refine iteF ⟨_, rfl, _, rfl, _, rfl, _, rfl, _, rfl, a, _, _, _, rfl, rfl, SqT.of (k1.tup _ _ e), atI_nat (j := 2) rfl, p, l, d, S1, g', v, S2, b1, rfl, st1, hg'.keep k1.tup, by omega, h2, fun H2 k2 st2 => ?_⟩
      intro m hm
      obtain ⟨od, hd', _⟩ := st2.hd
      refine ⟨p, l, d, m, S2, Memo.emp, o, a1, b1, S', D, r, rfl, st2.same (same_new hm _), MemoAt.emp upd_same, (ne_of_none hd' hm).symm, h3, fun H3 k3 st3 _ => ?_⟩
      exact k H3 ((k1.trans k2).trans (Keep.drop (same_new hm _) (k3.mono (by simp)) hm)) st3

theorem scNb : FnScope ["store", "at", "found", "places", "node", "low", "high"] ["store", "at", "found", "places"] (defScope sNumbered) := ⟨rfl, rfl, rfl, by decide +kernel, rfl, by decide +kernel, by decide +kernel⟩
theorem ok_numbered {C f : Addr} {fd : FuncData} (F : HasNb K mg f fd) (T : Txt K mg C) : ∀ n : Nat, FnOk P w K mg base CX0 (n + 1) f fd ["store", "at", "found", "places"] (spNumbered C n) := by
  intro n
  induction n with
  | zero =>
    refine none_of fun vs H Q E h => ?_
    obtain ⟨p, l, d, q, m, S, F, f, a, F', f', r, _, _, _, _, _, hn, _⟩ := h
    cases hn
  | succ n ih =>
    refine F.F.ok scNb (fun vs H Q E h => ?_) (fun cdv A outer s H vs Q E hr h => ?_)
    · obtain ⟨p, l, d, q, m, S, F, f, a, F', f', r, rfl, _⟩ := h
      rfl
    obtain ⟨p, l, d, q, m, S, F0, f0, a, F', f', r, rfl, hS, hF, hP, nql, hn, k⟩ := h
    have hu := hu_of hr
    refine ⟨_, pss_cons (ps_if (pt_cmpR op_lt (pv 1) pe_int (nomark _)) (pss_one (ps_ret (pv 1))) pss_nil)
      (pss_cons (ps_if (pt_cmp (pc_dnotin hu (pv 1) (pv 3)))
        (pss_cons (ps_set (i := 4) scNb.nd rfl (Or.inl rfl) (pe_ix ix_list (pe_fld (pv 0) rfl) (pe_op op_sub (pv 1) pe_int) (fun _ _ => rfl)))
        (pss_cons (ps_set (i := 5) scNb.nd rfl (Or.inl rfl) (pe_call ih hr rfl F.g F.F.kp F.b .nil pass0 (pa_cons (pv 0) (pa_cons (pe_ix ix_tup (pv 4) pe_int (fun _ _ => rfl)) (pa_cons (pv 2) (pa_cons (pv 3) pa_nil))))))
        (pss_cons (ps_set (i := 6) scNb.nd rfl (Or.inl rfl) (pe_call ih hr rfl F.g F.F.kp F.b .nil pass0 (pa_cons (pv 0) (pa_cons (pe_ix ix_tup (pv 4) pe_int (fun _ _ => rfl)) (pa_cons (pv 2) (pa_cons (pv 3) pa_nil))))))
        (pss_cons (ps_expr (pe_bm PySem.F.plainAttrs_list PySem.F.slot_list_append PySem.F.type_list_append mt_append (pv 2) (pa_cons (pe_tup (pa_cons (pe_ix ix_tup (pv 4) pe_int (fun _ _ => rfl)) (pa_cons (pv 5) (pa_cons (pv 6) pa_nil)))) pa_nil)))
        (pss_one (ps_dput hu (pv 3) (pv 1) (pe_op op_add (pe_callB call_len_seq (by rfl) T.len PySem.boot_len (pa_cons (pv 2) pa_nil)) pe_int) rfl)))))) pss_nil)
      (pss_one (ps_ret (pe_dget hu (pv 3) (pv 1) (fun _ _ => rfl))))), ?_⟩
    refine ⟨_, rfl, _, _, rfl, rfl, _, rfl, ?_⟩
    by_cases ha : a < 2
    · rw [show decide ((a : Int) < 2) = true from decide_eq_true (by omega)]
      unfold numb at hn
      rw [if_pos ha] at hn
      cases hn
      exact iteT ⟨_, rfl, k H Keep.refl hF hP⟩
    · rw [show decide ((a : Int) < 2) = false from decide_eq_false (by omega)]
      refine iteF ?_
      obtain ⟨kvs, m1, m2, m3⟩ := id hP
      refine ⟨_, rfl, _, rfl, m, _, rfl, DGet.k (k := Sum.inl (a : Int)) m1, _, rfl, ?_⟩
      rw [m3]
      cases hD : f0 a with
      | some x =>
        unfold numb at hn
        rw [if_neg ha, hD] at hn
        cases hn
        refine iteF ⟨_, rfl, _, rfl, m, V.int (r : Int), rfl, ?_, k H Keep.refl hF hP⟩
        have g := DGet.k (k := Sum.inl (a : Int)) m1
        rw [m3, hD] at g
        exact g
      | none =>
        obtain ⟨nd, F1, f1, lo, F2, f2, hi, h1, h2, h3, h4, rfl, rfl, rfl⟩ := numb_inv hn ha hD
        refine iteT ?_
        obtain ⟨⟨dx, o1⟩, hL, kv0, o3, _⟩ := id hS
        obtain ⟨vs, b, e1, e2, e3⟩ := hL.get h1
        obtain ⟨as, q1, q2⟩ := id hF
        have npq : p ≠ q := ne_of o1 q1 (by intro z; cases z)
        have npm : p ≠ m := ne_of o1 m1 (by intro z; cases z)
        have nlm : l ≠ m := ne_of e1 m1 (by intro z; cases z)
        have ndq : d ≠ q := ne_of o3 q1 (by intro z; cases z)
        have ndm : d ≠ m := ne_of o3 m1 (by intro z; cases z)
        have nqm : q ≠ m := ne_of q1 m1 (by intro z; cases z)
        have st : ∀ {Ha Hb : Hp}, Keep [q, m] Ha Hb → StoreAt C p l d Ha S → StoreAt C p l d Hb S := fun kk ss => ss.keep kk (by simp [npq, npm]) (by simp [nql.symm, nlm]) (by simp [ndq, ndm])
        -- node
        refine ⟨_, rfl, p, C, dx, _, _, rfl, o1, T.cl, T.nN, flds_nodes _ _, _, rfl, _, _, rfl, rfl, l, vs, _, _, rfl, rfl, SqL.of e1, at_of (j := a - 2) (by omega) e2, ?_⟩
        -- low
        refine ⟨_, rfl, _, rfl, b, _, _, _, rfl, rfl, SqT.of e3, atI_nat (j := 1) rfl, _, rfl, _, rfl, p, l, d, q, m, S, F0, f0, nd.2.1, F1, f1, lo, rfl, hS, hF, hP, nql, h2, fun H1 k1 fo1 pl1 => ?_⟩
        have st1 := st k1 hS
        -- high
        refine ⟨_, rfl, _, rfl, b, _, _, _, rfl, rfl, SqT.of (k1.tup _ _ e3), atI_nat (j := 2) rfl, _, rfl, _, rfl, p, l, d, q, m, S, F1, f1, nd.2.2, F2, f2, hi, rfl, st1, fo1, pl1, nql, h3, fun H2 k2 fo2 pl2 => ?_⟩
        -- found.append(..)
        obtain ⟨ws, w1, w2⟩ := fo2.len
        refine ⟨_, rfl, .inl ⟨rfl, ws, SqL.of w1⟩, _, rfl, b, _, _, _, rfl, rfl, SqT.of (k2.tup _ _ (k1.tup _ _ e3)), atI_nat (j := 0) rfl, _, rfl, _, rfl, (by show 3 ≤ sizeLine; decide), fun t ht => ?_⟩
        have k3 : Same H2 (upd H2 t (.tup (nodeV (nd.1, lo, hi)))) := same_new ht _
        have line : F2.length < sizeLine := Nat.lt_trans h4 cap_line
        refine ⟨q, ws, _, rfl, rfl, k3 _ _ w1, by rw [w2]; exact line, ?_⟩
        have ntq : t ≠ q := (ne_of_none w1 ht).symm
        obtain ⟨kv, z1, z2, z3⟩ := id pl2
        have ntm : t ≠ m := (ne_of_none z1 ht).symm
        -- places[at] = len(found) + 1
        have kq : Keep [q, m] (upd H2 t (.tup (nodeV (nd.1, lo, hi)))) (upd (upd H2 t (.tup (nodeV (nd.1, lo, hi)))) q (.lst (ws ++ [V.ref t]))) := Keep.set (k3 _ _ w1) (fun ys z => nomatch z) (by simp)
        have zm : (upd (upd H2 t (.tup (nodeV (nd.1, lo, hi)))) q (.lst (ws ++ [V.ref t]))) m = some (.dK kv) := by
          rw [upd_ne nqm.symm]
          exact k3 _ _ z1
        have el : V.int ((((ws ++ [V.ref t]).length : Nat) : Int) + 1) = V.int ((F2.length + 2 : Nat) : Int) := by
          rw [List.length_append, List.length_singleton, w2]
          exact congrArg V.int (by omega)
        refine ⟨_, rfl, q, ws ++ [V.ref t], rfl, .inl (SqL.of upd_same), _, _, rfl, rfl, ?_⟩
        dsimp only
        rw [el]
        refine ⟨_, rfl, _, rfl, m, _, rfl, DPut.k (k := Sum.inl (a : Int)) zm (Nat.lt_of_le_of_lt z2 line), ?_⟩
        have km : Keep [q, m] (upd (upd H2 t (.tup (nodeV (nd.1, lo, hi)))) q (.lst (ws ++ [V.ref t]))) (upd (upd (upd H2 t (.tup (nodeV (nd.1, lo, hi)))) q (.lst (ws ++ [V.ref t]))) m (.dK (putK kv (Sum.inl (a : Int)) (V.int ((F2.length + 2 : Nat) : Int))))) := Keep.set zm (fun ys z => nomatch z) (by simp)
        have fo3 : FoundAt (upd (upd (upd H2 t (.tup (nodeV (nd.1, lo, hi)))) q (.lst (ws ++ [V.ref t]))) m (.dK (putK kv (Sum.inl (a : Int)) (V.int ((F2.length + 2 : Nat) : Int))))) q (F2 ++ [(nd.1, lo, hi)]) := by
          refine fo2.snoc w1 ?_ (fun c ys z => km.tup _ _ (kq.tup _ _ (k3 _ _ z))) (by rw [upd_ne nqm, upd_same])
          rw [upd_ne ntm, upd_ne ntq, upd_same]
        have pl3 : PlacesAt (upd (upd (upd H2 t (.tup (nodeV (nd.1, lo, hi)))) q (.lst (ws ++ [V.ref t]))) m (.dK (putK kv (Sum.inl (a : Int)) (V.int ((F2.length + 2 : Nat) : Int))))) m (updM f2 a (F2.length + 2)) (F2 ++ [(nd.1, lo, hi)]).length := by
          rw [List.length_append]
          exact PlacesAt.put (H := H2) pl2 z1 upd_same
        -- return places[at]
        obtain ⟨kv', y1, _, y3⟩ := id pl3
        refine ⟨_, rfl, _, rfl, m, V.int ((F2.length + 2 : Nat) : Int), rfl, ?_, k _ (k1.trans (k2.trans ((Keep.of k3).trans (kq.trans km)))) fo3 pl3⟩
        have g := DGet.k (k := Sum.inl (a : Int)) y1
        rw [y3, show updM f2 a (F2.length + 2) a = some (F2.length + 2) from if_pos rfl] at g
        exact g

theorem scO : FnScope ["store", "at", "found", "begin"] ["store", "at"] (defScope sOrdered) := ⟨rfl, rfl, rfl, by decide +kernel, rfl, by decide +kernel, by decide +kernel⟩
theorem ok_ordered {C f fN : Addr} {fd fdN : FuncData} (F : HasO K mg f fd) (T : Txt K mg C) (FN : HasNb K mg fN fdN) : FnOk P w K mg base CX0 10 f fd ["store", "at"] (spOrdered C) := by
  have GN : FnOk P w K mg base CX0 9 fN fdN _ (spNumbered C JF) := ok_numbered FN T JF
  refine F.F.ok scO (fun vs H Q E h => ?_) (fun cdv A outer s H vs Q E hr h => ?_)
  · obtain ⟨p, l, d, S, a, G, rfl, _⟩ := h
    rfl
  obtain ⟨p, l, d, S, a, G, rfl, hS, hG, k⟩ := h
  refine ⟨_, pss_cons (ps_set (i := 2) scO.nd rfl (Or.inl rfl) (pe_lst pa_nil))
    (pss_cons (ps_set (i := 3) scO.nd rfl (Or.inl rfl) (pe_call GN hr rfl FN.g FN.F.kp FN.b .nil pass0 (pa_cons (pv 0) (pa_cons (pv 1) (pa_cons (pv 2) (pa_cons pe_dnewK pa_nil))))))
    (pss_one (ps_ret (pe_tup (pa_cons (pv 2) (pa_cons (pv 3) pa_nil)))))), ?_⟩
  refine ⟨Nat.zero_le _, fun q hq => ?_⟩
  have k1 : Same H (upd H q (.lst [])) := same_new hq _
  refine ⟨_, rfl, _, rfl, _, rfl, fun m hm => ?_⟩
  have k2 : Same (upd H q (.lst [])) (upd (upd H q (.lst [])) m (.dK [])) := same_new hm _
  obtain ⟨fm, hfm⟩ := ordered_inv hG
  obtain ⟨o, hl, _⟩ := hS.hl
  refine ⟨p, l, d, q, m, S, [], fun _ => none, a, G.1, fm, G.2, rfl, hS.same (k1.trans k2), ⟨[], k2 _ _ upd_same, .nil⟩, ⟨[], upd_same, Nat.le_refl _, fun _ => rfl⟩, (ne_of_none hl hq).symm, hfm, fun H2 k3 fo _ => ?_⟩
  refine ⟨_, rfl, _, rfl, (by show 2 ≤ sizeLine; decide), fun g hg => ?_⟩
  have k4 : Same H2 (upd H2 g (.tup [V.ref q, V.int ((G.2 : Nat) : Int)])) := same_new hg _
  refine k g _ (fun c o e => k4 _ _ (k3.all _ _ (k2 _ _ (k1 _ _ e)) ?_)) ⟨q, upd_same, fo.keep (fun c ys e => k4 _ _ e) fun o e => k4 _ _ e⟩
  have n1 : c ≠ q := ne_of_none e hq
  have n2 : c ≠ m := ne_of_none (k1 _ _ e) hm
  simp [n1, n2]

theorem scGr : FnScope ["form", "store"] ["form"] (defScope sGraph) := ⟨rfl, rfl, rfl, by decide +kernel, rfl, by decide +kernel, by decide +kernel⟩
theorem ok_graph {C f fI fN fO : Addr} {fd fdI fdN fdO : FuncData} (F : HasGr K mg f fd) (T : Txt K mg C) (M : Mk K C fI) (FI : HasI K C fI fdI) (FN : HasN K mg fN fdN) (FO : HasO K mg fO fdO)
    (GN : FnOk P w K mg base CX0 52 fN fdN ["store", "form"] (spNum C 40)) (GO : FnOk P w K mg base CX0 10 fO fdO ["store", "at"] (spOrdered C)) : FnOk P w K mg base CX0 53 f fd ["form"] spGraph := by
  have GI : FnOk P w K mg base CX0 1 fI fdI ["self"] (spInit C) := ok_init FI.F T
  refine F.F.ok scGr (fun vs H Q E h => ?_) (fun cdv A outer s H vs Q E hr h => ?_)
  · obtain ⟨v, f, G, rfl, _⟩ := h
    rfl
  obtain ⟨v, f, G, rfl, hf, hd, hG, k⟩ := h
  have hr2 : Room 2 _ := hr.mono (by decide)
  have hrO : Room 10 _ := hr.mono (by decide)
  refine ⟨_, pss_cons (ps_set (i := 1) scGr.nd rfl (Or.inl rfl) (pe_make0 M GI hr2 rfl T.mgC FI.b .nil pass0))
    (pss_one (ps_ret (pe_call GO hrO rfl FO.g FO.F.kp FO.b .nil pass0 (pa_cons (pv 1) (pa_cons (pe_call GN hr rfl FN.g FN.F.kp FN.b .nil pass0 (pa_cons (pv 1) (pa_cons (pv 0) pa_nil))) pa_nil))))), ?_⟩
  intro x dx nx ndx nex
  have s0 : Same H (upd (upd H dx (.own x)) x (.ins C dx [])) := fun b o e => by
    rw [upd_ne (ne_of_none e nx), upd_ne (ne_of_none e ndx)]
    exact e
  refine ⟨x, dx, rfl, upd_same, fun l d H1 hl hd' S1 kp => ⟨rfl, ?_⟩⟩
  have s1 : Same H H1 := fun b o e => kp b o (s0 b o e) (ne_of_none e nx)
  obtain ⟨⟨S2, r⟩, h1, h2⟩ := Option.bind_eq_some_iff.mp hG
  refine ⟨_, rfl, _, rfl, _, rfl, x, l, d, [], f, v, S2, r, rfl, S1, hf.same s1, hd, h1, fun H2 k2 st2 => ?_⟩
  refine ⟨x, l, d, S2, r, G, rfl, st2, h2, fun g H3 k3 gg => k g H3 (fun c o e => k3 _ _ (k2.all _ _ (s1 _ _ e) ?_)) gg⟩
  have n1 : c ≠ l := ne_of_none e (s0.free hl)
  have n2 : c ≠ d := ne_of_none e (s0.free hd')
  simp [n1, n2]
end
end Wk

/-! many_rows, places_of, half, table_in, graph_of_table. -/
namespace Wk
open PySem L2 BD
abbrev HasMR (K : PySem.W.Frag) (mg : Str → Option Value) (f : Addr) (fd : FuncData) := Has K mg "many_rows" sManyRows ["many"] f fd
abbrev HasPl (K : PySem.W.Frag) (mg : Str → Option Value) (f : Addr) (fd : FuncData) := Has K mg "places_of" sPlacesOf ["table"] f fd
abbrev HasH (K : PySem.W.Frag) (mg : Str → Option Value) (f : Addr) (fd : FuncData) := Has K mg "half" sHalf ["rows", "place", "truth"] f fd
abbrev HasTb (K : PySem.W.Frag) (mg : Str → Option Value) (f : Addr) (fd : FuncData) := Has K mg "table_in" sTableIn ["store", "rows", "place"] f fd
abbrev HasGT (K : PySem.W.Frag) (mg : Str → Option Value) (f : Addr) (fd : FuncData) := Has K mg "graph_of_table" sGraphOf ["rows"] f fd

def spMany : Sp := fun vs H Q _ => ∃ n : Nat, vs = [.int (n : Int)] ∧ n ≤ 20 ∧ Q (.int ((2 ^ n : Nat) : Int)) H
def spPlaces (K : PySem.W.Frag) : Sp := fun vs H Q _ => ∃ (t : Addr) (xs : List V) (k : Nat), vs = [.ref t] ∧ SqL K H t xs ∧ xs.length = 2 ^ k ∧ k ≤ 10 ∧ Q (.int (k : Int)) H
/-- the half of a table of 2 ^ (k + 1) rows by its first place -/
def halfL (b : Bool) (k : Nat) (rows : List Bool) : List Bool := if b then rows.drop (2 ^ k) else rows.take (2 ^ k)
def spHalf : Sp := fun vs H Q _ => ∃ (t : Addr) (rows : List Bool) (k : Nat) (b : Bool), vs = [.ref t, .int 0, .bl b] ∧ H t = some (.lst (rows.map V.bl)) ∧ rows.length = 2 ^ (k + 1) ∧ k + 1 ≤ 10 ∧
  ∀ q H', H q = none → Same H H' → H' q = some (.lst ((halfL b k rows).map V.bl)) → Q (.ref q) H'
def spTable (C : Addr) (n : Nat) : Sp := fun vs H Q _ => ∃ (p l d t : Addr) (S : Store) (rows : List Bool) (z k : Nat) (S' : Store) (r : Nat), vs = [.ref p, .ref t, .int (z : Int)] ∧ StoreAt C p l d H S ∧ H t = some (.lst (rows.map V.bl)) ∧ t ≠ l ∧
  rows.length = 2 ^ k ∧ k < n ∧ k ≤ 10 ∧ tabIn k S rows z = some (S', r) ∧ ∀ H', Keep [l, d] H H' → StoreAt C p l d H' S' → Q (.int (r : Int)) H'
def spGraphOf : Sp := fun vs H Q _ => ∃ (t : Addr) (rows : List Bool) (k : Nat) (G : List Node × Nat), vs = [.ref t] ∧ H t = some (.lst (rows.map V.bl)) ∧ rows.length = 2 ^ k ∧ k ≤ 10 ∧ tableM k rows = some G ∧
  ∀ g H', Same H H' → GraphAt H' g G → Q (.ref g) H'
section
variable {P : Program} {w : World} {K : PySem.W.Frag} {mg : Str → Option Value} {base : Heap}
theorem scMR : FnScope ["many", "count", "place"] ["many"] (defScope sManyRows) := ⟨rfl, rfl, rfl, by decide +kernel, rfl, by decide +kernel, by decide +kernel⟩
theorem ok_many {C f : Addr} {fd : FuncData} (F : HasMR K mg f fd) (T : Txt K mg C) : FnOk P w K mg base CX0 1 f fd ["many"] spMany := by
  refine F.F.ok scMR (fun vs H Q E h => ?_) (fun cdv A outer s H vs Q E hr h => ?_)
  · obtain ⟨n, rfl, _⟩ := h
    rfl
  obtain ⟨n, rfl, hn, k⟩ := h
  refine ⟨_, pss_cons (ps_set (i := 1) scMR.nd rfl (Or.inl rfl) pe_int)
    (pss_cons (ps_for PassesOwn.never rfl (pi_range1 rfl T.range (pa_cons (pv 0) pa_nil)) (pg_name (i := 2) scMR.nd rfl (Or.inl rfl))
      (pss_one (ps_set (i := 1) scMR.nd rfl (Or.inl rfl) (pe_op op_add (pv 1) (pv 1)))))
    (pss_one (ps_ret (pv 1)))), ?_⟩
  refine ⟨_, rfl, (n : Int), rfl, by omega, by omega, for_range (lo := 0) (n := n) (fun i σ H' => ∃ v, σ = [some (.int (n : Int)), some (.int ((2 ^ i : Nat) : Int)), v] ∧ H' = H) ⟨_, rfl, rfl⟩ ?_ ?_⟩
  · rintro i σ H' hi ⟨v, rfl, rfl⟩
    refine ⟨_, rfl, _, rfl, _, _, rfl, rfl, some (.int (0 + (i : Int))), ?_, rfl⟩
    have e : (((2 ^ i : Nat) : Int) + ((2 ^ i : Nat) : Int)) = ((2 ^ (i + 1) : Nat) : Int) := by
      rw [Nat.pow_succ]
      omega
    rw [← e]
    rfl
  · rintro σ H' ⟨v, rfl, rfl⟩
    exact ⟨_, rfl, k⟩

theorem pow_ne {i k : Nat} (h : i < k) : 2 ^ i < 2 ^ k := Nat.pow_lt_pow_right (by decide) h
theorem scPl : FnScope ["table", "many"] ["table"] (defScope sPlacesOf) := ⟨rfl, rfl, rfl, by decide +kernel, rfl, by decide +kernel, by decide +kernel⟩
theorem ok_places {C f fM : Addr} {fd fdM : FuncData} (F : HasPl K mg f fd) (T : Txt K mg C) (FM : HasMR K mg fM fdM) : FnOk P w K mg base CX0 2 f fd ["table"] (spPlaces K) := by
  have GM : FnOk P w K mg base CX0 1 fM fdM _ spMany := ok_many FM T
  refine F.F.ok scPl (fun vs H Q E h => ?_) (fun cdv A outer s H vs Q E hr h => ?_)
  · obtain ⟨t, xs, k, rfl, _⟩ := h
    rfl
  obtain ⟨t, xs, k, rfl, hx, hl, hk, q⟩ := h
  obtain ⟨tm, mgM⟩ := T.most
  refine ⟨_, pss_cons (ps_for PassesOwn.never rfl (pi_range1 rfl T.range (pa_cons (pe_op op_add (pe_glob (v := .int 10) rfl mgM ⟨_, rfl⟩) pe_int) pa_nil)) (pg_name (i := 1) scPl.nd rfl (Or.inl rfl))
      (pss_one (ps_if (pt_cmpR op_eq (pe_callB call_len_seq (by rfl) T.len PySem.boot_len (pa_cons (pv 0) pa_nil)) (pe_call GM hr rfl FM.g FM.F.kp FM.b .nil pass0 (pa_cons (pv 1) pa_nil)) (nomark _)) (pss_one (ps_ret (pv 1))) pss_nil)))
    (pss_one ps_never), ?_⟩
  refine ⟨_, _, rfl, rfl, 11, rfl, by decide, by decide, for_range (lo := 0) (n := 11) (fun i σ H' => ∃ v, σ = [some (.ref t), v] ∧ H' = H ∧ i ≤ k) ⟨_, rfl, rfl, Nat.zero_le _⟩ ?_ ?_⟩
  · rintro i σ H' hi ⟨v, rfl, rfl, hik⟩
    have ei : (0 : Int) + (i : Int) = (i : Int) := by omega
    rw [ei]
    refine ⟨_, rfl, t, xs, rfl, .inl hx, _, rfl, i, rfl, by omega, rfl, _, rfl, ?_⟩
    rw [hl]
    rw [int_dec (c := i = k) ⟨fun e => ?_, fun e => by rw [e]⟩]
    · by_cases c : i = k
      · rw [decide_eq_true c]
        subst c
        exact iteT ⟨_, rfl, q⟩
      · rw [decide_eq_false c]
        exact iteF ⟨_, rfl, rfl, by omega⟩
    · rcases Nat.lt_or_ge i k with c | c
      · have := pow_ne c
        omega
      · omega
  · rintro σ H' ⟨v, rfl, rfl, hik⟩
    omega

/-- one turn of the half's comprehension -/
def halfP (b : Bool) (k i : Nat) (rows : List Bool) : List Bool := if b then (rows.take i).drop (2 ^ k) else rows.take (min i (2 ^ k))
theorem halfP_succ {b : Bool} {k i : Nat} {rows : List Bool} {x : Bool} (hx : rows[i]? = some x) (hi : i < 2 ^ (k + 1)) : halfP b k (i + 1) rows = if (i / 2 ^ k % 2 == 1) == b then halfP b k i rows ++ [x] else halfP b k i rows := by
  have hlen : i < rows.length := (List.getElem?_eq_some_iff.mp hx).1
  have et : rows.take (i + 1) = rows.take i ++ [x] := by rw [List.take_succ, hx]; rfl
  rw [Nat.pow_succ] at hi
  have pos : 0 < 2 ^ k := Nat.two_pow_pos k
  unfold halfP
  by_cases c : i < 2 ^ k
  · have e0 : i / 2 ^ k = 0 := Nat.div_eq_of_lt c
    rw [e0]
    cases b with
    | true =>
      show (rows.take (i + 1)).drop (2 ^ k) = (rows.take i).drop (2 ^ k)
      rw [List.drop_eq_nil_of_le (by rw [List.length_take]; omega), List.drop_eq_nil_of_le (by rw [List.length_take]; omega)]
    | false =>
      show rows.take (min (i + 1) (2 ^ k)) = rows.take (min i (2 ^ k)) ++ [x]
      rw [Nat.min_eq_left (by omega), Nat.min_eq_left (by omega)]
      exact et
  · have e1 : i / 2 ^ k = 1 := by
      have h1 : i / 2 ^ k < 2 := Nat.div_lt_of_lt_mul (by omega)
      have h2 : 0 < i / 2 ^ k := Nat.div_pos (by omega) pos
      omega
    rw [e1]
    cases b with
    | true =>
      show (rows.take (i + 1)).drop (2 ^ k) = (rows.take i).drop (2 ^ k) ++ [x]
      rw [et, List.drop_append_of_le_length (by rw [List.length_take]; omega)]
    | false =>
      show rows.take (min (i + 1) (2 ^ k)) = rows.take (min i (2 ^ k))
      rw [Nat.min_eq_right (by omega), Nat.min_eq_right (by omega)]
theorem half_test (i k : Nat) (b : Bool) : decide (V.bl (decide (V.int (((i : Nat) : Int) / ((2 ^ k : Nat) : Int) % 2) = V.int 1)) = V.bl b) = ((i / 2 ^ k % 2 == 1) == b) := by
  have e : decide (V.int (((i : Nat) : Int) / ((2 ^ k : Nat) : Int) % 2) = V.int 1) = (i / 2 ^ k % 2 == 1) := by
    rw [int_dec (c := i / 2 ^ k % 2 = 1) (by omega)]
    rfl
  rw [e]
  cases (i / 2 ^ k % 2 == 1) <;> cases b <;> rfl
theorem scH : FnScope ["rows", "place", "truth", "many", "step", "number", "one"] ["rows", "place", "truth"] (defScope sHalf) := ⟨rfl, rfl, rfl, by decide +kernel, rfl, by decide +kernel, by decide +kernel⟩
theorem ok_half {C f fM fP : Addr} {fd fdM fdP : FuncData} (F : HasH K mg f fd) (T : Txt K mg C) (FM : HasMR K mg fM fdM) (FP : HasPl K mg fP fdP) : FnOk P w K mg base CX0 3 f fd ["rows", "place", "truth"] spHalf := by
  have GM : FnOk P w K mg base CX0 1 fM fdM _ spMany := ok_many FM T
  have GP : FnOk P w K mg base CX0 2 fP fdP _ (spPlaces K) := ok_places FP T FM
  refine F.F.ok scH (fun vs H Q E h => ?_) (fun cdv A outer s H vs Q E hr h => ?_)
  · obtain ⟨t, rows, k, b, rfl, _⟩ := h
    rfl
  obtain ⟨t, rows, k, b, rfl, hx, hl, hk, q⟩ := h
  have hr1 : Room 1 _ := hr.mono (by decide)
  have hlen : rows.length ≤ 2 ^ 10 := by
    rw [hl]
    exact Nat.pow_le_pow_right (by decide) hk
  refine ⟨_, pss_cons (ps_set (i := 3) scH.nd rfl (Or.inl rfl) (pe_call GP hr rfl FP.g FP.F.kp FP.b .nil pass0 (pa_cons (pv 0) pa_nil)))
    (pss_cons (ps_if (pt_not (pt_chain op_le op_lt pe_int (pv 1) (pv 3))) (pss_one ps_never) pss_nil)
    (pss_cons (ps_set (i := 4) scH.nd rfl (Or.inr rfl) (pe_call GM hr1 rfl FM.g FM.F.kp FM.b .nil pass0 (pa_cons (pe_op op_sub (pe_op op_sub (pv 3) pe_int) (pv 1)) pa_nil)))
    (pss_one (ps_ret (pe_lc (own := [("number", 5), ("one", 6)]) (g := gTup K 2 (gCons (gName 5) (gCons (gName 6) gNil))) rfl scH.nd (pi_enum (by rfl) T.enumerate (pa_cons (pv 0) pa_nil))
      (blkOk_by (own := [("number", 5), ("one", 6)]) (N := ["rows", "place", "truth", "many", "step", "number", "one"]) (sc := defScope sHalf) (by decide +kernel))
      (fun _ _ _ _ _ => pg_tup rfl (pgs_cons (pg_name (i := 5) scH.nd rfl (Or.inl rfl)) (pgs_cons (pg_name (i := 6) scH.nd rfl (Or.inl rfl)) pgs_nil)))
      (fun _ _ _ _ _ => pts_one (pt_cmpR op_eq (pe_cmpR op_eq (pe_op op_mod (pe_op op_fdiv (pv 5) (pv 4)) pe_int) pe_int (nomark _)) (pv 2) (nomark _)))
      (fun _ _ _ _ _ => pv 6)))))), ?_⟩
  -- many = places_of(rows)
  refine ⟨_, rfl, t, rows.map V.bl, k + 1, rfl, SqL.of hx, by rw [List.length_map]; exact hl, hk, ?_⟩
  -- 0 <= place < many
  refine ⟨_, rfl, _, _, rfl, rfl, _, rfl, iteT ⟨_, rfl, _, _, rfl, rfl, _, rfl, ?_⟩⟩
  rw [show decide ((0 : Int) < ((k + 1 : Nat) : Int)) = true from decide_eq_true (by omega)]
  refine iteF ?_
  -- step
  refine ⟨_, rfl, _, _, rfl, rfl, _, rfl, _, _, rfl, rfl, k, ?_, by omega, ?_⟩
  · show [V.int (((k + 1 : Nat) : Int) - 1 - 0)] ++ [] = [V.int ((k : Nat) : Int)]
    rw [show (((k + 1 : Nat) : Int) - 1 - 0) = ((k : Nat) : Int) by omega]
    rfl
  -- the comprehension
  refine ⟨_, rfl, t, rows.map V.bl, rfl, SqL.of hx, fun D hD => ?_⟩
  have eT : ∀ {H' : Hp}, Same H H' → H' t = some (.lst (rows.map V.bl)) := fun s => s _ _ hx
  refine lc_it (walk_enum (xs := rows.map V.bl)) (fun i H' => Same H H' ∧ H' D = some (.lst ((halfP b k i rows).map V.bl))) ⟨same_new hD _, ?_⟩ (fun i H' _ hP => SqL.of (eT hP.1)) ?_ ?_
  · rw [upd_same]
    have : halfP b k 0 rows = [] := by
      unfold halfP
      cases b <;> simp
    rw [this]
    rfl
  · rintro i x H1 H' hi ⟨s1, d1⟩ ⟨U, x1, y1, rfl, hU, rfl, e1, e2⟩
    rw [List.length_map] at hi
    have e2 : (rows.map V.bl)[i]? = some y1 := e2
    rw [List.getElem?_map, List.getElem?_eq_getElem hi] at e2
    cases e1
    have e2 : y1 = V.bl rows[i] := (Option.some.inj e2).symm
    subst e2
    have k1 : Same H1 (upd H1 U (.tup [V.int ((i : Nat) : Int), V.bl rows[i]])) := same_new hU _
    refine ⟨U, _, rfl, SqT.of upd_same, rfl, _, _, rfl, _, _, rfl, rfl, rfl, ?_⟩
    refine ⟨_, rfl, _, rfl, _, _, rfl, rfl, ?_, _, _, rfl, rfl, (by show (0 : Int) < 2; decide), rfl, _, rfl, rfl, _, rfl, ?_⟩
    · refine ⟨?_, ?_⟩
      · have := Nat.two_pow_pos k
        omega
      · have : 2 ^ k ≤ 2 ^ 10 := Nat.pow_le_pow_right (by decide) (by omega)
        omega
    dsimp only
    rw [half_test]
    have es := halfP_succ (b := b) (k := k) (i := i) (rows := rows) (List.getElem?_eq_getElem hi) (by rw [← hl]; exact hi)
    have hle : (halfP b k i rows).length ≤ rows.length := by
      unfold halfP
      split
      · rw [List.length_drop, List.length_take]
        omega
      · rw [List.length_take]
        omega
    by_cases c : ((i / 2 ^ k % 2 == 1) == b) = true
    · rw [if_pos c] at es
      rw [c]
      refine iteT ⟨_, rfl, (halfP b k i rows).map V.bl, k1 _ _ d1, ?_, fun bb o e => ?_, ?_⟩
      · rw [List.length_map]
        exact Nat.lt_of_le_of_lt (Nat.le_trans hle hlen) (by decide)
      · rw [upd_ne (ne_of_none e hD)]
        exact k1 _ _ (s1 _ _ e)
      · rw [upd_same, es, List.map_append]
        rfl
    · rw [if_neg c] at es
      rw [Bool.eq_false_iff.mpr c]
      refine iteF ⟨fun bb o e => k1 _ _ (s1 _ _ e), ?_⟩
      rw [es]
      exact k1 _ _ d1
  · rintro H' ⟨s1, d1⟩
    refine q D H' hD s1 ?_
    rw [d1, List.length_map]
    have : halfP b k rows.length rows = halfL b k rows := by
      unfold halfP halfL
      cases b with
      | true => rw [if_pos rfl, if_pos rfl, List.take_length]
      | false =>
        rw [if_neg (by decide), if_neg (by decide), Nat.min_eq_right (by rw [hl, Nat.pow_succ]; omega)]
    rw [this]
theorem scTb : FnScope ["store", "rows", "place", "low", "high"] ["store", "rows", "place"] (defScope sTableIn) := ⟨rfl, rfl, rfl, by decide +kernel, rfl, by decide +kernel, by decide +kernel⟩
theorem ok_table {C f fH fM : Addr} {fd fdH fdM : FuncData} (F : HasTb K mg f fd) (T : Txt K mg C) (FH : HasH K mg fH fdH) (FM : HasMd K C fM fdM) (GH : FnOk P w K mg base CX0 3 fH fdH ["rows", "place", "truth"] spHalf) :
    ∀ n : Nat, FnOk P w K mg base CX0 (n + 4) f fd ["store", "rows", "place"] (spTable C n) := by
  have GM : FnOk P w K mg base CX0 1 fM fdM _ (spMade C) := ok_made FM.F T
  intro n
  induction n with
  | zero =>
    refine none_of fun vs H Q E h => ?_
    obtain ⟨p, l, d, t, S, rows, z, k, S', r, _, _, _, _, _, hk, _⟩ := h
    omega
  | succ n ih =>
    refine F.F.ok scTb (fun vs H Q E h => ?_) (fun cdv A outer s H vs Q E hr h => ?_)
    · obtain ⟨p, l, d, t, S, rows, z, k, S', r, rfl, _⟩ := h
      rfl
    obtain ⟨p, l, d, t, S, rows, z, k, S', r, rfl, hS, hx, ntl, hl, hk, hk10, ht, q⟩ := h
    have hr1 : Room 1 _ := hr.mono (by omega)
    have hr3 : Room 3 _ := hr.mono (by omega)
    refine ⟨_, pss_cons (ps_if (pt_cmpR op_eq (pe_callB call_len_seq (by rfl) T.len PySem.boot_len (pa_cons (pv 1) pa_nil)) pe_int (nomark _)) (pss_one (ps_ret (pe_callTy call_int1 (by rfl) T.int (by decide +kernel) (pa_cons (pe_ix ix_list (pv 1) pe_int (fun _ _ => rfl)) pa_nil)))) pss_nil)
      (pss_cons (ps_set (i := 3) scTb.nd rfl (Or.inl rfl) (pe_call ih hr rfl F.g F.F.kp F.b .nil pass0 (pa_cons (pv 0) (pa_cons (pe_call GH hr3 rfl FH.g FH.F.kp FH.b .nil pass0 (pa_cons (pv 1) (pa_cons pe_int (pa_cons pe_bl pa_nil)))) (pa_cons (pe_op op_add (pv 2) pe_int) pa_nil)))))
      (pss_cons (ps_set (i := 4) scTb.nd rfl (Or.inl rfl) (pe_call ih hr rfl F.g F.F.kp F.b .nil pass0 (pa_cons (pv 0) (pa_cons (pe_call GH hr3 rfl FH.g FH.F.kp FH.b .nil pass0 (pa_cons (pv 1) (pa_cons pe_int (pa_cons pe_bl pa_nil)))) (pa_cons (pe_op op_add (pv 2) pe_int) pa_nil)))))
      (pss_one (ps_ret (pe_meth (pv 0) T.cl FM.m GM hr1 FM.b .nil pass0 (pa_cons (pv 2) (pa_cons (pv 3) (pa_cons (pv 4) pa_nil)))))))), ?_⟩
    refine ⟨_, rfl, t, rows.map V.bl, rfl, .inl (SqL.of hx), rfl, _, rfl, ?_⟩
    rw [List.length_map]
    cases k with
    | zero =>
      rw [show decide (V.int ((rows.length : Nat) : Int) = V.int 1) = true from decide_eq_true (by rw [hl]; rfl)]
      match rows, hl with
      | [b], _ =>
        refine iteT ⟨_, rfl, t, [V.bl b], _, _, rfl, rfl, SqL.of hx, atI_nat (j := 0) rfl, .inr ⟨b, rfl, ?_⟩⟩
        cases ht
        have := q H Keep.refl hS
        cases b <;> exact this
    | succ k =>
      have h2 : 2 ≤ 2 ^ (k + 1) := by
        rw [Nat.pow_succ]
        have := Nat.two_pow_pos k
        omega
      rw [show decide (V.int ((rows.length : Nat) : Int) = V.int 1) = false from decide_eq_false fun e => by have := V.int.inj e; omega]
      obtain ⟨S1, lo, S2, hi, h1, h2, h3⟩ := tabIn_inv ht
      obtain ⟨ol, hol, _⟩ := hS.hl
      have ez : (z : Int) + 1 = ((z + 1 : Nat) : Int) := by omega
      have l1 : (rows.take (2 ^ k)).length = 2 ^ k := by
        rw [List.length_take, hl, Nat.pow_succ]
        omega
      have l2 : (rows.drop (2 ^ k)).length = 2 ^ k := by
        rw [List.length_drop, hl, Nat.pow_succ]
        omega
      -- low
      refine iteF ⟨_, rfl, _, rfl, t, rows, k, false, rfl, hx, hl, hk10, fun u Ha hu ka ha => ?_⟩
      refine ⟨_, rfl, _, _, rfl, rfl, p, l, d, u, S, rows.take (2 ^ k), z + 1, k, S1, lo, ?_, hS.same ka, ha, (ne_of_none hol hu).symm, l1, by omega, by omega, h1, fun H1 k1 st1 => ?_⟩
      · show [V.ref p, V.ref u, V.int ((z : Int) + 1)] ++ [] = _
        rw [ez]
        rfl
      -- high
      have ntd : t ≠ d := by
        obtain ⟨_, _, kvs, e, _⟩ := hS
        exact ne_of hx e (by intro q; cases q)
      have hx1 : H1 t = some (.lst (rows.map V.bl)) := k1.all _ _ (ka _ _ hx) (by simp [ntl, ntd])
      obtain ⟨ol1, hol1, _⟩ := st1.hl
      refine ⟨_, rfl, _, rfl, t, rows, k, true, rfl, hx1, hl, hk10, fun u2 Hb hu2 kb hb => ?_⟩
      refine ⟨_, rfl, _, _, rfl, rfl, p, l, d, u2, S1, rows.drop (2 ^ k), z + 1, k, S2, hi, ?_, st1.same kb, hb, (ne_of_none hol1 hu2).symm, l2, by omega, by omega, h2, fun H2 k2 st2 => ?_⟩
      · show [V.ref p, V.ref u2, V.int ((z : Int) + 1)] ++ [] = _
        rw [ez]
        rfl
      obtain ⟨⟨dx, o1⟩, _⟩ := id st2
      refine ⟨_, rfl, p, dx, _, rfl, o1, flds_no _ _ (by decide +kernel) (by decide +kernel), _, rfl, _, rfl, _, rfl, p, l, d, S2, z, lo, hi, S', r, rfl, st2, h3, fun H3 k3 st3 => ?_⟩
      exact q H3 ((Keep.of ka).trans (k1.trans ((Keep.of kb).trans (k2.trans k3)))) st3
theorem scGT : FnScope ["rows", "store"] ["rows"] (defScope sGraphOf) := ⟨rfl, rfl, rfl, by decide +kernel, rfl, by decide +kernel, by decide +kernel⟩
theorem ok_graphOf {C f fI fP fO fT : Addr} {fd fdI fdP fdO fdT : FuncData} (F : HasGT K mg f fd) (T : Txt K mg C) (M : Mk K C fI) (FI : HasI K C fI fdI) (FP : HasPl K mg fP fdP) (FO : HasO K mg fO fdO) (FT : HasTb K mg fT fdT)
    (GP : FnOk P w K mg base CX0 2 fP fdP ["table"] (spPlaces K)) (GO : FnOk P w K mg base CX0 10 fO fdO ["store", "at"] (spOrdered C)) (GT : FnOk P w K mg base CX0 15 fT fdT ["store", "rows", "place"] (spTable C 11)) : FnOk P w K mg base CX0 16 f fd ["rows"] spGraphOf := by
  have GI : FnOk P w K mg base CX0 1 fI fdI ["self"] (spInit C) := ok_init FI.F T
  refine F.F.ok scGT (fun vs H Q E h => ?_) (fun cdv A outer s H vs Q E hr h => ?_)
  · obtain ⟨t, rows, k, G, rfl, _⟩ := h
    rfl
  obtain ⟨t, rows, k, G, rfl, hx, hl, hk, hG, q⟩ := h
  have hr2 : Room 2 _ := hr.mono (by decide)
  have hrO : Room 10 _ := hr.mono (by decide)
  refine ⟨_, pss_cons (ps_expr (pe_call GP hr2 rfl FP.g FP.F.kp FP.b .nil pass0 (pa_cons (pv 0) pa_nil)))
    (pss_cons (ps_set (i := 1) scGT.nd rfl (Or.inl rfl) (pe_make0 M GI hr2 rfl T.mgC FI.b .nil pass0))
    (pss_one (ps_ret (pe_call GO hrO rfl FO.g FO.F.kp FO.b .nil pass0 (pa_cons (pv 1) (pa_cons (pe_call GT hr rfl FT.g FT.F.kp FT.b .nil pass0 (pa_cons (pv 1) (pa_cons (pv 0) (pa_cons pe_int pa_nil)))) pa_nil)))))), ?_⟩
  refine ⟨_, rfl, t, rows.map V.bl, k, rfl, SqL.of hx, by rw [List.length_map]; exact hl, hk, ?_⟩
  intro x dx nx ndx nex
  have s0 : Same H (upd (upd H dx (.own x)) x (.ins C dx [])) := fun b o e => by
    rw [upd_ne (ne_of_none e nx), upd_ne (ne_of_none e ndx)]
    exact e
  refine ⟨x, dx, rfl, upd_same, fun l d H1 hl' hd' S1 kp => ⟨rfl, ?_⟩⟩
  have s1 : Same H H1 := fun b o e => kp b o (s0 b o e) (ne_of_none e nx)
  obtain ⟨⟨S2, r⟩, h1, h2⟩ := Option.bind_eq_some_iff.mp hG
  have ntl : t ≠ l := ne_of_none hx (s0.free hl')
  refine ⟨_, rfl, _, rfl, _, rfl, x, l, d, t, [], rows, 0, k, S2, r, rfl, S1, s1 _ _ hx, ntl, hl, by omega, hk, h1, fun H2 k2 st2 => ?_⟩
  refine ⟨x, l, d, S2, r, G, rfl, st2, h2, fun g H3 k3 gg => q g H3 (fun c o e => k3 _ _ (k2.all _ _ (s1 _ _ e) ?_)) gg⟩
  have n1 : c ≠ l := ne_of_none e (s0.free hl')
  have n2 : c ≠ d := ne_of_none e (s0.free hd')
  simp [n1, n2]
end
end Wk

/-! The law's own helpers: cells, leaves, counts, rows, truths, values. -/
namespace Wk
open PySem L2 BD
abbrev HasCA (K : PySem.W.Frag) (mg : Str → Option Value) (f : Addr) (fd : FuncData) := Has K mg "_law_cell_at" sCellAt ["_law_script", "_law_k"] f fd
abbrev HasMx (K : PySem.W.Frag) (mg : Str → Option Value) (f : Addr) (fd : FuncData) := Has K mg "_law_mixed" sMixed ["_law_cell", "_law_k", "_law_many"] f fd
abbrev HasLf (K : PySem.W.Frag) (mg : Str → Option Value) (f : Addr) (fd : FuncData) := Has K mg "_law_leaf" sLeaf ["_law_cell", "_law_many"] f fd
abbrev HasTr (K : PySem.W.Frag) (mg : Str → Option Value) (f : Addr) (fd : FuncData) := Has K mg "_law_truth" sTruth ["_law_form", "_law_row_here"] f fd
abbrev HasCt (K : PySem.W.Frag) (mg : Str → Option Value) (f : Addr) (fd : FuncData) := Has K mg "_law_count" sCount ["_law_many"] f fd
abbrev HasRo (K : PySem.W.Frag) (mg : Str → Option Value) (f : Addr) (fd : FuncData) := Has K mg "_law_row_of" sRowOf ["_law_number", "_law_many"] f fd
abbrev HasVa (K : PySem.W.Frag) (mg : Str → Option Value) (f : Addr) (fd : FuncData) := Has K mg "_law_values" sValues ["_law_form", "_law_many"] f fd

def spCellAt (K : PySem.W.Frag) : Sp := fun vs H Q _ => ∃ (a : Addr) (ns : List Int) (i : Nat), vs = [.ref a, .int (i : Int)] ∧ SqL K H a (ns.map V.int) ∧ ∀ x : Int, Q (.int x) H
def spMixed : Sp := fun vs H Q _ => ∃ (c : Int) (m : Nat), vs = [.int c, .int 1, .int (m : Int)] ∧ 0 < m ∧ ∀ (r : Nat) H', r < m → Same H H' → Q (.int (r : Int)) H'
def spLeaf : Sp := fun vs H Q _ => ∃ (c : Int) (m : Nat), vs = [.int c, .int (m : Int)] ∧ ∀ v f H', Same H H' → FormAt H' v f → f.und m → f.size = 1 → Q v H'
def envOf (bs : List Bool) : Nat → Bool := fun k => bs.getD k false
def spTruth (n : Nat) : Sp := fun vs H Q _ => ∃ (v : V) (f : Form) (t : Addr) (bs : List Bool), vs = [v, .ref t] ∧ FormAt H v f ∧ f.depth ≤ n ∧ H t = some (.tup (bs.map V.bl)) ∧ f.und bs.length ∧ ∀ H', Same H H' → Q (.bl (f.eval (envOf bs))) H'
def spRowOf : Sp := fun vs H Q _ => ∃ (n m : Nat), vs = [.int (n : Int), .int (m : Int)] ∧ m ≤ 10 ∧ ∀ t H', Same H H' → H' t = some (.tup (((List.range m).map (rowE m n)).map V.bl)) → Q (.ref t) H'
def spValues : Sp := fun vs H Q _ => ∃ (v : V) (f : Form) (m : Nat), vs = [v, .int (m : Int)] ∧ FormAt H v f ∧ f.depth ≤ 40 ∧ f.und m ∧ m ≤ 6 ∧ ∀ q H', H q = none → Same H H' → H' q = some (.lst ((valuesM f m).map V.bl)) → Q (.ref q) H'
section
variable {P : Program} {w : World} {K : PySem.W.Frag} {mg : Str → Option Value} {base : Heap}
theorem scCA : FnScope ["_law_script", "_law_k"] ["_law_script", "_law_k"] (defScope sCellAt) := ⟨rfl, rfl, rfl, by decide +kernel, rfl, by decide +kernel, by decide +kernel⟩
theorem ok_cellAt {C f : Addr} {fd : FuncData} (F : HasCA K mg f fd) (T : Txt K mg C) : FnOk P w K mg base CX0 1 f fd ["_law_script", "_law_k"] (spCellAt K) := by
  refine F.F.ok scCA (fun vs H Q E h => ?_) (fun cdv A outer s H vs Q E hr h => ?_)
  · obtain ⟨a, ns, i, rfl, _⟩ := h
    rfl
  obtain ⟨a, ns, i, rfl, hx, q⟩ := h
  refine ⟨_, pss_cons (ps_if (pt_cmpR op_lt (pv 1) (pe_callB call_len_seq (by rfl) T.len PySem.boot_len (pa_cons (pv 0) pa_nil)) (nomark _)) (pss_one (ps_ret (pe_ix ix_list (pv 0) (pv 1) (fun _ _ => rfl)))) pss_nil)
    (pss_one (ps_ret pe_int)), ?_⟩
  refine ⟨_, rfl, _, rfl, a, _, rfl, .inl hx, _, _, rfl, rfl, _, rfl, ?_⟩
  rw [List.length_map]
  refine ite2 (fun c => ?_) (fun c => q 0)
  have c' : (i : Int) < ((ns.length : Nat) : Int) := of_decide_eq_true c
  have hi : i < ns.length := by omega
  exact ⟨_, rfl, _, rfl, a, _, _, .int ns[i], rfl, rfl, hx, atI_nat (by rw [List.getElem?_map, List.getElem?_eq_getElem hi]; rfl), q _⟩

theorem scMx : FnScope ["_law_cell", "_law_k", "_law_many", "_law_some", "_law_made"] ["_law_cell", "_law_k", "_law_many"] (defScope sMixed) := ⟨rfl, rfl, rfl, by decide +kernel, rfl, by decide +kernel, by decide +kernel⟩
theorem ok_mixed {f : Addr} {fd : FuncData} (F : HasMx K mg f fd) : FnOk P w K mg base CX0 1 f fd ["_law_cell", "_law_k", "_law_many"] spMixed := by
  refine F.F.ok scMx (fun vs H Q E h => ?_) (fun cdv A outer s H vs Q E hr h => ?_)
  · obtain ⟨c, m, rfl, _⟩ := h
    rfl
  obtain ⟨c, m, rfl, hm, q⟩ := h
  refine ⟨_, pss_cons (ps_set (i := 3) scMx.nd rfl (Or.inl rfl) (pe_lst (pa_cons pe_int (pa_cons pe_int (pa_cons pe_int (pa_cons pe_int (pa_cons pe_int (pa_cons pe_int (pa_cons pe_int (pa_cons pe_int (pa_cons pe_int (pa_cons pe_int (pa_cons pe_int pa_nil)))))))))))))
    (pss_cons (ps_set (i := 4) scMx.nd rfl (Or.inl rfl) (pe_op op_mod (pe_op op_mul (pe_op op_add (pv 0) (pe_op op_mul pe_int (pv 1))) pe_int) (pe_ix ix_list (pv 3) (pe_op op_mod (pv 1) pe_int) (fun _ _ => rfl))))
    (pss_one (ps_ret (pe_op op_mod (pe_op op_mod (pe_op op_add (pe_op op_add (pe_op op_mul (pe_op op_mul (pv 4) (pv 4)) pe_int) (pv 4)) (pv 1)) pe_int) (pv 2))))), ?_⟩
  refine ⟨(by show 11 ≤ sizeLine; decide), fun p hp => ?_⟩
  refine ⟨_, rfl, _, rfl, _, _, rfl, rfl, .inl ⟨by decide, by decide⟩, _, _, rfl, rfl, _, _, rfl, rfl, .inr ⟨by decide, by decide⟩, _, rfl, _, rfl, _, _, rfl, rfl, (by show (0 : Int) < 11; decide), p, _, _, .int 99989, rfl, rfl, SqL.of upd_same, ?_, _, _, rfl, rfl, (by show (0 : Int) < 99989; decide), ?_⟩
  · exact at_of (j := 1) (by decide) rfl
  dsimp only
  obtain ⟨z, hz, h0, h1⟩ : ∃ z : Int, (c + 7 * 1) * 48271 % 99989 = z ∧ 0 ≤ z ∧ z < 99989 := ⟨_, rfl, Int.emod_nonneg _ (by decide), Int.emod_lt_of_pos _ (by decide)⟩
  rw [hz]
  refine ⟨_, rfl, _, rfl, _, _, rfl, rfl, .inl ⟨by omega, by omega⟩, _, _, rfl, rfl, .inr ⟨by decide, by decide⟩, _, rfl, _, _, rfl, rfl, _, rfl, _, _, rfl, rfl, _, _, rfl, rfl, (by show (0 : Int) < 1000003; decide), _, rfl, _, _, rfl, rfl, (by show (0 : Int) < (m : Int); omega), ?_⟩
  dsimp only
  obtain ⟨x, hx⟩ : ∃ x : Int, (z * z * 7 + z + 1) % 1000003 = x := ⟨_, rfl⟩
  rw [hx]
  have x0 : 0 ≤ x % (m : Int) := Int.emod_nonneg _ (by omega)
  have x1 : x % (m : Int) < m := Int.emod_lt_of_pos _ (by omega)
  have ex : x % (m : Int) = (((x % (m : Int)).toNat : Nat) : Int) := by omega
  rw [ex]
  exact q _ _ (by omega) (same_new hp _)

theorem scLf : FnScope ["_law_cell", "_law_many"] ["_law_cell", "_law_many"] (defScope sLeaf) := ⟨rfl, rfl, rfl, by decide +kernel, rfl, by decide +kernel, by decide +kernel⟩
theorem ok_leaf {f fM : Addr} {fd fdM : FuncData} (F : HasLf K mg f fd) (FM : HasMx K mg fM fdM) : FnOk P w K mg base CX0 2 f fd ["_law_cell", "_law_many"] spLeaf := by
  have GM : FnOk P w K mg base CX0 1 fM fdM _ spMixed := ok_mixed FM
  refine F.F.ok scLf (fun vs H Q E h => ?_) (fun cdv A outer s H vs Q E hr h => ?_)
  · obtain ⟨c, m, rfl, _⟩ := h
    rfl
  obtain ⟨c, m, rfl, q⟩ := h
  refine ⟨_, pss_cons (ps_if (PW.pt (pw_or (pt_cmpR op_eq (pv 1) pe_int (nomark _)) (pw_or1 (pt_cmpR op_eq (pe_op op_mod (pv 0) pe_int) pe_int (nomark _)))))
      (pss_one (ps_ret (pe_tup (pa_cons pe_str (pa_cons (pe_cmpR op_eq (pe_op op_mod (pe_op op_fdiv (pv 0) pe_int) pe_int) pe_int (nomark _)) pa_nil))))) pss_nil)
    (pss_one (ps_ret (pe_tup (pa_cons pe_str (pa_cons (pe_call GM hr rfl FM.g FM.F.kp FM.b .nil pass0 (pa_cons (pe_op op_fdiv (pv 0) pe_int) (pa_cons pe_int (pa_cons (pv 1) pa_nil)))) pa_nil))))), ?_⟩
  refine ⟨_, rfl, rfl, _, rfl, ?_⟩
  refine thenB (B := ∀ (b : Bool) (p : Addr), H p = none → Q (.ref p) (upd H p (.tup [.str "is", .bl b]))) (fun hB => ?_) ?_
  · refine ite2 (fun c1 => ?_) (fun c1 => ?_)
    · exact ⟨_, rfl, _, _, rfl, rfl, ⟨by decide, by decide⟩, _, _, rfl, rfl, (by show (0 : Int) < 2; decide), rfl, (by show 2 ≤ sizeLine; decide), fun p hp => hB _ p hp⟩
    · refine ⟨_, rfl, _, _, rfl, rfl, (by show (0 : Int) < 9; decide), rfl, _, rfl, ite2 (fun c2 => ?_) (fun c2 => ?_)⟩
      · exact ⟨_, rfl, _, _, rfl, rfl, ⟨by decide, by decide⟩, _, _, rfl, rfl, (by show (0 : Int) < 2; decide), rfl, (by show 2 ≤ sizeLine; decide), fun p hp => hB _ p hp⟩
      · have m0 : 0 < m := by
          have : ¬ V.int (m : Int) = V.int 0 := of_decide_eq_false (Bool.eq_false_iff.mpr c1)
          have : ¬ (m : Int) = 0 := fun e => this (congrArg V.int e)
          omega
        refine ⟨_, rfl, _, _, rfl, rfl, ⟨by decide, by decide⟩, _, rfl, _, m, rfl, m0, fun r H1 hr1 s1 => ⟨(by show 2 ≤ sizeLine; decide), fun p hp => ?_⟩⟩
        exact q _ (.var r) _ (s1.trans (same_new hp _)) (.var upd_same) hr1 rfl
  · intro b p hp
    exact q _ (.lit b) _ (same_new hp _) (.lit upd_same) trivial rfl

theorem scCt : FnScope ["_law_many", "_law_count_here", "_law_k"] ["_law_many"] (defScope sCount) := ⟨rfl, rfl, rfl, by decide +kernel, rfl, by decide +kernel, by decide +kernel⟩
theorem ok_count {C f : Addr} {fd : FuncData} (F : HasCt K mg f fd) (T : Txt K mg C) : FnOk P w K mg base CX0 1 f fd ["_law_many"] spMany := by
  refine F.F.ok scCt (fun vs H Q E h => ?_) (fun cdv A outer s H vs Q E hr h => ?_)
  · obtain ⟨n, rfl, _⟩ := h
    rfl
  obtain ⟨n, rfl, hn, k⟩ := h
  refine ⟨_, pss_cons (ps_set (i := 1) scCt.nd rfl (Or.inl rfl) pe_int)
    (pss_cons (ps_for PassesOwn.never rfl (pi_range1 rfl T.range (pa_cons (pv 0) pa_nil)) (pg_name (i := 2) scCt.nd rfl (Or.inl rfl))
      (pss_one (ps_set (i := 1) scCt.nd rfl (Or.inl rfl) (pe_op op_mul pe_int (pv 1)))))
    (pss_one (ps_ret (pv 1)))), ?_⟩
  refine ⟨_, rfl, (n : Int), rfl, by omega, by omega, for_range (lo := 0) (n := n) (fun i σ H' => ∃ v, σ = [some (.int (n : Int)), some (.int ((2 ^ i : Nat) : Int)), v] ∧ H' = H) ⟨_, rfl, rfl⟩ ?_ ?_⟩
  · rintro i σ H' hi ⟨v, rfl, rfl⟩
    refine ⟨_, rfl, _, _, rfl, rfl, .inl ⟨by decide, by decide⟩, some (.int (0 + (i : Int))), ?_, rfl⟩
    have e : (2 : Int) * ((2 ^ i : Nat) : Int) = ((2 ^ (i + 1) : Nat) : Int) := by
      rw [Nat.pow_succ]
      omega
    rw [← e]
    rfl
  · rintro σ H' ⟨v, rfl, rfl⟩
    exact ⟨_, rfl, k⟩

theorem bit_int (n x : Nat) : decide (V.int (((n : Nat) : Int) / ((2 ^ x : Nat) : Int) % 2) = V.int 1) = (n / 2 ^ x % 2 == 1) := by
  rw [int_dec (c := n / 2 ^ x % 2 = 1) (by omega)]
  rfl
theorem pow_div (x : Nat) (h : x ≤ 10) : CDiv ((n : Nat) : Int) ((2 ^ x : Nat) : Int) := by
  have h1 := Nat.two_pow_pos x
  have h2 : 2 ^ x ≤ 2 ^ 10 := Nat.pow_le_pow_right (by decide) h
  exact ⟨by omega, by omega⟩
theorem scRo : FnScope ["_law_number", "_law_many", "_law_found", "_law_k"] ["_law_number", "_law_many"] (defScope sRowOf) := ⟨rfl, rfl, rfl, by decide +kernel, rfl, by decide +kernel, by decide +kernel⟩
theorem ok_rowOf {C f fC : Addr} {fd fdC : FuncData} (F : HasRo K mg f fd) (T : Txt K mg C) (FC : HasCt K mg fC fdC) : FnOk P w K mg base CX0 2 f fd ["_law_number", "_law_many"] spRowOf := by
  have GC : FnOk P w K mg base CX0 1 fC fdC _ spMany := ok_count FC T
  refine F.F.ok scRo (fun vs H Q E h => ?_) (fun cdv A outer s H vs Q E hr h => ?_)
  · obtain ⟨n, m, rfl, _⟩ := h
    rfl
  obtain ⟨n, m, rfl, hm, q⟩ := h
  refine ⟨_, pss_cons (ps_set (i := 2) scRo.nd rfl (Or.inl rfl) (pe_lst pa_nil))
    (pss_cons (ps_for PassesOwn.never rfl (pi_range1 rfl T.range (pa_cons (pv 1) pa_nil)) (pg_name (i := 3) scRo.nd rfl (Or.inl rfl))
      (pss_one (ps_expr (pe_bm PySem.F.plainAttrs_list PySem.F.slot_list_append PySem.F.type_list_append mt_append (pv 2) (pa_cons (pe_cmpR op_eq (pe_op op_mod (pe_op op_fdiv (pv 0) (pe_call GC hr rfl FC.g FC.F.kp FC.b .nil pass0 (pa_cons (pe_op op_sub (pe_op op_sub (pv 1) pe_int) (pv 3)) pa_nil))) pe_int) pe_int (nomark _)) pa_nil)))))
    (pss_one (ps_ret (pe_callTy call_tuple_of (by rfl) T.tuple (by decide +kernel) (pa_cons (pv 2) pa_nil))))), ?_⟩
  refine ⟨Nat.zero_le _, fun l hl => ?_⟩
  refine ⟨_, rfl, (m : Int), rfl, by omega, by omega, for_range (lo := 0) (n := m) (fun i σ H' => ∃ v, σ = [some (.int (n : Int)), some (.int (m : Int)), some (.ref l), v] ∧ Same H H' ∧ H' l = some (.lst (((List.range i).map (rowE m n)).map V.bl))) ⟨_, rfl, same_new hl _, upd_same⟩ ?_ ?_⟩
  · rintro i σ H' hi ⟨v, rfl, s1, e1⟩
    refine ⟨_, rfl, .inl ⟨rfl, _, SqL.of e1⟩, _, rfl, _, rfl, _, _, rfl, rfl, _, rfl, _, _, rfl, rfl, m - 1 - i, ?_, by omega, _, _, rfl, rfl, pow_div _ (by omega), _, _, rfl, rfl, (by show (0 : Int) < 2; decide), rfl, l, _, _, rfl, rfl, e1, ?_, ?_⟩
    · show [V.int ((m : Int) - 1 - (0 + (i : Int)))] ++ [] = _
      rw [show (m : Int) - 1 - (0 + (i : Int)) = ((m - 1 - i : Nat) : Int) by omega]
      rfl
    · rw [List.length_map, List.length_map, List.length_range]
      exact small1000 (by omega)
    · refine ⟨some (.int (0 + (i : Int))), rfl, fun b o e => by rw [upd_ne (ne_of_none e hl)]; exact s1 _ _ e, ?_⟩
      rw [upd_same]
      dsimp only
      rw [bit_int, List.range_succ, List.map_append, List.map_append]
      rfl
  · rintro σ H' ⟨v, rfl, s1, e1⟩
    refine ⟨_, rfl, l, _, rfl, .inl ⟨SqL.of e1, fun t ht => ?_⟩⟩
    exact q t _ (s1.trans (same_new ht _)) upd_same

theorem und_at {bs : List Bool} {k : Nat} (h : k < bs.length) : (bs.map V.bl)[k]? = some (.bl (envOf bs k)) := by
  rw [List.getElem?_map, List.getElem?_eq_getElem h]
  unfold envOf
  rw [List.getD_eq_getElem?_getD, List.getElem?_eq_getElem h]
  rfl
theorem isF (b : Bool) : decide (b = false) = !b := by cases b <;> rfl
theorem dp_bools {K : PySem.W.Frag} {H : Hp} : ∀ bs : List Bool, DpAll K H (bs.map V.bl) (bs.map PyData.bool)
  | [] => .nil
  | b :: r => .cons (.bl b) (dp_bools r)
theorem eqv_bools : ∀ xs ys : List Bool, PyData.eqvAll (xs.map PyData.bool) (ys.map PyData.bool) = decide (xs = ys)
  | [], [] => rfl
  | [], _ :: _ => rfl
  | _ :: _, [] => rfl
  | x :: xs, y :: ys => by
    show ((x == y) && PyData.eqvAll (xs.map PyData.bool) (ys.map PyData.bool)) = _
    rw [eqv_bools xs ys]
    by_cases e : x = y
    · subst e
      by_cases e2 : xs = ys
      · subst e2
        simp
      · simp [e2]
    · simp [e]
theorem scTr : FnScope ["_law_form", "_law_row_here", "_law_both"] ["_law_form", "_law_row_here"] (defScope sTruth) := ⟨rfl, rfl, rfl, by decide +kernel, rfl, by decide +kernel, by decide +kernel⟩
end
end Wk

/-! truths, values, what is compared. -/
namespace Wk
open PySem L2 BD
/-! ### data -/
theorem can_bools : ∀ bs : List Bool, PyData.canLayAll0 (bs.map PyData.bool) = true
  | [] => by simp [PyData.canLayAll0]
  | b :: r => by simp [PyData.canLayAll0, PyData.canLay0, can_bools r]
theorem depth_bools : ∀ bs : List Bool, PyData.depthAll (bs.map PyData.bool) ≤ 1
  | [] => by simp [PyData.depthAll]
  | b :: r => by
    have := depth_bools r
    simp [PyData.depthAll, PyData.depth]
    try omega
theorem shaped_bools (bs : List Bool) : SeqAt.shaped (.list (bs.map PyData.bool)) = true := by
  unfold SeqAt.shaped
  rw [Bool.and_eq_true]
  refine ⟨by simp [PyData.canLay0, can_bools], decide_eq_true ?_⟩
  have := depth_bools bs
  simp only [PyData.depth]
  omega
def dNode (n : Node) : PyData := .tuple [.int (n.1 : Nat), .int (n.2.1 : Nat), .int (n.2.2 : Nat)]
def dGraph (G : List Node × Nat) : PyData := .tuple [.list (G.1.map dNode), .int ((G.2 : Nat) : Int)]
theorem can_nodes : ∀ F : List Node, PyData.canLayAll0 (F.map dNode) = true
  | [] => by simp [PyData.canLayAll0]
  | b :: r => by simp [PyData.canLayAll0, PyData.canLay0, dNode, can_nodes r]
theorem depth_nodes : ∀ F : List Node, PyData.depthAll (F.map dNode) ≤ 4
  | [] => by simp [PyData.depthAll]
  | b :: r => by
    have := depth_nodes r
    simp [PyData.depthAll, PyData.depth, dNode]
    try omega
theorem shaped_graph (G : List Node × Nat) : SeqAt.shaped (dGraph G) = true := by
  unfold SeqAt.shaped
  rw [Bool.and_eq_true]
  refine ⟨by simp [dGraph, PyData.canLay0, PyData.canLayAll0, can_nodes], decide_eq_true ?_⟩
  have := depth_nodes G.1
  simp only [dGraph, PyData.depth, PyData.depthAll]
  omega
theorem eqv_int (a b : Nat) : PyData.eqv (.int (a : Nat)) (.int (b : Nat)) = decide (a = b) := by
  show (((a : Nat) : Int) == ((b : Nat) : Int)) = _
  by_cases e : a = b
  · subst e; simp
  · rw [decide_eq_false e]
    exact beq_eq_false_iff_ne.mpr fun q => e (by omega)
theorem eqv_node (a b : Node) : PyData.eqv (dNode a) (dNode b) = decide (a = b) := by
  obtain ⟨p, l, h⟩ := a
  obtain ⟨q, m, i⟩ := b
  show (PyData.eqv (.int (p : Nat)) (.int (q : Nat)) && (PyData.eqv (.int (l : Nat)) (.int (m : Nat)) && (PyData.eqv (.int (h : Nat)) (.int (i : Nat)) && true))) = _
  rw [eqv_int, eqv_int, eqv_int]
  by_cases e1 : p = q <;> by_cases e2 : l = m <;> by_cases e3 : h = i <;> simp [e1, e2, e3]
theorem eqv_nodes : ∀ F G : List Node, PyData.eqvAll (F.map dNode) (G.map dNode) = decide (F = G)
  | [], [] => rfl
  | [], _ :: _ => rfl
  | _ :: _, [] => rfl
  | x :: xs, y :: ys => by
    show (PyData.eqv (dNode x) (dNode y) && PyData.eqvAll (xs.map dNode) (ys.map dNode)) = _
    rw [eqv_nodes xs ys, eqv_node]
    by_cases e : x = y <;> by_cases e2 : xs = ys <;> simp [e, e2]
theorem eqv_graph (A B : List Node × Nat) : PyData.eqv (dGraph A) (dGraph B) = decide (A = B) := by
  obtain ⟨F, a⟩ := A
  obtain ⟨G, b⟩ := B
  show (PyData.eqvAll (F.map dNode) (G.map dNode) && (PyData.eqv (.int (a : Nat)) (.int (b : Nat)) && true)) = _
  rw [eqv_nodes, eqv_int]
  by_cases e : F = G <;> by_cases e2 : a = b <;> simp [e, e2]
theorem dp_nodes {K : PySem.W.Frag} {H : Hp} : ∀ {as : List Addr} {F : List Node}, NodesAt H as F → DpAll K H (as.map V.ref) (F.map dNode)
  | _, _, .nil => .nil
  | _, _, .cons e t => .cons (.tup (SqT.of e) (.cons (.int _) (.cons (.int _) (.cons (.int _) .nil)))) (dp_nodes t)
theorem dp_graph {K : PySem.W.Frag} {H : Hp} {g : Addr} {G : List Node × Nat} (h : GraphAt H g G) : Dp K H (.ref g) (dGraph G) := by
  obtain ⟨q, h1, as, h2, h3⟩ := h
  exact .tup (SqT.of h1) (.cons (.lst (SqL.of h2) (dp_nodes h3)) (.cons (.int _) .nil))
theorem eqv_lists (xs ys : List Bool) : PyData.eqv (.list (xs.map PyData.bool)) (.list (ys.map PyData.bool)) = decide (xs = ys) := eqv_bools xs ys

section
variable {P : Program} {w : World} {K : PySem.W.Frag} {mg : Str → Option Value} {base : Heap}
theorem ap_and (a b : Bool) : decide ([a, b] = [true, true]) = Op.con.ap a b := by cases a <;> cases b <;> rfl
theorem ap_or (a b : Bool) : (!decide ([a, b] = [false, false])) = Op.dis.ap a b := by cases a <;> cases b <;> rfl
theorem ok_truth {f : Addr} {fd : FuncData} (F : HasTr K mg f fd) : ∀ n : Nat, FnOk P w K mg base CX0 (n + 1) f fd ["_law_form", "_law_row_here"] (spTruth n) := by
  intro n
  induction n with
  | zero =>
    refine none_of fun vs H Q E h => ?_
    obtain ⟨v, f, t, bs, _, _, hd, _⟩ := h
    cases f <;> simp [Form.depth] at hd
  | succ n ih =>
    refine F.F.ok scTr (fun vs H Q E h => ?_) (fun cdv A outer s H vs Q E hr h => ?_)
    · obtain ⟨v, f, t, bs, rfl, _⟩ := h
      rfl
    obtain ⟨v, f, t, bs, rfl, hf, hd, ht, hu, q⟩ := h
    refine ⟨_, pss_cons (ps_if (pt_cmpR op_eq (pe_ix ix_tup (pv 0) pe_int (fun _ _ => rfl)) pe_str (nomark _)) (pss_one (ps_ret (pe_ix ix_tup (pv 0) pe_int (fun _ _ => rfl)))) pss_nil)
      (pss_cons (ps_if (pt_cmpR op_eq (pe_ix ix_tup (pv 0) pe_int (fun _ _ => rfl)) pe_str (nomark _)) (pss_one (ps_ret (pe_ix ix_tup (pv 1) (pe_ix ix_tup (pv 0) pe_int (fun _ _ => rfl)) (fun _ _ => rfl)))) pss_nil)
      (pss_cons (ps_if (pt_cmpR op_eq (pe_ix ix_tup (pv 0) pe_int (fun _ _ => rfl)) pe_str (nomark _)) (pss_one (ps_ret (pe_cmpR op_isBl (pe_call ih hr rfl F.g F.F.kp F.b .nil pass0 (pa_cons (pe_ix ix_tup (pv 0) pe_int (fun _ _ => rfl)) (pa_cons (pv 1) pa_nil))) pe_bl (nomark _)))) pss_nil)
      (pss_cons (ps_set (i := 2) scTr.nd rfl (Or.inl rfl) (pe_lst (pa_cons (pe_call ih hr rfl F.g F.F.kp F.b .nil pass0 (pa_cons (pe_ix ix_tup (pv 0) pe_int (fun _ _ => rfl)) (pa_cons (pv 1) pa_nil))) (pa_cons (pe_call ih hr rfl F.g F.F.kp F.b .nil pass0 (pa_cons (pe_ix ix_tup (pv 0) pe_int (fun _ _ => rfl)) (pa_cons (pv 1) pa_nil))) pa_nil))))
      (pss_cons (ps_if (pt_cmpR op_eq (pe_ix ix_tup (pv 0) pe_int (fun _ _ => rfl)) pe_str (nomark _)) (pss_one (ps_ret (pe_cmpR (op_eqD hr.units) (pv 2) (pe_lst (pa_cons pe_bl (pa_cons pe_bl pa_nil))) (nomark _)))) pss_nil)
      (pss_cons (ps_if (pt_cmpR op_eq (pe_ix ix_tup (pv 0) pe_int (fun _ _ => rfl)) pe_str (nomark _)) (pss_one (ps_ret (pe_cmpR (op_neD hr.units) (pv 2) (pe_lst (pa_cons pe_bl (pa_cons pe_bl pa_nil))) (nomark _)))) pss_nil)
      (pss_one (ps_ret (pe_cmpR op_ne (pe_ix ix_list (pv 2) pe_int (fun _ _ => rfl)) (pe_ix ix_list (pv 2) pe_int (fun _ _ => rfl)) (nomark _))))))))), ?_⟩
    cases hf with
    | @lit a b e =>
      refine ⟨_, rfl, a, _, _, _, rfl, rfl, SqT.of e, atI_nat (j := 0) rfl, rfl, _, rfl, ?_⟩
      rw [sdecT]
      exact iteT ⟨_, rfl, a, _, _, _, rfl, rfl, SqT.of e, atI_nat (j := 1) rfl, q H (Same.refl H)⟩
    | @var a x e =>
      refine ⟨_, rfl, a, _, _, _, rfl, rfl, SqT.of e, atI_nat (j := 0) rfl, rfl, _, rfl, ?_⟩
      rw [sdec w_at_is]
      refine iteF ⟨_, rfl, a, _, _, _, rfl, rfl, SqT.of e, atI_nat (j := 0) rfl, rfl, _, rfl, ?_⟩
      rw [sdecT]
      exact iteT ⟨_, rfl, _, rfl, a, _, _, _, rfl, rfl, SqT.of e, atI_nat (j := 1) rfl, t, _, _, _, rfl, rfl, SqT.of ht, atI_nat (und_at hu), q H (Same.refl H)⟩
    | @neg a u g e hg =>
      refine ⟨_, rfl, a, _, _, _, rfl, rfl, SqT.of e, atI_nat (j := 0) rfl, rfl, _, rfl, ?_⟩
      rw [sdec w_not_is]
      refine iteF ⟨_, rfl, a, _, _, _, rfl, rfl, SqT.of e, atI_nat (j := 0) rfl, rfl, _, rfl, ?_⟩
      rw [sdec w_not_at]
      refine iteF ⟨_, rfl, a, _, _, _, rfl, rfl, SqT.of e, atI_nat (j := 0) rfl, rfl, _, rfl, ?_⟩
      rw [sdecT]
      refine iteT ⟨_, rfl, a, _, _, _, rfl, rfl, SqT.of e, atI_nat (j := 1) rfl, _, rfl, u, g, t, bs, rfl, hg, Nat.le_of_succ_le_succ hd, ht, hu, fun H1 s1 => ?_⟩
      refine ⟨_, _, rfl, rfl, ?_⟩
      rw [isF]
      exact q H1 s1
    | @bin a o u v g g' e hg hg' =>
      have hd : max g.depth g'.depth + 1 ≤ n + 1 := hd
      refine ⟨_, rfl, a, _, _, _, rfl, rfl, SqT.of e, atI_nat (j := 0) rfl, rfl, _, rfl, ?_⟩
      rw [sdec (wd_is o)]
      refine iteF ⟨_, rfl, a, _, _, _, rfl, rfl, SqT.of e, atI_nat (j := 0) rfl, rfl, _, rfl, ?_⟩
      rw [sdec (wd_at o)]
      refine iteF ⟨_, rfl, a, _, _, _, rfl, rfl, SqT.of e, atI_nat (j := 0) rfl, rfl, _, rfl, ?_⟩
      rw [sdec (wd_not o)]
      refine iteF ⟨_, rfl, a, _, _, _, rfl, rfl, SqT.of e, atI_nat (j := 1) rfl, _, rfl, u, g, t, bs, rfl, hg, by omega, ht, hu.1, fun H1 s1 => ?_⟩
      refine ⟨_, rfl, a, _, _, _, rfl, rfl, SqT.of (s1 _ _ e), atI_nat (j := 2) rfl, _, rfl, v, g', t, bs, rfl, hg'.same s1, by omega, s1 _ _ ht, hu.2, fun H2 s2 => ?_⟩
      refine ⟨(by show 2 ≤ sizeLine; decide), fun p hp => ?_⟩
      have s3 : Same H2 (upd H2 p (.lst [V.bl (g.eval (envOf bs)), V.bl (g'.eval (envOf bs))])) := same_new hp _
      have s4 := s1.trans (s2.trans s3)
      refine ⟨_, rfl, a, _, _, _, rfl, rfl, SqT.of (s4 _ _ e), atI_nat (j := 0) rfl, rfl, _, rfl, ?_⟩
      have dpp : ∀ {H' : Hp} {r : Addr} (bs : List Bool), H' r = some (.lst (bs.map V.bl)) → Dp K H' (.ref r) (.list (bs.map PyData.bool)) := fun bs h => .lst (SqL.of h) (dp_bools bs)
      cases o with
      | con =>
        rw [show decide (V.str (wd .con) = V.str "and") = true from decide_eq_true rfl]
        refine iteT ⟨_, rfl, (by show 2 ≤ sizeLine; decide), fun r hr' => ?_⟩
        have s5 := same_new hr' (.lst [V.bl true, V.bl true])
        refine ⟨_, _, dpp [g.eval (envOf bs), g'.eval (envOf bs)] (s5 _ _ upd_same), dpp [true, true] upd_same, shaped_bools _, shaped_bools _, ?_⟩
        rw [eqv_lists, ap_and]
        exact q _ (s4.trans s5)
      | dis =>
        rw [show decide (V.str (wd .dis) = V.str "and") = false from sdec (by decide +kernel)]
        refine iteF ⟨_, rfl, a, _, _, _, rfl, rfl, SqT.of (s4 _ _ e), atI_nat (j := 0) rfl, rfl, _, rfl, ?_⟩
        rw [show decide (V.str (wd .dis) = V.str "or") = true from decide_eq_true rfl]
        refine iteT ⟨_, rfl, (by show 2 ≤ sizeLine; decide), fun r hr' => ?_⟩
        have s5 := same_new hr' (.lst [V.bl false, V.bl false])
        refine ⟨_, _, dpp [g.eval (envOf bs), g'.eval (envOf bs)] (s5 _ _ upd_same), dpp [false, false] upd_same, shaped_bools _, shaped_bools _, ?_⟩
        rw [eqv_lists, ap_or]
        exact q _ (s4.trans s5)
      | odd =>
        rw [show decide (V.str (wd .odd) = V.str "and") = false from sdec (by decide +kernel)]
        refine iteF ⟨_, rfl, a, _, _, _, rfl, rfl, SqT.of (s4 _ _ e), atI_nat (j := 0) rfl, rfl, _, rfl, ?_⟩
        rw [show decide (V.str (wd .odd) = V.str "or") = false from sdec (by decide +kernel)]
        refine iteF ⟨_, rfl, p, _, _, _, rfl, rfl, SqL.of upd_same, atI_nat (j := 0) rfl, _, rfl, p, _, _, _, rfl, rfl, SqL.of upd_same, atI_nat (j := 1) rfl, rfl, ?_⟩
        rw [eqB]
        exact q _ s4

/-! ### values -/
theorem env_row (m n : Nat) (f : Form) (hu : f.und m) : f.eval (envOf ((List.range m).map (rowE m n))) = f.eval (rowE m n) := by
  refine Form.eval_congr hu fun k hk => ?_
  unfold envOf
  rw [List.getD_eq_getElem?_getD, List.getElem?_map, List.getElem?_range hk]
  rfl
theorem scVa : FnScope ["_law_form", "_law_many", "_law_number"] ["_law_form", "_law_many"] (defScope sValues) := ⟨rfl, rfl, rfl, by decide +kernel, rfl, by decide +kernel, by decide +kernel⟩
theorem ok_values {C f fT fR fC : Addr} {fd fdT fdR fdC : FuncData} (F : HasVa K mg f fd) (T : Txt K mg C) (FT : HasTr K mg fT fdT) (FR : HasRo K mg fR fdR) (FC : HasCt K mg fC fdC)
    (GT : FnOk P w K mg base CX0 41 fT fdT ["_law_form", "_law_row_here"] (spTruth 40)) : FnOk P w K mg base CX0 42 f fd ["_law_form", "_law_many"] spValues := by
  have GC : FnOk P w K mg base CX0 1 fC fdC _ spMany := ok_count FC T
  have GR : FnOk P w K mg base CX0 2 fR fdR _ spRowOf := ok_rowOf FR T FC
  refine F.F.ok scVa (fun vs H Q E h => ?_) (fun cdv A outer s H vs Q E hr h => ?_)
  · obtain ⟨v, f, m, rfl, _⟩ := h
    rfl
  obtain ⟨v, f, m, rfl, hf, hd, hu, hm, q⟩ := h
  have hr1 : Room 1 _ := hr.mono (by decide)
  have hr2 : Room 2 _ := hr.mono (by decide)
  have hm64 : 2 ^ m ≤ 2 ^ 6 := Nat.pow_le_pow_right (by decide) hm
  refine ⟨_, pss_one (ps_ret (pe_lc (own := [("_law_number", 2)]) (g := gName 2) (tt := tYes) rfl scVa.nd (pi_range1 (by rfl) T.range (pa_cons (pe_call GC hr1 rfl FC.g FC.F.kp FC.b .nil pass0 (pa_cons (pv 1) pa_nil)) pa_nil))
      (blkOk_by (own := [("_law_number", 2)]) (N := ["_law_form", "_law_many", "_law_number"]) (sc := defScope sValues) (by decide +kernel))
      (fun _ _ _ _ _ => pg_name (i := 2) scVa.nd rfl (Or.inl rfl)) (fun _ _ _ _ _ => pts_nil)
      (fun _ _ _ _ _ => pe_call GT hr rfl FT.g FT.F.kp FT.b .nil pass0 (pa_cons (pv 0) (pa_cons (pe_call GR hr2 rfl FR.g FR.F.kp FR.b .nil pass0 (pa_cons (pv 2) (pa_cons (pv 1) pa_nil))) pa_nil))))), ?_⟩
  refine ⟨_, rfl, m, rfl, by omega, ((2 ^ m : Nat) : Int), rfl, by have := Int.natCast_nonneg (2 ^ m); omega, by omega, fun D hD => ?_⟩
  refine lc_range (lo := 0) (n := 2 ^ m) (fun i H' => Same H H' ∧ H' D = some (.lst (((List.range i).map fun n => f.eval (rowE m n)).map V.bl))) ⟨same_new hD _, upd_same⟩ ?_ ?_
  · rintro i H1 hi ⟨s1, d1⟩
    refine ⟨rfl, ?_⟩
    refine ⟨_, rfl, _, rfl, _, rfl, i, m, ?_, by omega, fun t H2 s2 ht => ?_⟩
    · show [V.int (0 + (i : Int)), V.int (m : Int)] ++ [] = _
      rw [show (0 : Int) + (i : Int) = (i : Int) by omega]
      rfl
    refine ⟨v, f, t, (List.range m).map (rowE m i), rfl, hf.same (s1.trans s2), hd, ht, by rw [List.length_map, List.length_range]; exact hu, fun H3 s3 => ?_⟩
    refine ⟨_, s3 _ _ (s2 _ _ d1), ?_, fun b o e => ?_, ?_⟩
    · rw [List.length_map, List.length_map, List.length_range]
      exact small1000 (by omega)
    · rw [upd_ne (ne_of_none e hD)]
      exact s3 _ _ (s2 _ _ (s1 _ _ e))
    · rw [upd_same, env_row m i f hu, List.range_succ, List.map_append, List.map_append]
      rfl
  · rintro H1 ⟨s1, d1⟩
    exact q D H1 hD s1 d1
end
end Wk

/-! like forms; forms by cells. -/
namespace Wk
open PySem L2 BD
abbrev HasLk (K : PySem.W.Frag) (mg : Str → Option Value) (f : Addr) (fd : FuncData) := Has K mg "_law_like" sLike ["_law_form", "_law_cell"] f fd
abbrev HasFb (K : PySem.W.Frag) (mg : Str → Option Value) (f : Addr) (fd : FuncData) := Has K mg "_law_form_by" sFormBy ["_law_cells", "_law_many"] f fd

theorem neg_new {H : Hp} {p : Addr} {v : V} {f : Form} (hp : H p = none) (h : FormAt H v f) : FormAt (upd H p (.tup [.str "not", v])) (.ref p) (.neg f) := .neg upd_same (h.same (same_new hp _))
theorem bin_new {H : Hp} {p : Addr} {v u : V} {f g : Form} (o : Op) (hp : H p = none) (h : FormAt H v f) (h' : FormAt H u g) : FormAt (upd H p (.tup [.str (wd o), v, u])) (.ref p) (.bin o f g) := .bin upd_same (h.same (same_new hp _)) (h'.same (same_new hp _))

/-- what is known of a like form -/
structure LikeOk (f g : Form) : Prop where
  u : ∀ m, f.und m → g.und m
  d : g.depth ≤ 3 * f.depth
  s : g.size + 5 ≤ 6 * 2 ^ f.size
theorem like_self {f : Form} (h1 : f.size = 1) : LikeOk f f := ⟨fun _ h => h, by omega, by rw [h1]; decide⟩
theorem like_neg {f g : Form} (h : LikeOk f g) : LikeOk (.neg f) (.neg g) := by
  refine ⟨h.u, ?_, ?_⟩
  · have := h.d
    simp only [Form.depth]
    omega
  · have := h.s
    have := Nat.two_pow_pos f.size
    simp only [Form.size, Nat.pow_succ]
    omega
theorem pow_two (f g : Form) : 2 ^ f.size + 2 ^ g.size ≤ 2 ^ (f.size + g.size) := by
  have a : 2 ^ 1 ≤ 2 ^ f.size := Nat.pow_le_pow_right (by decide) f.size_pos
  have b : 2 ^ 1 ≤ 2 ^ g.size := Nat.pow_le_pow_right (by decide) g.size_pos
  rw [Nat.pow_add]
  have c : 2 ^ f.size * 2 ≤ 2 ^ f.size * 2 ^ g.size := Nat.mul_le_mul_left _ b
  have d : 2 * 2 ^ g.size ≤ 2 ^ f.size * 2 ^ g.size := Nat.mul_le_mul_right _ a
  omega
theorem like_swap {f g f' g' : Form} (o : Op) (h : LikeOk f f') (h' : LikeOk g g') : LikeOk (.bin o f g) (.bin o g' f') := by
  refine ⟨fun m q => ⟨h'.u m q.2, h.u m q.1⟩, ?_, ?_⟩
  · have := h.d
    have := h'.d
    simp only [Form.depth]
    omega
  · have := h.s
    have := h'.s
    have := pow_two f g
    simp only [Form.size, Nat.pow_succ]
    omega
theorem like_con {f g f' g' : Form} (h : LikeOk f f') (h' : LikeOk g g') : LikeOk (.bin .con f g) (.neg (.bin .dis (.neg g') (.neg f'))) := by
  refine ⟨fun m q => ⟨h'.u m q.2, h.u m q.1⟩, ?_, ?_⟩
  · have := h.d
    have := h'.d
    simp only [Form.depth]
    omega
  · have := h.s
    have := h'.s
    have := pow_two f g
    simp only [Form.size, Nat.pow_succ]
    omega
theorem like_dis {f g f' g' : Form} (h : LikeOk f f') (h' : LikeOk g g') : LikeOk (.bin .dis f g) (.neg (.bin .con (.neg f') (.neg g'))) := by
  refine ⟨fun m q => ⟨h.u m q.1, h'.u m q.2⟩, ?_, ?_⟩
  · have := h.d
    have := h'.d
    simp only [Form.depth]
    omega
  · have := h.s
    have := h'.s
    have := pow_two f g
    simp only [Form.size, Nat.pow_succ]
    omega
theorem like_odd {f g f' g' : Form} (h : LikeOk f f') (h' : LikeOk g g') : LikeOk (.bin .odd f g) (.bin .dis (.bin .con f' (.neg g')) (.bin .con (.neg f') g')) := by
  refine ⟨fun m q => ⟨⟨h.u m q.1, h'.u m q.2⟩, h.u m q.1, h'.u m q.2⟩, ?_, ?_⟩
  · have := h.d
    have := h'.d
    simp only [Form.depth]
    omega
  · have := h.s
    have := h'.s
    have := pow_two f g
    simp only [Form.size, Nat.pow_succ]
    omega
def spLike (n : Nat) : Sp := fun vs H Q _ => ∃ (v : V) (f : Form) (c : Int), vs = [v, .int c] ∧ FormAt H v f ∧ f.depth ≤ n ∧ ∀ u g H', Same H H' → FormAt H' u g → LikeOk f g → Q u H'
section
variable {P : Program} {w : World} {K : PySem.W.Frag} {mg : Str → Option Value} {base : Heap}
theorem scLk : FnScope ["_law_form", "_law_cell", "_law_one", "_law_other"] ["_law_form", "_law_cell"] (defScope sLike) := ⟨rfl, rfl, rfl, by decide +kernel, rfl, by decide +kernel, by decide +kernel⟩
theorem ok_like {f : Addr} {fd : FuncData} (F : HasLk K mg f fd) : ∀ n : Nat, FnOk P w K mg base CX0 (n + 1) f fd ["_law_form", "_law_cell"] (spLike n) := by
  intro n
  induction n with
  | zero =>
    refine none_of fun vs H Q E h => ?_
    obtain ⟨v, f, c, _, _, hd, _⟩ := h
    cases f <;> simp [Form.depth] at hd
  | succ n ih =>
    refine F.F.ok scLk (fun vs H Q E h => ?_) (fun cdv A outer s H vs Q E hr h => ?_)
    · obtain ⟨v, f, c, rfl, _⟩ := h
      rfl
    obtain ⟨v, f, c, rfl, hf, hd, q⟩ := h
    refine ⟨_, pss_cons (ps_if (PW.pt (pw_or (pt_cmpR op_eq (pe_ix ix_tup (pv 0) pe_int (fun _ _ => rfl)) pe_str (nomark _)) (pw_or1 (pt_cmpR op_eq (pe_ix ix_tup (pv 0) pe_int (fun _ _ => rfl)) pe_str (nomark _))))) (pss_one (ps_ret (pv 0))) pss_nil)
      (pss_cons (ps_set (i := 2) scLk.nd rfl (Or.inl rfl) (pe_call ih hr rfl F.g F.F.kp F.b .nil pass0 (pa_cons (pe_ix ix_tup (pv 0) pe_int (fun _ _ => rfl)) (pa_cons (pe_op op_add (pv 1) pe_int) pa_nil))))
      (pss_cons (ps_if (pt_cmpR op_eq (pe_ix ix_tup (pv 0) pe_int (fun _ _ => rfl)) pe_str (nomark _)) (pss_one (ps_ret (pe_tup (pa_cons pe_str (pa_cons (pv 2) pa_nil))))) pss_nil)
      (pss_cons (ps_set (i := 3) scLk.nd rfl (Or.inl rfl) (pe_call ih hr rfl F.g F.F.kp F.b .nil pass0 (pa_cons (pe_ix ix_tup (pv 0) pe_int (fun _ _ => rfl)) (pa_cons (pe_op op_add (pv 1) pe_int) pa_nil))))
      (pss_cons (ps_if (pt_cmpR op_eq (pe_op op_mod (pv 1) pe_int) pe_int (nomark _)) (pss_one (ps_ret (pe_tup (pa_cons (pe_ix ix_tup (pv 0) pe_int (fun _ _ => rfl)) (pa_cons (pv 3) (pa_cons (pv 2) pa_nil)))))) pss_nil)
      (pss_cons (ps_if (pt_cmpR op_eq (pe_ix ix_tup (pv 0) pe_int (fun _ _ => rfl)) pe_str (nomark _))
        (pss_one (ps_ret (pe_tup (pa_cons pe_str (pa_cons (pe_tup (pa_cons pe_str (pa_cons (pe_tup (pa_cons pe_str (pa_cons (pv 3) pa_nil))) (pa_cons (pe_tup (pa_cons pe_str (pa_cons (pv 2) pa_nil))) pa_nil)))) pa_nil))))) pss_nil)
      (pss_cons (ps_if (pt_cmpR op_eq (pe_ix ix_tup (pv 0) pe_int (fun _ _ => rfl)) pe_str (nomark _))
        (pss_one (ps_ret (pe_tup (pa_cons pe_str (pa_cons (pe_tup (pa_cons pe_str (pa_cons (pv 2) (pa_cons (pe_tup (pa_cons pe_str (pa_cons (pv 3) pa_nil))) pa_nil)))) (pa_cons (pe_tup (pa_cons pe_str (pa_cons (pe_tup (pa_cons pe_str (pa_cons (pv 2) pa_nil))) (pa_cons (pv 3) pa_nil)))) pa_nil)))))) pss_nil)
      (pss_one (ps_ret (pe_tup (pa_cons pe_str (pa_cons (pe_tup (pa_cons pe_str (pa_cons (pe_tup (pa_cons pe_str (pa_cons (pv 2) pa_nil))) (pa_cons (pe_tup (pa_cons pe_str (pa_cons (pv 3) pa_nil))) pa_nil)))) pa_nil))))))))))), ?_⟩
    have z2 : 2 ≤ sizeLine := by decide
    have z3 : 3 ≤ sizeLine := by decide
    cases hf with
    | @lit a b e =>
      refine ⟨_, rfl, a, _, _, _, rfl, rfl, SqT.of e, atI_nat (j := 0) rfl, rfl, _, rfl, ?_⟩
      rw [sdecT]
      exact iteT (iteT ⟨_, rfl, q _ _ H (Same.refl H) (.lit e) (like_self rfl)⟩)
    | @var a x e =>
      refine ⟨_, rfl, a, _, _, _, rfl, rfl, SqT.of e, atI_nat (j := 0) rfl, rfl, _, rfl, ?_⟩
      rw [sdec w_at_is]
      refine iteF ⟨_, rfl, a, _, _, _, rfl, rfl, SqT.of e, atI_nat (j := 0) rfl, rfl, _, rfl, ?_⟩
      rw [sdecT]
      exact iteT ⟨_, rfl, q _ _ H (Same.refl H) (.var e) (like_self rfl)⟩
    | @neg a u g e hg =>
      refine ⟨_, rfl, a, _, _, _, rfl, rfl, SqT.of e, atI_nat (j := 0) rfl, rfl, _, rfl, ?_⟩
      rw [sdec w_not_is]
      refine iteF ⟨_, rfl, a, _, _, _, rfl, rfl, SqT.of e, atI_nat (j := 0) rfl, rfl, _, rfl, ?_⟩
      rw [sdec w_not_at]
      refine iteF ⟨_, rfl, a, _, _, _, rfl, rfl, SqT.of e, atI_nat (j := 1) rfl, _, rfl, _, _, rfl, rfl, u, g, _, rfl, hg, Nat.le_of_succ_le_succ hd, fun y g1 H1 s1 f1 l1 => ?_⟩
      refine ⟨_, rfl, a, _, _, _, rfl, rfl, SqT.of (s1 _ _ e), atI_nat (j := 0) rfl, rfl, _, rfl, ?_⟩
      rw [sdecT]
      refine iteT ⟨_, rfl, z2, fun p hp => ?_⟩
      exact q _ _ _ (s1.trans (same_new hp _)) (neg_new hp f1) (like_neg l1)
    | @bin a o u v g g' e hg hg' =>
      have hd : max g.depth g'.depth + 1 ≤ n + 1 := hd
      refine ⟨_, rfl, a, _, _, _, rfl, rfl, SqT.of e, atI_nat (j := 0) rfl, rfl, _, rfl, ?_⟩
      rw [sdec (wd_is o)]
      refine iteF ⟨_, rfl, a, _, _, _, rfl, rfl, SqT.of e, atI_nat (j := 0) rfl, rfl, _, rfl, ?_⟩
      rw [sdec (wd_at o)]
      refine iteF ⟨_, rfl, a, _, _, _, rfl, rfl, SqT.of e, atI_nat (j := 1) rfl, _, rfl, _, _, rfl, rfl, u, g, _, rfl, hg, by omega, fun y g1 H1 s1 f1 l1 => ?_⟩
      refine ⟨_, rfl, a, _, _, _, rfl, rfl, SqT.of (s1 _ _ e), atI_nat (j := 0) rfl, rfl, _, rfl, ?_⟩
      rw [sdec (wd_not o)]
      refine iteF ⟨_, rfl, a, _, _, _, rfl, rfl, SqT.of (s1 _ _ e), atI_nat (j := 2) rfl, _, rfl, _, _, rfl, rfl, v, g', _, rfl, hg'.same s1, by omega, fun x g2 H2 s2 f2 l2 => ?_⟩
      have s12 := s1.trans s2
      have f1 := f1.same s2
      -- cell % 3 == 1
      refine ⟨_, rfl, _, _, rfl, rfl, (by show (0 : Int) < 3; decide), rfl, _, rfl, ite2 (fun c3 => ?_) (fun c3 => ?_)⟩
      · refine ⟨_, rfl, a, _, _, _, rfl, rfl, SqT.of (s12 _ _ e), atI_nat (j := 0) rfl, _, rfl, _, rfl, z3, fun p hp => ?_⟩
        exact q _ _ _ (s12.trans (same_new hp _)) (bin_new o hp f2 f1) (like_swap o l1 l2)
      refine ⟨_, rfl, a, _, _, _, rfl, rfl, SqT.of (s12 _ _ e), atI_nat (j := 0) rfl, rfl, _, rfl, ?_⟩
      cases o with
      | con =>
        rw [show decide (V.str (wd .con) = V.str "and") = true from decide_eq_true rfl]
        refine iteT ⟨_, rfl, z2, fun p1 h1 => ⟨_, rfl, z2, fun p2 h2 => ⟨z3, fun p3 h3 => ⟨z2, fun p4 h4 => ?_⟩⟩⟩⟩
        have k1 := same_new h1 (.tup [.str "not", x])
        have k2 := same_new h2 (.tup [.str "not", y])
        exact q _ _ _ (s12.trans (k1.trans (k2.trans ((same_new h3 _).trans (same_new h4 _))))) (neg_new h4 (bin_new .dis h3 ((neg_new h1 f2).same k2) (neg_new h2 (f1.same k1)))) (like_con l1 l2)
      | odd =>
        rw [show decide (V.str (wd .odd) = V.str "and") = false from sdec (by decide +kernel)]
        refine iteF ⟨_, rfl, a, _, _, _, rfl, rfl, SqT.of (s12 _ _ e), atI_nat (j := 0) rfl, rfl, _, rfl, ?_⟩
        rw [show decide (V.str (wd .odd) = V.str "odd") = true from decide_eq_true rfl]
        refine iteT ⟨_, rfl, _, rfl, z2, fun p1 h1 => ⟨z3, fun p2 h2 => ⟨_, rfl, z2, fun p3 h3 => ⟨_, rfl, z3, fun p4 h4 => ⟨z3, fun p5 h5 => ?_⟩⟩⟩⟩⟩
        have k1 := same_new h1 (.tup [.str "not", x])
        have k2 := same_new h2 (.tup [.str "and", y, .ref p1])
        have k3 := same_new h3 (.tup [.str "not", y])
        have k4 := same_new h4 (.tup [.str "and", .ref p3, x])
        have b1 := bin_new .con h2 (f1.same k1) (neg_new h1 f2)
        have b2 := bin_new .con h4 (neg_new h3 (f1.same (k1.trans k2))) (f2.same (k1.trans (k2.trans k3)))
        exact q _ _ _ (s12.trans (k1.trans (k2.trans (k3.trans (k4.trans (same_new h5 _)))))) (bin_new .dis h5 (b1.same (k3.trans k4)) b2) (like_odd l1 l2)
      | dis =>
        rw [show decide (V.str (wd .dis) = V.str "and") = false from sdec (by decide +kernel)]
        refine iteF ⟨_, rfl, a, _, _, _, rfl, rfl, SqT.of (s12 _ _ e), atI_nat (j := 0) rfl, rfl, _, rfl, ?_⟩
        rw [show decide (V.str (wd .dis) = V.str "odd") = false from sdec (by decide +kernel)]
        refine iteF ⟨_, rfl, z2, fun p1 h1 => ⟨_, rfl, z2, fun p2 h2 => ⟨z3, fun p3 h3 => ⟨z2, fun p4 h4 => ?_⟩⟩⟩⟩
        have k1 := same_new h1 (.tup [.str "not", y])
        have k2 := same_new h2 (.tup [.str "not", x])
        exact q _ _ _ (s12.trans (k1.trans (k2.trans ((same_new h3 _).trans (same_new h4 _))))) (neg_new h4 (bin_new .con h3 ((neg_new h1 f1).same k2) (neg_new h2 (f2.same k1)))) (like_dis l1 l2)
end
end Wk

/-! forms by cells. -/
namespace Wk
open PySem L2 BD
/-- the sizes of a stack's forms -/
def tot (fs : List Form) : Nat := (fs.map Form.size).sum
theorem tot_snoc (fs : List Form) (f : Form) : tot (fs ++ [f]) = tot fs + f.size := by
  unfold tot
  rw [List.map_append, List.sum_append]
  rfl
theorem tot_len : ∀ fs : List Form, fs.length ≤ tot fs
  | [] => Nat.le_refl _
  | f :: r => by
    have := tot_len r
    have := f.size_pos
    show r.length + 1 ≤ f.size + tot r
    omega
/-- a stack of forms of m places stands at q -/
structure Stk (H : Hp) (q : Addr) (m : Nat) (vs : List V) (fs : List Form) : Prop where
  e : H q = some (.lst vs)
  p : Paired (fun v f => FormAt H v f ∧ f.und m) vs fs
theorem Stk.len {H : Hp} {q : Addr} {m : Nat} {vs : List V} {fs : List Form} (h : Stk H q m vs fs) : vs.length = fs.length := h.p.length
/-- new objects, the stack as it was -/
theorem Stk.same {H H' : Hp} {q : Addr} {m : Nat} {vs : List V} {fs : List Form} (h : Stk H q m vs fs) (k : Same H H') : Stk H' q m vs fs := ⟨k _ _ h.e, Paired.mapP h.p fun _ _ r => ⟨r.1.same k, r.2⟩⟩
/-- another list at q -/
theorem Stk.set {H : Hp} {q : Addr} {m : Nat} {vs ws : List V} {fs gs : List Form} (h : Stk H q m vs fs) (r : Paired (fun v f => FormAt H v f ∧ f.und m) ws gs) : Stk (upd H q (.lst ws)) q m ws gs :=
  ⟨upd_same, Paired.mapP r fun _ _ z => ⟨z.1.keep fun c ys e => by rw [upd_ne (ne_of e h.e (by intro w; cases w))]; exact e, z.2⟩⟩
theorem Stk.push {H : Hp} {q : Addr} {m : Nat} {vs : List V} {fs : List Form} {v : V} {f : Form} (h : Stk H q m vs fs) (hf : FormAt H v f) (hu : f.und m) : Stk (upd H q (.lst (vs ++ [v]))) q m (vs ++ [v]) (fs ++ [f]) := h.set (Paired.snoc h.p ⟨hf, hu⟩)
theorem paired_last {F : V → Form → Prop} : ∀ {vs : List V} {fs : List Form}, Paired F vs fs → 0 < fs.length → ∃ v f fs', vs[vs.length - 1]? = some v ∧ F v f ∧ fs = fs' ++ [f] ∧ Paired F vs.dropLast fs'
  | _, _, .nil, h => absurd h (Nat.lt_irrefl _)
  | _, _, .cons (l₁ := r) (l₂ := t) (a := v) (b := f) z w, _ => by
    cases w with
    | nil => exact ⟨v, f, [], rfl, z, rfl, .nil⟩
    | @cons v' f' r' t' z' w' =>
      obtain ⟨x, g, gs, e1, e2, e3, e4⟩ := paired_last (Paired.cons z' w') (Nat.succ_pos _)
      refine ⟨x, g, f :: gs, ?_, e2, by rw [e3]; rfl, .cons z e4⟩
      simpa using e1
/-- the last one is taken -/
theorem Stk.pop {H : Hp} {q : Addr} {m : Nat} {vs : List V} {fs : List Form} (h : Stk H q m vs fs) (hl : 0 < fs.length) : ∃ v f fs', vs[vs.length - 1]? = some v ∧ fs = fs' ++ [f] ∧ FormAt (upd H q (.lst vs.dropLast)) v f ∧ f.und m ∧ Stk (upd H q (.lst vs.dropLast)) q m vs.dropLast fs' := by
  obtain ⟨v, f, fs', e1, e2, e3, e4⟩ := paired_last h.p hl
  exact ⟨v, f, fs', e1, e3, e2.1.keep fun c ys e => by rw [upd_ne (ne_of e h.e (by intro w; cases w))]; exact e, e2.2, h.set e4⟩
/-- the words by their places -/
def opAt : Nat → Op
  | 0 => .con
  | 1 => .dis
  | _ => .odd
theorem op_at (j : Nat) (h : j < 3) : ([.str "and", .str "or", .str "odd"] : List V)[j]? = some (.str (wd (opAt j))) := by
  match j, h with
  | 0, _ => rfl
  | 1, _ => rfl
  | 2, _ => rfl
def spFormBy : Sp := fun vs H Q _ => ∃ (a : Addr) (cs : List Int) (m : Nat), vs = [.ref a, .int (m : Int)] ∧ H a = some (.lst (cs.map V.int)) ∧ (∀ c ∈ cs, c % 16 ≠ 5) ∧ cs.length ≤ 30 ∧
  ∀ v f H', Same H H' → FormAt H' v f → f.und m → (f.size = 1 ∨ f.size + 1 ≤ 2 * cs.length) → Q v H'
section
variable {P : Program} {w : World} {K : PySem.W.Frag} {mg : Str → Option Value} {base : Heap}
theorem same_set {H H1 : Hp} {q : Addr} {o : HO} (hq : H q = none) (s : Same H H1) : Same H (upd H1 q o) := fun b u e => by rw [upd_ne (ne_of_none e hq)]; exact s _ _ e
theorem scFb : FnScope ["_law_cells", "_law_many", "_law_stack", "_law_cell", "_law_way", "_law_other"] ["_law_cells", "_law_many"] (defScope sFormBy) := ⟨rfl, rfl, rfl, by decide +kernel, rfl, by decide +kernel, by decide +kernel⟩
theorem ok_formBy {C f fL : Addr} {fd fdL : FuncData} (F : HasFb K mg f fd) (T : Txt K mg C) (FL : HasLf K mg fL fdL) (GL : FnOk P w K mg base CX0 2 fL fdL ["_law_cell", "_law_many"] spLeaf) : FnOk P w K mg base CX0 3 f fd ["_law_cells", "_law_many"] spFormBy := by
  refine F.F.ok scFb (fun vs H Q E h => ?_) (fun cdv A outer s H vs Q E hr h => ?_)
  · obtain ⟨a, cs, m, rfl, _⟩ := h
    rfl
  obtain ⟨a, cs, m, rfl, ha, h5, hlen, q⟩ := h
  refine ⟨_, pss_cons (ps_if (PW.pt (pw_and (pt_cmpR op_gt (pe_callB call_len_seq (by rfl) T.len PySem.boot_len (pa_cons (pv 0) pa_nil)) pe_int (nomark _)) (pw_and1 (pt_cmpR op_eq (pe_op op_mod (pe_ix ix_list (pv 0) pe_int (fun _ _ => rfl)) pe_int) pe_int (nomark _))))) (pss_one ps_never) pss_nil)
    (pss_cons (ps_set (i := 2) scFb.nd rfl (Or.inl rfl) (pe_lst pa_nil))
    (pss_cons (ps_for PassesOwn.never rfl (pi_list (pv 0)) (pg_name (i := 3) scFb.nd rfl (Or.inl rfl))
      (pss_cons (ps_set (i := 4) scFb.nd rfl (Or.inl rfl) (pe_op op_mod (pv 3) pe_int))
      (pss_one (ps_if (PW.pt (pw_and (pt_cmpR op_eq (pv 4) pe_int (nomark _)) (pw_and1 (pt_cmpR op_gt (pe_callB call_len_seq (by rfl) T.len PySem.boot_len (pa_cons (pv 2) pa_nil)) pe_int (nomark _)))))
        (pss_one (ps_expr (pe_bm PySem.F.plainAttrs_list PySem.F.slot_list_append PySem.F.type_list_append mt_append (pv 2) (pa_cons (pe_tup (pa_cons pe_str (pa_cons (pe_bm0 PySem.F.plainAttrs_list PySem.F.slot_list_pop PySem.F.type_list_pop mt_pop (pv 2)) pa_nil))) pa_nil))))
        (pss_one (ps_if (PW.pt (pw_and (pt_cmpR op_gt (pv 4) pe_int (nomark _)) (pw_and1 (pt_cmpR op_gt (pe_callB call_len_seq (by rfl) T.len PySem.boot_len (pa_cons (pv 2) pa_nil)) pe_int (nomark _)))))
          (pss_cons (ps_set (i := 5) scFb.nd rfl (Or.inl rfl) (pe_bm0 PySem.F.plainAttrs_list PySem.F.slot_list_pop PySem.F.type_list_pop mt_pop (pv 2)))
          (pss_one (ps_expr (pe_bm PySem.F.plainAttrs_list PySem.F.slot_list_append PySem.F.type_list_append mt_append (pv 2) (pa_cons (pe_tup (pa_cons (pe_ix ix_list (pe_lst (pa_cons pe_str (pa_cons pe_str (pa_cons pe_str pa_nil)))) (pe_op op_sub (pv 4) pe_int) (fun _ _ => rfl)) (pa_cons (pe_bm0 PySem.F.plainAttrs_list PySem.F.slot_list_pop PySem.F.type_list_pop mt_pop (pv 2)) (pa_cons (pv 5) pa_nil)))) pa_nil)))))
          (pss_one (ps_expr (pe_bm PySem.F.plainAttrs_list PySem.F.slot_list_append PySem.F.type_list_append mt_append (pv 2) (pa_cons (pe_call GL hr rfl FL.g FL.F.kp FL.b .nil pass0 (pa_cons (pv 3) (pa_cons (pv 1) pa_nil))) pa_nil))))))))))
    (pss_cons (ps_if (pt_cmpR op_eq (pe_callB call_len_seq (by rfl) T.len PySem.boot_len (pa_cons (pv 2) pa_nil)) pe_int (nomark _)) (pss_one (ps_ret (pe_tup (pa_cons pe_str (pa_cons pe_bl pa_nil))))) pss_nil)
    (pss_cons (ps_while PassesOwn.never (pt_cmpR op_gt (pe_callB call_len_seq (by rfl) T.len PySem.boot_len (pa_cons (pv 2) pa_nil)) pe_int (nomark _))
      (pss_cons (ps_set (i := 5) scFb.nd rfl (Or.inl rfl) (pe_bm0 PySem.F.plainAttrs_list PySem.F.slot_list_pop PySem.F.type_list_pop mt_pop (pv 2)))
      (pss_one (ps_expr (pe_bm PySem.F.plainAttrs_list PySem.F.slot_list_append PySem.F.type_list_append mt_append (pv 2) (pa_cons (pe_tup (pa_cons (pe_ix ix_list (pe_lst (pa_cons pe_str (pa_cons pe_str (pa_cons pe_str pa_nil)))) (pe_op op_mod (pe_callB call_len_seq (by rfl) T.len PySem.boot_len (pa_cons (pv 2) pa_nil)) pe_int) (fun _ _ => rfl)) (pa_cons (pe_bm0 PySem.F.plainAttrs_list PySem.F.slot_list_pop PySem.F.type_list_pop mt_pop (pv 2)) (pa_cons (pv 5) pa_nil)))) pa_nil))))))
    (pss_one (ps_ret (pe_ix ix_list (pv 2) pe_int (fun _ _ => rfl)))))))), ?_⟩
  have z3 : 3 ≤ sizeLine := by decide
  have z2 : 2 ≤ sizeLine := by decide
  -- len(cells) > 0 and cells[0] % 16 == 5: never
  refine ⟨_, rfl, a, _, rfl, .inl (SqL.of ha), _, _, rfl, rfl, _, rfl, ?_⟩
  rw [List.length_map]
  refine thenB (fun hB => ite2 (fun c0 => ?_) (fun _ => hB)) ?_
  · have hc : 0 < cs.length := by
      have := of_decide_eq_true c0
      omega
    have e0 : (cs.map V.int)[0]? = some (.int cs[0]) := by rw [List.getElem?_map, List.getElem?_eq_getElem hc]; rfl
    refine ⟨_, rfl, a, _, _, _, rfl, rfl, SqL.of ha, atI_nat (j := 0) e0, _, _, rfl, rfl, (by show (0 : Int) < 16; decide), rfl, _, rfl, ?_⟩
    have n5 : decide (V.int (cs[0] % 16) = V.int 5) = false := decide_eq_false fun z => h5 cs[0] (List.getElem_mem hc) (V.int.inj z)
    dsimp only
    rw [n5]
    exact iteF hB
  -- stack = []
  refine ⟨Nat.zero_le _, fun st hst => ?_⟩
  have nas : a ≠ st := ne_of_none ha hst
  -- for cell in cells
  refine ⟨_, rfl, a, rfl, ⟨_, SqL.of (same_new hst _ _ _ ha)⟩, for_list (K := K) (a := a) (xs := cs.map V.int) (fun i σ H1 => ∃ (c w o : Option V) (vs : List V) (fs : List Form), σ = [some (.ref a), some (.int (m : Int)), some (.ref st), c, w, o] ∧ Same H H1 ∧ Stk H1 st m vs fs ∧ tot fs = i)
    ⟨none, none, none, [], [], rfl, same_new hst _, ⟨upd_same, .nil⟩, rfl⟩ (fun i σ H1 _ hP => by obtain ⟨_, _, _, _, _, _, s1, _⟩ := hP; exact SqL.of (s1 _ _ ha)) ?_ ?_⟩
  · rintro i y σ H1 hi ⟨c0, w0, o0, vs, fs, rfl, s1, S, ht⟩
    have hil : i < (cs.map V.int).length := (List.getElem?_eq_some_iff.mp hi).1
    rw [List.length_map] at hil
    rw [List.getElem?_map, List.getElem?_eq_getElem hil] at hi
    have hi : y = V.int cs[i] := (Option.some.inj hi).symm
    subst hi
    obtain ⟨c, hc⟩ : ∃ c, c = cs[i] := ⟨_, rfl⟩
    rw [← hc]
    have hl := S.len
    have tl := tot_len fs
    have line : ∀ n, n ≤ 100 → n < sizeLine := fun n h => small1000 (by omega)
    -- way = cell % 8
    refine ⟨_, rfl, _, _, rfl, rfl, (by show (0 : Int) < 8; decide), ?_⟩
    dsimp only
    obtain ⟨way, hw, w1, w2⟩ : ∃ way : Int, c % 8 = way ∧ 0 ≤ way ∧ way < 8 := ⟨_, rfl, Int.emod_nonneg _ (by decide), Int.emod_lt_of_pos _ (by decide)⟩
    rw [hw]
    refine ⟨_, rfl, rfl, _, rfl, ?_⟩
    have dw : ∀ (x : Int), decide (V.int way = V.int x) = decide (way = x) := fun x => int_dec Iff.rfl
    rw [dw]
    by_cases b1 : way = 4 ∧ 0 < fs.length
    · obtain ⟨b1, b2⟩ := b1
      rw [decide_eq_true b1]
      refine iteT ⟨_, rfl, st, vs, rfl, .inl (SqL.of S.e), _, _, rfl, rfl, _, rfl, ?_⟩
      rw [show decide ((0 : Int) < ((vs.length : Nat) : Int)) = true from decide_eq_true (by omega)]
      obtain ⟨v, f, fs', e1, rfl, e3, e4, S1⟩ := S.pop b2
      refine iteT ⟨_, rfl, .inl ⟨rfl, _, SqL.of S.e⟩, _, rfl, .inl ⟨rfl, _, SqL.of S.e⟩, st, vs, v, rfl, rfl, S.e, e1, z2, fun t ht2 => ?_⟩
      have k1 := same_new ht2 (.tup [.str "not", v])
      have S2 := S1.same k1
      rw [tot_snoc] at ht
      have hll := S2.len
      refine ⟨st, _, _, rfl, rfl, S2.e, line _ (by have := tot_len fs'; omega), ?_⟩
      refine ⟨_, _, _, _, _, rfl, same_set hst (fun bb o e => k1 _ _ (same_set hst s1 _ _ e)), S2.push (neg_new ht2 e3) e4, ?_⟩
      rw [tot_snoc]
      show tot fs' + (f.size + 1) = i + 1
      omega
    · refine thenB (fun hB => ite2 (fun c1 => ⟨_, rfl, st, vs, rfl, .inl (SqL.of S.e), _, _, rfl, rfl, _, rfl, ite2 (fun c2 => absurd ⟨of_decide_eq_true c1, by have := of_decide_eq_true c2; omega⟩ b1) (fun _ => hB)⟩) (fun _ => hB)) ?_
      refine ⟨_, rfl, _, _, rfl, rfl, _, rfl, ?_⟩
      by_cases b2 : 4 < way ∧ 1 < fs.length
      · obtain ⟨b2, b3⟩ := b2
        rw [decide_eq_true b2]
        refine iteT ⟨_, rfl, st, vs, rfl, .inl (SqL.of S.e), _, _, rfl, rfl, _, rfl, ?_⟩
        rw [show decide ((1 : Int) < ((vs.length : Nat) : Int)) = true from decide_eq_true (by omega)]
        obtain ⟨u, g, fs1, e1, rfl, e3, e4, S1⟩ := S.pop (by omega)
        rw [List.length_append, List.length_singleton] at b3
        -- other = stack.pop()
        refine iteT ⟨_, rfl, .inl ⟨rfl, _, SqL.of S.e⟩, st, vs, u, rfl, rfl, S.e, e1, ?_⟩
        -- stack.append((word, stack.pop(), other))
        refine ⟨_, rfl, .inl ⟨rfl, _, SqL.of S1.e⟩, z3, fun p hp => ?_⟩
        have k1 := same_new hp (.lst [.str "and", .str "or", .str "odd"])
        have S2 := S1.same k1
        have e3 := e3.same k1
        obtain ⟨v, f, fs2, e5, rfl, e6, e7, S3⟩ := S2.pop (by omega)
        have e3 : FormAt _ u g := e3.keep (H' := upd _ st (.lst vs.dropLast.dropLast)) fun cc ys e => by rw [upd_ne (ne_of e S2.e (by intro w; cases w))]; exact e
        refine ⟨_, rfl, _, _, rfl, rfl, p, _, _, _, rfl, rfl, SqL.of upd_same, at_of (j := (way - 5).toNat) (by omega) (op_at _ (by omega)), ?_⟩
        refine ⟨_, rfl, .inl ⟨rfl, _, SqL.of S2.e⟩, st, _, v, rfl, rfl, S2.e, e5, _, rfl, z3, fun t ht2 => ?_⟩
        have k2 := same_new ht2 (.tup [.str (wd (opAt (way - 5).toNat)), v, u])
        have S4 := S3.same k2
        rw [tot_snoc, tot_snoc] at ht
        have hll := S4.len
        refine ⟨st, _, _, rfl, rfl, S4.e, line _ (by have := tot_len fs2; omega), ?_⟩
        refine ⟨_, _, _, _, _, rfl, same_set hst (fun bb o e => k2 _ _ (same_set hst (fun bb o e => k1 _ _ (same_set hst s1 _ _ e)) _ _ e)), S4.push (bin_new _ ht2 e6 e3) ⟨e7, e4⟩, ?_⟩
        rw [tot_snoc]
        show tot fs2 + (f.size + g.size + 1) = i + 1
        omega
      · refine thenB (fun hB => ite2 (fun c1 => ⟨_, rfl, st, vs, rfl, .inl (SqL.of S.e), _, _, rfl, rfl, _, rfl, ite2 (fun c2 => absurd ⟨of_decide_eq_true c1, by have := of_decide_eq_true c2; omega⟩ b2) (fun _ => hB)⟩) (fun _ => hB)) ?_
        refine ⟨_, rfl, .inl ⟨rfl, _, SqL.of S.e⟩, _, rfl, _, rfl, c, m, rfl, fun v f H2 s2 hf hu hz => ?_⟩
        have S2 := S.same s2
        refine ⟨st, _, _, rfl, rfl, S2.e, line _ (by omega), ?_⟩
        refine ⟨_, _, _, _, _, rfl, same_set hst (s1.trans s2), S2.push hf hu, ?_⟩
        rw [tot_snoc, hz]
        omega
  · rintro σ H1 ⟨c0, w0, o0, vs, fs, rfl, s1, S, ht⟩
    rw [List.length_map] at ht
    have hl := S.len
    have tl := tot_len fs
    refine ⟨_, rfl, st, vs, rfl, .inl (SqL.of S.e), rfl, _, rfl, ?_⟩
    by_cases b0 : fs.length = 0
    · rw [show decide (V.int ((vs.length : Nat) : Int) = V.int 0) = true from decide_eq_true (by rw [hl, b0]; rfl)]
      refine iteT ⟨z2, fun p hp => ?_⟩
      exact q _ (.lit false) _ (s1.trans (same_new hp _)) (.lit upd_same) trivial (.inl rfl)
    · rw [show decide (V.int ((vs.length : Nat) : Int) = V.int 0) = false from decide_eq_false fun z => by have := V.int.inj z; omega]
      refine iteF ?_
      refine ⟨fun k σ H2 => ∃ (o : Option V) (vs : List V) (fs : List Form), σ = [some (.ref a), some (.int (m : Int)), some (.ref st), c0, w0, o] ∧ Same H H2 ∧ Stk H2 st m vs fs ∧ fs.length = k ∧ 1 ≤ k ∧ tot fs + k ≤ 2 * cs.length,
        ⟨fs.length, o0, vs, fs, rfl, s1, S, rfl, by omega, by omega⟩, ?_⟩
      rintro k σ H2 ⟨o1, vs, fs, rfl, s2, S, hk, hk1, hk2⟩
      have hl := S.len
      refine ⟨_, rfl, st, vs, rfl, .inl (SqL.of S.e), _, _, rfl, rfl, _, rfl, ?_⟩
      by_cases b3 : 1 < fs.length
      · rw [show decide ((1 : Int) < ((vs.length : Nat) : Int)) = true from decide_eq_true (by omega)]
        refine iteT ⟨fun σ' H' => ∃ (o : Option V) (vs : List V) (fs : List Form), σ' = [some (.ref a), some (.int (m : Int)), some (.ref st), c0, w0, o] ∧ Same H H' ∧ Stk H' st m vs fs ∧ fs.length = k - 1 ∧ 1 ≤ k - 1 ∧ tot fs + (k - 1) ≤ 2 * cs.length, fun σ' H' hN => ⟨k - 1, by omega, hN⟩, ?_⟩
        obtain ⟨u, g, fs1, e1, rfl, e3, e4, S1⟩ := S.pop (by omega)
        rw [List.length_append, List.length_singleton] at b3 hk
        refine ⟨_, rfl, .inl ⟨rfl, _, SqL.of S.e⟩, st, vs, u, rfl, rfl, S.e, e1, ?_⟩
        refine ⟨_, rfl, .inl ⟨rfl, _, SqL.of S1.e⟩, z3, fun p hp => ?_⟩
        have k1 := same_new hp (.lst [.str "and", .str "or", .str "odd"])
        have S2 := S1.same k1
        have e3 := e3.same k1
        refine ⟨_, rfl, st, _, rfl, .inl (SqL.of S2.e), _, _, rfl, rfl, (by show (0 : Int) < 3; decide), p, _, _, _, rfl, rfl, SqL.of upd_same, at_of (j := vs.dropLast.length % 3) (by omega) (op_at _ (Nat.mod_lt _ (by decide))), ?_⟩
        obtain ⟨v, f, fs2, e5, rfl, e6, e7, S3⟩ := S2.pop (by omega)
        have e3 : FormAt _ u g := e3.keep (H' := upd _ st (.lst vs.dropLast.dropLast)) fun cc ys e => by rw [upd_ne (ne_of e S2.e (by intro w; cases w))]; exact e
        refine ⟨_, rfl, .inl ⟨rfl, _, SqL.of S2.e⟩, st, _, v, rfl, rfl, S2.e, e5, _, rfl, z3, fun t ht2 => ?_⟩
        have k2 := same_new ht2 (.tup [.str (wd (opAt (vs.dropLast.length % 3))), v, u])
        have S4 := S3.same k2
        rw [tot_snoc, tot_snoc] at hk2
        rw [List.length_append, List.length_singleton] at hk
        have hll := S4.len
        refine ⟨st, _, _, rfl, rfl, S4.e, small1000 (by have := tot_len fs2; omega), ?_⟩
        refine ⟨_, _, _, rfl, same_set hst (fun bb o e => k2 _ _ (same_set hst (fun bb o e => k1 _ _ (same_set hst s2 _ _ e)) _ _ e)), S4.push (bin_new _ ht2 e6 e3) ⟨e7, e4⟩, ?_, by omega, ?_⟩
        · rw [List.length_append, List.length_singleton]
          omega
        · rw [tot_snoc]
          show tot fs2 + (f.size + g.size + 1) + (k - 1) ≤ _
          omega
      · rw [show decide ((1 : Int) < ((vs.length : Nat) : Int)) = false from decide_eq_false (by omega)]
        refine iteF ?_
        have h1 : fs.length = 1 := by omega
        match fs, vs, S, h1 with
        | [f], [v], S, _ =>
          obtain ⟨e, p⟩ := S
          cases p with
          | cons z _ =>
            have ef : tot [f] = f.size := by show f.size + 0 = f.size; omega
            rw [ef] at hk2
            exact ⟨_, rfl, st, _, _, v, rfl, rfl, SqL.of e, atI_nat (j := 0) rfl, q v f H2 s2 z.1 z.2 (.inr (by omega))⟩
end
end Wk

/-! The law. -/
namespace Wk
open PySem L2 BD
theorem cut_int (ns : List Int) (lo hi : Option Int) : ∃ ms : List Int, cutV (ns.map V.int) lo hi = ms.map V.int ∧ ms.length ≤ HT.sIx ns.length ns.length hi - HT.sIx ns.length 0 lo ∧ ∀ c, c ∈ ms → c ∈ ns := by
  refine ⟨(ns.drop (HT.sIx ns.length 0 lo)).take (HT.sIx ns.length ns.length hi - HT.sIx ns.length 0 lo), ?_, ?_, fun c h => List.mem_of_mem_drop (List.mem_of_mem_take h)⟩
  · unfold cutV
    rw [List.length_map, List.map_take, List.map_drop]
  · rw [List.length_take]
    exact Nat.min_le_left _ _
def cellF (x : Int) : Int := x / 16 * 16 + 8 + x % 8
theorem cellF_ne (x : Int) : cellF x % 16 ≠ 5 := by
  unfold cellF
  omega
def spLaw (K : PySem.W.Frag) : Sp := fun vs H Q _ => ∃ (a : Addr) (ns : List Int), vs = [.ref a] ∧ SqL K H a (ns.map V.int) ∧ ns.length ≤ 63 ∧ ∀ H', Q (.bl true) H'
theorem dp_list {K : PySem.W.Frag} {H : Hp} {q : Addr} {bs : List Bool} (h : H q = some (.lst (bs.map V.bl))) : Dp K H (.ref q) (.list (bs.map PyData.bool)) := .lst (SqL.of h) (dp_bools bs)
/-- what is known of the two forms -/
structure TwoOk (m : Nat) (f : Form) : Prop where
  u : f.und m
  d : f.depth ≤ 40
  s : f.size ≤ 15000
theorem two_by {m n : Nat} {f : Form} (hu : f.und m) (hz : f.size = 1 ∨ f.size + 1 ≤ 2 * n) (hn : n ≤ 15) : TwoOk m f := ⟨hu, by have := f.depth_le; omega, by omega⟩
theorem two_like {m : Nat} {f g : Form} (hu : f.und m) (hz : f.size ≤ 11) (h : LikeOk f g) : TwoOk m g := by
  refine ⟨h.u m hu, ?_, ?_⟩
  · have := f.depth_le
    have := h.d
    omega
  · have := h.s
    have : 2 ^ f.size ≤ 2 ^ 11 := Nat.pow_le_pow_right (by decide) hz
    omega
theorem bl_ne (x y : Bool) : (!decide (V.bl x = V.bl y)) = (x != y) := by cases x <;> cases y <;> rfl
abbrev lawN : List Str := ["_law_script", "_law_many", "_law_cells", "_law_one", "_law_two", "_law_ones", "_law_size", "_law_rows", "_law_handed", "_law_cell"]
abbrev HasL (K : PySem.W.Frag) (mg : Str → Option Value) (f : Addr) (fd : FuncData) := Has K mg "law" sLaw ["_law_script"] f fd
section
variable {P : Program} {w : World} {K : PySem.W.Frag} {mg : Str → Option Value} {base : Heap}
theorem scL : FnScope lawN ["_law_script"] (defScope sLaw) := ⟨rfl, rfl, rfl, by decide +kernel, rfl, by decide +kernel, by decide +kernel⟩
theorem ok_law {C f fA fB fK fV fG fT : Addr} {fd fdA fdB fdK fdV fdG fdT : FuncData} (F : Fun K "law" "law" sLaw f fd) (T : Txt K mg C) (FA : HasCA K mg fA fdA) (FB : HasFb K mg fB fdB) (FK : HasLk K mg fK fdK) (FV : HasVa K mg fV fdV) (FG : HasGr K mg fG fdG) (FT : HasGT K mg fT fdT)
    (GA : FnOk P w K mg base CX0 1 fA fdA ["_law_script", "_law_k"] (spCellAt K)) (GB : FnOk P w K mg base CX0 3 fB fdB ["_law_cells", "_law_many"] spFormBy) (GK : FnOk P w K mg base CX0 12 fK fdK ["_law_form", "_law_cell"] (spLike 11))
    (GV : FnOk P w K mg base CX0 42 fV fdV ["_law_form", "_law_many"] spValues) (GG : FnOk P w K mg base CX0 53 fG fdG ["form"] spGraph) (GT : FnOk P w K mg base CX0 16 fT fdT ["rows"] spGraphOf) : FnOk P w K mg base CX0 54 f fd ["_law_script"] (spLaw K) := by
  refine F.ok scL (fun vs H Q E h => ?_) (fun cdv A outer s H vs Q E hr h => ?_)
  · obtain ⟨a, ns, rfl, _⟩ := h
    rfl
  obtain ⟨a, ns, rfl, hS, hlen, k⟩ := h
  have hrA : Room 1 _ := hr.mono (by decide)
  have hrB : Room 3 _ := hr.mono (by decide)
  have hrK : Room 12 _ := hr.mono (by decide)
  have hrV : Room 42 _ := hr.mono (by decide)
  have hrT : Room 16 _ := hr.mono (by decide)
  have z3 : 3 ≤ sizeLine := by decide
  -- what follows once the two forms are made
  obtain ⟨tT, hT, qT⟩ : ∃ t, PSs (cxOf CX0 P w K mg base lawN "law" (defScope sLaw) f cdv A outer s H E).nox ((defBody sLaw).drop 5) t ∧
      ∀ (m : Nat) (v1 v2 : V) (g1 g2 : Form) (o2 o5 o6 o7 o8 o9 : Option V) (H1 : Hp), m ≤ 5 → FormAt H1 v1 g1 → FormAt H1 v2 g2 → TwoOk m g1 → TwoOk m g2 →
        t { nx := fun _ H' => Q .non H', rt := Q } [some (.ref a), some (.int (m : Int)), o2, some v1, some v2, o5, o6, o7, o8, o9] H1 := by
    refine ⟨_, pss_cons (ps_set (i := 5) scL.nd rfl (Or.inl rfl) (pe_call GV hrV rfl FV.g FV.F.kp FV.b .nil pass0 (pa_cons (pv 3) (pa_cons pe_int pa_nil))))
      (pss_cons (ps_if (pt_cmpR op_ne (pe_cmpR (op_eqD hr.units) (pe_call GG hr rfl FG.g FG.F.kp FG.b .nil pass0 (pa_cons (pv 3) pa_nil)) (pe_call GG hr rfl FG.g FG.F.kp FG.b .nil pass0 (pa_cons (pv 4) pa_nil)) (nomark _))
          (pe_cmpR (op_eqD hr.units) (pv 5) (pe_call GV hrV rfl FV.g FV.F.kp FV.b .nil pass0 (pa_cons (pv 4) (pa_cons pe_int pa_nil))) (nomark _)) (nomark _)) (pss_one (ps_ret pe_bl)) pss_nil)
      (pss_cons (ps_for PassesOwn.never rfl (pi_list (pe_lst (pa_cons (pv 1) (pa_cons pe_int (pa_cons pe_int pa_nil))))) (pg_name (i := 6) scL.nd rfl (Or.inl rfl))
        (pss_cons (ps_set (i := 7) scL.nd rfl (Or.inl rfl) (pe_call GV hrV rfl FV.g FV.F.kp FV.b .nil pass0 (pa_cons (pv 3) (pa_cons (pv 6) pa_nil))))
        (pss_cons (ps_set (i := 8) scL.nd rfl (Or.inl rfl) (pe_callTy call_list_of (by rfl) T.list (by decide +kernel) (pa_cons (pv 7) pa_nil)))
        (pss_one (ps_if (PW.pt (pw_or (pt_cmpR (op_neD hr.units) (pe_call GT hrT rfl FT.g FT.F.kp FT.b .nil pass0 (pa_cons (pv 8) pa_nil)) (pe_call GG hr rfl FG.g FG.F.kp FG.b .nil pass0 (pa_cons (pv 3) pa_nil)) (nomark _))
            (pw_or1 (pt_cmpR (op_neD hr.units) (pv 8) (pv 7) (nomark _))))) (pss_one (ps_ret pe_bl)) pss_nil)))))
      (pss_one (ps_ret pe_bl)))), ?_⟩
    intro m v1 v2 g1 g2 o2 o5 o6 o7 o8 o9 H1 hm f1 f2 t1 t2
    have hNP : NP = 6 := rfl
    obtain ⟨G1, G2, e1, e2, iff⟩ := graphM_iff (many := 5) (by omega) (Form.und_mono hm t1.u) (Form.und_mono hm t2.u) t1.s t2.s
    -- ones
    refine ⟨_, rfl, v1, g1, 5, rfl, f1, t1.d, Form.und_mono hm t1.u, by decide, fun q5 H2 _ s2 d5 => ?_⟩
    -- graph(one) == graph(two)
    refine ⟨_, rfl, v1, g1, G1, rfl, f1.same s2, t1.d, e1, fun p1 H3 s3 gg1 => ?_⟩
    refine ⟨_, rfl, v2, g2, G2, rfl, f2.same (s2.trans s3), t2.d, e2, fun p2 H4 s4 gg2 => ?_⟩
    refine ⟨dGraph G1, dGraph G2, dp_graph (gg1.same s4), dp_graph gg2, shaped_graph _, shaped_graph _, ?_⟩
    -- ones == values(two, 5)
    refine ⟨_, rfl, _, rfl, v2, g2, 5, rfl, f2.same (s2.trans (s3.trans s4)), t2.d, Form.und_mono hm t2.u, by decide, fun q6 H5 _ s5 d6 => ?_⟩
    refine ⟨_, _, dp_list (s5 _ _ (s4 _ _ (s3 _ _ d5))), dp_list d6, shaped_bools _, shaped_bools _, rfl, _, rfl, ?_⟩
    have same : decide (G1 = G2) = decide (valuesM g1 5 = valuesM g2 5) := by
      by_cases c : G1 = G2
      · rw [decide_eq_true c, decide_eq_true (iff.mp c)]
      · rw [decide_eq_false c, decide_eq_false fun z => c (iff.mpr z)]
    rw [eqv_graph, eqv_lists, same, bl_ne]
    rw [show (decide (valuesM g1 5 = valuesM g2 5) != decide (valuesM g1 5 = valuesM g2 5)) = false by cases decide (valuesM g1 5 = valuesM g2 5) <;> rfl]
    refine iteF ?_
    have s15 := s2.trans (s3.trans (s4.trans s5))
    have f5 := f1.same s15
    -- for size in [many, 5, 6]
    refine ⟨_, rfl, z3, fun L hL => ⟨L, rfl, ⟨_, SqL.of upd_same⟩, for_list (K := K) (a := L) (xs := [.int (m : Int), .int 5, .int 6]) (fun i σ H' => ∃ (x6 x7 x8 : Option V), σ = [some (.ref a), some (.int (m : Int)), o2, some v1, some v2, some (.ref q5), x6, x7, x8, o9] ∧ Same (upd H5 L (.lst [.int (m : Int), .int 5, .int 6])) H')
      ⟨o6, o7, o8, rfl, Same.refl _⟩ (fun i σ H' _ hP => by obtain ⟨_, _, _, _, s6⟩ := hP; exact SqL.of (s6 _ _ upd_same)) ?_ ?_⟩⟩
    · rintro i y σ H6 hi ⟨x6, x7, x8, rfl, s6⟩
      obtain ⟨z, rfl, hz1, hz2⟩ : ∃ z : Nat, y = .int (z : Int) ∧ m ≤ z ∧ z ≤ 6 := by
        match i, hi with
        | 0, hi => exact ⟨m, (Option.some.inj hi).symm, Nat.le_refl _, by omega⟩
        | 1, hi => exact ⟨5, (Option.some.inj hi).symm, hm, by decide⟩
        | 2, hi => exact ⟨6, (Option.some.inj hi).symm, by omega, by decide⟩
        | i + 3, hi => simp at hi
      have f6 := f5.same ((same_new hL _).trans s6)
      have u6 := Form.und_mono hz1 t1.u
      -- rows
      refine ⟨_, rfl, _, rfl, v1, g1, z, rfl, f6, t1.d, u6, hz2, fun q7 H7 _ s7 d7 => ?_⟩
      -- handed
      refine ⟨_, rfl, q7, _, rfl, .inl (SqL.of d7), fun q8 h8 => ?_⟩
      have s8 := same_new h8 (.lst ((valuesM g1 z).map V.bl))
      -- graph_of_table(handed) != graph(one)
      refine ⟨_, rfl, q8, valuesM g1 z, z, G1, rfl, upd_same, valuesM_length g1 z, by omega, by rw [tableM_eq (by omega) u6 t1.s]; exact e1, fun p3 H8 s9 gg3 => ?_⟩
      refine ⟨_, rfl, v1, g1, G1, rfl, f6.same (s7.trans (s8.trans s9)), t1.d, e1, fun p4 H9 s10 gg4 => ?_⟩
      refine ⟨dGraph G1, dGraph G1, dp_graph (gg3.same s10), dp_graph gg4, shaped_graph _, shaped_graph _, _, rfl, ?_⟩
      rw [eqv_graph, decide_eq_true rfl]
      -- handed != rows
      refine iteF ⟨_, rfl, _, rfl, _, _, dp_list (s10 _ _ (s9 _ _ upd_same)), dp_list (s10 _ _ (s9 _ _ (s8 _ _ d7))), shaped_bools _, shaped_bools _, _, rfl, ?_⟩
      rw [eqv_lists, decide_eq_true rfl]
      refine iteF ⟨_, _, _, rfl, s6.trans (s7.trans (s8.trans (s9.trans s10)))⟩
    · rintro σ H6 ⟨x6, x7, x8, rfl, s6⟩
      exact k H6
  refine ⟨_, pss_cons (ps_set (i := 1) scL.nd rfl (Or.inl rfl) (pe_op op_mod (pe_call GA hrA rfl FA.g FA.F.kp FA.b .nil pass0 (pa_cons (pv 0) (pa_cons pe_int pa_nil))) pe_int))
    (pss_cons (ps_setLc (i := 2) (own := [("_law_cell", 9)]) (g := gName 9) (tt := tYes) rfl scL.nd rfl rfl (sw_true rfl rfl rfl (by decide +kernel)) (pi_list (pe_slice sl_list (pv 0) (po_some pe_int) (po_some pe_int)))
      (blkOk_by (own := [("_law_cell", 9)]) (N := lawN) (sc := defScope sLaw) (by decide +kernel)) (fun _ _ _ _ _ => pg_name (i := 9) scL.nd rfl (Or.inl rfl)) (fun _ _ _ _ _ => pts_nil)
      (fun _ _ _ _ _ => pe_op op_add (pe_op op_add (pe_op op_mul (pe_op op_fdiv (pv 9) pe_int) pe_int) pe_int) (pe_op op_mod (pv 9) pe_int)))
    (pss_cons (ps_set (i := 3) scL.nd rfl (Or.inl rfl) (pe_call GB hrB rfl FB.g FB.F.kp FB.b .nil pass0 (pa_cons (pe_slice sl_list (pv 2) po_none (po_some (pe_op op_fdiv (pe_callB call_len_seq (by rfl) T.len PySem.boot_len (pa_cons (pv 2) pa_nil)) pe_int))) (pa_cons (pv 1) pa_nil))))
    (pss_cons (ps_set (i := 4) scL.nd rfl (Or.inl rfl) (pe_call GB hrB rfl FB.g FB.F.kp FB.b .nil pass0 (pa_cons (pe_slice sl_list (pv 2) (po_some (pe_op op_fdiv (pe_callB call_len_seq (by rfl) T.len PySem.boot_len (pa_cons (pv 2) pa_nil)) pe_int)) po_none) (pa_cons (pv 1) pa_nil))))
    (pss_cons (ps_if (pt_cmpR op_eq (pe_op op_mod (pe_op op_fdiv (pe_call GA hrA rfl FA.g FA.F.kp FA.b .nil pass0 (pa_cons (pv 0) (pa_cons pe_int pa_nil))) pe_int) pe_int) pe_int (nomark _))
      (pss_cons (ps_set (i := 3) scL.nd rfl (Or.inl rfl) (pe_call GB hrB rfl FB.g FB.F.kp FB.b .nil pass0 (pa_cons (pe_slice sl_list (pv 2) po_none (po_some pe_int)) (pa_cons (pv 1) pa_nil))))
      (pss_one (ps_set (i := 4) scL.nd rfl (Or.inl rfl) (pe_call GK hrK rfl FK.g FK.F.kp FK.b .nil pass0 (pa_cons (pv 3) (pa_cons (pe_call GA hrA rfl FA.g FA.F.kp FA.b .nil pass0 (pa_cons (pv 0) (pa_cons pe_int pa_nil))) pa_nil)))))) pss_nil)
    hT)))), ?_⟩
  -- many
  refine ⟨_, rfl, a, ns, 0, rfl, hS, fun x0 => ?_⟩
  refine ⟨_, _, rfl, rfl, (by show (0 : Int) < 6; decide), ?_⟩
  dsimp only
  obtain ⟨m, hm, hm5⟩ : ∃ m : Nat, x0 % 6 = (m : Int) ∧ m ≤ 5 := ⟨(x0 % 6).toNat, by omega, by omega⟩
  rw [hm]
  -- cells
  refine ⟨_, rfl, _, rfl, _, rfl, a, _, rfl, hS, fun p hp => ?_⟩
  obtain ⟨xs, hxs, hxl, _⟩ := cut_int ns (some 2) (some 32)
  have hxl : xs.length ≤ 30 := by
    refine Nat.le_trans hxl ?_
    have a2 : HT.sIx ns.length 0 (some 2) = min 2 ns.length := HT.sIx_nat _ _ 2
    have a3 : HT.sIx ns.length ns.length (some 32) = min 32 ns.length := HT.sIx_nat _ _ 32
    rw [a2, a3]
    omega
  rw [hxs]
  have sp := same_new hp (.lst (xs.map V.int))
  refine ⟨p, rfl, ⟨_, SqL.of upd_same⟩, fun D hD => ?_⟩
  refine lc_list (K := K) (a := p) (xs := xs.map V.int) (fun i H' => Same (upd H p (.lst (xs.map V.int))) H' ∧ H' D = some (.lst (((xs.take i).map cellF).map V.int))) ⟨same_new hD _, upd_same⟩ (fun i H' _ hP => SqL.of (hP.1 _ _ upd_same)) ?_ ?_
  · rintro i y H1 hi ⟨s1, d1⟩
    have hil : i < (xs.map V.int).length := (List.getElem?_eq_some_iff.mp hi).1
    rw [List.length_map] at hil
    rw [List.getElem?_map, List.getElem?_eq_getElem hil] at hi
    have hi : y = V.int xs[i] := (Option.some.inj hi).symm
    subst hi
    refine ⟨rfl, ?_⟩
    refine ⟨_, rfl, _, _, rfl, rfl, ⟨by decide, by decide⟩, _, _, rfl, rfl, .inr ⟨by decide, by decide⟩, _, _, rfl, rfl, _, rfl, _, _, rfl, rfl, (by show (0 : Int) < 8; decide), _, _, rfl, rfl, _, d1, ?_, ?_, ?_⟩
    · rw [List.length_map, List.length_map, List.length_take]
      exact small1000 (by omega)
    · exact same_set hD s1
    · rw [upd_same, List.take_succ, List.getElem?_eq_getElem hil, List.map_append, List.map_append]
      rfl
  rintro H1 ⟨s1, d1⟩
  rw [List.length_map, List.take_length] at d1
  have sH : Same H H1 := sp.trans s1
  obtain ⟨cs, hcs⟩ : ∃ cs, cs = xs.map cellF := ⟨_, rfl⟩
  rw [← hcs] at d1
  have cl : cs.length ≤ 30 := by rw [hcs, List.length_map]; exact hxl
  have c5 : ∀ c ∈ cs, c % 16 ≠ 5 := fun c hc => by
    rw [hcs] at hc
    obtain ⟨x, _, rfl⟩ := List.mem_map.mp hc
    exact cellF_ne x
  have half : ((cs.length : Nat) : Int) / 2 = ((cs.length / 2 : Nat) : Int) := by omega
  -- one
  refine ⟨_, rfl, _, rfl, D, _, rfl, .inl (SqL.of d1), _, _, rfl, rfl, ⟨by decide, by decide⟩, _, rfl, D, _, rfl, SqL.of d1, fun p1 hp1 => ?_⟩
  rw [List.length_map]
  obtain ⟨ms1, hm1, hl1, hc1⟩ := cut_int cs none (some (((cs.length : Nat) : Int) / 2))
  rw [hm1]
  have l1 : ms1.length ≤ 15 := by
    refine Nat.le_trans hl1 ?_
    rw [half, HT.sIx_nat, HT.sIx_none]
    omega
  have k1 := same_new hp1 (.lst (ms1.map V.int))
  refine ⟨_, rfl, p1, ms1, m, rfl, upd_same, fun c hc => c5 c (hc1 c hc), by omega, fun v1 g1 H2 s2 f1 u1 z1 => ?_⟩
  have d2 := s2 _ _ (k1 _ _ d1)
  -- two
  refine ⟨_, rfl, _, rfl, D, _, rfl, .inl (SqL.of d2), _, _, rfl, rfl, ⟨by decide, by decide⟩, _, rfl, D, _, rfl, SqL.of d2, fun p2 hp2 => ?_⟩
  rw [List.length_map]
  obtain ⟨ms2, hm2, hl2, hc2⟩ := cut_int cs (some (((cs.length : Nat) : Int) / 2)) none
  rw [hm2]
  have l2 : ms2.length ≤ 15 := by
    refine Nat.le_trans hl2 ?_
    rw [half, HT.sIx_nat, HT.sIx_none]
    omega
  have k2 := same_new hp2 (.lst (ms2.map V.int))
  refine ⟨_, rfl, p2, ms2, m, rfl, upd_same, fun c hc => c5 c (hc2 c hc), by omega, fun v2 g2 H3 s3 f2 u2 z2 => ?_⟩
  have d3 := s3 _ _ (k2 _ _ d2)
  have sH3 : Same H H3 := sH.trans (k1.trans (s2.trans (k2.trans s3)))
  -- the other way to two forms
  refine ⟨_, rfl, a, ns, 0, rfl, sH3.seq hS, fun x1 => ?_⟩
  refine ⟨_, _, rfl, rfl, ⟨by decide, by decide⟩, _, _, rfl, rfl, (by show (0 : Int) < 2; decide), rfl, _, rfl, ite2 (fun c => ?_) (fun c => ?_)⟩
  · refine ⟨_, rfl, _, rfl, D, _, rfl, SqL.of d3, fun p3 hp3 => ?_⟩
    obtain ⟨ms3, hm3, hl3, hc3⟩ := cut_int cs none (some 6)
    rw [hm3]
    have l3 : ms3.length ≤ 6 := by
      refine Nat.le_trans hl3 ?_
      have a3 : HT.sIx cs.length cs.length (some 6) = min 6 cs.length := HT.sIx_nat _ _ 6
      rw [a3, HT.sIx_none]
      omega
    have k3 := same_new hp3 (.lst (ms3.map V.int))
    refine ⟨_, rfl, p3, ms3, m, rfl, upd_same, fun c hc => c5 c (hc3 c hc), by omega, fun v3 g3 H4 s4 f3 u3 z3 => ?_⟩
    refine ⟨_, rfl, _, rfl, a, ns, 1, rfl, (sH3.trans (k3.trans s4)).seq hS, fun x2 => ?_⟩
    refine ⟨v3, g3, x2, rfl, f3, by have := g3.depth_le; omega, fun v4 g4 H5 s5 f4 l4 => ?_⟩
    exact qT m v3 v4 g3 g4 _ _ _ _ _ _ H5 hm5 (f3.same s5) f4 (two_by (n := 6) u3 (by omega) (by omega)) (two_like u3 (by omega) l4)
  · exact qT m v1 v2 g1 g2 _ _ _ _ _ _ H3 hm5 (f1.same (k2.trans s3)) f2 (two_by u1 z1 l1) (two_by u2 z2 l2)
end
end Wk

/-! What the top leaves, and the end. -/
namespace Wk
open PySem L2 BD
theorem all_mk {l : PySem.W.OpenLaw} {w : World} {K : PySem.W.Frag} {h : Heap} {mg : Str → Option Value} {fa C f1 f2 f3 f4 f5 f6 f7 f8 f9 f10 f11 f12 f13 f14 f15 f16 f17 f18 f19 f20 f21 f22 f23 f24 f25 : Addr} (X : K.In h) (G : h.Ns mainGlobals mg) (hfa : mg "law" = some (.ref fa))
    {od1 an1 od2 an2 od3 an3 od4 an4 od5 an5 od6 an6 od7 an7 od8 an8 od9 an9 od10 an10 od11 an11 od12 an12 od13 an13 od14 an14 od15 an15 od16 an16 od17 an17 od18 an18 od19 an19 od20 an20 od21 an21 od22 an22 od23 an23 od24 an24 od25 an25 : Option Addr} {sl1 sl2 sl3 sl4 sl5 sl6 sl7 sl8 sl9 sl10 sl11 sl12 sl13 sl14 sl15 sl16 sl17 sl18 sl19 sl20 sl21 sl22 sl23 sl24 sl25 : Array (Option Value)}
    {oc1 kV1 dc1 pm1 cd1 ct1 oc2 kV2 dc2 pm2 cd2 ct2 oc3 kV3 dc3 pm3 cd3 ct3 oc4 kV4 dc4 pm4 cd4 ct4 oc5 kV5 dc5 pm5 cd5 ct5 oc6 kV6 dc6 pm6 cd6 ct6 oc7 kV7 dc7 pm7 cd7 ct7 oc8 kV8 dc8 pm8 cd8 ct8 oc9 kV9 dc9 pm9 cd9 ct9 oc10 kV10 dc10 pm10 cd10 ct10 oc11 kV11 dc11 pm11 cd11 ct11 oc12 kV12 dc12 pm12 cd12 ct12 oc13 kV13 dc13 pm13 cd13 ct13 oc14 kV14 dc14 pm14 cd14 ct14 oc15 kV15 dc15 pm15 cd15 ct15 oc16 kV16 dc16 pm16 cd16 ct16 oc17 kV17 dc17 pm17 cd17 ct17 oc18 kV18 dc18 pm18 cd18 ct18 oc19 kV19 dc19 pm19 cd19 ct19 oc20 kV20 dc20 pm20 cd20 ct20 oc21 kV21 dc21 pm21 cd21 ct21 oc22 kV22 dc22 pm22 cd22 ct22 oc23 kV23 dc23 pm23 cd23 ct23 oc24 kV24 dc24 pm24 cd24 ct24 oc25 kV25 dc25 pm25 cd25 ct25 : Value} {tb tm : Tok}
    (aC : PySem.W.nsIn K mainGlobals "Store" = some (some (.ref C)))
    (a1 : PySem.W.findIn K (.ref C) "__init__" = some (some (.ref f1))) (i1 : PySem.W.isFn K (.ref f1) = true)
    (l1 : K.lookup f1 = some ⟨oc1, od1, .func (PySem.W.fnOf "__init__" "Store.__init__" (defArgs sInit) (defBody sInit) (defScope sInit) .none kV1 dc1 pm1 an1 cd1 ct1), sl1⟩) (c1 : PySem.W.codeIn K cd1 "Store.__init__" = true) (k1 : PySem.W.keepIn K (.ref f1) = true)
    (a2 : PySem.W.findIn K (.ref C) "place_of" = some (some (.ref f2))) (i2 : PySem.W.isFn K (.ref f2) = true)
    (l2 : K.lookup f2 = some ⟨oc2, od2, .func (PySem.W.fnOf "place_of" "Store.place_of" (defArgs sPlaceOf) (defBody sPlaceOf) (defScope sPlaceOf) .none kV2 dc2 pm2 an2 cd2 ct2), sl2⟩) (c2 : PySem.W.codeIn K cd2 "Store.place_of" = true) (k2 : PySem.W.keepIn K (.ref f2) = true)
    (a3 : PySem.W.findIn K (.ref C) "go" = some (some (.ref f3))) (i3 : PySem.W.isFn K (.ref f3) = true)
    (l3 : K.lookup f3 = some ⟨oc3, od3, .func (PySem.W.fnOf "go" "Store.go" (defArgs sGo) (defBody sGo) (defScope sGo) .none kV3 dc3 pm3 an3 cd3 ct3), sl3⟩) (c3 : PySem.W.codeIn K cd3 "Store.go" = true) (k3 : PySem.W.keepIn K (.ref f3) = true)
    (a4 : PySem.W.findIn K (.ref C) "made" = some (some (.ref f4))) (i4 : PySem.W.isFn K (.ref f4) = true)
    (l4 : K.lookup f4 = some ⟨oc4, od4, .func (PySem.W.fnOf "made" "Store.made" (defArgs sMade) (defBody sMade) (defScope sMade) .none kV4 dc4 pm4 an4 cd4 ct4), sl4⟩) (c4 : PySem.W.codeIn K cd4 "Store.made" = true) (k4 : PySem.W.keepIn K (.ref f4) = true)
    (a5 : PySem.W.nsIn K mainGlobals "many_rows" = some (some (.ref f5)))
    (l5 : K.lookup f5 = some ⟨oc5, od5, .func (PySem.W.fnOf "many_rows" "many_rows" (defArgs sManyRows) (defBody sManyRows) (defScope sManyRows) .none kV5 dc5 pm5 an5 cd5 ct5), sl5⟩) (c5 : PySem.W.codeIn K cd5 "many_rows" = true) (k5 : PySem.W.keepIn K (.ref f5) = true)
    (a6 : PySem.W.nsIn K mainGlobals "places_of" = some (some (.ref f6)))
    (l6 : K.lookup f6 = some ⟨oc6, od6, .func (PySem.W.fnOf "places_of" "places_of" (defArgs sPlacesOf) (defBody sPlacesOf) (defScope sPlacesOf) .none kV6 dc6 pm6 an6 cd6 ct6), sl6⟩) (c6 : PySem.W.codeIn K cd6 "places_of" = true) (k6 : PySem.W.keepIn K (.ref f6) = true)
    (a7 : PySem.W.nsIn K mainGlobals "half" = some (some (.ref f7)))
    (l7 : K.lookup f7 = some ⟨oc7, od7, .func (PySem.W.fnOf "half" "half" (defArgs sHalf) (defBody sHalf) (defScope sHalf) .none kV7 dc7 pm7 an7 cd7 ct7), sl7⟩) (c7 : PySem.W.codeIn K cd7 "half" = true) (k7 : PySem.W.keepIn K (.ref f7) = true)
    (a8 : PySem.W.nsIn K mainGlobals "truth_by" = some (some (.ref f8)))
    (l8 : K.lookup f8 = some ⟨oc8, od8, .func (PySem.W.fnOf "truth_by" "truth_by" (defArgs sTruthBy) (defBody sTruthBy) (defScope sTruthBy) .none kV8 dc8 pm8 an8 cd8 ct8), sl8⟩) (c8 : PySem.W.codeIn K cd8 "truth_by" = true) (k8 : PySem.W.keepIn K (.ref f8) = true)
    (a9 : PySem.W.nsIn K mainGlobals "joined_in" = some (some (.ref f9)))
    (l9 : K.lookup f9 = some ⟨oc9, od9, .func (PySem.W.fnOf "joined_in" "joined_in" (defArgs sJoined) (defBody sJoined) (defScope sJoined) .none kV9 dc9 pm9 an9 cd9 ct9), sl9⟩) (c9 : PySem.W.codeIn K cd9 "joined_in" = true) (k9 : PySem.W.keepIn K (.ref f9) = true)
    (a10 : PySem.W.nsIn K mainGlobals "number_in" = some (some (.ref f10)))
    (l10 : K.lookup f10 = some ⟨oc10, od10, .func (PySem.W.fnOf "number_in" "number_in" (defArgs sNumberIn) (defBody sNumberIn) (defScope sNumberIn) .none kV10 dc10 pm10 an10 cd10 ct10), sl10⟩) (c10 : PySem.W.codeIn K cd10 "number_in" = true) (k10 : PySem.W.keepIn K (.ref f10) = true)
    (a11 : PySem.W.nsIn K mainGlobals "numbered" = some (some (.ref f11)))
    (l11 : K.lookup f11 = some ⟨oc11, od11, .func (PySem.W.fnOf "numbered" "numbered" (defArgs sNumbered) (defBody sNumbered) (defScope sNumbered) .none kV11 dc11 pm11 an11 cd11 ct11), sl11⟩) (c11 : PySem.W.codeIn K cd11 "numbered" = true) (k11 : PySem.W.keepIn K (.ref f11) = true)
    (a12 : PySem.W.nsIn K mainGlobals "ordered" = some (some (.ref f12)))
    (l12 : K.lookup f12 = some ⟨oc12, od12, .func (PySem.W.fnOf "ordered" "ordered" (defArgs sOrdered) (defBody sOrdered) (defScope sOrdered) .none kV12 dc12 pm12 an12 cd12 ct12), sl12⟩) (c12 : PySem.W.codeIn K cd12 "ordered" = true) (k12 : PySem.W.keepIn K (.ref f12) = true)
    (a13 : PySem.W.nsIn K mainGlobals "graph" = some (some (.ref f13)))
    (l13 : K.lookup f13 = some ⟨oc13, od13, .func (PySem.W.fnOf "graph" "graph" (defArgs sGraph) (defBody sGraph) (defScope sGraph) .none kV13 dc13 pm13 an13 cd13 ct13), sl13⟩) (c13 : PySem.W.codeIn K cd13 "graph" = true) (k13 : PySem.W.keepIn K (.ref f13) = true)
    (a14 : PySem.W.nsIn K mainGlobals "table_in" = some (some (.ref f14)))
    (l14 : K.lookup f14 = some ⟨oc14, od14, .func (PySem.W.fnOf "table_in" "table_in" (defArgs sTableIn) (defBody sTableIn) (defScope sTableIn) .none kV14 dc14 pm14 an14 cd14 ct14), sl14⟩) (c14 : PySem.W.codeIn K cd14 "table_in" = true) (k14 : PySem.W.keepIn K (.ref f14) = true)
    (a15 : PySem.W.nsIn K mainGlobals "graph_of_table" = some (some (.ref f15)))
    (l15 : K.lookup f15 = some ⟨oc15, od15, .func (PySem.W.fnOf "graph_of_table" "graph_of_table" (defArgs sGraphOf) (defBody sGraphOf) (defScope sGraphOf) .none kV15 dc15 pm15 an15 cd15 ct15), sl15⟩) (c15 : PySem.W.codeIn K cd15 "graph_of_table" = true) (k15 : PySem.W.keepIn K (.ref f15) = true)
    (a16 : PySem.W.nsIn K mainGlobals "_law_cell_at" = some (some (.ref f16)))
    (l16 : K.lookup f16 = some ⟨oc16, od16, .func (PySem.W.fnOf "_law_cell_at" "_law_cell_at" (defArgs sCellAt) (defBody sCellAt) (defScope sCellAt) .none kV16 dc16 pm16 an16 cd16 ct16), sl16⟩) (c16 : PySem.W.codeIn K cd16 "_law_cell_at" = true) (k16 : PySem.W.keepIn K (.ref f16) = true)
    (a17 : PySem.W.nsIn K mainGlobals "_law_mixed" = some (some (.ref f17)))
    (l17 : K.lookup f17 = some ⟨oc17, od17, .func (PySem.W.fnOf "_law_mixed" "_law_mixed" (defArgs sMixed) (defBody sMixed) (defScope sMixed) .none kV17 dc17 pm17 an17 cd17 ct17), sl17⟩) (c17 : PySem.W.codeIn K cd17 "_law_mixed" = true) (k17 : PySem.W.keepIn K (.ref f17) = true)
    (a18 : PySem.W.nsIn K mainGlobals "_law_leaf" = some (some (.ref f18)))
    (l18 : K.lookup f18 = some ⟨oc18, od18, .func (PySem.W.fnOf "_law_leaf" "_law_leaf" (defArgs sLeaf) (defBody sLeaf) (defScope sLeaf) .none kV18 dc18 pm18 an18 cd18 ct18), sl18⟩) (c18 : PySem.W.codeIn K cd18 "_law_leaf" = true) (k18 : PySem.W.keepIn K (.ref f18) = true)
    (a19 : PySem.W.nsIn K mainGlobals "_law_form_by" = some (some (.ref f19)))
    (l19 : K.lookup f19 = some ⟨oc19, od19, .func (PySem.W.fnOf "_law_form_by" "_law_form_by" (defArgs sFormBy) (defBody sFormBy) (defScope sFormBy) .none kV19 dc19 pm19 an19 cd19 ct19), sl19⟩) (c19 : PySem.W.codeIn K cd19 "_law_form_by" = true) (k19 : PySem.W.keepIn K (.ref f19) = true)
    (a20 : PySem.W.nsIn K mainGlobals "_law_truth" = some (some (.ref f20)))
    (l20 : K.lookup f20 = some ⟨oc20, od20, .func (PySem.W.fnOf "_law_truth" "_law_truth" (defArgs sTruth) (defBody sTruth) (defScope sTruth) .none kV20 dc20 pm20 an20 cd20 ct20), sl20⟩) (c20 : PySem.W.codeIn K cd20 "_law_truth" = true) (k20 : PySem.W.keepIn K (.ref f20) = true)
    (a21 : PySem.W.nsIn K mainGlobals "_law_count" = some (some (.ref f21)))
    (l21 : K.lookup f21 = some ⟨oc21, od21, .func (PySem.W.fnOf "_law_count" "_law_count" (defArgs sCount) (defBody sCount) (defScope sCount) .none kV21 dc21 pm21 an21 cd21 ct21), sl21⟩) (c21 : PySem.W.codeIn K cd21 "_law_count" = true) (k21 : PySem.W.keepIn K (.ref f21) = true)
    (a22 : PySem.W.nsIn K mainGlobals "_law_row_of" = some (some (.ref f22)))
    (l22 : K.lookup f22 = some ⟨oc22, od22, .func (PySem.W.fnOf "_law_row_of" "_law_row_of" (defArgs sRowOf) (defBody sRowOf) (defScope sRowOf) .none kV22 dc22 pm22 an22 cd22 ct22), sl22⟩) (c22 : PySem.W.codeIn K cd22 "_law_row_of" = true) (k22 : PySem.W.keepIn K (.ref f22) = true)
    (a23 : PySem.W.nsIn K mainGlobals "_law_like" = some (some (.ref f23)))
    (l23 : K.lookup f23 = some ⟨oc23, od23, .func (PySem.W.fnOf "_law_like" "_law_like" (defArgs sLike) (defBody sLike) (defScope sLike) .none kV23 dc23 pm23 an23 cd23 ct23), sl23⟩) (c23 : PySem.W.codeIn K cd23 "_law_like" = true) (k23 : PySem.W.keepIn K (.ref f23) = true)
    (a24 : PySem.W.nsIn K mainGlobals "_law_values" = some (some (.ref f24)))
    (l24 : K.lookup f24 = some ⟨oc24, od24, .func (PySem.W.fnOf "_law_values" "_law_values" (defArgs sValues) (defBody sValues) (defScope sValues) .none kV24 dc24 pm24 an24 cd24 ct24), sl24⟩) (c24 : PySem.W.codeIn K cd24 "_law_values" = true) (k24 : PySem.W.keepIn K (.ref f24) = true)
    (a25 : PySem.W.nsIn K mainGlobals "law" = some (some (.ref f25)))
    (l25 : K.lookup f25 = some ⟨oc25, od25, .func (PySem.W.fnOf "law" "law" (defArgs sLaw) (defBody sLaw) (defScope sLaw) .none kV25 dc25 pm25 an25 cd25 ct25), sl25⟩) (c25 : PySem.W.codeIn K cd25 "law" = true) (k25 : PySem.W.keepIn K (.ref f25) = true)
    (pg : PySem.W.plainGet K C Str.empty = true) (hd : PySem.W.hasDictIn K C = true) (po : PySem.W.plainOver K C = true) (sa : PySem.W.findIn K (.ref C) "__setattr__" = some (some (.builtin "object.__setattr__"))) (mk : PySem.W.makesIn K C = true) (kc : PySem.W.keepIn K (.ref C) = true)
    (nN : PySem.W.findIn K (.ref C) "nodes" = some none) (nK : PySem.W.findIn K (.ref C) "known" = some none) (gB : PySem.W.nsIn K mainGlobals "BEYOND" = some (some (.int 99 tb))) (gM : PySem.W.nsIn K mainGlobals "MOST_PLACES" = some (some (.int 10 tm)))
    (z1 : PySem.W.nsIn K mainGlobals "len" = some none) (z2 : PySem.W.nsIn K mainGlobals "int" = some none) (z3 : PySem.W.nsIn K mainGlobals "min" = some none) (z4 : PySem.W.nsIn K mainGlobals "range" = some none) (z5 : PySem.W.nsIn K mainGlobals "enumerate" = some none) (z6 : PySem.W.nsIn K mainGlobals "tuple" = some none) (z7 : PySem.W.nsIn K mainGlobals "list" = some none) :
    ∃ fd : FuncData, (∀ (s : Shared) (v : Value), BindsTo s fd ⟨[v], []⟩ [("_law_script", v)]) ∧ ∀ base : Heap, K.In base → base.Ns mainGlobals mg → FnOk l.prog w K mg base CX0 54 fa fd ["_law_script"] (spLaw K) := by
  have e := hfa.symm.trans (PySem.W.mg_of X G a25)
  cases e
  have T : Txt K mg C := ⟨⟨pg, hd, po, sa⟩, nN, nK, PySem.W.mg_of X G aC, ⟨tb, PySem.W.mg_of X G gB⟩, ⟨tm, PySem.W.mg_of X G gM⟩, PySem.W.mg_none_of X G z1, PySem.W.mg_none_of X G z2, PySem.W.mg_none_of X G z3, PySem.W.mg_none_of X G z4, PySem.W.mg_none_of X G z5, PySem.W.mg_none_of X G z6, PySem.W.mg_none_of X G z7⟩
  have F1 := fun_mk (st := sInit) l1 c1 k1
  have b1 := F1.binds (ps := ["self"]) fun _ _ _ _ _ _ us hl => match us, hl with | [_], _ => rfl
  have A1 : HasM K C "__init__" "Store.__init__" sInit ["self"] f1 _ := ⟨F1, ⟨a1, i1, k1⟩, b1⟩
  have F2 := fun_mk (st := sPlaceOf) l2 c2 k2
  have b2 := F2.binds (ps := ["self", "at"]) fun _ _ _ _ _ _ us hl => match us, hl with | [_, _], _ => rfl
  have A2 : HasM K C "place_of" "Store.place_of" sPlaceOf ["self", "at"] f2 _ := ⟨F2, ⟨a2, i2, k2⟩, b2⟩
  have F3 := fun_mk (st := sGo) l3 c3 k3
  have b3 := F3.binds (ps := ["self", "at", "place", "truth"]) fun _ _ _ _ _ _ us hl => match us, hl with | [_, _, _, _], _ => rfl
  have A3 : HasM K C "go" "Store.go" sGo ["self", "at", "place", "truth"] f3 _ := ⟨F3, ⟨a3, i3, k3⟩, b3⟩
  have F4 := fun_mk (st := sMade) l4 c4 k4
  have b4 := F4.binds (ps := ["self", "place", "low", "high"]) fun _ _ _ _ _ _ us hl => match us, hl with | [_, _, _, _], _ => rfl
  have A4 : HasM K C "made" "Store.made" sMade ["self", "place", "low", "high"] f4 _ := ⟨F4, ⟨a4, i4, k4⟩, b4⟩
  have F5 := fun_mk (st := sManyRows) l5 c5 k5
  have b5 := F5.binds (ps := ["many"]) fun _ _ _ _ _ _ us hl => match us, hl with | [_], _ => rfl
  have A5 : Has K mg "many_rows" sManyRows ["many"] f5 _ := ⟨F5, PySem.W.mg_of X G a5, b5⟩
  have F6 := fun_mk (st := sPlacesOf) l6 c6 k6
  have b6 := F6.binds (ps := ["table"]) fun _ _ _ _ _ _ us hl => match us, hl with | [_], _ => rfl
  have A6 : Has K mg "places_of" sPlacesOf ["table"] f6 _ := ⟨F6, PySem.W.mg_of X G a6, b6⟩
  have F7 := fun_mk (st := sHalf) l7 c7 k7
  have b7 := F7.binds (ps := ["rows", "place", "truth"]) fun _ _ _ _ _ _ us hl => match us, hl with | [_, _, _], _ => rfl
  have A7 : Has K mg "half" sHalf ["rows", "place", "truth"] f7 _ := ⟨F7, PySem.W.mg_of X G a7, b7⟩
  have F8 := fun_mk (st := sTruthBy) l8 c8 k8
  have b8 := F8.binds (ps := ["word", "one", "other"]) fun _ _ _ _ _ _ us hl => match us, hl with | [_, _, _], _ => rfl
  have A8 : Has K mg "truth_by" sTruthBy ["word", "one", "other"] f8 _ := ⟨F8, PySem.W.mg_of X G a8, b8⟩
  have F9 := fun_mk (st := sJoined) l9 c9 k9
  have b9 := F9.binds (ps := ["store", "word", "one", "other", "done"]) fun _ _ _ _ _ _ us hl => match us, hl with | [_, _, _, _, _], _ => rfl
  have A9 : Has K mg "joined_in" sJoined ["store", "word", "one", "other", "done"] f9 _ := ⟨F9, PySem.W.mg_of X G a9, b9⟩
  have F10 := fun_mk (st := sNumberIn) l10 c10 k10
  have b10 := F10.binds (ps := ["store", "form"]) fun _ _ _ _ _ _ us hl => match us, hl with | [_, _], _ => rfl
  have A10 : Has K mg "number_in" sNumberIn ["store", "form"] f10 _ := ⟨F10, PySem.W.mg_of X G a10, b10⟩
  have F11 := fun_mk (st := sNumbered) l11 c11 k11
  have b11 := F11.binds (ps := ["store", "at", "found", "places"]) fun _ _ _ _ _ _ us hl => match us, hl with | [_, _, _, _], _ => rfl
  have A11 : Has K mg "numbered" sNumbered ["store", "at", "found", "places"] f11 _ := ⟨F11, PySem.W.mg_of X G a11, b11⟩
  have F12 := fun_mk (st := sOrdered) l12 c12 k12
  have b12 := F12.binds (ps := ["store", "at"]) fun _ _ _ _ _ _ us hl => match us, hl with | [_, _], _ => rfl
  have A12 : Has K mg "ordered" sOrdered ["store", "at"] f12 _ := ⟨F12, PySem.W.mg_of X G a12, b12⟩
  have F13 := fun_mk (st := sGraph) l13 c13 k13
  have b13 := F13.binds (ps := ["form"]) fun _ _ _ _ _ _ us hl => match us, hl with | [_], _ => rfl
  have A13 : Has K mg "graph" sGraph ["form"] f13 _ := ⟨F13, PySem.W.mg_of X G a13, b13⟩
  have F14 := fun_mk (st := sTableIn) l14 c14 k14
  have b14 := F14.binds (ps := ["store", "rows", "place"]) fun _ _ _ _ _ _ us hl => match us, hl with | [_, _, _], _ => rfl
  have A14 : Has K mg "table_in" sTableIn ["store", "rows", "place"] f14 _ := ⟨F14, PySem.W.mg_of X G a14, b14⟩
  have F15 := fun_mk (st := sGraphOf) l15 c15 k15
  have b15 := F15.binds (ps := ["rows"]) fun _ _ _ _ _ _ us hl => match us, hl with | [_], _ => rfl
  have A15 : Has K mg "graph_of_table" sGraphOf ["rows"] f15 _ := ⟨F15, PySem.W.mg_of X G a15, b15⟩
  have F16 := fun_mk (st := sCellAt) l16 c16 k16
  have b16 := F16.binds (ps := ["_law_script", "_law_k"]) fun _ _ _ _ _ _ us hl => match us, hl with | [_, _], _ => rfl
  have A16 : Has K mg "_law_cell_at" sCellAt ["_law_script", "_law_k"] f16 _ := ⟨F16, PySem.W.mg_of X G a16, b16⟩
  have F17 := fun_mk (st := sMixed) l17 c17 k17
  have b17 := F17.binds (ps := ["_law_cell", "_law_k", "_law_many"]) fun _ _ _ _ _ _ us hl => match us, hl with | [_, _, _], _ => rfl
  have A17 : Has K mg "_law_mixed" sMixed ["_law_cell", "_law_k", "_law_many"] f17 _ := ⟨F17, PySem.W.mg_of X G a17, b17⟩
  have F18 := fun_mk (st := sLeaf) l18 c18 k18
  have b18 := F18.binds (ps := ["_law_cell", "_law_many"]) fun _ _ _ _ _ _ us hl => match us, hl with | [_, _], _ => rfl
  have A18 : Has K mg "_law_leaf" sLeaf ["_law_cell", "_law_many"] f18 _ := ⟨F18, PySem.W.mg_of X G a18, b18⟩
  have F19 := fun_mk (st := sFormBy) l19 c19 k19
  have b19 := F19.binds (ps := ["_law_cells", "_law_many"]) fun _ _ _ _ _ _ us hl => match us, hl with | [_, _], _ => rfl
  have A19 : Has K mg "_law_form_by" sFormBy ["_law_cells", "_law_many"] f19 _ := ⟨F19, PySem.W.mg_of X G a19, b19⟩
  have F20 := fun_mk (st := sTruth) l20 c20 k20
  have b20 := F20.binds (ps := ["_law_form", "_law_row_here"]) fun _ _ _ _ _ _ us hl => match us, hl with | [_, _], _ => rfl
  have A20 : Has K mg "_law_truth" sTruth ["_law_form", "_law_row_here"] f20 _ := ⟨F20, PySem.W.mg_of X G a20, b20⟩
  have F21 := fun_mk (st := sCount) l21 c21 k21
  have b21 := F21.binds (ps := ["_law_many"]) fun _ _ _ _ _ _ us hl => match us, hl with | [_], _ => rfl
  have A21 : Has K mg "_law_count" sCount ["_law_many"] f21 _ := ⟨F21, PySem.W.mg_of X G a21, b21⟩
  have F22 := fun_mk (st := sRowOf) l22 c22 k22
  have b22 := F22.binds (ps := ["_law_number", "_law_many"]) fun _ _ _ _ _ _ us hl => match us, hl with | [_, _], _ => rfl
  have A22 : Has K mg "_law_row_of" sRowOf ["_law_number", "_law_many"] f22 _ := ⟨F22, PySem.W.mg_of X G a22, b22⟩
  have F23 := fun_mk (st := sLike) l23 c23 k23
  have b23 := F23.binds (ps := ["_law_form", "_law_cell"]) fun _ _ _ _ _ _ us hl => match us, hl with | [_, _], _ => rfl
  have A23 : Has K mg "_law_like" sLike ["_law_form", "_law_cell"] f23 _ := ⟨F23, PySem.W.mg_of X G a23, b23⟩
  have F24 := fun_mk (st := sValues) l24 c24 k24
  have b24 := F24.binds (ps := ["_law_form", "_law_many"]) fun _ _ _ _ _ _ us hl => match us, hl with | [_, _], _ => rfl
  have A24 : Has K mg "_law_values" sValues ["_law_form", "_law_many"] f24 _ := ⟨F24, PySem.W.mg_of X G a24, b24⟩
  have F25 := fun_mk (st := sLaw) l25 c25 k25
  have M : Mk K C f1 := ⟨mk, a1, i1, kc⟩
  refine ⟨PySem.W.fnOf "law" "law" (defArgs sLaw) (defBody sLaw) (defScope sLaw) .none kV25 dc25 pm25 an25 cd25 ct25, fun s v => .of_eq rfl, fun base _ _ => ?_⟩
  have gJ := ok_joined (P := l.prog) (w := w) (base := base) A9 T A2 A3 A4 A8 JF
  have gN := ok_number (P := l.prog) (w := w) (base := base) A10 T A9 A4 gJ 40
  have gO := ok_ordered (P := l.prog) (w := w) (base := base) A12 T A11
  have gG := ok_graph (P := l.prog) (w := w) (base := base) A13 T M A1 A10 A12 gN gO
  have gP := ok_places (P := l.prog) (w := w) (base := base) A6 T A5
  have gH := ok_half (P := l.prog) (w := w) (base := base) A7 T A5 A6
  have gT := ok_table (P := l.prog) (w := w) (base := base) A14 T A7 A4 gH 11
  have gGT := ok_graphOf (P := l.prog) (w := w) (base := base) A15 T M A1 A6 A12 A14 gP gO gT
  have gA := ok_cellAt (P := l.prog) (w := w) (base := base) A16 T
  have gL := ok_leaf (P := l.prog) (w := w) (base := base) A18 A17
  have gB' := ok_formBy (P := l.prog) (w := w) (base := base) A19 T A18 gL
  have gTr := ok_truth (P := l.prog) (w := w) (base := base) A20 40
  have gV := ok_values (P := l.prog) (w := w) (base := base) A24 T A20 A22 A21 gTr
  have gK := ok_like (P := l.prog) (w := w) (base := base) A23 11
  exact ok_law F25 T A16 A19 A23 A24 A13 A15 gA gB' gK gV gG gGT
theorem walk {l : PySem.W.OpenLaw} {q : Program} {loose : List Str} {XP : (Str → Option Value) → Heap → Prop} {YP : World → Heap → Prop} {d : DefRec} {K : Params → PySem.W.Frag} (hn : l.most = some 63) (hdf : d.params.defaults = [])
    (hY : ∀ (w : World) (h : Heap), YP w h → (K w.params).In h)
    (F : ∀ (w : World) (mg : Str → Option Value) (fa : Addr) (h : Heap), (K w.params).In h → h.Ns mainGlobals mg → mg d.name = some (.ref fa) →
      ∃ fd : FuncData, (∀ (s : Shared) (u : Value), BindsTo s fd ⟨[u], []⟩ [("_law_script", u)]) ∧ ∀ base : Heap, (K w.params).In base → base.Ns mainGlobals mg → FnOk l.prog w (K w.params) mg base CX0 54 fa fd ["_law_script"] (spLaw (K w.params))) :
    PySem.W.WalkO q loose XP YP l.row.toRowW d [] (fun f vs => PySem.call f vs) :=
  L2.walk_of (n := 63) (k := 54) (x := "_law_script") (CX := fun _ => CX0) (sp := fun w => spLaw (K w.params)) hn (by decide) hdf ⟨rfl, by decide, by decide⟩ hY F (fun _ _ a ns hl _ hS => ⟨a, ns, rfl, hS, hl, fun _ => rfl⟩) fun _ _ _ _ _ z => z
end Wk
open PySem PySem.W PyProof.Rows in
set_option maxRecDepth 100000 in
set_option maxHeartbeats 0 in
theorem PySem.Challenge.cw_circuits_k28_whole_one_graph_holds : PySem.Challenge.rw_circuits_k28_whole_one_graph.Holds := by
  w_on; o_law; k_head; (case hw => w_witness2)
  k_fill
  refine Wk.walk (l := PySem.Challenge.rw_circuits_k28_whole_one_graph) rfl rfl (fun w h Y => PySem.W.kIn_of Y) ?F
  case F =>
    intro w mg fa h KX G hmg
    refine' Wk.all_mk KX G hmg ?aC ?a1 ?i1 ?l1 ?c1 ?k1 ?a2 ?i2 ?l2 ?c2 ?k2 ?a3 ?i3 ?l3 ?c3 ?k3 ?a4 ?i4 ?l4 ?c4 ?k4 ?a5 ?l5 ?c5 ?k5 ?a6 ?l6 ?c6 ?k6 ?a7 ?l7 ?c7 ?k7 ?a8 ?l8 ?c8 ?k8 ?a9 ?l9 ?c9 ?k9 ?a10 ?l10 ?c10 ?k10 ?a11 ?l11 ?c11 ?k11 ?a12 ?l12 ?c12 ?k12 ?a13 ?l13 ?c13 ?k13 ?a14 ?l14 ?c14 ?k14 ?a15 ?l15 ?c15 ?k15 ?a16 ?l16 ?c16 ?k16 ?a17 ?l17 ?c17 ?k17 ?a18 ?l18 ?c18 ?k18 ?a19 ?l19 ?c19 ?k19 ?a20 ?l20 ?c20 ?k20 ?a21 ?l21 ?c21 ?k21 ?a22 ?l22 ?c22 ?k22 ?a23 ?l23 ?c23 ?k23 ?a24 ?l24 ?c24 ?k24 ?a25 ?l25 ?c25 ?k25 ?pg ?hd ?po ?sa ?mk ?kc ?nN ?nK ?gB ?gM ?z1 ?z2 ?z3 ?z4 ?z5 ?z6 ?z7
    (case aC => k_is); (case a1 => k_is); (case i1 => k_is); (case l1 => k_is); (case c1 => k_is); (case k1 => k_is)
    (case a2 => k_is); (case i2 => k_is); (case l2 => k_is); (case c2 => k_is); (case k2 => k_is); (case a3 => k_is)
    (case i3 => k_is); (case l3 => k_is); (case c3 => k_is); (case k3 => k_is); (case a4 => k_is); (case i4 => k_is)
    (case l4 => k_is); (case c4 => k_is); (case k4 => k_is); (case a5 => k_is); (case l5 => k_is); (case c5 => k_is)
    (case k5 => k_is); (case a6 => k_is); (case l6 => k_is); (case c6 => k_is); (case k6 => k_is); (case a7 => k_is)
    (case l7 => k_is); (case c7 => k_is); (case k7 => k_is); (case a8 => k_is); (case l8 => k_is); (case c8 => k_is)
    (case k8 => k_is); (case a9 => k_is); (case l9 => k_is); (case c9 => k_is); (case k9 => k_is); (case a10 => k_is)
    (case l10 => k_is); (case c10 => k_is); (case k10 => k_is); (case a11 => k_is); (case l11 => k_is); (case c11 => k_is)
    (case k11 => k_is); (case a12 => k_is); (case l12 => k_is); (case c12 => k_is); (case k12 => k_is); (case a13 => k_is)
    (case l13 => k_is); (case c13 => k_is); (case k13 => k_is); (case a14 => k_is); (case l14 => k_is); (case c14 => k_is)
    (case k14 => k_is); (case a15 => k_is); (case l15 => k_is); (case c15 => k_is); (case k15 => k_is); (case a16 => k_is)
    (case l16 => k_is); (case c16 => k_is); (case k16 => k_is); (case a17 => k_is); (case l17 => k_is); (case c17 => k_is)
    (case k17 => k_is); (case a18 => k_is); (case l18 => k_is); (case c18 => k_is); (case k18 => k_is); (case a19 => k_is)
    (case l19 => k_is); (case c19 => k_is); (case k19 => k_is); (case a20 => k_is); (case l20 => k_is); (case c20 => k_is)
    (case k20 => k_is); (case a21 => k_is); (case l21 => k_is); (case c21 => k_is); (case k21 => k_is); (case a22 => k_is)
    (case l22 => k_is); (case c22 => k_is); (case k22 => k_is); (case a23 => k_is); (case l23 => k_is); (case c23 => k_is)
    (case k23 => k_is); (case a24 => k_is); (case l24 => k_is); (case c24 => k_is); (case k24 => k_is); (case a25 => k_is)
    (case l25 => k_is); (case c25 => k_is); (case k25 => k_is); (case pg => k_is); (case hd => k_is); (case po => k_is)
    (case sa => k_is); (case mk => k_is); (case kc => k_is); (case nN => k_is); (case nK => k_is); (case gB => k_is)
    (case gM => k_is); (case z1 => k_is); (case z2 => k_is); (case z3 => k_is); (case z4 => k_is); (case z5 => k_is)
    (case z6 => k_is); (case z7 => k_is)
#print axioms PySem.Challenge.cw_circuits_k28_whole_one_graph_holds
