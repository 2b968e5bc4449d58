import PyProof.Rows.All
import Wide.All
import OpenK.AllK
import Wide.FinOn
import HandS.ForMost
import HandS.Exc
import HandS.TryOnly
import HandS.ExcOwn
import HandS.CallSlots
import HandS.Wide
import HandS.TupAny
import HandS.TupMul
import HandS.Style
import HandS.Deep
import KE.SortData
import KE.DataMinMax
import KE.DataCmp
import HandS.SortInts
import HandS.IsInst
import HandS.Conv
import HandS.TupLe
import HandS.Strs
import HandS.WordsDict
import HandS.SetFor
import HandS.More
import HandS.Zip
import HandS.Iter
import KE.GoesMore
import KE.GoesEnum
import KE.KDictZip
import HandS.CallLocal
import HandS.WordsExc
import HandS.Flow
import HandS.EndBits
import PySem.Challenge.RW_countedbypapers_k16_whole_permutations
set_option Elab.async false
set_option linter.all false
set_option maxRecDepth 100000
set_option maxHeartbeats 1000000
/-! Ev1: data as trees, a small heap of lists and dicts, how they stand in the hand layer's heap. -/
namespace Ev
open PySem PySem.Spec PyProof.Rows L2
noncomputable section

inductive D where
  | und | non | bl (b : Bool) | int (i : Int) | str (x : Str) | tup (xs : List D) | ref (n : Nat) | fn (f : Nat) | ty (t : Nat) | scr | frl (xs : List D)
inductive O where
  | lst (xs : List D) | dic (kvs : List (Key × D)) | dil (kvs : List (Key × D)) | dit (kvs : List (List Key × D)) | tape (c : Nat) | hid
/-- a heap's objects by number, in a tree: 0 at the top, odd numbers left, even ones right -/
inductive T where
  | e
  | n (o : Option O) (l r : T)
def T.get (t : T) : Nat → Option O := T.rec (fun _ => none) (fun o _ _ il ir i => Nat.rec o (fun j _ => Nat.rec (il (Nat.div j 2)) (fun _ _ => ir (Nat.div j 2)) (Nat.mod j 2)) i) t
def T.set (t : T) : Nat → O → T := T.rec (fun _ x => .n (some x) .e .e) (fun o l r il ir i x => Nat.rec (.n (some x) l r) (fun j _ => Nat.rec (.n o (il (Nat.div j 2) x) r) (fun _ _ => .n o l (ir (Nat.div j 2) x)) (Nat.mod j 2)) i) t
structure M where
  rn : Nat
  n : Nat
  t : T
  tk : Nat
abbrev Env := List D
/-- the built-in classes that a test of kind names -/
def tyName : Nat → String
  | 0 => "int" | 1 => "bool" | 2 => "str" | 3 => "tuple" | 4 => "list" | _ => "dict"
def M.get (m : M) (i : Nat) : Option O := @Bool.rec (fun _ => Option O) none (T.get m.t i) (Nat.ble (Nat.succ i) m.n)
def M.alloc (m : M) (o : O) : M := ⟨m.rn, Nat.succ m.n, T.set m.t m.n o, m.tk⟩
def M.set (m : M) (i : Nat) (o : O) : M := ⟨m.rn, m.n, T.set m.t i o, m.tk⟩
theorem T.get_succ {o : Option O} {l r : T} {j : Nat} : T.get (.n o l r) (j + 1) = match j % 2 with | 0 => T.get l (j / 2) | _ + 1 => T.get r (j / 2) := by
  show (Nat.rec (T.get l (j / 2)) (fun _ _ => T.get r (j / 2)) (j % 2) : Option O) = _
  cases j % 2 <;> rfl
theorem T.set_succ {o : Option O} {l r : T} {j : Nat} {x : O} : T.set (.n o l r) (j + 1) x = match j % 2 with | 0 => .n o (T.set l (j / 2) x) r | _ + 1 => .n o l (T.set r (j / 2) x) := by
  show (Nat.rec (T.n o (T.set l (j / 2) x) r) (fun _ _ => T.n o l (T.set r (j / 2) x)) (j % 2) : T) = _
  cases j % 2 <;> rfl
/-- the way to a number is there -/
def T.path : T → Nat → Prop
  | .e, i => i = 0
  | .n _ l r, i => match i with
    | 0 => True
    | j + 1 => match j % 2 with | 0 => T.path l (j / 2) | _ + 1 => T.path r (j / 2)
theorem T.path_of : ∀ (t : T) (i : Nat), (∀ j, j < i → ∃ o, T.get t j = some o) → T.path t i
  | .e, i, h => by
    cases i with
    | zero => rfl
    | succ i => obtain ⟨o, e⟩ := h 0 (Nat.succ_pos i); cases e
  | .n o l r, 0, h => trivial
  | .n o l r, j + 1, h => by
    unfold T.path
    dsimp only
    split
    · rename_i e
      refine T.path_of l _ fun k hk => ?_
      have := h (2 * k + 1) (by omega)
      rw [T.get_succ, show 2 * k % 2 = 0 by omega, show 2 * k / 2 = k by omega] at this
      exact this
    · rename_i q e
      refine T.path_of r _ fun k hk => ?_
      have := h (2 * k + 1 + 1) (by omega)
      rw [T.get_succ, show (2 * k + 1) % 2 = 1 by omega, show (2 * k + 1) / 2 = k by omega] at this
      exact this
theorem T.set_same : ∀ (t : T) (i : Nat) (x : O), T.path t i → T.get (T.set t i x) i = some x
  | .e, i, x, h => by
    have h : i = 0 := h
    subst h; rfl
  | .n o l r, 0, x, h => rfl
  | .n o l r, j + 1, x, h => by
    unfold T.path at h
    dsimp only at h
    rw [T.set_succ]
    split at h
    · rename_i e
      rw [T.get_succ, e]
      exact T.set_same l _ x h
    · rename_i q e
      rw [T.get_succ, e]
      exact T.set_same r _ x h
theorem T.set_other : ∀ (t : T) (i j : Nat) (x : O), T.path t i → j ≠ i → T.get (T.set t i x) j = T.get t j
  | .e, i, j, x, h, ne => by
    have h : i = 0 := h
    subst h
    cases j with
    | zero => exact absurd rfl ne
    | succ j =>
      show T.get (.n (some x) .e .e) (j + 1) = none
      rw [T.get_succ]
      split <;> rfl
  | .n o l r, 0, j, x, h, ne => by
    cases j with
    | zero => exact absurd rfl ne
    | succ j =>
      show T.get (.n (some x) l r) (j + 1) = _
      rw [T.get_succ, T.get_succ]
  | .n o l r, i + 1, j, x, h, ne => by
    unfold T.path at h
    dsimp only at h
    rw [T.set_succ]
    cases j with
    | zero => split <;> rfl
    | succ j =>
      split at h
      · rename_i e
        rw [T.get_succ, T.get_succ]
        split
        · rename_i e2
          exact T.set_other l _ _ x h (by omega)
        · rfl
      · rename_i q e
        rw [T.get_succ, T.get_succ]
        split
        · rfl
        · rename_i q2 e2
          exact T.set_other r _ _ x h (by omega)

/-- the program's written part: defs and classes by number -/
structure Wd where
  K : PySem.W.Frag
  FT : Nat → Option Addr
  cls : Nat → Value

/-- a list that stays as it is -/
def SqF (K : PySem.W.Frag) (H : Hp) (a : Addr) (xs : List V) : Prop := (∃ o, H a = some (.frz o (.lst xs))) ∨
    ∃ (o : Obj) (its : Array Value) (n : Nat), K.lookup a = some o ∧ o.cls = .type "list" ∧ o.dict = none ∧ o.data = .seq its n ∧ its.size ≤ sizeLine ∧ Vals xs its.toList
theorem SqF.sq {K : PySem.W.Frag} {H : Hp} {a : Addr} {xs : List V} (h : SqF K H a xs) : SqL K H a xs := by
  rcases h with ⟨o, h⟩ | h
  · exact .inl (.inr ⟨o, h⟩)
  · exact .inr h
section
variable (Z : Wd) (μ : Nat → Addr) (n : Nat) (H : Hp)
mutual
inductive Rep : D → V → Prop
  | non : Rep .non .non
  | bl {b} : Rep (.bl b) (.bl b)
  | int {i} : Rep (.int i) (.int i)
  | str {x} : Rep (.str x) (.str x)
  | tup {a vs xs} : SqT Z.K H a vs → Reps xs vs → Rep (.tup xs) (.ref a)
  | ref {i} : i < n → Rep (.ref i) (.ref (μ i))
  | fn {f a} : Z.FT f = some a → Rep (.fn f) (.ref a)
  | ty {t} : Rep (.ty t) (.ty (tyName t))
  | scr {a} {cells : List Int} : SqF Z.K H a (cells.map V.int) → cells.length ≤ 63 → Rep .scr (.ref a)
  | frl {a vs xs} : SqF Z.K H a vs → Reps xs vs → Rep (.frl xs) (.ref a)
inductive Reps : List D → List V → Prop
  | nil : Reps [] []
  | cons {x v xs vs} : Rep x v → Reps xs vs → Reps (x :: xs) (v :: vs)
end
end

/-- what may have become of the heap: numbers keep their places, tuples stay -/
structure Le (μ : Nat → Addr) (n : Nat) (H : Hp) (μ' : Nat → Addr) (n' : Nat) (H' : Hp) : Prop where
  le : n ≤ n'
  eq : ∀ i, i < n → μ' i = μ i
  tup : ∀ a u, H a = some (.tup u) → H' a = some (.tup u)
  frz : ∀ a o u, H a = some (.frz o u) → H' a = some (.frz o u)
section
variable {Z : Wd} {μ μ' μ'' : Nat → Addr} {n n' n'' : Nat} {H H' H'' : Hp}
theorem Le.refl : Le μ n H μ n H := ⟨Nat.le_refl _, fun _ _ => rfl, fun _ _ h => h, fun _ _ _ h => h⟩
theorem Le.trans (a : Le μ n H μ' n' H') (b : Le μ' n' H' μ'' n'' H'') : Le μ n H μ'' n'' H'' :=
  ⟨Nat.le_trans a.le b.le, fun i h => (b.eq i (Nat.lt_of_lt_of_le h a.le)).trans (a.eq i h), fun x u h => b.tup x u (a.tup x u h), fun x o u h => b.frz x o u (a.frz x o u h)⟩
theorem Le.sqT (l : Le μ n H μ' n' H') {K : PySem.W.Frag} {a : Addr} {vs : List V} (h : SqT K H a vs) : SqT K H' a vs := by
  rcases h with (h | ⟨o, h⟩) | h
  · exact .inl (.inl (l.tup _ _ h))
  · exact .inl (.inr ⟨o, l.frz _ _ _ h⟩)
  · exact .inr h
theorem Le.sqF (l : Le μ n H μ' n' H') {K : PySem.W.Frag} {a : Addr} {vs : List V} (h : SqF K H a vs) : SqF K H' a vs := by
  rcases h with ⟨o, h⟩ | h
  · exact .inl ⟨o, l.frz _ _ _ h⟩
  · exact .inr h
theorem Le.sqL_frz (l : Le μ n H μ' n' H') {a : Addr} {o : Obj} {u : HO} (h : H a = some (.frz o u)) : H' a = some (.frz o u) := l.frz _ _ _ h
mutual
theorem Rep.mono (l : Le μ n H μ' n' H') : ∀ {d : D} {v : V}, Rep Z μ n H d v → Rep Z μ' n' H' d v
  | _, _, .non => .non
  | _, _, .bl => .bl
  | _, _, .int => .int
  | _, _, .str => .str
  | _, _, .tup h hs => .tup (l.sqT h) (Reps.mono l hs)
  | _, _, .ref h => by rw [← l.eq _ h]; exact .ref (Nat.lt_of_lt_of_le h l.le)
  | _, _, .fn h => .fn h
  | _, _, .ty => .ty
  | _, _, .scr h hl => .scr (l.sqF h) hl
  | _, _, .frl h hs => .frl (l.sqF h) (Reps.mono l hs)
theorem Reps.mono (l : Le μ n H μ' n' H') : ∀ {ds : List D} {vs : List V}, Reps Z μ n H ds vs → Reps Z μ' n' H' ds vs
  | _, _, .nil => .nil
  | _, _, .cons h hs => .cons (Rep.mono l h) (Reps.mono l hs)
end
theorem Reps.length : ∀ {ds : List D} {vs : List V}, Reps Z μ n H ds vs → ds.length = vs.length
  | _, _, .nil => rfl
  | _, _, .cons _ hs => by rw [List.length_cons, List.length_cons, Reps.length hs]
theorem Reps.get : ∀ {ds : List D} {vs : List V} {i : Nat} {d : D}, Reps Z μ n H ds vs → ds[i]? = some d → ∃ v, vs[i]? = some v ∧ Rep Z μ n H d v
  | _, _, _, _, .nil, e => by simp at e
  | _, _, 0, _, .cons h _, e => by simp at e; subst e; exact ⟨_, rfl, h⟩
  | _, _, i + 1, d, .cons _ hs, e => by
    obtain ⟨v, h1, h2⟩ := Reps.get (i := i) hs (by simpa using e)
    exact ⟨v, by simpa using h1, h2⟩
theorem Reps.get' : ∀ {ds : List D} {vs : List V} {i : Nat} {v : V}, Reps Z μ n H ds vs → vs[i]? = some v → ∃ d, ds[i]? = some d ∧ Rep Z μ n H d v
  | _, _, _, _, .nil, e => by simp at e
  | _, _, 0, _, .cons h _, e => by simp at e; subst e; exact ⟨_, rfl, h⟩
  | _, _, i + 1, d, .cons _ hs, e => by
    obtain ⟨v, h1, h2⟩ := Reps.get' (i := i) hs (by simpa using e)
    exact ⟨v, by simpa using h1, h2⟩
theorem Reps.append : ∀ {ds es : List D} {vs ws : List V}, Reps Z μ n H ds vs → Reps Z μ n H es ws → Reps Z μ n H (ds ++ es) (vs ++ ws)
  | _, _, _, _, .nil, h => h
  | _, _, _, _, .cons h hs, h2 => .cons h (Reps.append hs h2)
theorem Reps.set {d : D} {v : V} (h : Rep Z μ n H d v) : ∀ {ds : List D} {vs : List V} (i : Nat), Reps Z μ n H ds vs → Reps Z μ n H (ds.set i d) (vs.set i v)
  | _, _, _, .nil => .nil
  | _, _, 0, .cons _ hs => .cons h hs
  | _, _, i + 1, .cons h1 hs => .cons h1 (Reps.set h i hs)
theorem Reps.take : ∀ {ds : List D} {vs : List V} (i : Nat), Reps Z μ n H ds vs → Reps Z μ n H (ds.take i) (vs.take i)
  | _, _, 0, _ => .nil
  | _, _, _ + 1, .nil => .nil
  | _, _, i + 1, .cons h hs => .cons h (Reps.take i hs)
theorem Reps.drop : ∀ {ds : List D} {vs : List V} (i : Nat), Reps Z μ n H ds vs → Reps Z μ n H (ds.drop i) (vs.drop i)
  | _, _, 0, h => h
  | _, _, _ + 1, .nil => .nil
  | _, _, i + 1, .cons _ hs => Reps.drop i hs
theorem Reps.eraseIdx : ∀ {ds : List D} {vs : List V} (i : Nat), Reps Z μ n H ds vs → Reps Z μ n H (ds.eraseIdx i) (vs.eraseIdx i)
  | _, _, _, .nil => .nil
  | _, _, 0, .cons _ hs => hs
  | _, _, i + 1, .cons h hs => .cons h (Reps.eraseIdx i hs)
theorem Reps.reverse {ds : List D} {vs : List V} (h : Reps Z μ n H ds vs) : Reps Z μ n H ds.reverse vs.reverse := by
  induction ds generalizing vs with
  | nil => cases h; exact .nil
  | cons d ds ih =>
    cases h with
    | cons h hs =>
      rw [List.reverse_cons, List.reverse_cons]
      exact (ih hs).append (.cons h .nil)
theorem Reps.rep {ds : List D} {vs : List V} (h : Reps Z μ n H ds vs) : ∀ k : Nat, Reps Z μ n H (List.replicate k ds).flatten (List.replicate k vs).flatten
  | 0 => .nil
  | k + 1 => by rw [List.replicate_succ, List.flatten_cons, List.replicate_succ, List.flatten_cons]; exact h.append (Reps.rep h k)
theorem Reps.single {d : D} {v : V} (h : Rep Z μ n H d v) : Reps Z μ n H [d] [v] := .cons h .nil
end

inductive KReps {κ : Type} (R : D → V → Prop) : List (κ × D) → List (κ × V) → Prop
  | nil : KReps R [] []
  | cons {k d v ks vs} : R d v → KReps R ks vs → KReps R ((k, d) :: ks) ((k, v) :: vs)
theorem KReps.mono {κ : Type} {R R' : D → V → Prop} (f : ∀ d v, R d v → R' d v) : ∀ {ks : List (κ × D)} {vs : List (κ × V)}, KReps R ks vs → KReps R' ks vs
  | _, _, .nil => .nil
  | _, _, .cons h hs => .cons (f _ _ h) (KReps.mono f hs)
theorem KReps.length {κ : Type} {R : D → V → Prop} : ∀ {ks : List (κ × D)} {vs : List (κ × V)}, KReps R ks vs → ks.length = vs.length
  | _, _, .nil => rfl
  | _, _, .cons _ hs => by rw [List.length_cons, List.length_cons, KReps.length hs]

/-- the tape behind a law's draws: its dict, as it stands -/
def tapeKvs (c : Addr) (at' left seed salt : Int) : List (Key × V) :=
  [(.inr "cells", .ref c), (.inr "at", .int at'), (.inr "left", .int left), (.inr "seed", .int seed), (.inr "salt", .int salt)]
def TapeOk (cells : List Int) (at' left seed salt : Int) : Prop :=
  cells.length ≤ 63 ∧ 0 ≤ at' ∧ 0 ≤ seed ∧ seed < 2147483647 ∧ 0 ≤ salt
section
variable (Z : Wd) (μ : Nat → Addr) (n : Nat) (tk : Nat) (H : Hp)
def OHas (a : Addr) : O → Prop
  | .lst xs => ∃ vs, H a = some (.lst vs) ∧ Reps Z μ n H xs vs
  | .dic kvs => ∃ ws, H a = some (.dK ws) ∧ KReps (Rep Z μ n H) kvs ws
  | .dil kvs => ∃ ws o, H a = some (.frz o (.dK ws)) ∧ KReps (Rep Z μ n H) kvs ws
  | .dit kvs => ∃ ws, H a = some (.dT ws) ∧ KReps (Rep Z μ n H) kvs ws
  | .hid => ∃ cells : List Int, H a = some (.lst (cells.map V.int)) ∧ cells.length ≤ 63
  | .tape c => c < n ∧ ∃ (cells : List Int) (at' left seed salt : Int), H a = some (.dK (tapeKvs (μ c) at' left seed salt)) ∧ H (μ c) = some (.lst (cells.map V.int)) ∧ TapeOk cells at' left seed salt ∧ salt ≤ (tk : Int)
end
structure Sim (Z : Wd) (μ : Nat → Addr) (m : M) (H : Hp) : Prop where
  len : m.rn ≤ m.n
  rlen : ∀ i, i < m.n → ∃ o, T.get m.t i = some o
  inj : ∀ i j, i < m.n → j < m.n → μ i = μ j → i = j
  obj : ∀ i o, m.get i = some o → OHas Z μ m.n m.tk H (μ i) o
  tap : ∀ i c, m.get i = some (.tape c) → m.get c = some .hid
/-- from one state to a later one -/
structure Lt (μ : Nat → Addr) (m : M) (H : Hp) (μ' : Nat → Addr) (m' : M) (H' : Hp) : Prop extends Le μ m.n H μ' m'.n H' where
  rn : m'.rn = m.rn
  ro : ∀ i, i < m.rn → m'.get i = m.get i
  oth : ∀ a o, H a = some o → (∀ i, i < m.n → μ i ≠ a) → H' a = some o ∧ ∀ i, i < m'.n → μ' i ≠ a
section
variable {Z : Wd} {μ μ' μ'' : Nat → Addr} {m m' m'' : M} {H H' H'' : Hp}
theorem Lt.refl : Lt μ m H μ m H := ⟨.refl, rfl, fun _ _ => rfl, fun _ _ e n => ⟨e, n⟩⟩
theorem Lt.trans (a : Lt μ m H μ' m' H') (b : Lt μ' m' H' μ'' m'' H'') : Lt μ m H μ'' m'' H'' := ⟨a.toLe.trans b.toLe, b.rn.trans a.rn, fun i hi => (b.ro i (by rw [a.rn]; exact hi)).trans (a.ro i hi), fun x o e n => let ⟨e1, n1⟩ := a.oth x o e n; b.oth x o e1 n1⟩
theorem M.get_lt {i : Nat} (h : i < m.n) : m.get i = T.get m.t i := by
  unfold M.get
  rw [show Nat.ble (Nat.succ i) m.n = true from Nat.ble_eq_true_of_le h]
theorem M.get_some {i : Nat} {o : O} (h : m.get i = some o) : i < m.n ∧ T.get m.t i = some o := by
  unfold M.get at h
  cases e : Nat.ble (Nat.succ i) m.n with
  | true =>
    rw [e] at h
    exact ⟨Nat.le_of_ble_eq_true e, h⟩
  | false => rw [e] at h; cases h
theorem Sim.isSome (S : Sim Z μ m H) {a : Addr} {i : Nat} {o : O} (h : m.get i = some o) (ea : a = μ i) : ∃ ho, H a = some ho := by
  subst ea
  have q := S.obj i o h
  cases o with
  | lst xs => obtain ⟨_, q, _⟩ := q; exact ⟨_, q⟩
  | dic xs => obtain ⟨_, q, _⟩ := q; exact ⟨_, q⟩
  | dil xs => obtain ⟨_, _, q, _⟩ := q; exact ⟨_, q⟩
  | dit xs => obtain ⟨_, q, _⟩ := q; exact ⟨_, q⟩
  | hid => obtain ⟨_, q, _⟩ := q; exact ⟨_, q⟩
  | tape c => obtain ⟨_, _, _, _, _, _, q, _⟩ := q; exact ⟨_, q⟩
theorem Sim.all (S : Sim Z μ m H) {i : Nat} (h : i < m.n) : ∃ o, m.get i = some o := by
  obtain ⟨o, e⟩ := S.rlen i h
  exact ⟨o, by rw [M.get_lt h]; exact e⟩
theorem Sim.path (S : Sim Z μ m H) {i : Nat} (h : i ≤ m.n) : T.path m.t i := T.path_of _ _ fun j hj => S.rlen j (Nat.lt_of_lt_of_le hj h)
/-- an address without an object is no place of ours -/
theorem Sim.ne_fresh (S : Sim Z μ m H) {p : Addr} (hp : H p = none) {i : Nat} (h : i < m.n) : μ i ≠ p := by
  obtain ⟨o, e⟩ := S.all h
  obtain ⟨ho, q⟩ := S.isSome e rfl
  intro z
  rw [z, hp] at q; cases q

def ext (μ : Nat → Addr) (n : Nat) (p : Addr) : Nat → Addr := fun i => if i = n then p else μ i
theorem ext_lt {n i : Nat} {p : Addr} (h : i < n) : ext μ n p i = μ i := by unfold ext; rw [if_neg (by omega)]
theorem ext_eq {n : Nat} {p : Addr} : ext μ n p n = p := by unfold ext; rw [if_pos rfl]
theorem get_alloc (S : Sim Z μ m H) {o o' : O} {i : Nat} (h : (m.alloc o).get i = some o') : (i = m.n ∧ o' = o) ∨ (i < m.n ∧ m.get i = some o') := by
  obtain ⟨h1, h2⟩ := M.get_some h
  have h1 : i < m.n + 1 := h1
  have h2 : T.get (T.set m.t m.n o) i = some o' := h2
  by_cases e : i = m.n
  · subst e
    rw [T.set_same _ _ _ (S.path (Nat.le_refl _))] at h2
    injection h2 with h2
    exact .inl ⟨rfl, h2.symm⟩
  · have hlt : i < m.n := by omega
    rw [T.set_other _ _ _ _ (S.path (Nat.le_refl _)) e] at h2
    exact .inr ⟨hlt, by rw [M.get_lt hlt]; exact h2⟩
theorem alloc_get (S : Sim Z μ m H) {o : O} {i : Nat} (h : i < m.n) : (m.alloc o).get i = m.get i := by
  rw [M.get_lt h, M.get_lt (m := m.alloc o) (show i < m.n + 1 by omega)]
  exact T.set_other _ _ _ _ (S.path (Nat.le_refl _)) (by omega)
theorem alloc_new (S : Sim Z μ m H) {o : O} : (m.alloc o).get m.n = some o := by
  rw [M.get_lt (m := m.alloc o) (show m.n < m.n + 1 by omega)]
  exact T.set_same _ _ _ (S.path (Nat.le_refl _))
theorem alloc_all (S : Sim Z μ m H) {o : O} (i : Nat) (h : i < (m.alloc o).n) : ∃ o', T.get (m.alloc o).t i = some o' := by
  have h : i < m.n + 1 := h
  by_cases e : i = m.n
  · subst e
    exact ⟨o, T.set_same _ _ _ (S.path (Nat.le_refl _))⟩
  · obtain ⟨o', q⟩ := S.rlen i (by omega)
    exact ⟨o', by rw [← q]; exact T.set_other _ _ _ _ (S.path (Nat.le_refl _)) e⟩
/-- H is kept where it stands -/
def Kp (H H' : Hp) : Prop := ∀ a o, H a = some o → H' a = some o
theorem kp_upd {p : Addr} {ho : HO} (hp : H p = none) : Kp H (upd H p ho) := fun a o e => by rw [upd_ne (ne_of_none e hp)]; exact e
theorem Le.ofKp {n n' : Nat} (k : Kp H H') (l : n ≤ n') (e : ∀ i, i < n → μ' i = μ i) : Le μ n H μ' n' H' := ⟨l, e, fun a u => k a _, fun a o u => k a _⟩
theorem OHas.kp {n n' tk tk' : Nat} (k : Kp H H') (l : n ≤ n') (ht : tk ≤ tk') (e : ∀ i, i < n → μ' i = μ i) {a : Addr} {o : O} (h : OHas Z μ n tk H a o) : OHas Z μ' n' tk' H' a o := by
  have L := Le.ofKp (μ := μ) k l e
  cases o with
  | lst xs => obtain ⟨vs, h, r⟩ := h; exact ⟨vs, k _ _ h, r.mono L⟩
  | dic xs => obtain ⟨vs, h, r⟩ := h; exact ⟨vs, k _ _ h, r.mono fun _ _ => Rep.mono L⟩
  | dil xs => obtain ⟨vs, o, h, r⟩ := h; exact ⟨vs, o, k _ _ h, r.mono fun _ _ => Rep.mono L⟩
  | dit xs => obtain ⟨vs, h, r⟩ := h; exact ⟨vs, k _ _ h, r.mono fun _ _ => Rep.mono L⟩
  | hid => obtain ⟨vs, h, h2⟩ := h; exact ⟨vs, k _ _ h, h2⟩
  | tape c =>
    obtain ⟨hc, cells, a1, a2, a3, a4, h1, h2, ok, hs⟩ := h
    exact ⟨Nat.lt_of_lt_of_le hc l, cells, a1, a2, a3, a4, by rw [e c hc]; exact k _ _ h1, by rw [e c hc]; exact k _ _ h2, ok, by omega⟩
/-- the abstract heap has grown, nothing of ours changed -/
theorem Sim.kp (S : Sim Z μ m H) (k : Kp H H') : Sim Z μ m H' := ⟨S.len, S.rlen, S.inj, fun i o h => (S.obj i o h).kp k (Nat.le_refl _) (Nat.le_refl _) fun _ _ => rfl, S.tap⟩
theorem Lt.kp (k : Kp H H') : Lt μ m H μ m H' := ⟨.ofKp k (Nat.le_refl _) fun _ _ => rfl, rfl, fun _ _ => rfl, fun a o e n => ⟨k a o e, n⟩⟩
theorem Lt.alloc (S : Sim Z μ m H) (k : Kp H H') {o : O} {p : Addr} (hp : H p = none) : Lt μ m H (ext μ m.n p) (m.alloc o) H' := ⟨.ofKp k (Nat.le_succ _) fun _ h => ext_lt h, rfl, fun i hi => alloc_get S (Nat.lt_of_lt_of_le hi S.len), fun a o e n => ⟨k a o e, fun i hi => by
  have hi : i < m.n + 1 := hi
  by_cases h : i = m.n
  · subst h; rw [ext_eq]; exact fun z => by rw [z, e] at hp; cases hp
  · rw [ext_lt (by omega)]; exact n i (by omega)⟩⟩
theorem Sim.alloc (S : Sim Z μ m H) {p : Addr} {ho : HO} {o : O} (hp : H p = none) (ht : ∀ c, o ≠ .tape c) (h : OHas Z (ext μ m.n p) (m.n + 1) m.tk (upd H p ho) p o) : Sim Z (ext μ m.n p) (m.alloc o) (upd H p ho) := by
  refine ⟨Nat.le_succ_of_le S.len, alloc_all S, fun i j hi hj e => ?_, fun i o' g => ?_, fun i c g => ?_⟩
  · have hi : i < m.n + 1 := hi
    have hj : j < m.n + 1 := hj
    by_cases ei : i = m.n
    · by_cases ej : j = m.n
      · omega
      · subst ei
        rw [ext_eq, ext_lt (by omega)] at e
        exact absurd e.symm (S.ne_fresh hp (by omega))
    · by_cases ej : j = m.n
      · subst ej
        rw [ext_eq, ext_lt (by omega)] at e
        exact absurd e (S.ne_fresh hp (by omega))
      · rw [ext_lt (by omega), ext_lt (by omega)] at e
        exact S.inj i j (by omega) (by omega) e
  · show OHas Z (ext μ m.n p) (m.n + 1) m.tk (upd H p ho) (ext μ m.n p i) o'
    rcases get_alloc S g with ⟨rfl, rfl⟩ | ⟨hi, g⟩
    · rw [ext_eq]; exact h
    · rw [ext_lt hi]
      exact (S.obj i o' g).kp (kp_upd hp) (Nat.le_succ _) (Nat.le_refl _) fun _ h => ext_lt h
  · rcases get_alloc S g with ⟨rfl, e⟩ | ⟨hi, g⟩
    · exact absurd e.symm (ht c)
    · have g2 := S.tap i c g
      rw [alloc_get S (M.get_some g2).1]; exact g2
theorem get_set (S : Sim Z μ m H) {o o' : O} {i j : Nat} (hj : j < m.n) (h : (m.set i o).get j = some o') (hi : i < m.n) : (j = i ∧ o' = o) ∨ (j ≠ i ∧ m.get j = some o') := by
  obtain ⟨h1, h2⟩ := M.get_some h
  have h2 : T.get (T.set m.t i o) j = some o' := h2
  by_cases e : j = i
  · subst e
    rw [T.set_same _ _ _ (S.path (Nat.le_of_lt hi))] at h2
    injection h2 with h2
    exact .inl ⟨rfl, h2.symm⟩
  · rw [T.set_other _ _ _ _ (S.path (Nat.le_of_lt hi)) e] at h2
    exact .inr ⟨e, by rw [M.get_lt hj]; exact h2⟩
/-- an own object is written -/
theorem Sim.set (S : Sim Z μ m H) {i : Nat} {o₀ o : O} {ho ho' : HO} (g : m.get i = some o₀) (h0 : H (μ i) = some ho') (hnt : ∀ u, ho' ≠ .tup u) (hnf : ∀ x u, ho' ≠ .frz x u) (hr : m.rn ≤ i)
    (h1 : o₀ ≠ .hid) (ht : ∀ c, o = .tape c → o₀ = .tape c) (h2 : ∀ c, o₀ = .tape c → o = .tape c)
    (h : Le μ m.n H μ m.n (upd H (μ i) ho) → OHas Z μ m.n m.tk (upd H (μ i) ho) (μ i) o) : Sim Z μ (m.set i o) (upd H (μ i) ho) ∧ Lt μ m H μ (m.set i o) (upd H (μ i) ho) := by
  obtain ⟨hi, _⟩ := M.get_some g
  have hL : Le μ m.n H μ m.n (upd H (μ i) ho) := ⟨Nat.le_refl _, fun _ _ => rfl, fun a u e => by rw [upd_ne (fun z => by rw [z, h0] at e; cases e; exact hnt _ rfl)]; exact e, fun a x u e => by rw [upd_ne (fun z => by rw [z, h0] at e; cases e; exact hnf _ _ rfl)]; exact e⟩
  have P := S.path (Nat.le_of_lt hi)
  have getj : ∀ j, j ≠ i → (m.set i o).get j = m.get j := fun j hj => by
    unfold M.get M.set
    dsimp only
    rw [T.set_other _ _ _ _ P hj]
  refine ⟨⟨S.len, fun j hj => ?_, S.inj, fun j o' gj => ?_, fun j c gj => ?_⟩, ⟨hL, rfl, fun j hj => getj j (by omega), fun a o e n => ⟨by rw [upd_ne (fun z => n i hi z.symm)]; exact e, n⟩⟩⟩
  · by_cases e : j = i
    · subst e; exact ⟨_, T.set_same _ _ _ P⟩
    · obtain ⟨o', q⟩ := S.rlen j hj
      exact ⟨o', by rw [← q]; exact T.set_other _ _ _ _ P e⟩
  · have hj : j < m.n := (M.get_some gj).1
    show OHas Z μ m.n m.tk (upd H (μ i) ho) (μ j) o'
    rcases get_set S hj gj hi with ⟨rfl, rfl⟩ | ⟨e, gj⟩
    · exact h hL
    · have ne : ∀ k, k < m.n → k ≠ i → μ k ≠ μ i := fun k hk hki z => hki (S.inj k i hk hi z)
      have old := S.obj j o' gj
      cases o' with
      | lst xs => obtain ⟨vs, e1, r⟩ := old; exact ⟨vs, by rw [upd_ne (ne j hj e)]; exact e1, r.mono hL⟩
      | dic xs => obtain ⟨vs, e1, r⟩ := old; exact ⟨vs, by rw [upd_ne (ne j hj e)]; exact e1, r.mono fun _ _ => Rep.mono hL⟩
      | dil xs => obtain ⟨vs, o, e1, r⟩ := old; exact ⟨vs, o, by rw [upd_ne (ne j hj e)]; exact e1, r.mono fun _ _ => Rep.mono hL⟩
      | dit xs => obtain ⟨vs, e1, r⟩ := old; exact ⟨vs, by rw [upd_ne (ne j hj e)]; exact e1, r.mono fun _ _ => Rep.mono hL⟩
      | hid => obtain ⟨vs, e1⟩ := old; exact ⟨vs, by rw [upd_ne (ne j hj e)]; exact e1⟩
      | tape c =>
        obtain ⟨hc, cells, a1, a2, a3, a4, q1, q2, ok⟩ := old
        have hci : c ≠ i := fun z => by
          have := S.tap j c gj
          rw [z, g] at this
          exact h1 (Option.some.inj this)
        exact ⟨hc, cells, a1, a2, a3, a4, by rw [upd_ne (ne j hj e)]; exact q1, by rw [upd_ne (ne c hc hci)]; exact q2, ok⟩
  · have hj : j < m.n := (M.get_some gj).1
    have gc : m.get c = some .hid := by
      rcases get_set S hj gj hi with ⟨rfl, e⟩ | ⟨_, gj⟩
      · exact S.tap j c (by rw [g, ht c e.symm])
      · exact S.tap j c gj
    have hci : c ≠ i := fun z => by rw [z, g] at gc; exact h1 (Option.some.inj gc)
    rw [getj c hci]; exact gc
end
end
end Ev

set_option Elab.async false
set_option linter.all false
set_option maxRecDepth 100000
set_option maxHeartbeats 1000000
/-! Ev2: the combinators of expressions (answers by continuation), and how they stand under the hand layer's readings. -/
namespace Ev
open PySem PySem.Spec PyProof.Rows L2
noncomputable section

abbrev Kc := D → M → Bool
abbrev Kx := Nat → M → Bool
abbrev SemE := Env → M → Kc → Kx → Bool
abbrev SemA := Env → M → (List D → M → Bool) → Kx → Bool
abbrev SemT := Env → M → (Bool → M → Bool) → Kx → Bool
abbrev SemF := List D → M → Kc → Kx → Bool
/-- a value's operation, two places -/
abbrev Sem2 := D → D → M → Kc → Bool
abbrev Sem1 := D → M → Kc → Bool

section
variable (Z : Wd)
structure EnvRep (μ : Nat → Addr) (n : Nat) (H : Hp) (ρ : Env) (σ : L2.St) : Prop where
  len : ρ.length ≤ σ.length
  at' : ∀ (i : Nat) (d : D), ρ[i]? = some d → d ≠ .und → ∃ v, σ[i]? = some (some v) ∧ Rep Z μ n H d v
def Post (μ : Nat → Addr) (m : M) (H : Hp) (k : Kc) (Q : VK) : Prop := ∀ μ' m' H' d v, Lt μ m H μ' m' H' → Sim Z μ' m' H' → Rep Z μ' m'.n H' d v → k d m' = true → Q v H'
def PostA (μ : Nat → Addr) (m : M) (H : Hp) (k : List D → M → Bool) (Q : List V → Hp → Prop) : Prop := ∀ μ' m' H' ds vs, Lt μ m H μ' m' H' → Sim Z μ' m' H' → Reps Z μ' m'.n H' ds vs → k ds m' = true → Q vs H'
def PostT (μ : Nat → Addr) (m : M) (H : Hp) (k : Bool → M → Bool) (Q : Bool → Hp → Prop) : Prop := ∀ μ' m' H' b, Lt μ m H μ' m' H' → Sim Z μ' m' H' → k b m' = true → Q b H'
def XPost (μ : Nat → Addr) (m : M) (H : Hp) (kx : Kx) (W : WX) (σ : L2.St) : Prop := ∀ μ' m' H' c, Lt μ m H μ' m' H' → Sim Z μ' m' H' → kx c m' = true → W (Z.cls c) none σ H'
def tI (W : WX) (t : SemE) : TE := fun σ H Q => ∃ μ m ρ k kx, Sim Z μ m H ∧ EnvRep Z μ m.n H ρ σ ∧ t ρ m k kx = true ∧ Post Z μ m H k Q ∧ XPost Z μ m H kx W σ
def tA (W : WX) (t : SemA) : TA := fun σ H Q => ∃ μ m ρ k kx, Sim Z μ m H ∧ EnvRep Z μ m.n H ρ σ ∧ t ρ m k kx = true ∧ PostA Z μ m H k Q ∧ XPost Z μ m H kx W σ
def tT (W : WX) (t : SemT) : TT := fun σ H Q => ∃ μ m ρ k kx, Sim Z μ m H ∧ EnvRep Z μ m.n H ρ σ ∧ t ρ m k kx = true ∧ PostT Z μ m H k Q ∧ XPost Z μ m H kx W σ
end
section
variable {Z : Wd} {μ μ' : Nat → Addr} {m m' : M} {n n' : Nat} {H H' : Hp} {k : Kc} {kx : Kx} {Q : VK} {W : WX} {σ : L2.St} {ρ : Env}
theorem EnvRep.mono (E : EnvRep Z μ n H ρ σ) (l : Le μ n H μ' n' H') : EnvRep Z μ' n' H' ρ σ := ⟨E.len, fun i d h hd => let ⟨v, h1, h2⟩ := E.at' i d h hd; ⟨v, h1, h2.mono l⟩⟩
theorem EnvRep.set (E : EnvRep Z μ n H ρ σ) {d : D} {v : V} (r : Rep Z μ n H d v) (i : Nat) : EnvRep Z μ n H (ρ.set i d) (σ.set i (some v)) := by
  refine ⟨by rw [List.length_set, List.length_set]; exact E.len, fun j e h hd => ?_⟩
  by_cases hj : j = i
  · subst hj
    have hl : j < ρ.length := by
      have := (List.getElem?_eq_some_iff.mp h).1
      rwa [List.length_set] at this
    rw [List.getElem?_set_self hl] at h
    cases h
    exact ⟨v, List.getElem?_set_self (Nat.lt_of_lt_of_le hl E.len), r⟩
  · rw [List.getElem?_set_ne (Ne.symm hj)] at h
    rw [List.getElem?_set_ne (Ne.symm hj)]
    exact E.at' j e h hd
theorem Post.after (P : Post Z μ m H k Q) (l : Lt μ m H μ' m' H') : Post Z μ' m' H' k Q := fun μ2 m2 H2 d v l2 => P μ2 m2 H2 d v (l.trans l2)
theorem PostA.after {k : List D → M → Bool} {Q : List V → Hp → Prop} (P : PostA Z μ m H k Q) (l : Lt μ m H μ' m' H') : PostA Z μ' m' H' k Q := fun μ2 m2 H2 d v l2 => P μ2 m2 H2 d v (l.trans l2)
theorem PostT.after {k : Bool → M → Bool} {Q : Bool → Hp → Prop} (P : PostT Z μ m H k Q) (l : Lt μ m H μ' m' H') : PostT Z μ' m' H' k Q := fun μ2 m2 H2 b l2 => P μ2 m2 H2 b (l.trans l2)
theorem XPost.after (P : XPost Z μ m H kx W σ) (l : Lt μ m H μ' m' H') : XPost Z μ' m' H' kx W σ := fun μ2 m2 H2 c l2 => P μ2 m2 H2 c (l.trans l2)
/-- the answer without a new object -/
theorem Post.now (P : Post Z μ m H k Q) (S : Sim Z μ m H) {d : D} {v : V} (r : Rep Z μ m.n H d v) (h : k d m = true) : Q v H := P μ m H d v .refl S r h
/-- .. with a new one -/
theorem Post.new (P : Post Z μ m H k Q) (S : Sim Z μ m H) {p : Addr} (hp : H p = none) {ho : HO} {o : O} (ht : ∀ c, o ≠ .tape c) (h : OHas Z (ext μ m.n p) (m.n + 1) m.tk (upd H p ho) p o) (e : k (.ref m.n) (m.alloc o) = true) : Q (.ref p) (upd H p ho) := by
  refine P (ext μ m.n p) (m.alloc o) _ (.ref m.n) (.ref p) (Lt.alloc S (kp_upd hp) hp) (S.alloc hp ht h) ?_ e
  have := Rep.ref (Z := Z) (μ := ext μ m.n p) (n := m.n + 1) (H := upd H p ho) (i := m.n) (Nat.lt_succ_self _)
  rw [ext_eq] at this
  exact this
/-- a new list -/
theorem Post.newL (P : Post Z μ m H k Q) (S : Sim Z μ m H) {p : Addr} (hp : H p = none) {vs : List V} {xs : List D} (r : Reps Z μ m.n H xs vs) (e : k (.ref m.n) (m.alloc (.lst xs)) = true) : Q (.ref p) (upd H p (.lst vs)) :=
  P.new (o := .lst xs) S hp (fun _ z => by cases z) ⟨vs, upd_same, r.mono (Le.ofKp (kp_upd hp) (Nat.le_succ _) fun _ h => ext_lt h)⟩ e
/-- a new tuple -/
theorem Post.newT (P : Post Z μ m H k Q) (S : Sim Z μ m H) {p : Addr} (hp : H p = none) {vs : List V} {xs : List D} (r : Reps Z μ m.n H xs vs) (e : k (.tup xs) m = true) : Q (.ref p) (upd H p (.tup vs)) := by
  have k' := kp_upd (ho := .tup vs) hp
  exact P μ m _ _ _ (Lt.kp k') (S.kp k') (.tup (SqT.of upd_same) (r.mono (Lt.kp (μ := μ) (m := m) k').toLe)) e
/-- an own list is written, then the answer -/
theorem Sim.setL (S : Sim Z μ m H) {i : Nat} {xs ys : List D} {vs ws : List V} (g : m.get i = some (.lst xs)) (h0 : H (μ i) = some (.lst vs)) (hr : m.rn ≤ i) (r : Reps Z μ m.n H ys ws) :
    Sim Z μ (m.set i (.lst ys)) (upd H (μ i) (.lst ws)) ∧ Lt μ m H μ (m.set i (.lst ys)) (upd H (μ i) (.lst ws)) :=
  S.set g h0 (fun _ z => by cases z) (fun _ _ z => by cases z) hr (fun z => by cases z) (fun _ z => by cases z) (fun _ z => by cases z) fun l => ⟨ws, upd_same, r.mono l⟩
theorem Sim.lst (S : Sim Z μ m H) {i : Nat} {xs : List D} (g : m.get i = some (.lst xs)) : ∃ vs, H (μ i) = some (.lst vs) ∧ Reps Z μ m.n H xs vs := S.obj i _ g
end

/-! ### operations on values -/
def frc (i : Int) (k : Int → Bool) : Bool := Int.rec (fun a => Nat.rec (k (.ofNat 0)) (fun n _ => k (.ofNat (n + 1))) a) (fun a => Nat.rec (k (.negSucc 0)) (fun n _ => k (.negSucc (n + 1))) a) i
theorem frc_eq (i : Int) (k : Int → Bool) : frc i k = k i := by
  cases i with
  | ofNat a => cases a <;> rfl
  | negSucc a => cases a <;> rfl
def LIM : Nat := 100000
theorem lim_size : LIM ≤ sizeLine := by decide
theorem ble_lim {n : Nat} (h : Nat.ble n LIM = true) : n ≤ sizeLine := Nat.le_trans (Nat.le_of_ble_eq_true h) lim_size
theorem ble_lt {n : Nat} (h : Nat.ble n LIM = true) : n < sizeLine := Nat.lt_of_le_of_lt (Nat.le_of_ble_eq_true h) (by decide)
theorem and2 {a b : Bool} (h : (a && b) = true) : a = true ∧ b = true := by simpa using h
/-- soundness of a two-place operation -/
def Op2 (Z : Wd) (f : Sem2) (r : R2) : Prop := ∀ (μ : Nat → Addr) (m : M) (H : Hp) (x y : V) (dx dy : D) (k : Kc) (Q : VK), Sim Z μ m H → Rep Z μ m.n H dx x → Rep Z μ m.n H dy y → f dx dy m k = true → Post Z μ m H k Q → r x y H Q
def Op1 (Z : Wd) (f : Sem1) (r : V → Hp → VK → Prop) : Prop := ∀ (μ : Nat → Addr) (m : M) (H : Hp) (x : V) (dx : D) (k : Kc) (Q : VK), Sim Z μ m H → Rep Z μ m.n H dx x → f dx m k = true → Post Z μ m H k Q → r x H Q
def OpN (Z : Wd) (f : List D → M → Kc → Bool) (r : List V → Hp → VK → Prop) : Prop := ∀ (μ : Nat → Addr) (m : M) (H : Hp) (xs : List V) (ds : List D) (k : Kc) (Q : VK), Sim Z μ m H → Reps Z μ m.n H ds xs → f ds m k = true → Post Z μ m H k Q → r xs H Q

def litC (d : D) : SemE := fun _ m k _ => k d m
def varC (i : Nat) : SemE := fun ρ m k _ => match ρ[i]? with
  | none => false
  | some .und => false
  | some d => k d m
def binC (f : Sem2) (a b : SemE) : SemE := fun ρ m k kx => a ρ m (fun x m1 => b ρ m1 (fun y m2 => f x y m2 k) kx) kx
def unC (f : Sem1) (a : SemE) : SemE := fun ρ m k kx => a ρ m (fun x m1 => f x m1 k) kx
def nilC : SemA := fun _ m k _ => k [] m
def consC (a : SemE) (r : SemA) : SemA := fun ρ m k kx => a ρ m (fun x m1 => r ρ m1 (fun xs m2 => k (x :: xs) m2) kx) kx
def tupC (a : SemA) : SemE := fun ρ m k kx => a ρ m (fun xs m1 => Nat.ble xs.length LIM && k (.tup xs) m1) kx
def lstC (a : SemA) : SemE := fun ρ m k kx => a ρ m (fun xs m1 => Nat.ble xs.length LIM && k (.ref m1.n) (m1.alloc (.lst xs))) kx
def appC (f : List D → M → Kc → Bool) (a : SemA) : SemE := fun ρ m k kx => a ρ m (fun xs m1 => f xs m1 k) kx
def callC (f : SemF) (a : SemA) : SemE := fun ρ m k kx => a ρ m (fun xs m1 => f xs m1 k kx) kx
def ifC (t : SemT) (a b : SemE) : SemE := fun ρ m k kx => t ρ m (fun c m1 => match c with | true => a ρ m1 k kx | false => b ρ m1 k kx) kx
/-- a test whose value is a truth value -/
def blT (a : SemE) : SemT := fun ρ m k kx => a ρ m (fun x m1 => match x with | .bl b => k b m1 | _ => false) kx
def notT (a : SemT) : SemT := fun ρ m k kx => a ρ m (fun b m1 => k (!b) m1) kx
def andT (a b : SemT) : SemT := fun ρ m k kx => a ρ m (fun c m1 => match c with | true => b ρ m1 k kx | false => k false m1) kx
def orT (a b : SemT) : SemT := fun ρ m k kx => a ρ m (fun c m1 => match c with | true => k true m1 | false => b ρ m1 k kx) kx
def valT (t : SemT) : SemE := fun ρ m k kx => t ρ m (fun b m1 => k (.bl b) m1) kx
/-- a value by its truth -/
def truD : D → M → (Bool → Bool) → Bool := fun d m k => match d with
  | .non => k false
  | .bl b => k b
  | .int i => k (i != 0)
  | .str y => Nat.ble y.length LIM && k ((y.length : Int) != 0)
  | .tup xs => k (!xs.isEmpty)
  | .ref i => (match m.get i with
    | some (.lst xs) => k (!xs.isEmpty)
    | some (.dic xs) => k (!xs.isEmpty)
    | _ => false)
  | _ => false
def truT (a : SemE) : SemT := fun ρ m k kx => a ρ m (fun x m1 => truD x m1 fun b => k b m1) kx
/-- x or y, x and y by truth, as values -/
def orV (a b : SemE) : SemE := fun ρ m k kx => a ρ m (fun x m1 => truD x m1 fun c => match c with | true => k x m1 | false => b ρ m1 k kx) kx
def andV (a b : SemE) : SemE := fun ρ m k kx => a ρ m (fun x m1 => truD x m1 fun c => match c with | true => b ρ m1 k kx | false => k x m1) kx
def notV (a : SemE) : SemE := fun ρ m k kx => a ρ m (fun x m1 => truD x m1 fun c => k (.bl (!c)) m1) kx

section
variable {X : Cx} {Z : Wd} {W : WX} {e a b : Expr} {es : List Expr} {ta tb : SemE} {pos : Pos}
theorem _root_.L2.PE.imp {t t' : TE} (h : PE X e t) (i : ∀ σ H Q, t' σ H Q → t σ H Q) : PE X e t' := ⟨fun pins s σ H Q I q => h.run pins s σ H Q I (i σ H Q q)⟩
theorem _root_.L2.PT.imp {t t' : TT} (h : PT X e t) (i : ∀ σ H Q, t' σ H Q → t σ H Q) : PT X e t' := ⟨fun pins s σ H Q I q => h.run pins s σ H Q I (i σ H Q q)⟩
theorem _root_.L2.PW.imp {t t' : TT} (h : PW X e t) (i : ∀ σ H Q, t' σ H Q → t σ H Q) : PW X e t' := ⟨fun wh pins s σ H Q I q => h.run wh pins s σ H Q I (i σ H Q q)⟩
theorem _root_.L2.PA.imp {t t' : TA} (h : PA X es t) (i : ∀ σ H Q, t' σ H Q → t σ H Q) : PA X es t' := ⟨fun pos pins s σ H Q I q => h.run pos pins s σ H Q I (i σ H Q q)⟩
theorem s_lit {d : D} {v : V} (h : PE X e (tC v)) (r : ∀ μ n H, Rep Z μ n H d v) : PE X e (tI Z W (litC d)) :=
  h.imp fun σ H Q ⟨μ, m, ρ, k, kx, S, ER, t, P, _⟩ => P.now S (r _ _ _) t
theorem s_var {i : Nat} {x : Str} (hN : X.N[i]? = some x) (hv : Vis X.env.scope x) (hd : (x == ("__debug__" : Str)) = false) (hcd : (x == ("__classdict__" : Str)) = false) : PE X (.Name x pos) (tI Z W (varC i)) :=
  (pe_var hN hv hd hcd).imp fun σ H Q ⟨μ, m, ρ, k, kx, S, ER, t, P, _⟩ => by
    unfold varC at t
    split at t
    · cases t
    · cases t
    · rename_i d hne h
      obtain ⟨v, h1, h2⟩ := ER.at' i d h hne
      exact ⟨v, h1, P.now S h2 t⟩
theorem s_binR {f : Sem2} {r : R2} (o : Op2 Z f r) {σ : L2.St} {H : Hp} {Q : VK} (h : tI Z W (binC f ta tb) σ H Q) : tOp r (tI Z W ta) (tI Z W tb) σ H Q := by
  obtain ⟨μ, m, ρ, k, kx, S, ER, t, P, XP⟩ := h
  refine ⟨μ, m, ρ, _, kx, S, ER, t, fun μ1 m1 H1 d v L S1 R1 e1 => ⟨μ1, m1, ρ, _, kx, S1, ER.mono L.toLe, e1, fun μ2 m2 H2 d2 v2 L2 S2 R2 e2 => ?_, XP.after L⟩, XP⟩
  exact o μ2 m2 H2 v v2 d d2 k Q S2 (R1.mono L2.toLe) R2 e2 (P.after (L.trans L2))
theorem s_bin {op : Operator} {f : Sem2} {r : R2} (o : Op2 Z f r) (ho : OpR X (binaryOp op) r) (ha : PE X a (tI Z W ta)) (hb : PE X b (tI Z W tb)) : PE X (.BinOp a op b pos) (tI Z W (binC f ta tb)) :=
  (pe_op ho ha hb).imp fun σ H Q h => s_binR o h
theorem s_unR {f : Sem1} {r : V → Hp → VK → Prop} (o : Op1 Z f r) {σ : L2.St} {H : Hp} {Q : VK} (h : tI Z W (unC f ta) σ H Q) : tUn r (tI Z W ta) σ H Q := by
  obtain ⟨μ, m, ρ, k, kx, S, ER, t, P, XP⟩ := h
  exact ⟨μ, m, ρ, _, kx, S, ER, t, fun μ1 m1 H1 d v L S1 R1 e1 => o μ1 m1 H1 v d k Q S1 R1 e1 (P.after L), XP⟩
theorem s_un {op : UnaryOp} {f : Sem1} {r : V → Hp → VK → Prop} (o : Op1 Z f r) (ho : UnR X (unaryOp op) r) (ha : PE X a (tI Z W ta)) : PE X (.UnaryOp op a pos) (tI Z W (unC f ta)) :=
  (pe_un ho ha).imp fun σ H Q h => s_unR o h
theorem s_nil : PA X [] (tA Z W nilC) := pa_nil.imp fun σ H Q ⟨μ, m, ρ, k, kx, S, ER, t, P, _⟩ => P μ m H [] [] .refl S .nil t
theorem s_cons {ts : SemA} (ha : PE X e (tI Z W ta)) (hr : PA X es (tA Z W ts)) (hs : starEach (e :: es) X.env = (false, eval e X.env) :: starEach es X.env) : PA X (e :: es) (tA Z W (consC ta ts)) :=
  (pa_cons ha hr hs).imp fun σ H Q ⟨μ, m, ρ, k, kx, S, ER, t, P, XP⟩ =>
    ⟨μ, m, ρ, _, kx, S, ER, t, fun μ1 m1 H1 d v L S1 R1 e1 => ⟨μ1, m1, ρ, _, kx, S1, ER.mono L.toLe, e1, fun μ2 m2 H2 ds vs L2 S2 R2 e2 => P μ2 m2 H2 _ _ (L.trans L2) S2 (.cons (R1.mono L2.toLe) R2) e2, XP.after L⟩, XP⟩
theorem s_appR {f : List D → M → Kc → Bool} {ts : SemA} {r : List V → Hp → VK → Prop} (o : OpN Z f r) {σ : L2.St} {H : Hp} {Q : VK} (h : tI Z W (appC f ts) σ H Q) : tA Z W ts σ H (fun vs H1 => r vs H1 Q) := by
  obtain ⟨μ, m, ρ, k, kx, S, ER, t, P, XP⟩ := h
  exact ⟨μ, m, ρ, _, kx, S, ER, t, fun μ1 m1 H1 ds vs L S1 R1 e1 => o μ1 m1 H1 vs ds k Q S1 R1 e1 (P.after L), XP⟩
theorem s_tup {ts : SemA} {k : Nat} (h : PA X es (tA Z W ts)) : PE X (.Tuple es k pos) (tI Z W (tupC ts)) :=
  (pe_tup h).imp fun σ H Q ⟨μ, m, ρ, k, kx, S, ER, t, P, XP⟩ =>
    ⟨μ, m, ρ, _, kx, S, ER, t, fun μ1 m1 H1 ds vs L S1 R1 e1 => by
      obtain ⟨h1, h2⟩ := and2 e1
      exact ⟨by rw [← R1.length]; exact ble_lim h1, fun p hp => (P.after L).newT S1 hp R1 h2⟩, XP⟩
theorem s_lst {ts : SemA} (h : PA X es (tA Z W ts)) : PE X (.List es pos) (tI Z W (lstC ts)) :=
  (pe_lst h).imp fun σ H Q ⟨μ, m, ρ, k, kx, S, ER, t, P, XP⟩ =>
    ⟨μ, m, ρ, _, kx, S, ER, t, fun μ1 m1 H1 ds vs L S1 R1 e1 => by
      obtain ⟨h1, h2⟩ := and2 e1
      exact ⟨by rw [← R1.length]; exact ble_lim h1, fun p hp => (P.after L).newL S1 hp R1 h2⟩, XP⟩
theorem s_ifE {c : Expr} {tc : SemT} (hc : PT X c (tT Z W tc)) (ha : PE X a (tI Z W ta)) (hb : PE X b (tI Z W tb)) : PE X (.IfExp c a b pos) (tI Z W (ifC tc ta tb)) :=
  (pe_ifExp hc ha hb).imp fun σ H Q ⟨μ, m, ρ, k, kx, S, ER, t, P, XP⟩ =>
    ⟨μ, m, ρ, _, kx, S, ER, t, fun μ1 m1 H1 d L S1 e1 => by
      cases d with
      | true => exact iteT ⟨μ1, m1, ρ, k, kx, S1, ER.mono L.toLe, e1, P.after L, XP.after L⟩
      | false => exact iteF ⟨μ1, m1, ρ, k, kx, S1, ER.mono L.toLe, e1, P.after L, XP.after L⟩, XP⟩

/-! tests -/
theorem tru_rep {μ : Nat → Addr} {m : M} {H : Hp} {d : D} {v : V} {k : Bool → Bool} (S : Sim Z μ m H) (r : Rep Z μ m.n H d v) (h : truD d m k = true) : ∃ b, TruV Z.K v H b ∧ k b = true := by
  cases r with
  | non => exact ⟨false, rfl, h⟩
  | bl => exact ⟨_, rfl, h⟩
  | int => exact ⟨_, rfl, h⟩
  | str =>
    obtain ⟨h1, h2⟩ := and2 h
    exact ⟨_, ⟨ble_lim h1, rfl⟩, h2⟩
  | tup hq rs =>
    refine ⟨_, .inr (.inl ⟨_, hq, rfl⟩), ?_⟩
    have : ∀ {xs : List D} {vs : List V}, Reps Z μ m.n H xs vs → vs.isEmpty = xs.isEmpty := fun r => by cases r <;> rfl
    rw [this rs]; exact h
  | ref hi =>
    unfold truD at h
    dsimp only at h
    split at h
    · rename_i xs g
      obtain ⟨vs, e, rs⟩ := S.obj _ _ g
      refine ⟨_, .inl ⟨_, SqL.of e, rfl⟩, ?_⟩
      have : ∀ {xs : List D} {vs : List V}, Reps Z μ m.n H xs vs → vs.isEmpty = xs.isEmpty := fun r => by cases r <;> rfl
      rw [this rs]; exact h
    · rename_i xs g
      obtain ⟨vs, e, rs⟩ := S.obj _ _ g
      refine ⟨_, .inr (.inr ⟨_, e, rfl⟩), ?_⟩
      have : ∀ {xs : List (Key × D)} {vs : List (Key × V)}, KReps (Rep Z μ m.n H) xs vs → vs.isEmpty = xs.isEmpty := fun r => by cases r <;> rfl
      rw [this rs]; exact h
    · cases h
  | fn _ => cases h
  | ty => cases h
  | scr => cases h
  | frl => cases h
theorem s_truT (hK : X.K = Z.K) (ha : PE X a (tI Z W ta)) (he : ∀ whole, isTrue a X.env whole = (do let v ← whole; standAt a.pos; holding [v] (truthy v))) : PT X a (tT Z W (truT ta)) :=
  (pt_truth ha he).imp fun σ H Q ⟨μ, m, ρ, k, kx, S, ER, t, P, XP⟩ =>
    ⟨μ, m, ρ, _, kx, S, ER, t, fun μ1 m1 H1 d v L S1 R1 e1 => by
      obtain ⟨b, h1, h2⟩ := tru_rep S1 R1 e1
      exact ⟨b, hK ▸ h1, P μ1 m1 H1 b L S1 h2⟩, XP⟩
theorem s_blTest {t : TE} {f : SemE} (h : PT X a (tTest t)) (i : ∀ σ H Q, tI Z W f σ H Q → t σ H Q) : PT X a (tT Z W (blT f)) :=
  h.imp fun σ H Q ⟨μ, m, ρ, k, kx, S, ER, e, P, XP⟩ => by
    refine i σ H _ ⟨μ, m, ρ, fun x m1 => match x with | .bl b => k b m1 | _ => false, kx, S, ER, e, fun μ1 m1 H1 d v L S1 R1 e1 => ?_, XP⟩
    cases R1 with
    | bl => exact ⟨_, rfl, P μ1 m1 H1 _ L S1 e1⟩
    | _ => cases e1
theorem s_not {ta : SemT} (ha : PT X a (tT Z W ta)) : PT X (.UnaryOp .Not a pos) (tT Z W (notT ta)) :=
  (pt_not ha).imp fun σ H Q ⟨μ, m, ρ, k, kx, S, ER, t, P, XP⟩ => ⟨μ, m, ρ, _, kx, S, ER, t, fun μ1 m1 H1 b L S1 e1 => P μ1 m1 H1 _ L S1 e1, XP⟩
theorem s_and1 {ta : SemT} (ha : PT X a (tT Z W ta)) : PW X (.BoolOp .And [a] pos) (tT Z W ta) := pw_and1 ha
theorem s_or1 {ta : SemT} (ha : PT X a (tT Z W ta)) : PW X (.BoolOp .Or [a] pos) (tT Z W ta) := pw_or1 ha
theorem s_and {ta tb : SemT} {rest : List Expr} (ha : PT X a (tT Z W ta)) (hb : PW X (.BoolOp .And (b :: rest) pos) (tT Z W tb)) : PW X (.BoolOp .And (a :: b :: rest) pos) (tT Z W (andT ta tb)) :=
  (pw_and ha hb).imp fun σ H Q ⟨μ, m, ρ, k, kx, S, ER, t, P, XP⟩ =>
    ⟨μ, m, ρ, _, kx, S, ER, t, fun μ1 m1 H1 c L S1 e1 => by
      cases c with
      | true => exact iteT ⟨μ1, m1, ρ, k, kx, S1, ER.mono L.toLe, e1, P.after L, XP.after L⟩
      | false => exact iteF (P μ1 m1 H1 _ L S1 e1), XP⟩
theorem s_or {ta tb : SemT} {rest : List Expr} (ha : PT X a (tT Z W ta)) (hb : PW X (.BoolOp .Or (b :: rest) pos) (tT Z W tb)) : PW X (.BoolOp .Or (a :: b :: rest) pos) (tT Z W (orT ta tb)) :=
  (pw_or ha hb).imp fun σ H Q ⟨μ, m, ρ, k, kx, S, ER, t, P, XP⟩ =>
    ⟨μ, m, ρ, _, kx, S, ER, t, fun μ1 m1 H1 c L S1 e1 => by
      cases c with
      | true => exact iteT (P μ1 m1 H1 _ L S1 e1)
      | false => exact iteF ⟨μ1, m1, ρ, k, kx, S1, ER.mono L.toLe, e1, P.after L, XP.after L⟩, XP⟩
theorem s_oneV {op} (h : PE X a (tI Z W ta)) : PE X (.BoolOp op [a] pos) (tI Z W ta) := pe_one h
end
end
end Ev

set_option Elab.async false
set_option linter.all false
set_option maxRecDepth 100000
set_option maxHeartbeats 1000000
/-! Ev3: the operations on values: arithmetic, comparisons, data as a whole. -/
namespace Ev
open PySem PySem.Spec PyProof.Rows L2
noncomputable section

theorem post_int {Z : Wd} {μ : Nat → Addr} {m : M} {H : Hp} {k : Kc} {Q : VK} (P : Post Z μ m H k Q) (S : Sim Z μ m H) {i : Int} (h : k (.int i) m = true) : Q (.int i) H := P.now S .int h
theorem post_bl {Z : Wd} {μ : Nat → Addr} {m : M} {H : Hp} {k : Kc} {Q : VK} (P : Post Z μ m H k Q) (S : Sim Z μ m H) {i : Bool} (h : k (.bl i) m = true) : Q (.bl i) H := P.now S .bl h

/-! ### comparisons of ints, quick for the kernel -/
def iltB (a b : Int) : Bool := match a, b with
  | .ofNat x, .ofNat y => Nat.blt x y
  | .negSucc x, .negSucc y => Nat.blt y x
  | .negSucc _, .ofNat _ => true
  | .ofNat _, .negSucc _ => false
theorem iltB_eq (a b : Int) : iltB a b = decide (a < b) := by
  have bl : ∀ x y : Nat, Nat.blt x y = decide (x < y) := fun x y => by
    unfold Nat.blt
    rw [Bool.eq_iff_iff]
    simp only [Nat.ble_eq, decide_eq_true_eq]
    exact Iff.rfl
  cases a with
  | ofNat x => cases b with
    | ofNat y =>
      show Nat.blt x y = _
      rw [bl]; simp
    | negSucc y =>
      show false = _
      symm; simp; omega
  | negSucc x => cases b with
    | ofNat y =>
      show true = _
      symm; simp; omega
    | negSucc y =>
      show Nat.blt y x = _
      rw [bl, Bool.eq_iff_iff]
      simp only [decide_eq_true_eq]
      omega
def ieqB (a b : Int) : Bool := match a, b with
  | .ofNat x, .ofNat y => Nat.beq x y
  | .negSucc x, .negSucc y => Nat.beq x y
  | _, _ => false
theorem ieqB_eq (a b : Int) : ieqB a b = (a == b) := by
  have be : ∀ x y : Nat, Nat.beq x y = decide (x = y) := fun x y => by
    rw [Bool.eq_iff_iff]
    simp
  cases a with
  | ofNat x => cases b with
    | ofNat y =>
      show Nat.beq x y = _
      rw [be, Bool.eq_iff_iff]; simp; omega
    | negSucc y => rfl
  | negSucc x => cases b with
    | ofNat y => rfl
    | negSucc y =>
      show Nat.beq x y = _
      rw [be, Bool.eq_iff_iff]; simp
def ileB (a b : Int) : Bool := !(iltB b a)
theorem ileB_eq (a b : Int) : ileB a b = decide (a ≤ b) := by
  unfold ileB
  rw [iltB_eq, Bool.eq_iff_iff]
  simp

/-! ### arithmetic -/
/-- the sizes within which a product is asked -/
def mulOk (i j : Int) : Bool := Nat.ble (i.natAbs.log2 + j.natAbs.log2) 900000
theorem mulOk_ok {i j : Int} (h : mulOk i j = true) : CMulW i j := Nat.lt_of_le_of_lt (Nat.le_of_ble_eq_true h) (by decide)
def divOk (j : Int) : Bool := (iltB 0 j && Nat.ble j.natAbs.log2 8999) || (!(ieqB j 0) && Nat.ble j.natAbs 1000000000)
def CDivA (_ j : Int) : Prop := (0 < j ∧ j.natAbs.log2 < 9000) ∨ (j ≠ 0 ∧ j.natAbs < 1073741824)
theorem divOk_ok {i j : Int} (h : divOk j = true) : CDivA i j := by
  unfold divOk at h
  rw [iltB_eq, ieqB_eq] at h
  simp only [Bool.or_eq_true, Bool.and_eq_true, decide_eq_true_eq, Bool.not_eq_true', beq_eq_false_iff_ne, ne_eq] at h
  rcases h with ⟨h1, h2⟩ | ⟨h1, h2⟩
  · exact .inl ⟨h1, Nat.lt_of_le_of_lt (Nat.le_of_ble_eq_true h2) (by decide)⟩
  · exact .inr ⟨h1, Nat.lt_of_le_of_lt (Nat.le_of_ble_eq_true h2) (by decide)⟩
theorem op_fdivA {X : Cx} : OpR X (binaryOp .FloorDiv) (rI CDivA fun i j => .int (i.fdiv j)) := by
  intro pins s σ H x y v u Q I rx ry ⟨i, j, ex, ey, c, q⟩
  rcases c with c | c
  · refine op_fdivW pins s σ H x y v u Q I rx ry ⟨i, j, ex, ey, c, ?_⟩
    have : i / j = i.fdiv j := (Int.fdiv_eq_ediv_of_nonneg i (by omega)).symm
    show Q (.int (i / j)) H
    rw [this]; exact q
  · exact op_fdivN pins s σ H x y v u Q I rx ry ⟨i, j, ex, ey, c, q⟩
def addD : Sem2 := fun x y m k => match x, y with
  | .int i, .int j => frc (i + j) fun c => k (.int c) m
  | .str a, .str b => Nat.ble (a.length + b.length) LIM && k (.str (a ++ b)) m
  | .tup xs, .tup ys => Nat.ble (xs.length + ys.length) LIM && k (.tup (xs ++ ys)) m
  | .ref a, .ref b => (match m.get a, m.get b with
    | some (.lst xs), some (.lst ys) => Nat.ble (xs.length + ys.length) LIM && k (.ref m.n) (m.alloc (.lst (xs ++ ys)))
    | _, _ => false)
  | _, _ => false
def rAddA (K : PySem.W.Frag) : R2 := fun x y H Q => rI0 (fun i j => .int (i + j)) x y H Q ∨ (fun x y H Q => ∃ i j, x = .str i ∧ y = .str j ∧ i.length + j.length ≤ sizeLine ∧ Q (.str (i ++ j)) H) x y H Q ∨ rCatA K x y H Q ∨ rCat x y H Q
theorem r_add {X : Cx} : OpR X (binaryOp .Add) (rAddA X.K) := op_add.or (op_add_str.or (op_catA.or op_cat))
theorem o_add {Z : Wd} : Op2 Z addD (rAddA Z.K) := by
  intro μ m H x y dx dy k Q S rx ry h P
  cases rx with
  | int =>
    cases ry with
    | int =>
      refine .inl ⟨_, _, rfl, rfl, post_int P S ?_⟩
      unfold addD at h
      dsimp only at h
      rwa [frc_eq] at h
    | _ => cases h
  | str =>
    cases ry with
    | str =>
      obtain ⟨h1, h2⟩ := and2 h
      exact .inr (.inl ⟨_, _, rfl, rfl, ble_lim h1, P.now S .str h2⟩)
    | _ => cases h
  | tup hx rx =>
    cases ry with
    | tup hy ry =>
      obtain ⟨h1, h2⟩ := and2 h
      refine .inr (.inr (.inl ⟨_, _, _, _, rfl, rfl, hx, hy, by rw [← rx.length, ← ry.length]; exact ble_lim h1, fun e => ?_, fun ne e => ?_, fun _ _ p hp => P.newT S hp (rx.append ry) h2⟩))
      · subst e
        cases rx
        exact P.now S (.tup hy ry) h2
      · subst e
        cases ry
        rw [List.append_nil] at h2
        exact P.now S (.tup hx rx) h2
    | _ => cases h
  | ref hi =>
    cases ry with
    | ref hj =>
      unfold addD at h
      dsimp only at h
      split at h
      · rename_i xs ys g1 g2
        obtain ⟨h1, h2⟩ := and2 h
        obtain ⟨vs, e1, r1⟩ := S.lst g1
        obtain ⟨ws, e2, r2⟩ := S.lst g2
        exact .inr (.inr (.inr ⟨_, _, _, _, rfl, rfl, e1, e2, by rw [← r1.length, ← r2.length]; exact ble_lim h1, fun p hp => P.newL S hp (r1.append r2) h2⟩))
      · cases h
    | _ => cases h
  | _ => cases h
def subD : Sem2 := fun x y m k => match x, y with
  | .int i, .int j => frc (i - j) fun c => k (.int c) m
  | _, _ => false
theorem o_sub {Z : Wd} : Op2 Z subD (rI0 fun i j => .int (i - j)) := by
  intro μ m H x y dx dy k Q S rx ry h P
  cases rx with
  | int =>
    cases ry with
    | int =>
      refine ⟨_, _, rfl, rfl, post_int P S ?_⟩
      unfold subD at h
      dsimp only at h
      rwa [frc_eq] at h
    | _ => cases h
  | _ => cases h
def smallI (k : Int) : Bool := ileB (-100000) k && ileB k 100000
theorem smallI_ok {k : Int} (h : smallI k = true) : -100000 ≤ k ∧ k ≤ 100000 := by
  unfold smallI at h
  rw [ileB_eq, ileB_eq] at h
  simpa using h
def mulD : Sem2 := fun x y m k => match x, y with
  | .int i, .int j => mulOk i j && frc (i * j) fun c => k (.int c) m
  | .ref a, .int j => (match m.get a with
    | some (.lst xs) => smallI j && Nat.ble (xs.length * j.toNat) LIM && k (.ref m.n) (m.alloc (.lst (List.replicate j.toNat xs).flatten))
    | _ => false)
  | .tup xs, .int j => !xs.isEmpty && ileB 2 j && ileB j 1000 && Nat.ble xs.length 1000 && k (.tup (List.replicate j.toNat xs).flatten) m
  | _, _ => false
def rMulA (K : PySem.W.Frag) : R2 := fun x y H Q => rI CMulW (fun i j => .int (i * j)) x y H Q ∨ rRep x y H Q ∨ rRepT K x y H Q
theorem r_mul {X : Cx} : OpR X (binaryOp .Mult) (rMulA X.K) := op_mulW.or (op_rep.or op_repT)
theorem o_mul {Z : Wd} : Op2 Z mulD (rMulA Z.K) := by
  intro μ m H x y dx dy k Q S rx ry h P
  cases rx with
  | int =>
    cases ry with
    | int =>
      obtain ⟨h1, h2⟩ := and2 h
      refine .inl ⟨_, _, rfl, rfl, mulOk_ok h1, post_int P S ?_⟩
      rwa [frc_eq] at h2
    | _ => cases h
  | ref hi =>
    cases ry with
    | int =>
      unfold mulD at h
      dsimp only at h
      split at h
      · rename_i xs g
        obtain ⟨h1, h2⟩ := and2 h
        obtain ⟨h1, h3⟩ := and2 h1
        obtain ⟨h4, h5⟩ := smallI_ok h1
        obtain ⟨vs, e1, r1⟩ := S.lst g
        exact .inr (.inl ⟨_, _, _, rfl, rfl, e1, by omega, by omega, by rw [← r1.length]; exact ble_lim h3, fun p hp => P.newL S hp (r1.rep _) h2⟩)
      · cases h
    | _ => cases h
  | tup hx rx =>
    cases ry with
    | int =>
      obtain ⟨h1, h2⟩ := and2 h
      obtain ⟨h1, h3⟩ := and2 h1
      obtain ⟨h1, h4⟩ := and2 h1
      obtain ⟨h1, h5⟩ := and2 h1
      rw [ileB_eq] at h4 h5
      refine .inr (.inr ⟨_, _, _, rfl, rfl, hx, fun e => ?_, of_decide_eq_true h5, of_decide_eq_true h4, by rw [← rx.length]; exact Nat.le_of_ble_eq_true h3, fun p hp => P.newT S hp (rx.rep _) h2⟩)
      subst e
      cases rx
      cases h1
    | _ => cases h
  | _ => cases h
def fdivD : Sem2 := fun x y m k => match x, y with
  | .int i, .int j => divOk j && frc (i.fdiv j) fun c => k (.int c) m
  | _, _ => false
theorem o_fdiv {Z : Wd} : Op2 Z fdivD (rI CDivA fun i j => .int (i.fdiv j)) := by
  intro μ m H x y dx dy k Q S rx ry h P
  cases rx with
  | int =>
    cases ry with
    | int =>
      obtain ⟨h1, h2⟩ := and2 h
      refine ⟨_, _, rfl, rfl, divOk_ok h1, post_int P S ?_⟩
      rwa [frc_eq] at h2
    | _ => cases h
  | _ => cases h
def modD : Sem2 := fun x y m k => match x, y with
  | .int i, .int j => !(ieqB j 0) && frc (i.fmod j) fun c => k (.int c) m
  | _, _ => false
theorem o_mod {Z : Wd} : Op2 Z modD (rI (fun _ j => j ≠ 0) fun i j => .int (i.fmod j)) := by
  intro μ m H x y dx dy k Q S rx ry h P
  cases rx with
  | int =>
    cases ry with
    | int =>
      obtain ⟨h1, h2⟩ := and2 h
      rw [ieqB_eq] at h1
      refine ⟨_, _, rfl, rfl, by simpa using h1, post_int P S ?_⟩
      rwa [frc_eq] at h2
    | _ => cases h
  | _ => cases h
def negD : Sem1 := fun x m k => match x with
  | .int i => frc (-i) fun c => k (.int c) m
  | _ => false
theorem o_neg {Z : Wd} : Op1 Z negD (rU fun i => .int (-i)) := by
  intro μ m H x dx k Q S rx h P
  cases rx with
  | int =>
    refine ⟨_, rfl, post_int P S ?_⟩
    unfold negD at h
    dsimp only at h
    rwa [frc_eq] at h
  | _ => cases h

/-! ### data as a whole -/
def okD : Nat → M → D → Bool
  | f, m, d => match d with
    | .non => true
    | .bl _ => true
    | .int _ => true
    | .str x => PyData.strOk x
    | .tup xs => (match f with | 0 => false | f + 1 => xs.all (okD f m))
    | .ref i => (match f with
      | 0 => false
      | f + 1 => (match m.get i with | some (.lst xs) => xs.all (okD f m) | _ => false))
    | _ => false
def toP : Nat → M → D → PyData
  | f, m, d => match d with
    | .bl b => .bool b
    | .int i => .int i
    | .str x => .str x
    | .tup xs => (match f with | 0 => .none | f + 1 => .tuple (xs.map (toP f m)))
    | .ref i => (match f with
      | 0 => .none
      | f + 1 => (match m.get i with | some (.lst xs) => .list (xs.map (toP f m)) | _ => .none))
    | _ => .none
/-- both data (okD): are they equal? -/
def eqAll (e : D → D → Bool) : List D → List D → Bool
  | [], [] => true
  | x :: xs, y :: ys => e x y && eqAll e xs ys
  | _, _ => false
def eqB : Nat → M → D → D → Bool
  | f, m, x, y => match x, y with
    | .non, .non => true
    | .bl a, .bl b => a == b
    | .int i, .int j => ieqB i j
    | .bl a, .int j => ieqB (if a then 1 else 0) j
    | .int i, .bl b => ieqB i (if b then 1 else 0)
    | .str a, .str b => a == b
    | .tup xs, .tup ys => (match f with | 0 => false | f + 1 => eqAll (eqB f m) xs ys)
    | .ref i, .ref j => (match f with
      | 0 => false
      | f + 1 => (match m.get i, m.get j with | some (.lst xs), some (.lst ys) => eqAll (eqB f m) xs ys | _, _ => false))
    | _, _ => false
theorem Reps.dpAll {Z : Wd} {μ : Nat → Addr} {m : M} {H : Hp} {f : Nat} (ih : ∀ (d : D) (v : V), Rep Z μ m.n H d v → okD f m d = true → Dp Z.K H v (toP f m d) ∧ (toP f m d).canLay0 = true ∧ (toP f m d).depth ≤ f) :
    ∀ {ds : List D} {vs : List V}, Reps Z μ m.n H ds vs → ds.all (okD f m) = true → DpAll Z.K H vs (ds.map (toP f m)) ∧ PyData.canLayAll0 (ds.map (toP f m)) = true ∧ PyData.depthAll (ds.map (toP f m)) ≤ f
  | _, _, .nil, _ => ⟨.nil, rfl, Nat.zero_le _⟩
  | _, _, .cons h hs, e => by
    rw [List.all_cons] at e
    obtain ⟨e1, e2⟩ := and2 e
    obtain ⟨a1, a2, a3⟩ := ih _ _ h e1
    obtain ⟨b1, b2, b3⟩ := Reps.dpAll ih hs e2
    refine ⟨.cons a1 b1, ?_, ?_⟩
    · rw [List.map_cons]
      show (_ && _) = true
      rw [a2, b2]; rfl
    · rw [List.map_cons]
      show max _ _ ≤ _
      omega
theorem Rep.dp {Z : Wd} {μ : Nat → Addr} {m : M} {H : Hp} (S : Sim Z μ m H) : ∀ (f : Nat) (d : D) (v : V), Rep Z μ m.n H d v → okD f m d = true → Dp Z.K H v (toP f m d) ∧ (toP f m d).canLay0 = true ∧ (toP f m d).depth ≤ f
  | f, _, _, .non, _ => by unfold toP; exact ⟨.non, rfl, Nat.zero_le _⟩
  | f, _, _, .bl, _ => by unfold toP; exact ⟨.bl _, rfl, Nat.zero_le _⟩
  | f, _, _, .int, _ => by unfold toP; exact ⟨.int _, rfl, Nat.zero_le _⟩
  | f, _, _, .str, e => by unfold toP; unfold okD at e; exact ⟨.str _, e, Nat.zero_le _⟩
  | 0, _, _, .tup _ _, e => by unfold okD at e; cases e
  | f + 1, _, _, .tup h hs, e => by
    unfold okD at e
    obtain ⟨a1, a2, a3⟩ := Reps.dpAll (Rep.dp S f) hs e
    unfold toP
    exact ⟨.tup h a1, a2, by show _ + 1 ≤ _; omega⟩
  | 0, _, _, .ref _, e => by unfold okD at e; cases e
  | f + 1, .ref i, _, .ref hi, e => by
    unfold okD at e
    dsimp only at e
    split at e
    · rename_i xs g
      obtain ⟨vs, h1, h2⟩ := S.lst g
      obtain ⟨a1, a2, a3⟩ := Reps.dpAll (Rep.dp S f) h2 e
      unfold toP
      dsimp only
      rw [g]
      exact ⟨.lst (SqL.of h1) a1, a2, by show _ + 1 ≤ _; omega⟩
    · cases e
  | f, _, _, .fn _, e => by unfold okD at e; cases e
  | f, _, _, .ty, e => by unfold okD at e; cases e
  | f, _, _, .scr _ _, e => by unfold okD at e; cases e
  | f, _, _, .frl _ _, e => by unfold okD at e; cases e
theorem eqAll_eq {m : M} {f : Nat} (ih : ∀ x y : D, okD f m x = true → okD f m y = true → eqB f m x y = PyData.eqv (toP f m x) (toP f m y)) :
    ∀ xs ys : List D, xs.all (okD f m) = true → ys.all (okD f m) = true → eqAll (eqB f m) xs ys = PyData.eqvAll (xs.map (toP f m)) (ys.map (toP f m))
  | [], [], _, _ => rfl
  | [], _ :: _, _, _ => rfl
  | _ :: _, [], _, _ => rfl
  | x :: xs, y :: ys, h1, h2 => by
    rw [List.all_cons] at h1 h2
    obtain ⟨a1, a2⟩ := and2 h1
    obtain ⟨b1, b2⟩ := and2 h2
    show (eqB f m x y && eqAll (eqB f m) xs ys) = (PyData.eqv (toP f m x) (toP f m y) && PyData.eqvAll (xs.map (toP f m)) (ys.map (toP f m)))
    rw [ih x y a1 b1, eqAll_eq ih xs ys a2 b2]
theorem eqB_eq {m : M} : ∀ (f : Nat) (x y : D), okD f m x = true → okD f m y = true → eqB f m x y = PyData.eqv (toP f m x) (toP f m y) := by
  intro f
  induction f with
  | zero =>
    intro x y hx hy
    cases x <;> (try (unfold okD at hx; cases hx; done)) <;> cases y <;> (try (unfold okD at hy; cases hy; done)) <;> unfold eqB toP <;> first | rfl | (dsimp only [PyData.eqv]; rw [ieqB_eq]) | skip
  | succ f ih =>
    intro x y hx hy
    cases x with
    | und => unfold okD at hx; cases hx
    | fn _ => unfold okD at hx; cases hx
    | ty _ => unfold okD at hx; cases hx
    | scr => unfold okD at hx; cases hx
    | frl _ => unfold okD at hx; cases hx
    | tup xs =>
      cases y with
      | und => unfold okD at hy; cases hy
      | fn _ => unfold okD at hy; cases hy
      | ty _ => unfold okD at hy; cases hy
      | scr => unfold okD at hy; cases hy
      | frl _ => unfold okD at hy; cases hy
      | tup ys =>
        unfold okD at hx hy
        unfold eqB toP
        exact eqAll_eq ih xs ys hx hy
      | ref j =>
        unfold okD at hy
        dsimp only at hy
        split at hy
        · rename_i ys g
          unfold eqB toP
          dsimp only
          rw [g]; rfl
        · cases hy
      | _ => unfold eqB toP; rfl
    | ref i =>
      unfold okD at hx
      dsimp only at hx
      split at hx
      · rename_i xs g
        cases y with
        | und => unfold okD at hy; cases hy
        | fn _ => unfold okD at hy; cases hy
        | ty _ => unfold okD at hy; cases hy
        | scr => unfold okD at hy; cases hy
        | frl _ => unfold okD at hy; cases hy
        | ref j =>
          unfold okD at hy
          dsimp only at hy
          split at hy
          · rename_i ys g2
            unfold eqB toP
            dsimp only
            rw [g, g2]
            exact eqAll_eq ih xs ys hx hy
          · cases hy
        | _ => unfold eqB toP; dsimp only; rw [g]; rfl
      · cases hx
    | _ =>
      cases y with
      | und => unfold okD at hy; cases hy
      | fn _ => unfold okD at hy; cases hy
      | ty _ => unfold okD at hy; cases hy
      | scr => unfold okD at hy; cases hy
      | frl _ => unfold okD at hy; cases hy
      | ref j =>
        unfold okD at hy
        dsimp only at hy
        split at hy
        · rename_i ys g2
          unfold eqB toP
          dsimp only
          rw [g2]; rfl
        · cases hy
      | _ => unfold eqB toP; first | rfl | (dsimp only [PyData.eqv]; rw [ieqB_eq])
def FU : Nat := 12
theorem shaped_of {d : PyData} (h : d.canLay0 = true) (h2 : d.depth ≤ FU) : SeqAt.shaped d = true := by
  unfold SeqAt.shaped
  rw [h, decide_eq_true (show d.depth ≤ 64 from Nat.le_trans h2 (by decide))]
  rfl
def eqD : Sem2 := fun x y m k => match x, y with
  | .int i, .int j => k (.bl (ieqB i j)) m
  | x, y => okD FU m x && okD FU m y && k (.bl (eqB FU m x y)) m
def neD : Sem2 := fun x y m k => match x, y with
  | .int i, .int j => k (.bl (!ieqB i j)) m
  | x, y => okD FU m x && okD FU m y && k (.bl (!eqB FU m x y)) m
theorem eqD_cases {x y : D} {m : M} {k : Kc} (h : eqD x y m k = true) : okD FU m x = true ∧ okD FU m y = true ∧ k (.bl (eqB FU m x y)) m = true := by
  unfold eqD at h
  split at h
  · exact ⟨rfl, rfl, h⟩
  · obtain ⟨h1, h3⟩ := and2 h
    obtain ⟨h1, h2⟩ := and2 h1
    exact ⟨h1, h2, h3⟩
theorem neD_cases {x y : D} {m : M} {k : Kc} (h : neD x y m k = true) : okD FU m x = true ∧ okD FU m y = true ∧ k (.bl (!eqB FU m x y)) m = true := by
  unfold neD at h
  split at h
  · exact ⟨rfl, rfl, h⟩
  · obtain ⟨h1, h3⟩ := and2 h
    obtain ⟨h1, h2⟩ := and2 h1
    exact ⟨h1, h2, h3⟩
theorem o_eq {Z : Wd} : Op2 Z eqD (rEqD Z.K) := by
  intro μ m H x y dx dy k Q S rx ry h P
  obtain ⟨h1, h2, h3⟩ := eqD_cases h
  obtain ⟨a1, a2, a3⟩ := Rep.dp S FU dx x rx h1
  obtain ⟨b1, b2, b3⟩ := Rep.dp S FU dy y ry h2
  rw [eqB_eq FU dx dy h1 h2] at h3
  exact ⟨_, _, a1, b1, shaped_of a2 a3, shaped_of b2 b3, post_bl P S h3⟩
theorem o_ne {Z : Wd} : Op2 Z neD (rNeD Z.K) := by
  intro μ m H x y dx dy k Q S rx ry h P
  obtain ⟨h1, h2, h3⟩ := neD_cases h
  obtain ⟨a1, a2, a3⟩ := Rep.dp S FU dx x rx h1
  obtain ⟨b1, b2, b3⟩ := Rep.dp S FU dy y ry h2
  rw [eqB_eq FU dx dy h1 h2] at h3
  exact ⟨_, _, a1, b1, shaped_of a2 a3, shaped_of b2 b3, post_bl P S h3⟩
end
end Ev

set_option Elab.async false
set_option linter.all false
set_option maxRecDepth 100000
set_option maxHeartbeats 1000000
/-! Ev4: order of data, sorting, the least and the greatest. -/
namespace Ev
open PySem PySem.Spec PyProof.Rows L2
noncomputable section

/-! ### order -/
def alAll (e : D → D → Bool) : List D → List D → Bool
  | x :: xs, y :: ys => e x y && alAll e xs ys
  | [], _ => true
  | _ :: _, [] => true
/-- alike: may be compared -/
def alB : Nat → D → D → Bool
  | f, x, y => match x, y with
    | .bl _, .bl _ => true
    | .int _, .int _ => true
    | .str _, .str _ => true
    | .tup xs, .tup ys => (match f with | 0 => false | f + 1 => alAll (alB f) xs ys)
    | _, _ => false
def strLtB (x y : Str) : Bool := decide (x.cps.toList < y.cps.toList)
def ltAll (e l : D → D → Bool) : List D → List D → Bool
  | x :: xs, y :: ys => match e x y with | true => ltAll e l xs ys | false => l x y
  | [], _ :: _ => true
  | _, [] => false
def ltB : Nat → M → D → D → Bool
  | f, m, x, y => match x, y with
    | .bl a, .bl b => !a && b
    | .int i, .int j => iltB i j
    | .str a, .str b => strLtB a b
    | .tup xs, .tup ys => (match f with | 0 => false | f + 1 => ltAll (eqB f m) (ltB f m) xs ys)
    | _, _ => false
theorem alAll_eq {m : M} {f : Nat} (ih : ∀ x y : D, okD f m x = true → okD f m y = true → alB f x y = true → PySem.W.alike (toP f m x) (toP f m y) = true) :
    ∀ xs ys : List D, xs.all (okD f m) = true → ys.all (okD f m) = true → alAll (alB f) xs ys = true → PySem.W.alikeAll (xs.map (toP f m)) (ys.map (toP f m)) = true
  | [], _, _, _, _ => by rw [List.map_nil]; unfold PySem.W.alikeAll; rfl
  | _ :: _, [], _, _, _ => by rw [List.map_nil, List.map_cons]; unfold PySem.W.alikeAll; rfl
  | x :: xs, y :: ys, h1, h2, h3 => by
    rw [List.all_cons] at h1 h2
    obtain ⟨a1, a2⟩ := and2 h1
    obtain ⟨b1, b2⟩ := and2 h2
    obtain ⟨c1, c2⟩ := and2 h3
    rw [List.map_cons, List.map_cons]
    unfold PySem.W.alikeAll
    rw [ih x y a1 b1 c1, alAll_eq ih xs ys a2 b2 c2]; rfl
theorem alB_eq {m : M} : ∀ (f : Nat) (x y : D), okD f m x = true → okD f m y = true → alB f x y = true → PySem.W.alike (toP f m x) (toP f m y) = true := by
  intro f
  induction f with
  | zero =>
    intro x y hx hy h
    cases x <;> cases y <;> first | (unfold alB at h; cases h; done) | (unfold okD at hx; cases hx; done) | (unfold toP; unfold PySem.W.alike; rfl)
  | succ f ih =>
    intro x y hx hy h
    cases x <;> cases y <;> first | (unfold alB at h; cases h; done) | (unfold toP; unfold PySem.W.alike; rfl) | skip
    rename_i xs ys
    unfold okD at hx hy
    unfold alB at h
    unfold toP PySem.W.alike
    exact alAll_eq ih xs ys hx hy h
theorem alB_ne {m : M} : ∀ (f : Nat) (x y : D), okD f m x = true → alB f x y = true → toP f m x ≠ .none := by
  intro f x y hx h
  cases x <;> (try (unfold alB at h; cases y <;> cases h; done)) <;> unfold toP
  · intro z; cases z
  · intro z; cases z
  · intro z; cases z
  · cases f with
    | zero => unfold okD at hx; cases hx
    | succ f => intro z; cases z
theorem rowLt_nil_cons (y : PyData) (ys : List PyData) : PyProof.Rows.lexLt itemOrd (PySem.W.keyToksAll []) (PySem.W.keyToksAll (y :: ys)) = true := by
  rw [PySem.W.toks_all_cons]
  unfold PySem.W.keyToksAll
  simp [PyProof.Rows.lexLt, itemOrd, itemLt]
theorem rowLt_cons_nil (y : PyData) (ys : List PyData) : PyProof.Rows.lexLt itemOrd (PySem.W.keyToksAll (y :: ys)) (PySem.W.keyToksAll []) = false := by
  rw [PySem.W.toks_all_cons]
  unfold PySem.W.keyToksAll
  simp [PyProof.Rows.lexLt, itemOrd, itemLt]
theorem rowLt_nil_nil : PyProof.Rows.lexLt itemOrd (PySem.W.keyToksAll []) (PySem.W.keyToksAll []) = false := by
  unfold PySem.W.keyToksAll
  simp [PyProof.Rows.lexLt, itemOrd, itemLt]
theorem ltAll_eq {m : M} {f : Nat} (ih : ∀ x y : D, okD f m x = true → okD f m y = true → alB f x y = true → ltB f m x y = PySem.W.dataLt (toP f m x) (toP f m y)) :
    ∀ xs ys : List D, xs.all (okD f m) = true → ys.all (okD f m) = true → alAll (alB f) xs ys = true → ltAll (eqB f m) (ltB f m) xs ys = PyProof.Rows.lexLt itemOrd (PySem.W.keyToksAll (xs.map (toP f m))) (PySem.W.keyToksAll (ys.map (toP f m)))
  | [], [], _, _, _ => rowLt_nil_nil.symm
  | [], _ :: _, _, _, _ => (rowLt_nil_cons _ _).symm
  | _ :: _, [], _, _, _ => (rowLt_cons_nil _ _).symm
  | x :: xs, y :: ys, h1, h2, h3 => by
    rw [List.all_cons] at h1 h2
    obtain ⟨a1, a2⟩ := and2 h1
    obtain ⟨b1, b2⟩ := and2 h2
    obtain ⟨c1, c2⟩ := and2 h3
    rw [List.map_cons, List.map_cons, PySem.W.dataLt_cons (alB_eq f x y a1 b1 c1), ← eqB_eq f x y a1 b1, ← ih x y a1 b1 c1, ← ltAll_eq ih xs ys a2 b2 c2]
    show (match eqB f m x y with | true => ltAll (eqB f m) (ltB f m) xs ys | false => ltB f m x y) = _
    cases eqB f m x y <;> rfl
theorem ltB_eq {m : M} : ∀ (f : Nat) (x y : D), okD f m x = true → okD f m y = true → alB f x y = true → ltB f m x y = PySem.W.dataLt (toP f m x) (toP f m y) := by
  have base : ∀ (f : Nat) (x y : D), (∀ xs, x ≠ .tup xs) → alB f x y = true → ltB f m x y = PySem.W.dataLt (toP f m x) (toP f m y) := by
    intro f x y nt h
    cases x <;> cases y <;> first | (unfold alB at h; cases h; done) | skip
    · rename_i a b
      unfold toP ltB
      dsimp only
      rw [PySem.W.dataLt_bool]
      cases a <;> cases b <;> rfl
    · unfold toP ltB
      dsimp only
      rw [PySem.W.dataLt_int, iltB_eq]
    · unfold toP ltB
      dsimp only
      rw [PySem.W.dataLt_str]; rfl
    · exact absurd rfl (nt _)
  intro f
  induction f with
  | zero =>
    intro x y hx hy h
    refine base 0 x y (fun xs e => ?_) h
    subst e
    unfold okD at hx; cases hx
  | succ f ih =>
    intro x y hx hy h
    by_cases ht : ∃ xs, x = .tup xs
    · obtain ⟨xs, rfl⟩ := ht
      cases y <;> first | (unfold alB at h; cases h; done) | skip
      rename_i ys
      unfold okD at hx hy
      unfold alB at h
      unfold toP ltB
      dsimp only
      rw [PySem.W.dataLt_tuple]
      exact ltAll_eq ih xs ys hx hy h
    · exact base (f + 1) x y (fun xs e => ht ⟨xs, e⟩) h
def rLtD (K : PySem.W.Frag) : R2 := fun x y H Q => ∃ d e, Dp K H x d ∧ Dp K H y e ∧ PySem.W.alike d e = true ∧ d ≠ .none ∧ d.depth ≤ FU ∧ Q (.bl (PySem.W.dataLt d e)) H
def rGtD (K : PySem.W.Frag) : R2 := fun x y H Q => ∃ d e, Dp K H x d ∧ Dp K H y e ∧ PySem.W.alike d e = true ∧ d ≠ .none ∧ d.depth ≤ FU ∧ Q (.bl (PySem.W.dataLt e d)) H
theorem op_ltD {X : Cx} (hu : X.A.units + 64 < cLine) : OpR X (compareOp .Lt) (rLtD X.K) := by
  intro pins s σ H x y v u Q I rx ry h
  obtain ⟨d, e, hd, he, al, nn, dp, q⟩ := h
  obtain ⟨as, r1⟩ := Dp.reads I d x v hd rx
  obtain ⟨bs, r2⟩ := Dp.reads I e y u he ry
  have hm : X.A.units + min d.depth e.depth < cLine := by
    have : min d.depth e.depth ≤ d.depth := Nat.min_le_left _ _
    have : (FU : Nat) = 12 := rfl
    omega
  exact PySem.W.rcLt_alike d e X.A s v u as bs r1 r2 al nn hm _ _ _ _ ⟨.bl _, H, I, rfl, q⟩
theorem op_gtD {X : Cx} (hu : X.A.units + 64 < cLine) : OpR X (compareOp .Gt) (rGtD X.K) := by
  intro pins s σ H x y v u Q I rx ry h
  obtain ⟨d, e, hd, he, al, nn, dp, q⟩ := h
  obtain ⟨as, r1⟩ := Dp.reads I d x v hd rx
  obtain ⟨bs, r2⟩ := Dp.reads I e y u he ry
  have hm : X.A.units + min d.depth e.depth < cLine := by
    have : min d.depth e.depth ≤ d.depth := Nat.min_le_left _ _
    have : (FU : Nat) = 12 := rfl
    omega
  exact PySem.W.rcGt_alike d e X.A s v u as bs r1 r2 al nn hm _ _ _ _ ⟨.bl _, H, I, rfl, q⟩
def ltD : Sem2 := fun x y m k => match x, y with
  | .int i, .int j => k (.bl (iltB i j)) m
  | x, y => okD FU m x && okD FU m y && alB FU x y && k (.bl (ltB FU m x y)) m
def gtD : Sem2 := fun x y m k => match x, y with
  | .int i, .int j => k (.bl (iltB j i)) m
  | x, y => okD FU m x && okD FU m y && alB FU x y && alB FU y x && k (.bl (ltB FU m y x)) m
def leD : Sem2 := fun x y m k => match x, y with
  | .int i, .int j => k (.bl (ileB i j)) m
  | _, _ => false
def geD : Sem2 := fun x y m k => match x, y with
  | .int i, .int j => k (.bl (ileB j i)) m
  | _, _ => false
theorem r_lt {X : Cx} (hu : X.A.units + 64 < cLine) : OpR X (compareOp .Lt) (fun x y H Q => rI0 (fun i j => .bl (decide (i < j))) x y H Q ∨ rLtD X.K x y H Q) := op_lt.or (op_ltD hu)
theorem r_gt {X : Cx} (hu : X.A.units + 64 < cLine) : OpR X (compareOp .Gt) (fun x y H Q => rI0 (fun i j => .bl (decide (j < i))) x y H Q ∨ rGtD X.K x y H Q) := op_gt.or (op_gtD hu)
theorem o_lt {Z : Wd} : Op2 Z ltD (fun x y H Q => rI0 (fun i j => .bl (decide (i < j))) x y H Q ∨ rLtD Z.K x y H Q) := by
  intro μ m H x y dx dy k Q S rx ry h P
  unfold ltD at h
  split at h
  · cases rx
    cases ry
    rw [iltB_eq] at h
    exact .inl ⟨_, _, rfl, rfl, post_bl P S h⟩
  · obtain ⟨h1, h4⟩ := and2 h
    obtain ⟨h1, h3⟩ := and2 h1
    obtain ⟨h1, h2⟩ := and2 h1
    obtain ⟨a1, a2, a3⟩ := Rep.dp S FU dx x rx h1
    obtain ⟨b1, b2, b3⟩ := Rep.dp S FU dy y ry h2
    rw [ltB_eq FU dx dy h1 h2 h3] at h4
    exact .inr ⟨_, _, a1, b1, alB_eq FU dx dy h1 h2 h3, alB_ne FU dx dy h1 h3, a3, post_bl P S h4⟩
theorem o_gt {Z : Wd} : Op2 Z gtD (fun x y H Q => rI0 (fun i j => .bl (decide (j < i))) x y H Q ∨ rGtD Z.K x y H Q) := by
  intro μ m H x y dx dy k Q S rx ry h P
  unfold gtD at h
  split at h
  · cases rx
    cases ry
    rw [iltB_eq] at h
    exact .inl ⟨_, _, rfl, rfl, post_bl P S h⟩
  · obtain ⟨h1, h4⟩ := and2 h
    obtain ⟨h1, h5⟩ := and2 h1
    obtain ⟨h1, h3⟩ := and2 h1
    obtain ⟨h1, h2⟩ := and2 h1
    obtain ⟨a1, a2, a3⟩ := Rep.dp S FU dx x rx h1
    obtain ⟨b1, b2, b3⟩ := Rep.dp S FU dy y ry h2
    rw [ltB_eq FU dy dx h2 h1 h5] at h4
    exact .inr ⟨_, _, a1, b1, alB_eq FU dx dy h1 h2 h3, alB_ne FU dx dy h1 h3, a3, post_bl P S h4⟩
theorem o_le {Z : Wd} : Op2 Z leD (rI0 fun i j => .bl (decide (i ≤ j))) := by
  intro μ m H x y dx dy k Q S rx ry h P
  unfold leD at h
  split at h
  · cases rx
    cases ry
    rw [ileB_eq] at h
    exact ⟨_, _, rfl, rfl, post_bl P S h⟩
  · cases h
theorem o_ge {Z : Wd} : Op2 Z geD (rI0 fun i j => .bl (decide (j ≤ i))) := by
  intro μ m H x y dx dy k Q S rx ry h P
  unfold geD at h
  split at h
  · cases rx
    cases ry
    rw [ileB_eq] at h
    exact ⟨_, _, rfl, rfl, post_bl P S h⟩
  · cases h

/-! ### in -/
theorem op_inTup {X : Cx} (hu : X.A.units + 65 < cLine) : OpR X (compareOp .In) (fun x y H Q => ∃ d ds, Dp X.K H x d ∧ Dp X.K H y (.tuple ds) ∧ SeqAt.shaped d = true ∧ SeqAt.shaped (.tuple ds) = true ∧ Q (.bl (ds.any fun z => PyData.eqv z d)) H) := by
  intro pins s σ H x y v u Q I rx ry h
  obtain ⟨d, ds, hd, he, sd, se, q⟩ := h
  obtain ⟨as, r1⟩ := Dp.reads I d x v hd rx
  obtain ⟨bs, r2⟩ := Dp.reads I (.tuple ds) y u he ry
  exact SeqAt.in_tuple_reads r2 r1 (SeqAt.canLay_of_shaped se) (SeqAt.canLay_of_shaped sd) (room_in_shaped sd hu) ⟨.bl _, H, I, rfl, q⟩
theorem op_ninTup {X : Cx} (hu : X.A.units + 65 < cLine) : OpR X (compareOp .NotIn) (fun x y H Q => ∃ d ds, Dp X.K H x d ∧ Dp X.K H y (.tuple ds) ∧ SeqAt.shaped d = true ∧ SeqAt.shaped (.tuple ds) = true ∧ Q (.bl (!ds.any fun z => PyData.eqv z d)) H) := by
  intro pins s σ H x y v u Q I rx ry h
  obtain ⟨d, ds, hd, he, sd, se, q⟩ := h
  obtain ⟨as, r1⟩ := Dp.reads I d x v hd rx
  obtain ⟨bs, r2⟩ := Dp.reads I (.tuple ds) y u he ry
  exact SeqAt.notIn_tuple_reads r2 r1 (SeqAt.canLay_of_shaped se) (SeqAt.canLay_of_shaped sd) (room_in_shaped sd hu) ⟨.bl _, H, I, rfl, q⟩
end
end Ev

set_option Elab.async false
set_option linter.all false
set_option maxRecDepth 100000
set_option maxHeartbeats 1000000
/-! Ev5: membership, items, slices, calls of built-ins, methods. -/
namespace Ev
open PySem PySem.Spec PyProof.Rows L2
noncomputable section

/-! ### dicts with int and text keys -/
def keqB : Key → Key → Bool
  | .inl a, .inl b => ieqB a b
  | .inr a, .inr b => a == b
  | _, _ => false
theorem keqB_eq (a b : Key) : keqB a b = decide (a = b) := by
  cases a <;> cases b
  · show ieqB _ _ = _
    rw [ieqB_eq, Bool.eq_iff_iff]; simp
  · rfl
  · rfl
  · show (_ == _) = _
    rw [Bool.eq_iff_iff]; simp
def keyD : D → Option Key
  | .int i => some (.inl i)
  | .str x => some (.inr x)
  | _ => none
theorem keyD_rep {Z : Wd} {μ : Nat → Addr} {n : Nat} {H : Hp} {d : D} {v : V} {k : Key} (r : Rep Z μ n H d v) (h : keyD d = some k) : v = kV k := by
  cases r <;> first | (cases h; done) | (cases h; rfl)
def lookK (kvs : List (Key × D)) (k : Key) : Option D := match kvs with
  | [] => none
  | (j, d) :: r => match keqB j k with | true => some d | false => lookK r k
def hasK (kvs : List (Key × D)) (k : Key) : Bool := match kvs with
  | [] => false
  | (j, _) :: r => match keqB j k with | true => true | false => hasK r k
def replK (kvs : List (Key × D)) (k : Key) (d : D) : List (Key × D) := match kvs with
  | [] => []
  | (j, e) :: r => (j, match keqB j k with | true => d | false => e) :: replK r k d
def putD (kvs : List (Key × D)) (k : Key) (d : D) : List (Key × D) := match hasK kvs k with
  | true => replK kvs k d
  | false => kvs ++ [(k, d)]
def dropD (kvs : List (Key × D)) (k : Key) : List (Key × D) := match kvs with
  | [] => []
  | (j, e) :: r => match keqB j k with | true => dropD r k | false => (j, e) :: dropD r k
theorem look_rep {R : D → V → Prop} {k : Key} : ∀ {kvs : List (Key × D)} {ws : List (Key × V)}, KReps R kvs ws → (lookK kvs k = none ∧ valV ws k = none) ∨ ∃ d v, lookK kvs k = some d ∧ valV ws k = some v ∧ R d v
  | _, _, .nil => .inl ⟨rfl, rfl⟩
  | _, _, .cons (k := j) (d := d) (v := v) h hs => by
    unfold lookK
    rw [keqB_eq]
    by_cases e : j = k
    · rw [decide_eq_true e]
      exact .inr ⟨d, v, rfl, valV_pos (p := (j, v)) e, h⟩
    · rw [decide_eq_false e, valV_neg (p := (j, v)) e]
      exact look_rep hs
theorem has_rep {R : D → V → Prop} {k : Key} : ∀ {kvs : List (Key × D)} {ws : List (Key × V)}, KReps R kvs ws → (ws.any fun kv => decide (kv.1 = k)) = hasK kvs k
  | _, _, .nil => rfl
  | _, _, .cons (k := j) (d := d) (v := v) h hs => by
    unfold hasK
    rw [keqB_eq, List.any_cons, has_rep hs]
    show (decide (j = k) || _) = _
    cases decide (j = k) <;> rfl
theorem repl_rep {R : D → V → Prop} {k : Key} {d : D} {v : V} (hr : R d v) : ∀ {kvs : List (Key × D)} {ws : List (Key × V)}, KReps R kvs ws → KReps R (replK kvs k d) (ws.map fun kv => if kv.1 = k then (kv.1, v) else kv)
  | _, _, .nil => .nil
  | _, _, .cons (k := j) (d := e) (v := u) h hs => by
    unfold replK
    rw [keqB_eq, List.map_cons]
    by_cases ej : j = k
    · rw [decide_eq_true ej, if_pos (show (j, u).1 = k from ej)]
      exact .cons hr (repl_rep hr hs)
    · rw [decide_eq_false ej, if_neg (show ¬ (j, u).1 = k from ej)]
      exact .cons h (repl_rep hr hs)
theorem kreps_append {κ : Type} {R : D → V → Prop} : ∀ {ks ls : List (κ × D)} {vs ws : List (κ × V)}, KReps R ks vs → KReps R ls ws → KReps R (ks ++ ls) (vs ++ ws)
  | _, _, _, _, .nil, h => h
  | _, _, _, _, .cons h hs, h2 => .cons h (kreps_append hs h2)
theorem put_rep {R : D → V → Prop} {k : Key} {d : D} {v : V} (hr : R d v) {kvs : List (Key × D)} {ws : List (Key × V)} (h : KReps R kvs ws) : KReps R (putD kvs k d) (putK ws k v) := by
  unfold putD putK
  rw [has_rep h]
  cases hasK kvs k with
  | true => exact repl_rep hr h
  | false => exact kreps_append h (.cons hr .nil)
theorem drop_rep {R : D → V → Prop} {k : Key} : ∀ {kvs : List (Key × D)} {ws : List (Key × V)}, KReps R kvs ws → KReps R (dropD kvs k) (dropK ws k)
  | _, _, .nil => .nil
  | _, _, .cons (k := j) (d := e) (v := u) (ks := ks) (vs := vs) h hs => by
    unfold dropD dropK
    rw [keqB_eq, List.filter_cons]
    by_cases ej : j = k
    · rw [decide_eq_true ej, if_neg (by simp [ej])]
      exact drop_rep hs
    · rw [decide_eq_false ej, if_pos (by simp [ej])]
      exact .cons h (drop_rep hs)
end
end Ev

set_option Elab.async false
set_option linter.all false
set_option maxRecDepth 100000
set_option maxHeartbeats 1000000
/-! Ev6: membership, items, slices, calls of built-ins. -/
namespace Ev
open PySem PySem.Spec PyProof.Rows L2
noncomputable section

/-! ### in -/
def rInDict : R2 := fun y x H Q => ∃ a o, x = .ref a ∧ DGet H a y o ∧ Q (.bl o.isSome) H
def rNinDict : R2 := fun y x H Q => ∃ a o, x = .ref a ∧ DGet H a y o ∧ Q (.bl (!o.isSome)) H
theorem op_inDict {X : Cx} (hu : X.A.units + 1 < cLine) : OpR X (compareOp .In) rInDict := by
  intro pins s σ H y x v u Q I ry rx ⟨a, o, ex, g, q⟩
  subst ex
  obtain rfl : u = Value.ref a := rx
  exact d_in hu I g ry fun s3 I3 => ⟨.bl o.isSome, H, I3, rfl, q⟩
theorem op_ninDict {X : Cx} (hu : X.A.units + 1 < cLine) : OpR X (compareOp .NotIn) rNinDict := by
  intro pins s σ H y x v u Q I ry rx ⟨a, o, ex, g, q⟩
  subst ex
  obtain rfl : u = Value.ref a := rx
  exact d_notIn hu I g ry fun s3 I3 => ⟨.bl (!o.isSome), H, I3, rfl, q⟩
def rInA (K : PySem.W.Frag) : R2 := fun x y H Q => rInD K x y H Q ∨ (∃ d ds, Dp K H x d ∧ Dp K H y (.tuple ds) ∧ SeqAt.shaped d = true ∧ SeqAt.shaped (.tuple ds) = true ∧ Q (.bl (ds.any fun z => PyData.eqv z d)) H) ∨ rInDict x y H Q
def rNinA (K : PySem.W.Frag) : R2 := fun x y H Q => rNotInD K x y H Q ∨ (∃ d ds, Dp K H x d ∧ Dp K H y (.tuple ds) ∧ SeqAt.shaped d = true ∧ SeqAt.shaped (.tuple ds) = true ∧ Q (.bl (!ds.any fun z => PyData.eqv z d)) H) ∨ rNinDict x y H Q
theorem r_in {X : Cx} (hu : X.A.units + 65 < cLine) : OpR X (compareOp .In) (rInA X.K) := (op_inD hu).or ((op_inTup hu).or (op_inDict (by omega)))
theorem r_nin {X : Cx} (hu : X.A.units + 65 < cLine) : OpR X (compareOp .NotIn) (rNinA X.K) := (op_notInD hu).or ((op_ninTup hu).or (op_ninDict (by omega)))
/-- the answer of x in y -/
def memD (x y : D) (m : M) (k : Bool → Bool) : Bool := match y with
  | .tup ys => okD 11 m x && ys.all (okD 11 m) && k (ys.any fun z => eqB 11 m z x)
  | .ref i => (match m.get i with
    | some (.lst ys) => okD 11 m x && ys.all (okD 11 m) && k (ys.any fun z => eqB 11 m z x)
    | some (.dic kvs) => (match keyD x with | some j => k (lookK kvs j).isSome | none => false)
    | some (.dil kvs) => (match keyD x with | some j => k (lookK kvs j).isSome | none => false)
    | _ => false)
  | _ => false
def inD : Sem2 := fun x y m k => memD x y m fun b => k (.bl b) m
def ninD : Sem2 := fun x y m k => memD x y m fun b => k (.bl (!b)) m
theorem any_eq {m : M} {x : D} (hx : okD 11 m x = true) : ∀ {ys : List D}, ys.all (okD 11 m) = true → (ys.any fun z => eqB 11 m z x) = ((ys.map (toP 11 m)).any fun z => PyData.eqv z (toP 11 m x))
  | [], _ => rfl
  | y :: ys, h => by
    rw [List.all_cons] at h
    obtain ⟨h1, h2⟩ := and2 h
    rw [List.any_cons, List.map_cons, List.any_cons, eqB_eq 11 y x h1 hx, any_eq hx h2]
theorem shaped_seq {m : M} {d : PyData} (h : d.canLay0 = true) (h2 : d.depth ≤ 12) : SeqAt.shaped d = true := shaped_of h h2
theorem mem_rep {Z : Wd} {μ : Nat → Addr} {m : M} {H : Hp} {x y : V} {dx dy : D} {k : Bool → Bool} (S : Sim Z μ m H) (rx : Rep Z μ m.n H dx x) (ry : Rep Z μ m.n H dy y) (h : memD dx dy m k = true) :
    (∃ d ds, Dp Z.K H x d ∧ Dp Z.K H y (.list ds) ∧ SeqAt.shaped d = true ∧ SeqAt.shaped (.list ds) = true ∧ k (ds.any fun z => PyData.eqv z d) = true) ∨
    (∃ d ds, Dp Z.K H x d ∧ Dp Z.K H y (.tuple ds) ∧ SeqAt.shaped d = true ∧ SeqAt.shaped (.tuple ds) = true ∧ k (ds.any fun z => PyData.eqv z d) = true) ∨ ∃ a o, y = .ref a ∧ DGet H a x o ∧ k o.isSome = true := by
  cases ry with
  | tup hq rs =>
    unfold memD at h
    dsimp only at h
    obtain ⟨h1, h3⟩ := and2 h
    obtain ⟨h1, h2⟩ := and2 h1
    obtain ⟨a1, a2, a3⟩ := Rep.dp S 11 dx x rx h1
    obtain ⟨b1, b2, b3⟩ := Reps.dpAll (Rep.dp S 11) rs h2
    rw [any_eq h1 h2] at h3
    refine .inr (.inl ⟨_, _, a1, .tup hq b1, shaped_of a2 (Nat.le_succ_of_le a3), shaped_of b2 ?_, h3⟩)
    show PyData.depthAll _ + 1 ≤ 12
    omega
  | ref hi =>
    unfold memD at h
    dsimp only at h
    split at h
    · rename_i ys g
      obtain ⟨vs, e, rs⟩ := S.lst g
      obtain ⟨h1, h3⟩ := and2 h
      obtain ⟨h1, h2⟩ := and2 h1
      obtain ⟨a1, a2, a3⟩ := Rep.dp S 11 dx x rx h1
      obtain ⟨b1, b2, b3⟩ := Reps.dpAll (Rep.dp S 11) rs h2
      rw [any_eq h1 h2] at h3
      refine .inl ⟨_, _, a1, .lst (SqL.of e) b1, shaped_of a2 (Nat.le_succ_of_le a3), shaped_of b2 ?_, h3⟩
      show PyData.depthAll _ + 1 ≤ 12
      omega
    · rename_i kvs g
      obtain ⟨ws, e, rs⟩ := S.obj _ _ g
      split at h
      · rename_i j hj
        have ex := keyD_rep rx hj
        subst ex
        refine .inr (.inr ⟨_, _, rfl, .inl ⟨ws, j, .inl e, rfl, rfl⟩, ?_⟩)
        rcases look_rep (k := j) rs with ⟨q1, q2⟩ | ⟨d, v, q1, q2, _⟩
        · rw [q1] at h; rw [q2]; exact h
        · rw [q1] at h; rw [q2]; exact h
      · cases h
    · rename_i kvs g
      obtain ⟨ws, o, e, rs⟩ := S.obj _ _ g
      split at h
      · rename_i j hj
        have ex := keyD_rep rx hj
        subst ex
        refine .inr (.inr ⟨_, _, rfl, .inl ⟨ws, j, .inr ⟨o, e⟩, rfl, rfl⟩, ?_⟩)
        rcases look_rep (k := j) rs with ⟨q1, q2⟩ | ⟨d, v, q1, q2, _⟩
        · rw [q1] at h; rw [q2]; exact h
        · rw [q1] at h; rw [q2]; exact h
      · cases h
    · cases h
  | _ => cases h
theorem o_in {Z : Wd} : Op2 Z inD (rInA Z.K) := by
  intro μ m H x y dx dy k Q S rx ry h P
  rcases mem_rep S rx ry h with ⟨d, ds, a, b, c, e, f⟩ | ⟨d, ds, a, b, c, e, f⟩ | ⟨p, o, a, b, c⟩
  · exact .inl ⟨d, ds, a, b, c, e, post_bl P S f⟩
  · exact .inr (.inl ⟨d, ds, a, b, c, e, post_bl P S f⟩)
  · exact .inr (.inr ⟨p, o, a, b, post_bl P S c⟩)
theorem o_nin {Z : Wd} : Op2 Z ninD (rNinA Z.K) := by
  intro μ m H x y dx dy k Q S rx ry h P
  rcases mem_rep S rx ry h with ⟨d, ds, a, b, c, e, f⟩ | ⟨d, ds, a, b, c, e, f⟩ | ⟨p, o, a, b, c⟩
  · exact .inl ⟨d, ds, a, b, c, e, post_bl P S f⟩
  · exact .inr (.inl ⟨d, ds, a, b, c, e, post_bl P S f⟩)
  · exact .inr (.inr ⟨p, o, a, b, post_bl P S c⟩)

/-! ### is -/
def isD : Sem2 := fun x y m k => match y with
  | .non => (match x with | .non => k (.bl true) m | .und => false | _ => k (.bl false) m)
  | .bl b => (match x with | .bl a => k (.bl (a == b)) m | _ => false)
  | _ => false
def isnD : Sem2 := fun x y m k => match y with
  | .non => (match x with | .non => k (.bl false) m | .und => false | _ => k (.bl true) m)
  | .bl b => (match x with | .bl a => k (.bl (!(a == b))) m | _ => false)
  | _ => false
def rIsA : R2 := fun x y H Q => (y = .non ∧ Q (.bl (decide (x = .non))) H) ∨ rIsB x y H Q
def rIsnA : R2 := fun x y H Q => (y = .non ∧ Q (.bl (!decide (x = .non))) H) ∨ rNotB x y H Q
theorem r_is {X : Cx} : OpR X (compareOp .Is) rIsA := op_isN.or op_isBl
theorem r_isn {X : Cx} : OpR X (compareOp .IsNot) rIsnA := op_notN.or op_notBl
theorem beq_dec (a b : Bool) : (a == b) = decide (a = b) := by cases a <;> cases b <;> rfl
theorem o_is {Z : Wd} : Op2 Z isD rIsA := by
  intro μ m H x y dx dy k Q S rx ry h P
  cases ry with
  | non => cases rx <;> first | exact .inl ⟨rfl, post_bl P S h⟩
  | bl =>
    cases rx <;> first | (cases h; done) | skip
    refine .inr ⟨_, _, rfl, rfl, post_bl P S ?_⟩
    unfold isD at h
    dsimp only at h
    rw [beq_dec] at h; exact h
  | _ => cases rx <;> cases h
theorem o_isn {Z : Wd} : Op2 Z isnD rIsnA := by
  intro μ m H x y dx dy k Q S rx ry h P
  cases ry with
  | non => cases rx <;> first | exact .inl ⟨rfl, post_bl P S h⟩
  | bl =>
    cases rx <;> first | (cases h; done) | skip
    refine .inr ⟨_, _, rfl, rfl, post_bl P S ?_⟩
    unfold isnD at h
    dsimp only at h
    rw [beq_dec] at h; exact h
  | _ => cases rx <;> cases h

/-! ### items -/
def rIxDict : R2 := fun x y H Q => ∃ a v, x = .ref a ∧ DGet H a y (some v) ∧ Q v H
theorem ix_dict {X : Cx} (hu : X.A.units + 1 < cLine) : IxR X rIxDict := by
  intro value slice pins s σ H x y v u Q I rx ry ⟨a, z, ex, g, q⟩ hs
  subst ex
  obtain rfl : v = Value.ref a := rx
  unfold subscriptTail
  refine wpAny_bind ?_
  rw [getitemInPython_of_ne (dict_typeIs I g).not_modules]
  refine wpAny_bind (wpAny_specialOf (dict_typeIs I g) PySem.F.slot_dict_getitem.lookup ?_)
  have fin : wpAny (model X.prog X.w) X.A (subscripted slice false (.ref a) u) (fun r s₃ => wpAny (model X.prog X.w) X.A (letTemporaryGo value (.ref a) r >>= fun _ => pure r) (EP X pins σ Q) X.xe s₃) X.xe s := by
    rw [hs]
    exact wpAny_operating (d_getItem hu I g ry fun w' s3 I3 rw' => wpAny_bind (wpAny_letTemporaryGo (wpAny_pure ⟨z, H, I3, rw', q⟩)))
  first
    | exact wpAny_pure (wpAny_bind fin)
    | exact wpAny_bind (wpAny_pure (wpAny_bind fin))
    | exact wpAny_bind fin
def rIxA (K : PySem.W.Frag) : R2 := fun x y H Q => rIxL K x y H Q ∨ rIxT K x y H Q ∨ rIxS x y H Q ∨ rIxDict x y H Q
theorem r_ix {X : Cx} (hu : X.A.units + 1 < cLine) : IxR X (rIxA X.K) := ix_list.or (ix_tup.or (ix_str.or (ix_dict hu)))
/-- the place of an item -/
def plI (n : Nat) (i : Int) : Option Nat := match i with
  | .ofNat k => (match Nat.blt k n with | true => some k | false => none)
  | .negSucc k => (match Nat.blt k n with | true => some (n - 1 - k) | false => none)
theorem plI_eq (n : Nat) (i : Int) : plI n i = ixN n i := by
  have bl : ∀ x y : Nat, Nat.blt x y = decide (x < y) := fun x y => by
    unfold Nat.blt
    rw [Bool.eq_iff_iff]
    simp only [Nat.ble_eq, decide_eq_true_eq]
    exact Iff.rfl
  unfold ixN
  cases i with
  | ofNat k =>
    show (match Nat.blt k n with | true => some k | false => none) = _
    rw [bl]
    by_cases h : k < n
    · rw [decide_eq_true h, if_pos (show 0 ≤ Int.ofNat k from Int.natCast_nonneg k), if_pos (show Int.ofNat k < (n : Int) from Int.ofNat_lt.mpr h)]; rfl
    · rw [decide_eq_false h, if_pos (show 0 ≤ Int.ofNat k from Int.natCast_nonneg k), if_neg (show ¬ Int.ofNat k < (n : Int) from fun z => h (Int.ofNat_lt.mp z))]
  | negSucc k =>
    show (match Nat.blt k n with | true => some (n - 1 - k) | false => none) = _
    rw [bl]
    by_cases h : k < n
    · rw [decide_eq_true h, if_neg (by omega), if_pos (by omega)]
      show some (n - 1 - k) = _
      congr 1
      omega
    · rw [decide_eq_false h, if_neg (by omega), if_neg (by omega)]
def nthD (xs : List D) : Nat → Option D := match xs with
  | [] => fun _ => none
  | x :: r => fun i => match i with | 0 => some x | i + 1 => nthD r i
theorem nthD_eq : ∀ (xs : List D) (i : Nat), nthD xs i = xs[i]?
  | [], _ => rfl
  | x :: r, 0 => rfl
  | x :: r, i + 1 => by
    show nthD r i = _
    rw [nthD_eq r i]; rfl
def atD (xs : List D) (i : Int) (k : D → Bool) : Bool := match plI xs.length i with
  | none => false
  | some j => (match nthD xs j with | some d => k d | none => false)
theorem at_rep {Z : Wd} {μ : Nat → Addr} {n : Nat} {H : Hp} {xs : List D} {vs : List V} {i : Int} {k : D → Bool} (r : Reps Z μ n H xs vs) (h : atD xs i k = true) : ∃ d v, atI vs i = some v ∧ Rep Z μ n H d v ∧ k d = true := by
  unfold atD at h
  rw [plI_eq, r.length] at h
  split at h
  · cases h
  · rename_i j hj
    rw [nthD_eq] at h
    split at h
    · rename_i d hd
      obtain ⟨v, h1, h2⟩ := r.get hd
      refine ⟨d, v, ?_, h2, h⟩
      unfold atI
      rw [hj]
      exact h1
    · cases h
def ixD : Sem2 := fun x y m k => match x with
  | .tup xs => (match y with | .int i => atD xs i fun d => k d m | _ => false)
  | .str z => (match y with | .int i => Nat.ble z.length LIM && (match plI z.length i with | some j => (match z.cps.toList[j]? with | some c => k (.str ⟨#[c]⟩) m | none => false) | none => false) | _ => false)
  | .ref a => (match m.get a with
    | some (.lst xs) => (match y with | .int i => atD xs i fun d => k d m | _ => false)
    | some (.dic kvs) => (match keyD y with | some j => (match lookK kvs j with | some d => k d m | none => false) | none => false)
    | some (.dil kvs) => (match keyD y with | some j => (match lookK kvs j with | some d => k d m | none => false) | none => false)
    | _ => false)
  | _ => false
theorem look_some {R : D → V → Prop} {kvs : List (Key × D)} {ws : List (Key × V)} {j : Key} {d : D} (r : KReps R kvs ws) (h : lookK kvs j = some d) : ∃ v, valV ws j = some v ∧ R d v := by
  rcases look_rep (k := j) r with ⟨q1, _⟩ | ⟨d', v, q1, q2, q3⟩
  · rw [h] at q1; cases q1
  · rw [h] at q1; cases q1; exact ⟨v, q2, q3⟩
theorem o_ix {Z : Wd} : Op2 Z ixD (rIxA Z.K) := by
  intro μ m H x y dx dy k Q S rx ry h P
  cases rx with
  | tup hq rs =>
    cases ry with
    | int =>
      obtain ⟨d, v, h1, h2, h3⟩ := at_rep rs h
      exact .inr (.inl ⟨_, _, _, v, rfl, rfl, hq, h1, P.now S h2 h3⟩)
    | _ => cases h
  | str =>
    cases ry with
    | int =>
      obtain ⟨h1, h2⟩ := and2 h
      rw [plI_eq] at h2
      split at h2
      · rename_i j hj
        split at h2
        · rename_i c hc
          refine .inr (.inr (.inl ⟨_, _, c, rfl, rfl, ble_lim h1, ?_, P.now S .str h2⟩))
          unfold atI
          rw [Array.length_toList]
          rw [show Array.size _ = Str.length _ from rfl, hj]
          exact hc
        · cases h2
      · cases h2
    | _ => cases h
  | ref hi =>
    unfold ixD at h
    dsimp only at h
    split at h
    · rename_i xs g
      obtain ⟨vs, e, rs⟩ := S.lst g
      cases ry with
      | int =>
        obtain ⟨d, v, h1, h2, h3⟩ := at_rep rs h
        exact .inl ⟨_, _, _, v, rfl, rfl, SqL.of e, h1, P.now S h2 h3⟩
      | _ => cases h
    · rename_i kvs g
      obtain ⟨ws, e, rs⟩ := S.obj _ _ g
      split at h
      · rename_i j hj
        have ey := keyD_rep ry hj
        subst ey
        split at h
        · rename_i d hd
          obtain ⟨v, h1, h2⟩ := look_some rs hd
          exact .inr (.inr (.inr ⟨_, v, rfl, .inl ⟨ws, j, .inl e, rfl, h1.symm⟩, P.now S h2 h⟩))
        · cases h
      · cases h
    · rename_i kvs g
      obtain ⟨ws, o, e, rs⟩ := S.obj _ _ g
      split at h
      · rename_i j hj
        have ey := keyD_rep ry hj
        subst ey
        split at h
        · rename_i d hd
          obtain ⟨v, h1, h2⟩ := look_some rs hd
          exact .inr (.inr (.inr ⟨_, v, rfl, .inl ⟨ws, j, .inr ⟨o, e⟩, rfl, h1.symm⟩, P.now S h2 h⟩))
        · cases h
      · cases h
    · cases h
  | _ => cases h
/-- o[i] = v: lists, dicts -/
def rSetA : TSet := fun o i v H Q => rSetL o i v H Q ∨ ∃ a H', o = .ref a ∧ DPut H a i v H' ∧ Q H'
theorem set_dict {X : Cx} (hu : X.A.units + 1 < cLine) : PSet X fun o i v H Q => ∃ a H', o = .ref a ∧ DPut H a i v H' ∧ Q H' := by
  intro pins s σ H o i v ov iv u Q I ro ri rv ⟨a, H', eo, g, q⟩
  subst eo
  obtain rfl : ov = Value.ref a := ro
  exact d_setItem hu I g ri rv fun s' I' => ⟨H', I', q⟩
theorem PSet.or {X : Cx} {t t' : TSet} (h : PSet X t) (h' : PSet X t') : PSet X fun o i v H Q => t o i v H Q ∨ t' o i v H Q := by
  intro pins s σ H o i v ov iv u Q I ro ri rv q
  rcases q with q | q
  · exact h pins s σ H o i v ov iv u Q I ro ri rv q
  · exact h' pins s σ H o i v ov iv u Q I ro ri rv q
theorem r_set {X : Cx} (hu : X.A.units + 1 < cLine) : PSet X rSetA := PSet.or set_list (set_dict hu)
def setD (o i v : D) (m : M) (k : M → Bool) : Bool := match o with
  | .ref a => Nat.ble m.rn a && (match m.get a with
    | some (.lst xs) => (match i with
      | .int j => (match plI xs.length j with | some p => k (m.set a (.lst (xs.set p v))) | none => false)
      | _ => false)
    | some (.dic kvs) => (match keyD i with | some j => Nat.ble kvs.length LIM && k (m.set a (.dic (putD kvs j v))) | none => false)
    | _ => false)
  | _ => false
/-- what is wanted where nothing but the heap is handed on -/
def PostM (Z : Wd) (μ : Nat → Addr) (m : M) (H : Hp) (k : M → Bool) (Q : Hp → Prop) : Prop := ∀ μ' m' H', Lt μ m H μ' m' H' → Sim Z μ' m' H' → k m' = true → Q H'
theorem o_set {Z : Wd} {μ : Nat → Addr} {m : M} {H : Hp} {o i v : V} {do' di dv : D} {k : M → Bool} {Q : Hp → Prop} (S : Sim Z μ m H) (ro : Rep Z μ m.n H do' o) (ri : Rep Z μ m.n H di i) (rv : Rep Z μ m.n H dv v)
    (h : setD do' di dv m k = true) (P : PostM Z μ m H k Q) : rSetA o i v H Q := by
  cases ro with
  | ref hi =>
    obtain ⟨hr, h⟩ := and2 h
    have hr := Nat.le_of_ble_eq_true hr
    split at h
    · rename_i xs g
      obtain ⟨vs, e, rs⟩ := S.lst g
      cases ri with
      | int =>
        dsimp only at h
        rw [plI_eq, rs.length] at h
        split at h
        · rename_i p hp
          obtain ⟨S', L'⟩ := S.setL g e hr (rs.set rv p)
          exact .inl ⟨_, vs, _, p, rfl, rfl, e, hp, P μ _ _ L' S' h⟩
        · cases h
      | _ => cases h
    · rename_i kvs g
      obtain ⟨ws, e, rs⟩ := S.obj _ _ g
      split at h
      · rename_i j hj
        have ey := keyD_rep ri hj
        subst ey
        obtain ⟨h1, h2⟩ := and2 h
        obtain ⟨S', L'⟩ := S.set g e (fun _ z => by cases z) (fun _ _ z => by cases z) hr (fun z => by cases z) (fun _ z => by cases z) (fun _ z => by cases z) (o := .dic (putD kvs j dv)) (ho := .dK (putK ws j v)) fun l =>
          ⟨_, upd_same, (put_rep (R := Rep Z μ m.n H) rv rs).mono fun _ _ => Rep.mono l⟩
        exact .inr ⟨_, _, rfl, .inl ⟨ws, j, e, rfl, by rw [← rs.length]; exact ble_lt h1, rfl⟩, P μ _ _ L' S' h2⟩
      · cases h
    · cases h
  | _ => cases h
end
end Ev

set_option Elab.async false
set_option linter.all false
set_option maxRecDepth 100000
set_option maxHeartbeats 1000000
/-! Ev7: slices. -/
namespace HT
open PySem PySem.Spec PyProof.Rows
section
variable {prog : Program} {w : World} {A : Around} {E : Value → Shared → Prop} {s : Shared}
theorem sliceApplied_step {sl : Addr} {vl vu vt : Value} {lo hi : Option Int} {st : Int} {n : Nat} {Q : Int × Int × Nat → Shared → Prop} (hs : s.heap.IsSliceOf sl vl vu vt) (pl : IsPart vl lo) (pu : IsPart vu hi) (pt : IsPart vt (some st)) (h0 : st ≠ 0)
    (h : Q ((Builtin.Slice.sliceAdjust lo hi st (n : Int)).1, st, Builtin.Slice.slicePlaces (Builtin.Slice.sliceAdjust lo hi st (n : Int)).1 (Builtin.Slice.sliceAdjust lo hi st (n : Int)).2 st) s) : wpAny (model prog w) A (Builtin.Slice.sliceApplied (.ref sl) (pure (n : Int))) Q E s := by
  obtain ⟨os, hos, hcs, hds⟩ := id hs
  unfold Builtin.Slice.sliceApplied Builtin.Slice.sliceFields
  refine wpAny_bind (wpAny_bind (wpAny_field hos hds (x := vl) rfl (wpAny_bind (wpAny_field hos hds (x := vu) rfl (wpAny_bind (wpAny_field hos hds (x := vt) rfl (wpAny_pure ?_)))))))
  refine wpAny_bind (slicePart_ pt ?_)
  show wpAny _ _ (if (st == 0) = true then _ else _) _ _ s
  rw [if_neg (by simpa using h0)]
  refine wpAny_bind (slicePart_ pl (wpAny_bind (slicePart_ pu (wpAny_bind (wpAny_pure ?_)))))
  exact wpAny_pure h
/-- the places that a slice with a step picks of a tuple -/
def stepV {α : Type} (xs : List α) (lo hi : Option Int) (st : Int) : List α :=
  (List.range (Builtin.Slice.slicePlaces (Builtin.Slice.sliceAdjust lo hi st (xs.length : Int)).1 (Builtin.Slice.sliceAdjust lo hi st (xs.length : Int)).2 st)).filterMap fun (m : Nat) => xs[((Builtin.Slice.sliceAdjust lo hi st (xs.length : Int)).1 + (m : Int) * st).toNat]?
theorem getItem_tuple_step {t sl : Addr} {items : List Value} {vl vu vt : Value} {lo hi : Option Int} {st : Int} {Q : Value → Shared → Prop} (ht : IsTup s.heap t items.toArray) (hs : s.heap.IsSliceOf sl vl vu vt) (pl : IsPart vl lo) (pu : IsPart vu hi) (pt : IsPart vt (some st)) (h0 : st ≠ 0)
    (h1 : st ≠ 1) (hz : (stepV items lo hi st).length ≤ sizeLine)
    (h : Q (.ref s.heap.objs.size) { s with heap := s.heap.push { cls := .type "tuple", data := .seq (stepV items lo hi st).toArray } }) : wpAny (model prog w) A (getItem (.ref t) (.ref sl)) Q E s := by
  have htake : sizeOk (.seq (stepV items lo hi st).toArray) := by
    show (stepV items lo hi st).toArray.size ≤ sizeLine
    rw [List.size_toArray]; exact hz
  obtain ⟨os, hos, hcs, hds⟩ := id hs
  have hTs : s.TypeIs (.ref sl) "slice" := ⟨os, hos, hcs⟩
  have ea : ((List.range (Builtin.Slice.slicePlaces (Builtin.Slice.sliceAdjust lo hi st ((items.toArray.size : Nat) : Int)).1 (Builtin.Slice.sliceAdjust lo hi st ((items.toArray.size : Nat) : Int)).2 st)).filterMap fun (k : Nat) => items.toArray[((Builtin.Slice.sliceAdjust lo hi st ((items.toArray.size : Nat) : Int)).1 + (k : Int) * st).toNat]?).toArray = (stepV items lo hi st).toArray := by
    unfold stepV
    simp only [List.size_toArray, List.getElem?_toArray]
  unfold getItem
  try with_reducible refine wpAny_holding ?_
  first | refine wpAny_bind (wpAny_pure ?_) | skip
  refine wpAny_bind (wpAny_sequenceKey ht.typeIs (by decide) ?_)
  refine wpAny_bind (wpAny_callSpecial?_slot (name := Str.ofString "__getitem__") ht.typeIs PyProof.Rows.slot_tuple_getitem
    (wpAny_call_entry PyProof.Rows.slot_tuple_getitem ht.typeIs entry_tuple_getitem ?_ (args_tuple_getitem _ _)))
  show wpAny _ _ (Builtin.Tuple.tupleItemsOf (.ref t) >>= _) _ _ s
  refine wpAny_bind (tupleItemsOf_ ht ?_)
  refine wpAny_bind (wpAny_typeOf hTs ?_)
  rw [if_pos (by decide)]
  refine wpAny_bind (sliceApplied_step hs pl pu pt h0 ?_)
  have hno : ¬ (((Builtin.Slice.sliceAdjust lo hi st ((items.toArray.size : Nat) : Int)).1 == 0 && st == 1 && (Builtin.Slice.slicePlaces (Builtin.Slice.sliceAdjust lo hi st ((items.toArray.size : Nat) : Int)).1 (Builtin.Slice.sliceAdjust lo hi st ((items.toArray.size : Nat) : Int)).2 st) == items.toArray.size) = true) := by
    intro q
    rw [Bool.and_eq_true, Bool.and_eq_true] at q
    exact h1 (eq_of_beq q.1.2)
  show wpAny _ _ (if ((Builtin.Slice.sliceAdjust lo hi st ((items.toArray.size : Nat) : Int)).1 == 0 && st == 1 && (Builtin.Slice.slicePlaces (Builtin.Slice.sliceAdjust lo hi st ((items.toArray.size : Nat) : Int)).1 (Builtin.Slice.sliceAdjust lo hi st ((items.toArray.size : Nat) : Int)).2 st) == items.toArray.size) = true then _ else _) _ _ s
  rw [if_neg hno, ea]
  first
    | exact wpAny_bind (m := Builtin.Tuple.tupleExact _) (wpAny_newObj_type (wpAny_pure ⟨_, rfl, wpAny_pure h⟩) htake)
    | exact wpAny_bind (m := Builtin.Tuple.tupleExact _) (wpAny_newObj_type (wpAny_bind (wpAny_pure (wpAny_pure ⟨_, rfl, wpAny_pure h⟩))) htake)
    | exact wpAny_bind (wpAny_bind (m := Builtin.Tuple.tupleExact _) (wpAny_newObj_type (wpAny_pure (wpAny_pure ⟨_, rfl, wpAny_pure h⟩)) htake))
    | exact wpAny_bind (wpAny_bind (m := Builtin.Tuple.tupleExact _) (wpAny_newObj_type (wpAny_pure ⟨_, rfl, wpAny_pure h⟩) htake))
end
end HT

namespace Ev
open PySem PySem.Spec PyProof.Rows L2
noncomputable section
abbrev SemP := Env → M → (Option Int → M → Bool) → Kx → Bool
section
variable (Z : Wd)
def PostP (μ : Nat → Addr) (m : M) (H : Hp) (k : Option Int → M → Bool) (Q : Option Int → Hp → Prop) : Prop := ∀ μ' m' H' o, Lt μ m H μ' m' H' → Sim Z μ' m' H' → k o m' = true → Q o H'
def tP (W : WX) (t : SemP) : TO := fun σ H Q => ∃ μ m ρ k kx, Sim Z μ m H ∧ EnvRep Z μ m.n H ρ σ ∧ t ρ m k kx = true ∧ PostP Z μ m H k Q ∧ XPost Z μ m H kx W σ
end
def noP : SemP := fun _ m k _ => k none m
def someP (a : SemE) : SemP := fun ρ m k kx => a ρ m (fun x m1 => match x with | .int i => k (some i) m1 | _ => false) kx
def cutD (xs : List D) (lo hi : Option Int) : List D := (xs.drop (HT.sIx xs.length 0 lo)).take (HT.sIx xs.length xs.length hi - HT.sIx xs.length 0 lo)
def cutStr (z : Str) (lo hi : Option Int) : Str := ⟨((z.cps.toList.drop (HT.sIx z.length 0 lo)).take (HT.sIx z.length z.length hi - HT.sIx z.length 0 lo)).toArray⟩
def slD (x : D) (lo hi : Option Int) (m : M) (k : Kc) : Bool := match x with
  | .tup xs => k (.tup (cutD xs lo hi)) m
  | .ref a => (match m.get a with
    | some (.lst xs) => k (.ref m.n) (m.alloc (.lst (cutD xs lo hi)))
    | _ => false)
  | _ => false
def slC (a : SemE) (lo hi : SemP) : SemE := fun ρ m k kx => a ρ m (fun x m1 => lo ρ m1 (fun l m2 => hi ρ m2 (fun u m3 => slD x l u m3 k) kx) kx) kx
section
variable {X : Cx} {Z : Wd} {W : WX} {e : Expr} {ta : SemE} {pos p2 : Pos} {lo hi : Option Expr} {tl th : SemP}
theorem _root_.L2.PO.imp {e : Option Expr} {t t' : TO} (h : PO X e t) (i : ∀ σ H Q, t' σ H Q → t σ H Q) : PO X e t' := ⟨fun pins s σ H Q I q => h.run pins s σ H Q I (i σ H Q q)⟩
theorem s_noP : PO X none (tP Z W noP) := po_none.imp fun σ H Q ⟨μ, m, ρ, k, kx, S, ER, t, P, _⟩ => P μ m H none .refl S t
theorem s_someP (ha : PE X e (tI Z W ta)) : PO X (some e) (tP Z W (someP ta)) :=
  (po_some ha).imp fun σ H Q ⟨μ, m, ρ, k, kx, S, ER, t, P, XP⟩ => ⟨μ, m, ρ, _, kx, S, ER, t, fun μ1 m1 H1 d v L S1 R1 e1 => (by
    cases R1 with
    | int => exact ⟨_, rfl, P μ1 m1 H1 _ L S1 e1⟩
    | _ => cases e1), XP⟩
theorem Reps.cut {μ : Nat → Addr} {n : Nat} {H : Hp} {xs : List D} {vs : List V} (r : Reps Z μ n H xs vs) (lo hi : Option Int) : Reps Z μ n H (cutD xs lo hi) (cutV vs lo hi) := by
  unfold cutD cutV
  rw [r.length]
  exact (r.drop _).take _
def rSlA2 (K : PySem.W.Frag) : V → Option Int → Option Int → Hp → VK → Prop := fun x lo hi H Q => rSlA K x lo hi H Q ∨ rSlL K x lo hi H Q
theorem r_sl : SlR X (rSlA2 X.K) := sl_tupA.or sl_list
theorem cut_whole {vs : List V} {lo hi : Option Int} (h : HT.sIx vs.length 0 lo = 0 ∧ HT.sIx vs.length vs.length hi = vs.length) : cutV vs lo hi = vs := by
  unfold cutV
  rw [h.1, h.2]
  simp
theorem s_slice (hK : X.K = Z.K) (ha : PE X e (tI Z W ta)) (hl : PO X lo (tP Z W tl)) (hu : PO X hi (tP Z W th)) : PE X (.Subscript e (.Slice lo hi none p2) pos) (tI Z W (slC ta tl th)) :=
  (pe_slice r_sl ha hl hu).imp fun σ H Q ⟨μ, m, ρ, k, kx, S, ER, t, P, XP⟩ =>
    ⟨μ, m, ρ, _, kx, S, ER, t, fun μ1 m1 H1 d v L1 S1 R1 e1 => ⟨μ1, m1, ρ, _, kx, S1, ER.mono L1.toLe, e1, fun μ2 m2 H2 l L2 S2 e2 => ⟨μ2, m2, ρ, _, kx, S2, ER.mono (L1.trans L2).toLe, e2, fun μ3 m3 H3 u L3 S3 e3 => (by
      have L := (L1.trans L2).trans L3
      have R := R1.mono (L2.trans L3).toLe
      have PP := P.after L
      cases R with
      | tup hq rs =>
        unfold slD at e3
        dsimp only at e3
        refine .inl ⟨_, _, rfl, hK ▸ hq, fun w => ?_, fun w p hp => PP.newT S3 hp (rs.cut l u) e3⟩
        have r2 := rs.cut l u
        rw [cut_whole w] at r2
        exact PP.now S3 (.tup hq r2) e3
      | ref hi =>
        unfold slD at e3
        dsimp only at e3
        split at e3
        · rename_i xs g
          obtain ⟨vs, e, rs⟩ := S3.lst g
          exact .inr ⟨_, _, rfl, SqL.of e, fun p hp => PP.newL S3 hp (rs.cut l u) e3⟩
        · cases e3
      | _ => cases e3), XP.after (L1.trans L2)⟩, XP.after L1⟩, XP⟩

/-! with a step -/
def stepL (xs : List D) (lo hi st : Option Int) : List D := (sliceRange (sliceBounds lo hi st xs.length).1 (sliceBounds lo hi st xs.length).2.1 (sliceBounds lo hi st xs.length).2.2).filterMap fun i => xs[i]?
def slsD (x : D) (lo hi : Option Int) (st : Int) (m : M) (k : Kc) : Bool := match x with
  | .tup xs => !(ieqB st 0) && !(ieqB st 1) && Nat.ble (HT.stepV xs lo hi st).length LIM && k (.tup (HT.stepV xs lo hi st)) m
  | .ref a => !(ieqB st 0) && (match m.get a with
    | some (.lst xs) => Nat.ble (stepL xs lo hi (some st)).length LIM && k (.ref m.n) (m.alloc (.lst (stepL xs lo hi (some st))))
    | _ => false)
  | _ => false
def slsC (a : SemE) (lo hi st : SemP) : SemE := fun ρ m k kx => a ρ m (fun x m1 => lo ρ m1 (fun l m2 => hi ρ m2 (fun u m3 => st ρ m3 (fun o m4 => match o with | some i => slsD x l u i m4 k | none => false) kx) kx) kx) kx
theorem reps_pick {μ : Nat → Addr} {n : Nat} {H : Hp} {xs : List D} {vs : List V} (r : Reps Z μ n H xs vs) {ι : Type} (f : ι → Nat) : ∀ is : List ι, Reps Z μ n H (is.filterMap fun i => xs[f i]?) (is.filterMap fun i => vs[f i]?)
  | [] => .nil
  | i :: is => by
    rw [List.filterMap_cons, List.filterMap_cons]
    cases h : xs[f i]? with
    | some d =>
      obtain ⟨v, h1, h2⟩ := r.get h
      rw [h1]
      exact .cons h2 (reps_pick r f is)
    | none =>
      cases h' : vs[f i]? with
      | some v =>
        obtain ⟨d, h1, _⟩ := r.get' h'
        rw [h] at h1; cases h1
      | none => exact reps_pick r f is
theorem vals_pick {vs : List V} {us : List Value} (r : Vals vs us) {ι : Type} (f : ι → Nat) : ∀ is : List ι, Vals (is.filterMap fun i => vs[f i]?) (is.filterMap fun i => us[f i]?)
  | [] => .nil
  | i :: is => by
    rw [List.filterMap_cons, List.filterMap_cons]
    cases h : vs[f i]? with
    | some d =>
      obtain ⟨v, h1, h2⟩ := r.get h
      rw [h1]
      exact .cons h2 (vals_pick r f is)
    | none =>
      rw [r.none_of h]
      exact vals_pick r f is
theorem s_sliceS {st : Option Expr} {ts : SemP} (hK : X.K = Z.K) (ha : PE X e (tI Z W ta)) (hl : PO X lo (tP Z W tl)) (hu : PO X hi (tP Z W th)) {se : Expr} (hse : st = some se) (hs : PO X st (tP Z W ts)) : PE X (.Subscript e (.Slice lo hi st p2) pos) (tI Z W (slsC ta tl th ts)) := by
  refine ⟨fun pins s σ H Q I h => ?_⟩
  obtain ⟨μ, m, ρ, k, kx, S, ER, t, P, XP⟩ := h
  refine Subscript_ (thn (ha.run pins s σ H (fun v H1 => ∃ μ1 m1 d, Lt μ m H μ1 m1 H1 ∧ Sim Z μ1 m1 H1 ∧ Rep Z μ1 m1.n H1 d v ∧ tl ρ m1 (fun l m2 => th ρ m2 (fun u m3 => ts ρ m3 (fun o m4 => match o with | some i => slsD d l u i m4 k | none => false) kx) kx) kx = true) I
    ⟨μ, m, ρ, _, kx, S, ER, t, fun μ1 m1 H1 d v L1 S1 R1 e1 => ⟨μ1, m1, d, L1, S1, R1, e1⟩, XP⟩) fun v s1 ⟨x, H1, I1, r1, μ1, m1, d, L1, S1, R1, e1⟩ => ?_)
  refine wpAny_Slice (thn (hl.run pins s1 σ H1 (fun l H2 => ∃ μ2 m2, Lt μ1 m1 H1 μ2 m2 H2 ∧ Sim Z μ2 m2 H2 ∧ th ρ m2 (fun u m3 => ts ρ m3 (fun o m4 => match o with | some i => slsD d l u i m4 k | none => false) kx) kx = true) I1
    ⟨μ1, m1, ρ, _, kx, S1, ER.mono L1.toLe, e1, fun μ2 m2 H2 l L2 S2 e2 => ⟨μ2, m2, L2, S2, e2⟩, XP.after L1⟩) fun vl s2 ⟨l, H2, I2, pl, μ2, m2, L2, S2, e2⟩ => ?_)
  refine thn (hu.run pins s2 σ H2 (fun u H3 => ∃ μ3 m3, Lt μ2 m2 H2 μ3 m3 H3 ∧ Sim Z μ3 m3 H3 ∧ ts ρ m3 (fun o m4 => match o with | some i => slsD d l u i m4 k | none => false) kx = true) I2
    ⟨μ2, m2, ρ, _, kx, S2, ER.mono (L1.trans L2).toLe, e2, fun μ3 m3 H3 l L3 S3 e3 => ⟨μ3, m3, L3, S3, e3⟩, XP.after (L1.trans L2)⟩) fun vu s3 ⟨u, H3, I3, pu, μ3, m3, L3, S3, e3⟩ => ?_
  refine thn (hs.run pins s3 σ H3 (fun o H4 => ∃ μ4 m4 i, o = some i ∧ Lt μ3 m3 H3 μ4 m4 H4 ∧ Sim Z μ4 m4 H4 ∧ slsD d l u i m4 k = true) I3
    ⟨μ3, m3, ρ, _, kx, S3, ER.mono ((L1.trans L2).trans L3).toLe, e3, fun μ4 m4 H4 o L4 S4 e4 => by
      cases o with
      | none => cases e4
      | some i => exact ⟨μ4, m4, i, rfl, L4, S4, e4⟩, XP.after ((L1.trans L2).trans L3)⟩) fun vt s4 ⟨o, H4, I4, pt, μ4, m4, i, eo, L4, S4, e4⟩ => ?_
  subst eo hse
  have L := ((L1.trans L2).trans L3).trans L4
  have R := R1.mono ((L2.trans L3).trans L4).toLe
  have PP := P.after L
  have I5 : Inv X pins σ H4 { s4 with heap := s4.heap.push { cls := .type "slice", data := .fields #[vl, vu, vt] } } := I4.kept (t' := s4.toks) fun b ob q => Heap.get?_push_of_some _ q
  cases R with
  | @tup ta vs xs hq rs =>
    unfold slsD at e4
    dsimp only at e4
    obtain ⟨e4, k1⟩ := and2 e4
    obtain ⟨e4, k2⟩ := and2 e4
    obtain ⟨k3, k4⟩ := and2 e4
    rw [ieqB_eq] at k3 k4
    have h0 : i ≠ 0 := by simpa using k3
    have h1 : i ≠ 1 := by simpa using k4
    cases r1
    obtain ⟨its, r, ht, hz⟩ := I5.tuple (show SqT X.K H4 _ _ from hK ▸ hq)
    have hv : Vals (HT.stepV vs l u i) (HT.stepV its l u i) := by
      unfold HT.stepV
      rw [← r.length]
      exact vals_pick r (fun (mm : Nat) => ((Builtin.Slice.sliceAdjust l u i _).1 + (mm : Int) * i).toNat) _
    have hr : Reps Z μ4 m4.n H4 (HT.stepV xs l u i) (HT.stepV vs l u i) := by
      unfold HT.stepV
      rw [← rs.length]
      exact reps_pick rs (fun (mm : Nat) => ((Builtin.Slice.sliceAdjust l u i _).1 + (mm : Int) * i).toNat) _
    have hlen := hr.length
    have hle := ble_lim k2
    refine tail_any (ops := [.ref _, .ref s4.heap.objs.size]) ht.typeIs (PyProof.Rows.slot_tuple_getitem.lookup) ?_ (by with_unfolding_all rfl)
    refine HT.getItem_tuple_step ht (Heap.IsSliceOf.new _ vl vu vt) pl pu pt h0 h1 (by rw [← hv.length, ← hlen]; exact hle) ?_
    refine ⟨.ref _, _, I5.laid (t' := s4.toks) (o := .tup (HT.stepV vs l u i)) (fun b ob q => Heap.get?_push_of_some _ q) (Nat.le_refl _) ⟨by rw [← hlen]; exact hle, _, hv, IsTup.new _ _⟩, rfl, PP.newT S4 (I5.hok.fresh (Nat.le_refl _)) hr k1⟩
  | ref hi =>
    unfold slsD at e4
    dsimp only at e4
    obtain ⟨k3, e4⟩ := and2 e4
    rw [ieqB_eq] at k3
    have h0 : i ≠ 0 := by simpa using k3
    split at e4
    · rename_i xs g
      obtain ⟨k2, k1⟩ := and2 e4
      obtain ⟨vs, e, rs⟩ := S4.lst g
      cases r1
      obtain ⟨its, r, ht, hz⟩ := I5.list (SqL.of (K := X.K) e)
      have hv : Vals ((sliceRange (sliceBounds l u (some i) xs.length).1 (sliceBounds l u (some i) xs.length).2.1 (sliceBounds l u (some i) xs.length).2.2).filterMap fun j => vs[j]?) (slicePick its.toArray l u (some i)).toList := by
        unfold slicePick
        simp only [List.size_toArray, List.getElem?_toArray]
        rw [← r.length, ← rs.length]
        exact vals_pick r (fun (j : Nat) => j) _
      have hr : Reps Z μ4 m4.n H4 (stepL xs l u (some i)) ((sliceRange (sliceBounds l u (some i) xs.length).1 (sliceBounds l u (some i) xs.length).2.1 (sliceBounds l u (some i) xs.length).2.2).filterMap fun j => vs[j]?) := reps_pick rs (fun (j : Nat) => j) _
      have hlen := hr.length
      have hle := ble_lim k2
      refine tail_any (ops := [.ref _, .ref s4.heap.objs.size]) ht.isList.typeIs (PySem.slot_list_getitem.lookup) ?_ (by with_unfolding_all rfl)
      refine wpAny_getItem_list_slice ht.isList (Heap.IsSliceOf.new _ vl vu vt) pl pu pt (by simpa using h0) ?_ (by rw [List.size_toArray, ← r.length]; exact hz)
      refine ⟨.ref _, _, I5.laid (t' := s4.toks) (o := .lst _) (fun b ob q => Heap.get?_push_of_some _ q) (Nat.le_refl _) ⟨by rw [← hlen]; exact hle, _, 0, hv, by rw [Array.toArray_toList]; exact Heap.get?_push_size _ rfl⟩, rfl, PP.newL S4 (I5.hok.fresh (Nat.le_refl _)) hr k1⟩
    · cases e4
  | _ => cases e4
end
end
end Ev

set_option Elab.async false
set_option linter.all false
set_option maxRecDepth 100000
set_option maxHeartbeats 1000000
/-! Ev8: sorting, sums, the least and the greatest. -/
namespace Ev
open PySem PySem.Spec PyProof.Rows L2
noncomputable section

/-! ### insertion, stable -/
def ins {α : Type} (le : α → α → Bool) (x : α) : List α → List α
  | [] => [x]
  | y :: ys => match le x y with | true => x :: y :: ys | false => y :: ins le x ys
def isort {α : Type} (le : α → α → Bool) : List α → List α
  | [] => []
  | x :: xs => ins le x (isort le xs)
theorem ins_perm {α : Type} (le : α → α → Bool) (x : α) : ∀ l : List α, (ins le x l).Perm (x :: l)
  | [] => List.Perm.refl _
  | y :: ys => by
    unfold ins
    cases le x y with
    | true => exact List.Perm.refl _
    | false => exact ((ins_perm le x ys).cons y).trans (List.Perm.swap x y ys)
theorem isort_perm {α : Type} (le : α → α → Bool) : ∀ l : List α, (isort le l).Perm l
  | [] => List.Perm.refl _
  | x :: xs => (ins_perm le x _).trans ((isort_perm le xs).cons x)
theorem ins_sorted {α : Type} {le : α → α → Bool} (T : PySem.W.TotalLe le) (x : α) : ∀ l : List α, l.Pairwise (fun a b => le a b = true) → (ins le x l).Pairwise (fun a b => le a b = true)
  | [], _ => List.pairwise_cons.mpr ⟨fun _ h => (by cases h), .nil⟩
  | y :: ys, h => by
    obtain ⟨h1, h2⟩ := List.pairwise_cons.mp h
    unfold ins
    cases e : le x y with
    | true => exact List.pairwise_cons.mpr ⟨fun z hz => by
        rcases List.mem_cons.mp hz with rfl | hz
        · exact e
        · exact T.trans _ _ _ e (h1 z hz), h⟩
    | false =>
      refine List.pairwise_cons.mpr ⟨fun z hz => ?_, ins_sorted T x ys h2⟩
      rcases List.mem_cons.mp ((ins_perm le x ys).mem_iff.mp hz) with rfl | hz
      · exact (T.total _ _).resolve_left (by rw [e]; exact Bool.false_ne_true)
      · exact h1 z hz
theorem ins_filter {α : Type} {le : α → α → Bool} (T : PySem.W.TotalLe le) (x c : α) : ∀ l : List α, (ins le x l).filter (PySem.W.sameRank le c) = (x :: l).filter (PySem.W.sameRank le c)
  | [] => rfl
  | y :: ys => by
    unfold ins
    cases e : le x y with
    | true => rfl
    | false =>
      show (y :: ins le x ys).filter _ = _
      rw [List.filter_cons, ins_filter T x c ys, List.filter_cons, List.filter_cons, List.filter_cons]
      cases hx : PySem.W.sameRank le c x with
      | false => rfl
      | true =>
        cases hy : PySem.W.sameRank le c y with
        | false => rfl
        | true =>
          unfold PySem.W.sameRank at hx hy
          obtain ⟨a1, a2⟩ := and2 hx
          obtain ⟨b1, b2⟩ := and2 hy
          have := T.trans _ _ _ a2 b1
          rw [e] at this; cases this
theorem isort_eq {α : Type} {le : α → α → Bool} (T : PySem.W.TotalLe le) (l : List α) : isort le l = l.mergeSort le := by
  refine PySem.W.sort_unique T ?_ fun c => ?_
  · induction l with
    | nil => exact .nil
    | cons x xs ih => exact ins_sorted T x _ ih
  · induction l with
    | nil => rfl
    | cons x xs ih =>
      show (ins le x (isort le xs)).filter _ = _
      rw [ins_filter T, List.filter_cons, List.filter_cons, ih]
theorem ins_congr {α : Type} {le le' : α → α → Bool} {x : α} : ∀ {l : List α}, (∀ y ∈ l, le x y = le' x y) → ins le x l = ins le' x l
  | [], _ => rfl
  | y :: ys, h => by
    unfold ins
    rw [h y List.mem_cons_self, ins_congr fun z hz => h z (List.mem_cons_of_mem _ hz)]
theorem isort_congr {α : Type} {le le' : α → α → Bool} : ∀ {l : List α}, (∀ x ∈ l, ∀ y ∈ l, le x y = le' x y) → isort le l = isort le' l
  | [], _ => rfl
  | x :: xs, h => by
    show ins le x (isort le xs) = ins le' x (isort le' xs)
    rw [isort_congr (l := xs) fun a ha b hb => h a (List.mem_cons_of_mem _ ha) b (List.mem_cons_of_mem _ hb)]
    exact ins_congr fun y hy => h x List.mem_cons_self y (List.mem_cons_of_mem _ ((isort_perm le' xs).mem_iff.mp hy))

/-! ### lists whose items may be compared -/
def isI : D → Bool
  | .int _ => true
  | _ => false
def isTI : D → Bool
  | .tup ys => ys.all isI
  | _ => false
def alkB (f : Nat) (ds : List D) : Bool := ds.all isI || (Nat.blt 0 f && ds.all isTI) || ds.all fun x => ds.all fun y => alB f x y
theorem alAll_ints (f : Nat) : ∀ xs ys : List D, xs.all isI = true → ys.all isI = true → alAll (alB f) xs ys = true
  | [], _, _, _ => rfl
  | _ :: _, [], _, _ => rfl
  | x :: xs, y :: ys, h1, h2 => by
    rw [List.all_cons] at h1 h2
    obtain ⟨a1, a2⟩ := and2 h1
    obtain ⟨b1, b2⟩ := and2 h2
    show (alB f x y && _) = true
    rw [alAll_ints f xs ys a2 b2]
    cases x <;> cases a1
    cases y <;> cases b1
    unfold alB; rfl
theorem alkB_ok {f : Nat} {ds : List D} (h : alkB f ds = true) : ∀ x ∈ ds, ∀ y ∈ ds, alB f x y = true := by
  unfold alkB at h
  simp only [Bool.or_eq_true, Bool.and_eq_true, List.all_eq_true] at h
  intro x hx y hy
  rcases h with (h | ⟨h0, h⟩) | h
  · have a := h x hx
    have b := h y hy
    cases x <;> cases a
    cases y <;> cases b
    unfold alB; rfl
  · have a := h x hx
    have b := h y hy
    cases x <;> first | (cases a; done) | skip
    cases y <;> first | (cases b; done) | skip
    cases f with
    | zero => cases h0
    | succ f =>
      unfold alB
      exact alAll_ints f _ _ a b
  · exact h x hx y hy
def sortableB (ds : List D) : Bool := (ds.all fun d => match d with | .tup (_ :: _) => true | _ => false) || ds.all fun d => match d with | .tup _ => false | .ref _ => false | _ => true
def sortD (m : M) (ds : List D) (k : List D → Bool) : Bool := match ds with
  | [] => k []
  | [d] => k [d]
  | ds => ds.all (okD 11 m) && alkB 11 ds && sortableB ds && Nat.ble ds.length LIM && k (isort (fun x y => !ltB 11 m y x) ds)
section
variable {Z : Wd} {μ : Nat → Addr} {m : M} {H : Hp}
theorem reps_zip {n : Nat} : ∀ {ds : List D} {vs : List V}, Reps Z μ n H ds vs → (vs.zip ds).map (·.1) = vs ∧ (vs.zip ds).map (·.2) = ds ∧ ∀ p ∈ vs.zip ds, Rep Z μ n H p.2 p.1
  | _, _, .nil => ⟨rfl, rfl, fun _ h => by cases h⟩
  | _, _, .cons h hs => by
    obtain ⟨a, b, c⟩ := reps_zip hs
    refine ⟨by rw [List.zip_cons_cons, List.map_cons, a], by rw [List.zip_cons_cons, List.map_cons, b], fun p hp => ?_⟩
    rw [List.zip_cons_cons] at hp
    rcases List.mem_cons.mp hp with rfl | hp
    · exact h
    · exact c p hp
theorem reps_of_pairs {n : Nat} : ∀ (l : List (V × D)), (∀ p ∈ l, Rep Z μ n H p.2 p.1) → Reps Z μ n H (l.map (·.2)) (l.map (·.1))
  | [], _ => .nil
  | p :: l, h => .cons (h p List.mem_cons_self) (reps_of_pairs l fun q hq => h q (List.mem_cons_of_mem _ hq))
theorem sort_rep (S : Sim Z μ m H) {ds : List D} {vs : List V} (r : Reps Z μ m.n H ds vs) (h1 : ds.all (okD 11 m) = true) (h2 : alkB 11 ds = true) :
    ∃ ws, Reps Z μ m.n H (isort (fun x y => !ltB 11 m y x) ds) ws ∧ ws = ((vs.zip ds).mergeSort (PySem.W.dataLe false fun p : V × D => toP 11 m p.2)).map (·.1) := by
  obtain ⟨a, b, c⟩ := reps_zip r
  refine ⟨_, ?_, rfl⟩
  have e1 : isort (fun x y => !ltB 11 m y x) ds = ds.mergeSort (PySem.W.dataLe false (toP 11 m)) := by
    rw [← isort_eq (show PySem.W.TotalLe (PySem.W.dataLe false (toP 11 m)) from PySem.W.sortLe_total _ _ _)]
    refine isort_congr fun x hx y hy => ?_
    rw [ltB_eq 11 y x (List.all_eq_true.mp h1 y hy) (List.all_eq_true.mp h1 x hx) (alkB_ok h2 y hy x hx), PySem.W.dataLe_eq]
    rfl
  have e2 : ((vs.zip ds).mergeSort (PySem.W.dataLe false fun p : V × D => toP 11 m p.2)).map (·.2) = ds.mergeSort (PySem.W.dataLe false (toP 11 m)) := by
    have := PySem.W.sort_maps (r := PySem.W.dataLe false fun p : V × D => toP 11 m p.2) (s := PySem.W.dataLe false (toP 11 m)) (fun p : V × D => p.2) (l := vs.zip ds) fun _ _ _ _ => rfl
    rw [this]
    rw [show (List.map (fun p : V × D => p.2) (vs.zip ds)) = ds from b]
  rw [e1, ← e2]
  exact reps_of_pairs _ fun p hp => c p ((List.mergeSort_perm _ _).mem_iff.mp hp)
end

section
variable {prog : Program} {w : World} {A : Around} {E : Value → Shared → Prop} {s : Shared}
/-- a list or a tuple, its items -/
def SeqIs (h : Heap) (l : Addr) (vs : List Value) : Prop := ∃ o n, h.get? l = some o ∧ (o.cls = .type "list" ∨ o.cls = .type "tuple") ∧ o.data = .seq vs.toArray n
theorem collect_seqIs {l : Addr} {vs : List Value} {Q : List Value → Shared → Prop} (hl : SeqIs s.heap l vs) (hsz : vs.length ≤ sizeLine)
    (h : ∀ h' : Heap, (∀ b o, s.heap.get? b = some o → h'.get? b = some o) → Q vs { s with heap := h' }) : wpAny (model prog w) A (collect (.ref l)) Q E s := by
  obtain ⟨o, n, ho, hc, hd⟩ := id hl
  have hp : (s.heap.push (seqObj "list" #[] 0)).get? s.heap.objs.size = some (seqObj "list" #[] 0) := Heap.get?_push_size _ rfl
  have ho' : (s.heap.push (seqObj "list" #[] 0)).get? l = some o := Heap.get?_push_of_some _ ho
  have lt : l ≠ s.heap.objs.size := Nat.ne_of_lt (Heap.lt_size ho)
  have kept : ∀ b ob, s.heap.get? b = some ob → ((s.heap.push (seqObj "list" #[] 0)).update s.heap.objs.size (Obj.mapSeq (· ++ vs.toArray))).get? b = some ob := fun b ob e => by
    rw [Heap.get?_update_ne _ _ _ _ (Nat.ne_of_lt (Heap.lt_size e))]
    exact Heap.get?_push_of_some _ e
  unfold collect
  refine wpAny_bind (wpAny_runValue (codeAny_builtin entry_proto_collect' ?_))
  refine wpAny_bind (wpAny_newList (wpAny_pure ⟨Code.quiet_builtin _ (by decide +kernel), codeAny_builtin entry_list_iadd' ?_⟩))
  show wpAny _ _ (Builtin.List.listExtendWith (.ref s.heap.objs.size) (.ref l) (.ref s.heap.objs.size)) _ _ { s with heap := s.heap.push (seqObj "list" #[] 0) }
  unfold Builtin.List.listExtendWith
  have tt : ∃ T, o.cls = .type T ∧ (T = "list" ∨ T = "tuple") := by
    rcases hc with e | e
    · exact ⟨_, e, .inl rfl⟩
    · exact ⟨_, e, .inr rfl⟩
  obtain ⟨T, hT, hTT⟩ := tt
  refine wpAny_bind (wpAny_typeOf (T := T) ⟨o, ho', hT⟩ ?_)
  rw [if_pos (by rcases hTT with rfl | rfl <;> simp)]
  refine wpAny_bind (listItems_at ho' hd (wpAny_bind (listItems_at hp rfl ?_)))
  rw [if_neg (by simp)]
  refine wpAny_bind (listUpdate_at hp rfl ?_ (Nat.zero_le _) (by show (#[] ++ vs.toArray).size ≤ sizeLine + 1; simp only [Array.size_append, List.size_toArray, List.length_nil]; omega))
  refine wpAny_pure ?_
  refine wpAny_bind (wpAny_load (get?_update_seq hp _) ?_)
  show wpAny _ _ (pure ((#[] : Array Value) ++ vs.toArray).toList) Q E _
  rw [show ((#[] : Array Value) ++ vs.toArray).toList = vs by simp]
  exact wpAny_pure (h _ kept)
/-- sorted(x): list.sort of a new list of the items -/
theorem sorted_seqIs {l : Addr} {vs : List Value} {Q : Value → Shared → Prop} (hl : SeqIs s.heap l vs) (hsz : vs.length ≤ sizeLine)
    (h : ∀ h' : Heap, (∀ b o, s.heap.get? b = some o → h'.get? b = some o) → wpAny (model prog w) A.in1 (call (.builtin "list.sort") [.ref h'.objs.size]) (fun _ s' => Q (.ref h'.objs.size) s') E { s with heap := h'.push (seqObj "list" vs.toArray 0) }) :
    wpAny (model prog w) A (call (.builtin "sorted") [.ref l]) Q E s := by
  refine Calls.call_function_entry kind_sorted plain_sorted entry_sorted (args_sorted1 _) ?_
  unfold Builtin.«sorted»
  refine wpAny_bind (m := checkCount "sorted" 1 1 _) (wpAny_pure ?_)
  refine wpAny_bind (collect_seqIs (A := A.in1) hl hsz fun h' hk => ?_)
  refine wpAny_bind (wpAny_newList ?_ hsz)
  refine wpAny_bind (wpAny_holding (wpAny_mono (h h' hk) (fun _ s' x => ?_) fun _ _ e => e))
  exact wpAny_pure ⟨_, rfl, x⟩
end
section
variable {X : Cx}
def rSortShort (K : PySem.W.Frag) : List V → Hp → VK → Prop := fun xs H Q => ∃ a vs, xs = [.ref a] ∧ (SqL K H a vs ∨ SqT K H a vs) ∧ vs.length ≤ 1 ∧ ∀ p, H p = none → Q (.ref p) (upd H p (.lst vs))
def rSortLong (K : PySem.W.Frag) : List V → Hp → VK → Prop := fun xs H Q => ∃ (a : Addr) (ps : List (V × PyData)), xs = [.ref a] ∧ (SqL K H a (ps.map (·.1)) ∨ SqT K H a (ps.map (·.1))) ∧ (∀ p ∈ ps, Dp K H p.1 p.2) ∧
  PySem.W.AllAlike (ps.map (·.2)) ∧ PySem.W.Sortable (ps.map (·.2)) ∧ (∀ p ∈ ps, p.2.depth ≤ 12) ∧ ∀ p, H p = none → Q (.ref p) (upd H p (.lst ((ps.mergeSort (PySem.W.dataLe false fun q : V × PyData => q.2)).map (·.1))))
theorem seqIs_of {pins : List (Addr × Obj)} {σ : L2.St} {H : Hp} {s : Shared} (I : Inv X pins σ H s) {a : Addr} {vs : List V} (h : SqL X.K H a vs ∨ SqT X.K H a vs) : ∃ its, Vals vs its ∧ SeqIs s.heap a its ∧ its.length ≤ sizeLine := by
  rcases h with h | h
  · obtain ⟨its, r, ⟨o, n, e1, e2, _, e3⟩, hz⟩ := I.list h
    exact ⟨its, r, ⟨o, n, e1, .inl e2, e3⟩, by rw [← r.length]; exact hz⟩
  · obtain ⟨its, r, ⟨o, e1, e2, n, e3⟩, hz⟩ := I.tuple h
    exact ⟨its, r, ⟨o, n, e1, .inr e2, e3⟩, by rw [← r.length]; exact hz⟩
theorem cr_sortShort : CallR X (.builtin "sorted") (rSortShort X.K) := by
  intro pins s σ H vs us Q I r h
  obtain ⟨a, xs, rfl, hs, h1, q⟩ := h
  obtain ⟨its, rv, hl, hz⟩ := seqIs_of I hs
  rw [Vals.ref1 r]
  refine sorted_seqIs hl hz fun h' hk => ?_
  have hlen := rv.length
  have I1 : Inv X pins σ H { s with heap := h' } := I.kept (t' := s.toks) hk
  have hob : (h'.push (seqObj "list" its.toArray 0)).get? h'.objs.size = some (seqObj "list" its.toArray 0) := Heap.get?_push_size _ rfl
  refine wpAny_call_entry PyProof.Rows.slot_list_sort ⟨_, hob, rfl⟩ PyProof.Rows.entry_list_sort
    (SrtO.list_sort_ord SrtO.swo_int hob hz (fun h2 => absurd h2 (by omega)) fun out _ h2 => ⟨.none, rfl, ?_⟩) (PyProof.Rows.args_list_sort _)
  have eo : out = its := by
    have hp := h2.perm
    match its, h1, hlen with
    | [], _, _ => exact hp.eq_nil
    | [x], _, _ => exact List.perm_singleton.mp hp
    | x :: y :: t, h1, hlen => rw [hlen] at h1; simp at h1
  subst eo
  obtain ⟨ep, he'⟩ := PyProof.Rows.sortedHeap_at (vs := out) (out := out.toArray) hob
  refine ⟨.ref h'.objs.size, upd H h'.objs.size (.lst xs), I1.laid (t' := s.toks) (fun b u hu => ?_) (Nat.le_refl _) ⟨by rw [hlen]; exact hz, out, ep, rv, he'⟩, rfl, q _ (I1.hok.fresh (Nat.le_refl _))⟩
  have hlt := Heap.lt_size hu
  rw [PyProof.Rows.sortedHeap_old (Nat.ne_of_lt hlt) (by rw [Heap.size_push]; exact Nat.lt_succ_of_lt hlt)]
  exact Heap.get?_push_of_some _ hu
theorem each_vals : ∀ {ps : List (V × PyData)} {its : List Value}, Vals (ps.map (·.1)) its → PySem.W.EachIs (fun u (p : V × PyData) => RelV p.1 u) its ps
  | [], _, h => by cases h; exact .nil
  | p :: ps, _, h => by
    cases h with
    | cons r t => exact .cons r (each_vals t)
theorem vals_each : ∀ {ps : List (V × PyData)} {its : List Value}, PySem.W.EachIs (fun u (p : V × PyData) => RelV p.1 u) its ps → Vals (ps.map (·.1)) its
  | [], _, .nil => .nil
  | p :: ps, _, .cons r t => .cons r (vals_each t)
mutual
theorem not_in_reads {h : Heap} {a : Addr} (ha : h.get? a = none) : ∀ {d : PyData} {v : Value} {as : List Addr}, Reads h v d as → a ∉ as
  | _, _, _, .none => by simp
  | _, _, _, .bool _ => by simp
  | _, _, _, .int _ _ => by simp
  | _, _, _, .str _ _ => by simp
  | _, _, _, .list e _ _ r => fun hm => by
    rcases List.mem_cons.mp hm with rfl | hm
    · rw [ha] at e; cases e
    · exact not_in_readsAll ha r hm
  | _, _, _, .tuple _ _ _ r => not_in_readsAll ha r
  | _, _, _, .dict e _ _ r1 r2 => fun hm => by
    rcases List.mem_cons.mp hm with rfl | hm
    · rw [ha] at e; cases e
    · rcases List.mem_append.mp hm with hm | hm
      · exact not_in_readsAll ha r1 hm
      · exact not_in_readsAll ha r2 hm
theorem not_in_readsAll {h : Heap} {a : Addr} (ha : h.get? a = none) : ∀ {ds : List PyData} {vs : List Value} {as : List Addr}, ReadsAll h vs ds as → a ∉ as
  | _, _, _, .nil => by simp
  | _, _, _, .cons r1 r2 => fun hm => by
    rcases List.mem_append.mp hm with hm | hm
    · exact not_in_reads ha r1 hm
    · exact not_in_readsAll ha r2 hm
end
theorem each_reads {pins : List (Addr × Obj)} {σ : L2.St} {H : Hp} {s : Shared} (I : Inv X pins σ H s) {h2 : Heap} {a : Addr} (ha : s.heap.get? a = none) (hk : ∀ b o, s.heap.get? b = some o → h2.get? b = some o) :
    ∀ {ps : List (V × PyData)} {its : List Value}, PySem.W.EachIs (fun u (p : V × PyData) => RelV p.1 u) its ps → (∀ p ∈ ps, Dp X.K H p.1 p.2) → PySem.W.EachIs (fun u (p : V × PyData) => ∃ as, Reads h2 u p.2 as ∧ a ∉ as) its ps
  | [], _, .nil, _ => .nil
  | p :: ps, _, .cons r t, hd => by
    obtain ⟨as, q⟩ := Dp.reads I p.2 p.1 _ (hd p List.mem_cons_self) r
    exact .cons ⟨as, PyProof.Rows.Reads.keeps hk q, not_in_reads ha q⟩ (each_reads I ha hk t fun x hx => hd x (List.mem_cons_of_mem _ hx))
theorem cr_sortLong (hu : X.A.units + 64 < cLine) : CallR X (.builtin "sorted") (rSortLong X.K) := by
  intro pins s σ H vs us Q I r h
  obtain ⟨a, ps, rfl, hs, hd, hal, hk, hdep, q⟩ := h
  obtain ⟨its, rv, hl, hz⟩ := seqIs_of I hs
  rw [Vals.ref1 r]
  refine sorted_seqIs hl hz fun h' hkp => ?_
  have hlen := rv.length
  rw [List.length_map] at hlen
  have I1 : Inv X pins σ H { s with heap := h' } := I.kept (t' := s.toks) hkp
  have hob : (h'.push (seqObj "list" its.toArray 0)).get? h'.objs.size = some (seqObj "list" its.toArray 0) := Heap.get?_push_size _ rfl
  have none' : h'.get? h'.objs.size = none := Heap.get?_none_of_le (Nat.le_refl _)
  have ev := each_vals rv
  have er := each_reads I1 (h2 := h'.push (seqObj "list" its.toArray 0)) none' (fun b o e => Heap.get?_push_of_some _ e) ev hd
  refine PySem.W.list_sort_data (R := fun u (p : V × PyData) => RelV p.1 u) (enc := fun p : V × PyData => p.2) hob ev er hal hk (by rw [hlen]; exact hz) (fun p hp => ?_) fun out ho eo => ?_
  · have := hdep p hp
    show X.A.units + 1 + 1 + p.2.depth < cLine
    omega
  · obtain ⟨ep, he'⟩ := PyProof.Rows.sortedHeap_at (vs := its) (out := out.toArray) hob
    refine ⟨.ref h'.objs.size, upd H h'.objs.size (.lst _), I1.laid (t' := s.toks) (fun b u hu => ?_) (Nat.le_refl _) ⟨?_, out, ep, vals_each eo, he'⟩, rfl, q _ (I1.hok.fresh (Nat.le_refl _))⟩
    · have hlt := Heap.lt_size hu
      rw [PyProof.Rows.sortedHeap_old (Nat.ne_of_lt hlt) (by rw [Heap.size_push]; exact Nat.lt_succ_of_lt hlt)]
      exact Heap.get?_push_of_some _ hu
    · rw [List.length_map, (List.mergeSort_perm _ _).length_eq, hlen]; exact hz

/-- sorted(x) -/
def seqOf (d : D) (m : M) : Option (List D) := match d with
  | .tup xs => some xs
  | .ref i => (match m.get i with | some (.lst xs) => some xs | _ => none)
  | _ => none
theorem seqOf_rep {Z : Wd} {μ : Nat → Addr} {m : M} {H : Hp} {d : D} {v : V} {xs : List D} (S : Sim Z μ m H) (r : Rep Z μ m.n H d v) (h : seqOf d m = some xs) : ∃ a vs, v = .ref a ∧ (SqL Z.K H a vs ∨ SqT Z.K H a vs) ∧ Reps Z μ m.n H xs vs := by
  cases r with
  | tup hq rs =>
    cases h
    exact ⟨_, _, rfl, .inr hq, rs⟩
  | ref hi =>
    unfold seqOf at h
    dsimp only at h
    split at h
    · rename_i ys g
      cases h
      obtain ⟨vs, e, rs⟩ := S.lst g
      exact ⟨_, vs, rfl, .inl (SqL.of e), rs⟩
    · cases h
  | _ => cases h
def sortedF (ds : List D) (m : M) (k : Kc) : Bool := match ds with
  | [d] => (match seqOf d m with
    | some xs => sortD m xs fun ys => k (.ref m.n) (m.alloc (.lst ys))
    | none => false)
  | _ => false
def rSortedA (K : PySem.W.Frag) : List V → Hp → VK → Prop := fun xs H Q => rSortShort K xs H Q ∨ rSortLong K xs H Q
theorem r_sorted (hu : X.A.units + 64 < cLine) : CallR X (.builtin "sorted") (rSortedA X.K) := cr_sortShort.or (cr_sortLong hu)
theorem sortable_rep {m : M} {ds : List D} (ho : ds.all (okD 11 m) = true) (h : sortableB ds = true) : PySem.W.Sortable (ds.map (toP 11 m)) ∨ ∃ d ∈ ds, d = .non := by
  unfold sortableB at h
  simp only [Bool.or_eq_true, List.all_eq_true] at h
  rcases h with h | h
  · refine .inl (.inl fun d hd => ?_)
    obtain ⟨x, hx, rfl⟩ := List.mem_map.mp hd
    have := h x hx
    cases x <;> first | (cases this; done) | skip
    rename_i xs
    cases xs with
    | nil => cases this
    | cons y ys => exact ⟨toP 10 m y, ys.map (toP 10 m), rfl⟩
  · by_cases hn : ∃ d ∈ ds, d = D.non
    · exact .inr hn
    · refine .inl (.inr fun d hd => ?_)
      obtain ⟨x, hx, rfl⟩ := List.mem_map.mp hd
      have h1 := h x hx
      have h2 := List.all_eq_true.mp ho x hx
      cases x <;> first | (cases h1; done) | (unfold okD at h2; cases h2; done) | skip
      · exact absurd ⟨_, hx, rfl⟩ hn
      · exact ⟨fun z => (by cases z), fun xs z => (by cases z)⟩
      · exact ⟨fun z => (by cases z), fun xs z => (by cases z)⟩
      · exact ⟨fun z => (by cases z), fun xs z => (by cases z)⟩
theorem o_sorted {Z : Wd} : OpN Z sortedF (rSortedA Z.K) := by
  intro μ m H xs ds k Q S rs h P
  cases rs with
  | nil => cases h
  | cons r rs =>
    cases rs with
    | cons _ _ => cases h
    | nil =>
      unfold sortedF at h
      dsimp only at h
      split at h
      · rename_i ys hy
        obtain ⟨a, vs, rfl, hs, rr⟩ := seqOf_rep S r hy
        have short : vs.length ≤ 1 → k (.ref m.n) (m.alloc (.lst ys)) = true → rSortedA Z.K [.ref a] H Q := fun hl e => .inl ⟨a, vs, rfl, hs, hl, fun p hp => P.newL S hp rr e⟩
        have hlen := rr.length
        unfold sortD at h
        split at h
        · exact short (by rw [← hlen]; exact Nat.zero_le _) h
        · exact short (by rw [← hlen]; exact Nat.le_refl _) h
        · obtain ⟨h, h5⟩ := and2 h
          obtain ⟨h, h4⟩ := and2 h
          obtain ⟨h, h3⟩ := and2 h
          obtain ⟨h1, h2⟩ := and2 h
          obtain ⟨ws, r2, ew⟩ := sort_rep S rr h1 h2
          obtain ⟨z1, z2, z3⟩ := reps_zip rr
          rcases sortable_rep h1 h3 with hk | ⟨d, hd, rfl⟩
          · refine .inr ⟨a, (vs.zip ys).map fun p => (p.1, toP 11 m p.2), rfl, ?_, fun p hp => ?_, ?_, ?_, fun p hp => ?_, fun p hp => ?_⟩
            · rw [List.map_map]
              rw [show ((vs.zip ys).map ((fun x : V × PyData => x.1) ∘ fun p : V × D => (p.1, toP 11 m p.2))) = vs from z1]
              exact hs
            · obtain ⟨q, hq, rfl⟩ := List.mem_map.mp hp
              exact (Rep.dp S 11 q.2 q.1 (z3 q hq) (List.all_eq_true.mp h1 _ (by rw [← z2]; exact List.mem_map.mpr ⟨q, hq, rfl⟩))).1
            · rw [List.map_map]
              intro x hx y hy
              obtain ⟨p, hp, rfl⟩ := List.mem_map.mp hx
              obtain ⟨q, hq, rfl⟩ := List.mem_map.mp hy
              have mp : p.2 ∈ ys := by rw [← z2]; exact List.mem_map.mpr ⟨p, hp, rfl⟩
              have mq : q.2 ∈ ys := by rw [← z2]; exact List.mem_map.mpr ⟨q, hq, rfl⟩
              exact alB_eq 11 p.2 q.2 (List.all_eq_true.mp h1 _ mp) (List.all_eq_true.mp h1 _ mq) (alkB_ok h2 _ mp _ mq)
            · rw [List.map_map]
              rw [show ((vs.zip ys).map ((fun x : V × PyData => x.2) ∘ fun p : V × D => (p.1, toP 11 m p.2))) = ys.map (toP 11 m) from (List.map_map (f := fun p : V × D => p.2) (g := toP 11 m) (l := vs.zip ys)).symm.trans (by rw [z2])]
              exact hk
            · obtain ⟨q, hq, rfl⟩ := List.mem_map.mp hp
              exact Nat.le_succ_of_le (Rep.dp S 11 q.2 q.1 (z3 q hq) (List.all_eq_true.mp h1 _ (by rw [← z2]; exact List.mem_map.mpr ⟨q, hq, rfl⟩))).2.2
            · have e1 : ((((vs.zip ys).map fun p => (p.1, toP 11 m p.2)).mergeSort (PySem.W.dataLe false fun q : V × PyData => q.2)).map (·.1)) = ws := by
                rw [ew, ← PySem.W.sort_maps (r := PySem.W.dataLe false fun p : V × D => toP 11 m p.2) (s := PySem.W.dataLe false fun q : V × PyData => q.2) (fun p : V × D => (p.1, toP 11 m p.2)) (l := vs.zip ys) fun _ _ _ _ => rfl, List.map_map]
                rfl
              rw [e1]
              exact P.newL S hp r2 h5
          · have := alkB_ok h2 _ hd _ hd
            unfold alB at this
            cases this
      · cases h
end
end
end Ev

set_option Elab.async false
set_option linter.all false
set_option maxRecDepth 100000
set_option maxHeartbeats 1000000
/-! Ev9: calls of built-ins: len, sum, max, min, abs, int, bool, any, all, list, tuple, dict. -/
namespace Ev
open PySem PySem.Spec PyProof.Rows L2
noncomputable section

section
variable {X : Cx}
/-! sums of lists and tuples -/
def rSumA (K : PySem.W.Frag) : List V → Hp → VK → Prop := fun vs H Q => ∃ (a : Addr) (ns : List Int), vs = [V.ref a] ∧ (SqL K H a (ns.map V.int) ∨ SqT K H a (ns.map V.int)) ∧ Q (.int ns.sum) H
theorem preSum_list (ns : List Int) (f : Nat → Int) (hf : ∀ i n, ns[i]? = some n → f i = n) : ∀ j, j ≤ ns.length → preSum f j = (ns.take j).sum
  | 0, _ => by simp [preSum]
  | j + 1, h => by
    have hj : j < ns.length := h
    rw [preSum, preSum_list ns f hf j (by omega), List.take_succ_eq_append_getElem hj, List.sum_append, hf j ns[j] (List.getElem?_eq_getElem hj)]
    simp
theorem cr_sumA (hc : X.calm = true) : CallR X (.builtin "sum") (rSumA X.K) := by
  intro pins s σ H vs us Q I r h
  obtain ⟨a, ns, rfl, hs, q⟩ := h
  rcases hs with hs | hs
  · obtain ⟨its, rv, hl, _⟩ := I.list hs
    rw [Vals.ref1 r]
    exact sum_raw (I.ok.hd hc) hl.isList rv.ints fun h' tk t' hk => ⟨.int _, H, I.kept hk, ⟨_, rfl⟩, q⟩
  · obtain ⟨its, rv, hl, _⟩ := I.tuple hs
    rw [Vals.ref1 r]
    have hh : X.A.in1.handled = none := I.ok.hd hc
    refine call_sum_walkAnyS (PySem.W.iter_tupleW (A := X.A.in1) hh hl fun s₂ e W st hfp hw hk => ?_)
    have hlen := rv.length
    rw [List.length_map] at hlen
    refine ⟨_, _, _, _, _, _, _, fun i => ns.getD i 0, rfl, W, st, hfp, fun i v hv => ?_, fun s' t' m => ?_⟩
    · have hv' : its[i]? = some v := by simpa using hv
      have hi : i < ns.length := by
        have := (List.getElem?_eq_some_iff.mp hv').1
        omega
      obtain ⟨u, h1, h2⟩ := Vals.get (x := V.int ns[i]) rv (by rw [List.getElem?_map, List.getElem?_eq_getElem hi]; rfl)
      rw [hv'] at h1
      cases h1
      obtain ⟨t, rfl⟩ := h2
      exact ⟨t, by show Value.int ns[i] t = Value.int (ns.getD i 0) t; rw [List.getD_eq_getElem?_getD, List.getElem?_eq_getElem hi]; rfl⟩
    · obtain ⟨h', tk, rfl, hk'⟩ := PySem.W.moved_old e rfl m
      rw [preSum_list ns _ (fun i n hn => by rw [List.getD_eq_getElem?_getD, hn]; rfl) _ (by rw [List.size_toArray]; omega), List.take_of_length_le (by rw [List.size_toArray]; omega)]
      exact ⟨.int _, H, I.kept hk', ⟨_, rfl⟩, q⟩

/-! max, min of data -/
def rMaxData (K : PySem.W.Frag) : List V → Hp → VK → Prop := fun vs H Q => ∃ (a : Addr) (p : V × PyData) (ps : List (V × PyData)), vs = [.ref a] ∧ (SqL K H a ((p :: ps).map (·.1)) ∨ SqT K H a ((p :: ps).map (·.1))) ∧ (∀ q ∈ p :: ps, Dp K H q.1 q.2 ∧ q.2.depth ≤ 12 ∧ q.2.canLay0 = true) ∧
  PySem.W.AlikeAll ((p :: ps).map (·.2)) ∧ ∀ q ∈ p :: ps, q.2 = PySem.W.maxD p.2 (ps.map (·.2)) → Q q.1 H
def rMinData (K : PySem.W.Frag) : List V → Hp → VK → Prop := fun vs H Q => ∃ (a : Addr) (p : V × PyData) (ps : List (V × PyData)), vs = [.ref a] ∧ (SqL K H a ((p :: ps).map (·.1)) ∨ SqT K H a ((p :: ps).map (·.1))) ∧ (∀ q ∈ p :: ps, Dp K H q.1 q.2 ∧ q.2.depth ≤ 12 ∧ q.2.canLay0 = true) ∧
  PySem.W.AlikeAll ((p :: ps).map (·.2)) ∧ ∀ q ∈ p :: ps, q.2 = PySem.W.minD p.2 (ps.map (·.2)) → Q q.1 H
theorem dps_reads {pins : List (Addr × Obj)} {σ : L2.St} {H : Hp} {s : Shared} (I : Inv X pins σ H s) : ∀ {ps : List (V × PyData)} {its : List Value}, Vals (ps.map (·.1)) its → (∀ q ∈ ps, Dp X.K H q.1 q.2 ∧ q.2.depth ≤ 12 ∧ q.2.canLay0 = true) → (∃ as, ReadsAll s.heap its (ps.map (·.2)) as) ∧ PyData.depthAll (ps.map (·.2)) ≤ 12
  | [], _, h, _ => by cases h; exact ⟨⟨_, .nil⟩, Nat.zero_le _⟩
  | p :: ps, _, h, hd => by
    cases h with
    | cons r t =>
      obtain ⟨⟨as, q⟩, q2⟩ := dps_reads I t fun x hx => hd x (List.mem_cons_of_mem _ hx)
      obtain ⟨a1, a2, a3⟩ := hd p List.mem_cons_self
      obtain ⟨bs, q3⟩ := Dp.reads I p.2 p.1 _ a1 r
      exact ⟨⟨_, .cons q3 q⟩, by rw [List.map_cons]; show max _ _ ≤ 12; omega⟩
theorem best_pick {pins : List (Addr × Obj)} {σ : L2.St} {H : Hp} {s : Shared} (I : Inv X pins σ H s) {ps : List (V × PyData)} {its : List Value} (rv : Vals (ps.map (·.1)) its) (hd : ∀ q ∈ ps, Dp X.K H q.1 q.2 ∧ q.2.depth ≤ 12 ∧ q.2.canLay0 = true)
    {i : Nat} {v : Value} {h' : Heap} {e : PyData} {bs : List Addr} (hv : its.toArray[i]? = some v) (hr : Reads h' v e bs) (hk : ∀ b o, s.heap.get? b = some o → h'.get? b = some o) : ∃ q ∈ ps, q.2 = e ∧ RelV q.1 v := by
  have hv' : its[i]? = some v := by simpa using hv
  have hi : i < ps.length := by
    have h1 := (List.getElem?_eq_some_iff.mp hv').1
    have h2 := rv.length
    rw [List.length_map] at h2
    omega
  obtain ⟨u, h1, h2⟩ := Vals.get (x := ps[i].1) rv (by rw [List.getElem?_map, List.getElem?_eq_getElem hi]; rfl)
  rw [hv'] at h1
  cases h1
  have hm : ps[i] ∈ ps := List.getElem_mem hi
  obtain ⟨a1, a2, a3⟩ := hd _ hm
  obtain ⟨cs, q3⟩ := Dp.reads I _ _ _ a1 h2
  exact ⟨ps[i], hm, (PySem.Reads.unique (PyProof.Rows.Reads.keeps hk q3) _ _ hr).1, h2⟩
theorem cr_maxData (hc : X.calm = true) (hu : X.A.units + 64 < cLine) : CallR X (.builtin "max") (rMaxData X.K) := by
  intro pins s σ H vs us Q I r h
  obtain ⟨a, p, ps, rfl, hs, hd, hal, q⟩ := h
  rcases hs with hs | hs
  · obtain ⟨its, rv, hl, _⟩ := I.list hs
    rw [Vals.ref1 r]
    obtain ⟨⟨as, hr⟩, hdep⟩ := dps_reads I rv hd
    refine PySem.W.max_list_data (I.ok.hd hc) hl.isList (vs := its.toArray) (by simpa using hr) hal (by have hd2 : PyData.depthAll (((p :: ps).map fun x : V × PyData => x.2)) ≤ 12 := hdep; show X.A.units + 1 + PyData.depthAll ((p :: ps).map fun x : V × PyData => x.2) < cLine; omega) fun i v h' tk bs hv hb hk => ?_
    obtain ⟨y, hy, e, rr⟩ := best_pick I rv hd hv hb hk
    exact ⟨y.1, H, I.kept hk, rr, q y hy e⟩
  · obtain ⟨its, rv, hl, _⟩ := I.tuple hs
    rw [Vals.ref1 r]
    obtain ⟨⟨as, hr⟩, hdep⟩ := dps_reads I rv hd
    refine PySem.W.max_tuple_data (I.ok.hd hc) hl (vs := its.toArray) (by simpa using hr) hal (by have hd2 : PyData.depthAll (((p :: ps).map fun x : V × PyData => x.2)) ≤ 12 := hdep; show X.A.units + 1 + PyData.depthAll ((p :: ps).map fun x : V × PyData => x.2) < cLine; omega) fun i v h' tk bs hv hb hk => ?_
    obtain ⟨y, hy, e, rr⟩ := best_pick I rv hd hv hb hk
    exact ⟨y.1, H, I.kept hk, rr, q y hy e⟩
theorem cr_minData (hc : X.calm = true) (hu : X.A.units + 64 < cLine) : CallR X (.builtin "min") (rMinData X.K) := by
  intro pins s σ H vs us Q I r h
  obtain ⟨a, p, ps, rfl, hs, hd, hal, q⟩ := h
  rcases hs with hs | hs
  · obtain ⟨its, rv, hl, _⟩ := I.list hs
    rw [Vals.ref1 r]
    obtain ⟨⟨as, hr⟩, hdep⟩ := dps_reads I rv hd
    refine PySem.W.min_list_data (I.ok.hd hc) hl.isList (vs := its.toArray) (by simpa using hr) hal (by have hd2 : PyData.depthAll (((p :: ps).map fun x : V × PyData => x.2)) ≤ 12 := hdep; show X.A.units + 1 + PyData.depthAll ((p :: ps).map fun x : V × PyData => x.2) < cLine; omega) fun i v h' tk bs hv hb hk => ?_
    obtain ⟨y, hy, e, rr⟩ := best_pick I rv hd hv hb hk
    exact ⟨y.1, H, I.kept hk, rr, q y hy e⟩
  · obtain ⟨its, rv, hl, _⟩ := I.tuple hs
    rw [Vals.ref1 r]
    obtain ⟨⟨as, hr⟩, hdep⟩ := dps_reads I rv hd
    refine PySem.W.min_tuple_data (I.ok.hd hc) hl (vs := its.toArray) (by simpa using hr) hal (by have hd2 : PyData.depthAll (((p :: ps).map fun x : V × PyData => x.2)) ≤ 12 := hdep; show X.A.units + 1 + PyData.depthAll ((p :: ps).map fun x : V × PyData => x.2) < cLine; omega) fun i v h' tk bs hv hb hk => ?_
    obtain ⟨y, hy, e, rr⟩ := best_pick I rv hd hv hb hk
    exact ⟨y.1, H, I.kept hk, rr, q y hy e⟩

/-! any, all: items whose truth asks no heap -/
def truB : V → Option Bool
  | .non => some false
  | .bl b => some b
  | .int i => some (i != 0)
  | _ => none
def rAnyA (K : PySem.W.Frag) : List V → Hp → VK → Prop := fun vs H Q => ∃ (a : Addr) (xs : List V), vs = [V.ref a] ∧ (SqL K H a xs ∨ SqT K H a xs) ∧ (∀ x ∈ xs, (truB x).isSome = true) ∧ Q (.bl (xs.any fun x => (truB x).getD false)) H
def rAllA (K : PySem.W.Frag) : List V → Hp → VK → Prop := fun vs H Q => ∃ (a : Addr) (xs : List V), vs = [V.ref a] ∧ (SqL K H a xs ∨ SqT K H a xs) ∧ (∀ x ∈ xs, (truB x).isSome = true) ∧ Q (.bl (xs.all fun x => (truB x).getD false)) H
theorem truth_of {prog : Program} {w : World} {A : Around} {xs : List V} {its : List Value} (rv : Vals xs its) (ht : ∀ x ∈ xs, (truB x).isSome = true) :
    TruthOf prog w A (fun i v => its.toArray[i]? = some v) (fun i => (xs.map fun x => (truB x).getD false).getD i false) := fun i v s Q E hv hq => by
  have hv' : its[i]? = some v := by simpa using hv
  have hi : i < xs.length := by
    have h1 := (List.getElem?_eq_some_iff.mp hv').1
    have h2 := rv.length
    omega
  obtain ⟨u, h1, h2⟩ := Vals.get (x := xs[i]) rv (List.getElem?_eq_getElem hi)
  rw [hv'] at h1
  cases h1
  have hg : (xs.map fun x => (truB x).getD false).getD i false = (truB xs[i]).getD false := by
    rw [List.getD_eq_getElem?_getD, List.getElem?_map, List.getElem?_eq_getElem hi]; rfl
  have hq' : Q ((xs.map fun x => (truB x).getD false).getD i false) s := hq
  rw [hg] at hq'
  have hx := ht _ (List.getElem_mem hi)
  revert h2 hx hq'
  generalize xs[i] = x
  intro h2 hq' hx
  cases x <;> first | (cases hx; done) | skip
  · cases h2; exact PyProof.Rows.truthy_none hq'
  · cases h2; exact wpAny_truthy_bool hq'
  · obtain ⟨t, rfl⟩ := h2; exact PySem.P.truthy_int hq'
theorem cr_anyA (hc : X.calm = true) : CallR X (.builtin "any") (rAnyA X.K) := by
  intro pins s σ H vs us Q I r h
  obtain ⟨a, xs, rfl, hs, ht, q⟩ := h
  have key : ∀ {its : List Value} {h' : Heap} {tk : Nat}, Vals xs its → (∀ b o, s.heap.get? b = some o → h'.get? b = some o) → EP X pins σ Q (.bool ((List.range its.toArray.size).any fun i => (xs.map fun x => (truB x).getD false).getD i false)) { s with heap := h', toks := tk } := fun rv hk => by
    refine ⟨.bl _, H, I.kept hk, ?_, q⟩
    show Value.bool _ = Value.bool _
    rw [List.size_toArray, ← rv.length, show xs.length = (xs.map fun x => (truB x).getD false).length from (List.length_map _).symm, L2.any_range, List.any_map]
    rfl
  rcases hs with hs | hs
  · obtain ⟨its, rv, hl, _⟩ := I.list hs
    rw [Vals.ref1 r]
    refine call_any_walk (iter_any hl.isList fun s₂ e2 st hne => ?_)
    subst e2
    refine ⟨_, _, _, _, _, _, _, rfl, Walks.list (A := X.A.in1) (I.ok.hd hc) _ a hne its.toArray, st, truth_of rv ht, fun h' tk hk => ?_⟩
    exact key rv fun b o eo => hk b o (fun hmem => by
      rcases List.mem_cons.mp hmem with e1 | hmem
      · exact absurd (e1 ▸ Heap.lt_size eo) (Nat.lt_irrefl _)
      · cases hmem) (Heap.get?_push_of_some _ eo)
  · obtain ⟨its, rv, hl, _⟩ := I.tuple hs
    rw [Vals.ref1 r]
    have hlt : a < s.heap.objs.size := by obtain ⟨_, e, _⟩ := hl; exact Heap.lt_size e
    refine call_any_walk (wpAny_pyIter_tuple hl ?_)
    refine ⟨_, _, _, _, _, _, _, rfl, Walks.tuple (A := X.A.in1) (I.ok.hd hc) _ a (Nat.ne_of_lt hlt) its.toArray, ⟨⟨_, Heap.get?_push_size _ rfl, rfl, rfl⟩, hl.push _⟩, truth_of rv ht, fun h' tk hk => ?_⟩
    exact key rv fun b o eo => hk b o (fun hmem => by
      rcases List.mem_cons.mp hmem with e1 | hmem
      · exact absurd (e1 ▸ Heap.lt_size eo) (Nat.lt_irrefl _)
      · cases hmem) (Heap.get?_push_of_some _ eo)
theorem cr_allA (hc : X.calm = true) : CallR X (.builtin "all") (rAllA X.K) := by
  intro pins s σ H vs us Q I r h
  obtain ⟨a, xs, rfl, hs, ht, q⟩ := h
  have key : ∀ {its : List Value} {h' : Heap} {tk : Nat}, Vals xs its → (∀ b o, s.heap.get? b = some o → h'.get? b = some o) → EP X pins σ Q (.bool ((List.range its.toArray.size).all fun i => (xs.map fun x => (truB x).getD false).getD i false)) { s with heap := h', toks := tk } := fun rv hk => by
    refine ⟨.bl _, H, I.kept hk, ?_, q⟩
    show Value.bool _ = Value.bool _
    rw [List.size_toArray, ← rv.length, show xs.length = (xs.map fun x => (truB x).getD false).length from (List.length_map _).symm, L2.all_range, List.all_map]
    rfl
  rcases hs with hs | hs
  · obtain ⟨its, rv, hl, _⟩ := I.list hs
    rw [Vals.ref1 r]
    refine call_all_walk (iter_any hl.isList fun s₂ e2 st hne => ?_)
    subst e2
    refine ⟨_, _, _, _, _, _, _, rfl, Walks.list (A := X.A.in1) (I.ok.hd hc) _ a hne its.toArray, st, truth_of rv ht, fun h' tk hk => ?_⟩
    exact key rv fun b o eo => hk b o (fun hmem => by
      rcases List.mem_cons.mp hmem with e1 | hmem
      · exact absurd (e1 ▸ Heap.lt_size eo) (Nat.lt_irrefl _)
      · cases hmem) (Heap.get?_push_of_some _ eo)
  · obtain ⟨its, rv, hl, _⟩ := I.tuple hs
    rw [Vals.ref1 r]
    have hlt : a < s.heap.objs.size := by obtain ⟨_, e, _⟩ := hl; exact Heap.lt_size e
    refine call_all_walk (wpAny_pyIter_tuple hl ?_)
    refine ⟨_, _, _, _, _, _, _, rfl, Walks.tuple (A := X.A.in1) (I.ok.hd hc) _ a (Nat.ne_of_lt hlt) its.toArray, ⟨⟨_, Heap.get?_push_size _ rfl, rfl, rfl⟩, hl.push _⟩, truth_of rv ht, fun h' tk hk => ?_⟩
    exact key rv fun b o eo => hk b o (fun hmem => by
      rcases List.mem_cons.mp hmem with e1 | hmem
      · exact absurd (e1 ▸ Heap.lt_size eo) (Nat.lt_irrefl _)
      · cases hmem) (Heap.get?_push_of_some _ eo)
end

/-! ### the answers on data -/
def intsD : List D → Option (List Int)
  | [] => some []
  | .int i :: r => (match intsD r with | some is => some (i :: is) | none => none)
  | _ :: _ => none
def sumD (ds : List D) (acc : Int) (k : Int → Bool) : Bool := match ds with
  | [] => k acc
  | d :: r => (match d with | .int i => frc (acc + i) fun c => sumD r c k | _ => false)
theorem sumD_ok {Z : Wd} {μ : Nat → Addr} {n : Nat} {H : Hp} {k : Int → Bool} : ∀ {ds : List D} {vs : List V} {acc : Int}, Reps Z μ n H ds vs → sumD ds acc k = true → ∃ ns : List Int, vs = ns.map V.int ∧ k (acc + ns.sum) = true
  | _, _, acc, .nil, h => ⟨[], rfl, by rw [List.sum_nil, Int.add_zero]; exact h⟩
  | _, _, acc, .cons r rs, h => by
    unfold sumD at h
    cases r <;> first | (cases h; done) | skip
    dsimp only at h
    rw [frc_eq] at h
    obtain ⟨ns, e, hk⟩ := sumD_ok rs h
    subst e
    exact ⟨_ :: ns, rfl, by rw [List.sum_cons, ← Int.add_assoc]; exact hk⟩
def sumF (ds : List D) (m : M) (k : Kc) : Bool := match ds with
  | [d] => (match seqOf d m with | some xs => sumD xs 0 fun c => k (.int c) m | none => false)
  | _ => false
theorem o_sum {Z : Wd} : OpN Z sumF (rSumA Z.K) := by
  intro μ m H xs ds k Q S rs h P
  cases rs with
  | nil => cases h
  | cons r rs =>
    cases rs with
    | cons _ _ => cases h
    | nil =>
      unfold sumF at h
      dsimp only at h
      split at h
      · rename_i ys hy
        obtain ⟨a, vs, rfl, hs, rr⟩ := seqOf_rep S r hy
        obtain ⟨ns, rfl, hk⟩ := sumD_ok rr h
        rw [Int.zero_add] at hk
        exact ⟨a, ns, rfl, hs, post_int P S hk⟩
      · cases h

def pureB : Nat → D → Bool
  | f, d => match d with
    | .non => true
    | .bl _ => true
    | .int _ => true
    | .str _ => true
    | .tup xs => (match f with | 0 => false | f + 1 => xs.all (pureB f))
    | _ => false
theorem toP_injL {f : Nat} {m : M} (ih : ∀ x y : D, pureB f x = true → pureB f y = true → toP f m x = toP f m y → x = y) : ∀ xs ys : List D, xs.all (pureB f) = true → ys.all (pureB f) = true → xs.map (toP f m) = ys.map (toP f m) → xs = ys
  | [], [], _, _, _ => rfl
  | [], _ :: _, _, _, h => by cases h
  | _ :: _, [], _, _, h => by cases h
  | x :: xs, y :: ys, h1, h2, h => by
    rw [List.all_cons] at h1 h2
    obtain ⟨a1, a2⟩ := and2 h1
    obtain ⟨b1, b2⟩ := and2 h2
    rw [List.map_cons, List.map_cons] at h
    injection h with h3 h4
    rw [ih x y a1 b1 h3, toP_injL ih xs ys a2 b2 h4]
theorem toP_inj {m : M} : ∀ (f : Nat) (x y : D), pureB f x = true → pureB f y = true → toP f m x = toP f m y → x = y := by
  intro f
  induction f with
  | zero =>
    intro x y hx hy h
    cases x <;> (try (unfold pureB at hx; cases hx; done)) <;> cases y <;> (try (unfold pureB at hy; cases hy; done)) <;> unfold toP at h <;> first | rfl | (cases h; rfl) | (cases h)
  | succ f ih =>
    intro x y hx hy h
    cases x <;> (try (unfold pureB at hx; cases hx; done)) <;> cases y <;> (try (unfold pureB at hy; cases hy; done)) <;> unfold toP at h <;> first | rfl | (cases h; rfl) | (cases h; done) | skip
    unfold pureB at hx hy
    injection h with h
    rw [toP_injL ih _ _ hx hy h]
def bestD (b : D → D → Bool) (x : D) (xs : List D) : D := match xs with
  | [] => x
  | y :: r => match b y x with | true => bestD b y r | false => bestD b x r
theorem bestD_mem {b : D → D → Bool} : ∀ {x : D} {xs : List D}, bestD b x xs ∈ x :: xs
  | x, [] => List.mem_cons_self
  | x, y :: r => by
    unfold bestD
    cases b y x with
    | true => exact List.mem_cons_of_mem _ bestD_mem
    | false =>
      rcases List.mem_cons.mp (bestD_mem (b := b) (x := x) (xs := r)) with h | h
      · rw [h]; exact List.mem_cons_self
      · exact List.mem_cons_of_mem _ (List.mem_cons_of_mem _ h)
theorem bestD_toP {g : D → PyData} {b : D → D → Bool} {c : PyData → PyData → Bool} {l : List D} (hb : ∀ x ∈ l, ∀ y ∈ l, b y x = c (g y) (g x)) : ∀ {x : D} {xs : List D}, (∀ z ∈ x :: xs, z ∈ l) → g (bestD b x xs) = (xs.map g).foldl (fun a y => if c y a then y else a) (g x)
  | x, [], _ => rfl
  | x, y :: r, h => by
    unfold bestD
    have hx := h x List.mem_cons_self
    have hy := h y (List.mem_cons_of_mem _ List.mem_cons_self)
    rw [List.map_cons, List.foldl_cons, ← hb x hx y hy]
    cases b y x with
    | true => exact bestD_toP hb fun z hz => h z (List.mem_cons_of_mem _ hz)
    | false => exact bestD_toP hb fun z hz => (by
        rcases List.mem_cons.mp hz with rfl | hz
        · exact hx
        · exact h z (List.mem_cons_of_mem _ (List.mem_cons_of_mem _ hz)))
def bestOk (m : M) (xs : List D) : Bool := xs.all (okD 11 m) && alkB 11 xs && xs.all (pureB 11)
def maxF (ds : List D) (m : M) (k : Kc) : Bool := match ds with
  | [.int i, .int j] => k (.int (match iltB i j with | true => j | false => i)) m
  | [d] => (match seqOf d m with
    | some (x :: xs) => bestOk m (x :: xs) && k (bestD (fun a b => ltB 11 m b a) x xs) m
    | _ => false)
  | _ => false
def minF (ds : List D) (m : M) (k : Kc) : Bool := match ds with
  | [.int i, .int j] => k (.int (match iltB j i with | true => j | false => i)) m
  | [d] => (match seqOf d m with
    | some (x :: xs) => bestOk m (x :: xs) && k (bestD (fun a b => ltB 11 m a b) x xs) m
    | _ => false)
  | _ => false
def rMaxA (K : PySem.W.Frag) : List V → Hp → VK → Prop := fun xs H Q => (∃ i j, xs = [.int i, .int j] ∧ Q (.int (if j > i then j else i)) H) ∨ rMaxData K xs H Q
def rMinA (K : PySem.W.Frag) : List V → Hp → VK → Prop := fun xs H Q => (∃ i j, xs = [.int i, .int j] ∧ Q (.int (if j < i then j else i)) H) ∨ rMinData K xs H Q
theorem cr_maxA {X : Cx} (hc : X.calm = true) (hu : X.A.units + 64 < cLine) : CallR X (.builtin "max") (rMaxA X.K) := (call_max2 hc).or (cr_maxData hc hu)
theorem cr_minA {X : Cx} (hc : X.calm = true) (hu : X.A.units + 64 < cLine) : CallR X (.builtin "min") (rMinA X.K) := (call_min2 hc).or (cr_minData hc hu)
section
variable {Z : Wd} {μ : Nat → Addr} {m : M} {H : Hp}
/-- what stands behind a row of data that may be compared -/
theorem best_rep (S : Sim Z μ m H) {x : D} {xs : List D} {vs : List V} (r : Reps Z μ m.n H (x :: xs) vs) (h : bestOk m (x :: xs) = true) : ∃ (p : V × PyData) (ps : List (V × PyData)), vs = (p :: ps).map (·.1) ∧ (p :: ps).map (·.2) = (x :: xs).map (toP 11 m) ∧
    p.2 = toP 11 m x ∧ ps.map (·.2) = xs.map (toP 11 m) ∧ (∀ q ∈ p :: ps, Dp Z.K H q.1 q.2 ∧ q.2.depth ≤ 12 ∧ q.2.canLay0 = true) ∧ PySem.W.AlikeAll ((p :: ps).map (·.2)) ∧ ∀ q ∈ p :: ps, ∃ d ∈ x :: xs, Rep Z μ m.n H d q.1 ∧ q.2 = toP 11 m d := by
  unfold bestOk at h
  obtain ⟨h, h3⟩ := and2 h
  obtain ⟨h1, h2⟩ := and2 h
  have key : ∀ {ds : List D} {vs : List V}, Reps Z μ m.n H ds vs → ∃ ps : List (V × PyData), vs = ps.map (·.1) ∧ ps.map (·.2) = ds.map (toP 11 m) ∧ ∀ q ∈ ps, ∃ d ∈ ds, Rep Z μ m.n H d q.1 ∧ q.2 = toP 11 m d := by
    intro ds vs r
    induction ds generalizing vs with
    | nil => cases r; exact ⟨[], rfl, rfl, fun _ h => (by cases h)⟩
    | cons d ds ih =>
      cases r with
      | cons a b =>
        obtain ⟨ps, e1, e2, e3⟩ := ih b
        refine ⟨(_, toP 11 m d) :: ps, by rw [List.map_cons, ← e1], by rw [List.map_cons, List.map_cons, e2], fun q hq => ?_⟩
        rcases List.mem_cons.mp hq with rfl | hq
        · exact ⟨d, List.mem_cons_self, a, rfl⟩
        · obtain ⟨z, z1, z2⟩ := e3 q hq
          exact ⟨z, List.mem_cons_of_mem _ z1, z2⟩
  obtain ⟨ps, e1, e2, e3⟩ := key r
  cases ps with
  | nil => cases e2
  | cons p ps =>
    have e2' := e2
    rw [List.map_cons, List.map_cons] at e2'
    injection e2' with e4 e5
    refine ⟨p, ps, e1, e2, e4, e5, fun q hq => ?_, ⟨?_, ?_⟩, e3⟩
    · obtain ⟨d, hd, hr, eq⟩ := e3 q hq
      obtain ⟨a1, a2, a3⟩ := Rep.dp S 11 d q.1 hr (List.all_eq_true.mp h1 d hd)
      rw [eq]
      exact ⟨a1, Nat.le_succ_of_le a3, a2⟩
    · rw [e2]
      intro a ha b hb
      obtain ⟨d, hd, rfl⟩ := List.mem_map.mp ha
      obtain ⟨e, he, rfl⟩ := List.mem_map.mp hb
      exact alB_eq 11 d e (List.all_eq_true.mp h1 d hd) (List.all_eq_true.mp h1 e he) (alkB_ok h2 d hd e he)
    · rw [e2]
      intro a ha
      obtain ⟨d, hd, rfl⟩ := List.mem_map.mp ha
      exact alB_ne 11 d d (List.all_eq_true.mp h1 d hd) (alkB_ok h2 d hd d hd)
theorem o_max : OpN Z maxF (rMaxA Z.K) := by
  intro μ m H xs ds k Q S rs h P
  unfold maxF at h
  split at h
  · rename_i i j
    cases rs with
    | cons r1 rs =>
      cases rs with
      | cons r2 rs =>
        cases rs
        cases r1
        cases r2
        rw [iltB_eq] at h
        refine .inl ⟨_, _, rfl, post_int P S ?_⟩
        by_cases e : i < j
        · rw [decide_eq_true e] at h
          rw [if_pos e]; exact h
        · rw [decide_eq_false e] at h
          rw [if_neg e]; exact h
  · cases rs with
    | cons r rs =>
      cases rs
      split at h
      · rename_i y ys hy
        obtain ⟨h1, h2⟩ := and2 h
        obtain ⟨a, vs, rfl, hs, rr⟩ := seqOf_rep S r hy
        obtain ⟨p, ps, rfl, e2, e4, e5, hd, hal, hq⟩ := best_rep S rr h1
        refine .inr ⟨a, p, ps, rfl, hs, hd, hal, fun q hq' e => ?_⟩
        obtain ⟨d, dm, dr, de⟩ := hq q hq'
        unfold bestOk at h1
        obtain ⟨h1, z3⟩ := and2 h1
        obtain ⟨z1, z2⟩ := and2 h1
        have eb : toP 11 m (bestD (fun a b => ltB 11 m b a) y ys) = PySem.W.maxD p.2 (ps.map (·.2)) := by
          rw [e4, e5]
          exact bestD_toP (g := toP 11 m) (c := fun a b => PySem.W.dataLt b a) (l := y :: ys) (fun u hu v hv => ltB_eq 11 u v (List.all_eq_true.mp z1 u hu) (List.all_eq_true.mp z1 v hv) (alkB_ok z2 u hu v hv)) fun z hz => hz
        have ed : d = bestD (fun a b => ltB 11 m b a) y ys := toP_inj 11 _ _ (List.all_eq_true.mp z3 d dm) (List.all_eq_true.mp z3 _ bestD_mem) (by rw [← de, e, eb])
        rw [← ed] at h2
        exact P.now S dr h2
      · cases h
  · cases h
theorem o_min : OpN Z minF (rMinA Z.K) := by
  intro μ m H xs ds k Q S rs h P
  unfold minF at h
  split at h
  · rename_i i j
    cases rs with
    | cons r1 rs =>
      cases rs with
      | cons r2 rs =>
        cases rs
        cases r1
        cases r2
        rw [iltB_eq] at h
        refine .inl ⟨_, _, rfl, post_int P S ?_⟩
        by_cases e : j < i
        · rw [decide_eq_true e] at h
          rw [if_pos e]; exact h
        · rw [decide_eq_false e] at h
          rw [if_neg e]; exact h
  · cases rs with
    | cons r rs =>
      cases rs
      split at h
      · rename_i y ys hy
        obtain ⟨h1, h2⟩ := and2 h
        obtain ⟨a, vs, rfl, hs, rr⟩ := seqOf_rep S r hy
        obtain ⟨p, ps, rfl, e2, e4, e5, hd, hal, hq⟩ := best_rep S rr h1
        refine .inr ⟨a, p, ps, rfl, hs, hd, hal, fun q hq' e => ?_⟩
        obtain ⟨d, dm, dr, de⟩ := hq q hq'
        unfold bestOk at h1
        obtain ⟨h1, z3⟩ := and2 h1
        obtain ⟨z1, z2⟩ := and2 h1
        have eb : toP 11 m (bestD (fun a b => ltB 11 m a b) y ys) = PySem.W.minD p.2 (ps.map (·.2)) := by
          rw [e4, e5]
          exact bestD_toP (g := toP 11 m) (c := fun a b => PySem.W.dataLt a b) (l := y :: ys) (fun u hu v hv => ltB_eq 11 v u (List.all_eq_true.mp z1 v hv) (List.all_eq_true.mp z1 u hu) (alkB_ok z2 v hv u hu)) fun z hz => hz
        have ed : d = bestD (fun a b => ltB 11 m a b) y ys := toP_inj 11 _ _ (List.all_eq_true.mp z3 d dm) (List.all_eq_true.mp z3 _ bestD_mem) (by rw [← de, e, eb])
        rw [← ed] at h2
        exact P.now S dr h2
      · cases h
  · cases h
end

/-! len, abs, int, bool, any, all, list, tuple, dict -/
def lenD (d : D) (m : M) (k : Nat → Bool) : Bool := match d with
  | .str z => Nat.ble z.length LIM && k z.length
  | .tup xs => k xs.length
  | .ref i => (match m.get i with
    | some (.lst xs) => k xs.length
    | some (.dic xs) => k xs.length
    | _ => false)
  | _ => false
def lenF (ds : List D) (m : M) (k : Kc) : Bool := match ds with
  | [d] => lenD d m fun n => frc (.ofNat n) fun c => k (.int c) m
  | _ => false
def rLenA (K : PySem.W.Frag) : List V → Hp → VK → Prop := fun xs H Q => (∃ x n, xs = [x] ∧ LenV K x H n ∧ Q (.int n) H) ∨ ∃ a kvs, xs = [V.ref a] ∧ H a = some (.dK kvs) ∧ Q (.int kvs.length) H
theorem cr_lenA {X : Cx} : CallR X (.builtin "len") (rLenA X.K) := call_len.or call_lenD
theorem o_len {Z : Wd} : OpN Z lenF (rLenA Z.K) := by
  intro μ m H xs ds k Q S rs h P
  unfold lenF at h
  split at h
  · cases rs with
    | cons r rs =>
      cases rs
      have P' : ∀ n : Nat, (frc (.ofNat n) fun c => k (.int c) m) = true → Q (.int n) H := fun n e => by
        rw [frc_eq] at e
        exact post_int P S e
      cases r with
      | str =>
        obtain ⟨h1, h2⟩ := and2 h
        exact .inl ⟨_, _, rfl, ⟨ble_lim h1, rfl⟩, P' _ h2⟩
      | tup hq rr => exact .inl ⟨_, _, rfl, .inr ⟨_, hq, rfl⟩, P' _ (by rw [← rr.length]; exact h)⟩
      | ref hi =>
        unfold lenD at h
        dsimp only at h
        split at h
        · rename_i ys g
          obtain ⟨vs, e, rr⟩ := S.lst g
          exact .inl ⟨_, _, rfl, .inl ⟨_, SqL.of e, rfl⟩, P' _ (by rw [← rr.length]; exact h)⟩
        · rename_i ys g
          obtain ⟨vs, e, rr⟩ := S.obj _ _ g
          exact .inr ⟨_, _, rfl, e, P' _ (by rw [← rr.length]; exact h)⟩
        · cases h
      | _ => cases h
  · cases h
def absF (ds : List D) (m : M) (k : Kc) : Bool := match ds with
  | [.int i] => frc (match iltB i 0 with | true => -i | false => i) fun c => k (.int c) m
  | _ => false
theorem o_abs {Z : Wd} : OpN Z absF (fun xs H Q => ∃ i, xs = [.int i] ∧ Q (.int (if i < 0 then -i else i)) H) := by
  intro μ m H xs ds k Q S rs h P
  unfold absF at h
  split at h
  · rename_i i
    cases rs with
    | cons r rs =>
      cases rs
      cases r
      rw [frc_eq, iltB_eq] at h
      refine ⟨i, rfl, post_int P S ?_⟩
      by_cases e : i < 0
      · rw [decide_eq_true e] at h
        rw [if_pos e]; exact h
      · rw [decide_eq_false e] at h
        rw [if_neg e]; exact h
  · cases h
def intF (ds : List D) (m : M) (k : Kc) : Bool := match ds with
  | [.int i] => k (.int i) m
  | [.bl b] => k (.int (match b with | true => 1 | false => 0)) m
  | _ => false
theorem o_int {Z : Wd} : OpN Z intF (fun xs H Q => (∃ i, xs = [.int i] ∧ Q (.int i) H) ∨ ∃ k, xs = [.bl k] ∧ Q (.int (if k then 1 else 0)) H) := by
  intro μ m H xs ds k Q S rs h P
  unfold intF at h
  split at h
  · cases rs with
    | cons r rs =>
      cases rs
      cases r
      exact .inl ⟨_, rfl, post_int P S h⟩
  · rename_i b
    cases rs with
    | cons r rs =>
      cases rs
      cases r
      refine .inr ⟨b, rfl, post_int P S ?_⟩
      cases b <;> exact h
  · cases h
def boolF (ds : List D) (m : M) (k : Kc) : Bool := match ds with
  | [.int i] => k (.bl (i != 0)) m
  | [.bl b] => k (.bl b) m
  | _ => false
theorem o_bool {Z : Wd} : OpN Z boolF (fun xs H Q => (∃ i, xs = [.int i] ∧ Q (.bl (i != 0)) H) ∨ ∃ k, xs = [.bl k] ∧ Q (.bl k) H) := by
  intro μ m H xs ds k Q S rs h P
  unfold boolF at h
  split at h
  · cases rs with
    | cons r rs =>
      cases rs
      cases r
      exact .inl ⟨_, rfl, post_bl P S h⟩
  · cases rs with
    | cons r rs =>
      cases rs
      cases r
      exact .inr ⟨_, rfl, post_bl P S h⟩
  · cases h
def trD : D → Option Bool
  | .non => some false
  | .bl b => some b
  | .int i => some (i != 0)
  | _ => none
def anyD (ds : List D) : Option Bool := match ds with
  | [] => some false
  | d :: r => (match trD d with | none => none | some b => (match anyD r with | none => none | some c => some (b || c)))
def allD (ds : List D) : Option Bool := match ds with
  | [] => some true
  | d :: r => (match trD d with | none => none | some b => (match allD r with | none => none | some c => some (b && c)))
theorem trD_rep {Z : Wd} {μ : Nat → Addr} {n : Nat} {H : Hp} {d : D} {v : V} {b : Bool} (r : Rep Z μ n H d v) (h : trD d = some b) : truB v = some b := by
  cases r <;> first | (cases h; done) | exact h
theorem anyD_rep {Z : Wd} {μ : Nat → Addr} {n : Nat} {H : Hp} : ∀ {ds : List D} {vs : List V} {b : Bool}, Reps Z μ n H ds vs → anyD ds = some b → (∀ x ∈ vs, (truB x).isSome = true) ∧ (vs.any fun x => (truB x).getD false) = b
  | _, _, _, .nil, h => by cases h; exact ⟨fun _ h => (by cases h), rfl⟩
  | _, _, _, .cons r rs, h => by
    unfold anyD at h
    split at h
    · cases h
    · rename_i b1 h1
      split at h
      · cases h
      · rename_i c h2
        cases h
        obtain ⟨a1, a2⟩ := anyD_rep rs h2
        have e := trD_rep r h1
        refine ⟨fun x hx => ?_, by rw [List.any_cons, e, a2]; rfl⟩
        rcases List.mem_cons.mp hx with rfl | hx
        · rw [e]; rfl
        · exact a1 x hx
theorem allD_rep {Z : Wd} {μ : Nat → Addr} {n : Nat} {H : Hp} : ∀ {ds : List D} {vs : List V} {b : Bool}, Reps Z μ n H ds vs → allD ds = some b → (∀ x ∈ vs, (truB x).isSome = true) ∧ (vs.all fun x => (truB x).getD false) = b
  | _, _, _, .nil, h => by cases h; exact ⟨fun _ h => (by cases h), rfl⟩
  | _, _, _, .cons r rs, h => by
    unfold allD at h
    split at h
    · cases h
    · rename_i b1 h1
      split at h
      · cases h
      · rename_i c h2
        cases h
        obtain ⟨a1, a2⟩ := allD_rep rs h2
        have e := trD_rep r h1
        refine ⟨fun x hx => ?_, by rw [List.all_cons, e, a2]; rfl⟩
        rcases List.mem_cons.mp hx with rfl | hx
        · rw [e]; rfl
        · exact a1 x hx
def anyF (ds : List D) (m : M) (k : Kc) : Bool := match ds with
  | [d] => (match seqOf d m with | some xs => (match anyD xs with | some b => k (.bl b) m | none => false) | none => false)
  | _ => false
def allF (ds : List D) (m : M) (k : Kc) : Bool := match ds with
  | [d] => (match seqOf d m with | some xs => (match allD xs with | some b => k (.bl b) m | none => false) | none => false)
  | _ => false
theorem o_any {Z : Wd} : OpN Z anyF (rAnyA Z.K) := by
  intro μ m H xs ds k Q S rs h P
  unfold anyF at h
  split at h
  · cases rs with
    | cons r rs =>
      cases rs
      split at h
      · rename_i ys hy
        split at h
        · rename_i b hb
          obtain ⟨a, vs, rfl, hs, rr⟩ := seqOf_rep S r hy
          obtain ⟨h1, h2⟩ := anyD_rep rr hb
          exact ⟨a, vs, rfl, hs, h1, by rw [h2]; exact post_bl P S h⟩
        · cases h
      · cases h
  · cases h
theorem o_all {Z : Wd} : OpN Z allF (rAllA Z.K) := by
  intro μ m H xs ds k Q S rs h P
  unfold allF at h
  split at h
  · cases rs with
    | cons r rs =>
      cases rs
      split at h
      · rename_i ys hy
        split at h
        · rename_i b hb
          obtain ⟨a, vs, rfl, hs, rr⟩ := seqOf_rep S r hy
          obtain ⟨h1, h2⟩ := allD_rep rr hb
          exact ⟨a, vs, rfl, hs, h1, by rw [h2]; exact post_bl P S h⟩
        · cases h
      · cases h
  · cases h
def kD : Key → D
  | .inl i => .int i
  | .inr x => .str x
theorem kD_rep {Z : Wd} {μ : Nat → Addr} {n : Nat} {H : Hp} (k : Key) : Rep Z μ n H (kD k) (kV k) := by cases k <;> constructor
theorem keys_rep {Z : Wd} {μ : Nat → Addr} {n : Nat} {H : Hp} {R : D → V → Prop} : ∀ {kvs : List (Key × D)} {ws : List (Key × V)}, KReps R kvs ws → Reps Z μ n H (kvs.map fun p => kD p.1) (ws.map fun p => kV p.1)
  | _, _, .nil => .nil
  | _, _, .cons _ hs => .cons (kD_rep _) (keys_rep hs)
def listF (ds : List D) (m : M) (k : Kc) : Bool := match ds with
  | [.tup xs] => k (.ref m.n) (m.alloc (.lst xs))
  | [.ref i] => (match m.get i with
    | some (.lst xs) => k (.ref m.n) (m.alloc (.lst xs))
    | some (.dic kvs) => k (.ref m.n) (m.alloc (.lst (kvs.map fun p => kD p.1)))
    | _ => false)
  | _ => false
def rListA (K : PySem.W.Frag) : List V → Hp → VK → Prop := fun xs H Q => (∃ p ys, xs = [.ref p] ∧ (SqL K H p ys ∨ SqT K H p ys) ∧ ∀ l, H l = none → Q (.ref l) (upd H l (.lst ys))) ∨ rListD xs H Q
theorem cr_listA {X : Cx} (hc : X.calm = true) : CallR X (.type "list") (rListA X.K) := call_list_of.or (call_list_dK hc)
theorem o_list {Z : Wd} : OpN Z listF (rListA Z.K) := by
  intro μ m H xs ds k Q S rs h P
  unfold listF at h
  split at h
  · cases rs with
    | cons r rs =>
      cases rs
      cases r with
      | tup hq rr => exact .inl ⟨_, _, rfl, .inr hq, fun p hp => P.newL S hp rr h⟩
  · cases rs with
    | cons r rs =>
      cases rs
      cases r
      split at h
      · rename_i ys g
        obtain ⟨vs, e, rr⟩ := S.lst g
        exact .inl ⟨_, _, rfl, .inl (SqL.of e), fun p hp => P.newL S hp rr h⟩
      · rename_i ys g
        obtain ⟨vs, e, rr⟩ := S.obj _ _ g
        exact .inr ⟨_, _, rfl, e, fun p hp => P.newL S hp (keys_rep rr) h⟩
      · cases h
  · cases h
def tupleF (ds : List D) (m : M) (k : Kc) : Bool := match ds with
  | [.tup xs] => k (.tup xs) m
  | [.ref i] => (match m.get i with
    | some (.lst xs) => k (.tup xs) m
    | _ => false)
  | _ => false
theorem o_tuple {Z : Wd} : OpN Z tupleF (fun xs H Q => ∃ p ys, xs = [.ref p] ∧ ((SqL Z.K H p ys ∧ ∀ l, H l = none → Q (.ref l) (upd H l (.tup ys))) ∨ (SqT Z.K H p ys ∧ Q (.ref p) H))) := by
  intro μ m H xs ds k Q S rs h P
  unfold tupleF at h
  split at h
  · cases rs with
    | cons r rs =>
      cases rs
      cases r with
      | tup hq rr => exact ⟨_, _, rfl, .inr ⟨hq, P.now S (.tup hq rr) h⟩⟩
  · cases rs with
    | cons r rs =>
      cases rs
      cases r
      split at h
      · rename_i ys g
        obtain ⟨vs, e, rr⟩ := S.lst g
        exact ⟨_, _, rfl, .inl ⟨SqL.of e, fun p hp => P.newT S hp rr h⟩⟩
      · cases h
  · cases h
def dictF (ds : List D) (m : M) (k : Kc) : Bool := match ds with
  | [.ref i] => (match m.get i with
    | some (.dic kvs) => k (.ref m.n) (m.alloc (.dic kvs))
    | _ => false)
  | _ => false
theorem o_dict {Z : Wd} : OpN Z dictF (fun xs H Q => ∃ (a : Addr) (kvs : List (Key × V)), xs = [.ref a] ∧ Rd H a (.dK kvs) ∧ ∀ p, H p = none → Q (.ref p) (upd H p (.dK kvs))) := by
  intro μ m H xs ds k Q S rs h P
  unfold dictF at h
  split at h
  · cases rs with
    | cons r rs =>
      cases rs
      cases r
      split at h
      · rename_i ys g
        obtain ⟨vs, e, rr⟩ := S.obj _ _ g
        exact ⟨_, _, rfl, .inl e, fun p hp => P.new (o := .dic ys) S hp (fun _ z => by cases z) ⟨_, upd_same, rr.mono fun _ _ => Rep.mono (Le.ofKp (kp_upd hp) (Nat.le_succ _) fun _ h => ext_lt h)⟩ h⟩
      · cases h
  · cases h
end
end Ev

set_option Elab.async false
set_option linter.all false
set_option maxRecDepth 100000
set_option maxHeartbeats 1000000
/-! Ev10: comparisons, calls of built-ins, isinstance, methods, dict displays. -/
namespace Ev
open PySem PySem.Spec PyProof.Rows L2
noncomputable section

/-! ### comparisons -/
def chC (f g : Sem2) (a b c : SemE) : SemE := fun ρ m k kx => a ρ m (fun x m1 => b ρ m1 (fun y m2 => f x y m2 fun z m3 => match z with
  | .bl t => (match t with | true => c ρ m3 (fun w m4 => g y w m4 k) kx | false => k (.bl false) m3)
  | _ => false) kx) kx
section
variable {X : Cx} {Z : Wd} {W : WX} {a b c : Expr} {ta tb tc : SemE} {pos : Pos}
theorem s_cmp {op : CmpOp} {f : Sem2} {r : R2} (o : Op2 Z f r) (ho : OpR X (compareOp op) r) (ha : PE X a (tI Z W ta)) (hb : PE X b (tI Z W tb)) (hm : behindInMarks op b = false) : PE X (.Compare a [op] [b] pos) (tI Z W (binC f ta tb)) :=
  (pe_cmpR ho ha hb hm).imp fun σ H Q h => s_binR o h
theorem s_cmpT {op : CmpOp} {f : Sem2} {r : R2} (o : Op2 Z f r) (ho : OpR X (compareOp op) r) (ha : PE X a (tI Z W ta)) (hb : PE X b (tI Z W tb)) (hm : behindInMarks op b = false) : PT X (.Compare a [op] [b] pos) (tT Z W (blT (binC f ta tb))) :=
  s_blTest (pt_cmpR ho ha hb hm) fun σ H Q h => s_binR o h
theorem s_chR {f g : Sem2} {r r' : R2} (o : Op2 Z f r) (o' : Op2 Z g r') {σ : L2.St} {H : Hp} {Q : VK} (h : tI Z W (chC f g ta tb tc) σ H Q) : tChain r r' (tI Z W ta) (tI Z W tb) (tI Z W tc) σ H Q := by
  obtain ⟨μ, m, ρ, k, kx, S, ER, t, P, XP⟩ := h
  refine ⟨μ, m, ρ, _, kx, S, ER, t, fun μ1 m1 H1 d v L1 S1 R1 e1 => ⟨μ1, m1, ρ, _, kx, S1, ER.mono L1.toLe, e1, fun μ2 m2 H2 d2 v2 L2 S2 R2 e2 => ?_, XP.after L1⟩, XP⟩
  refine o μ2 m2 H2 v v2 d d2 _ _ S2 (R1.mono L2.toLe) R2 e2 fun μ3 m3 H3 d3 v3 L3 S3 R3 e3 => ?_
  cases R3 with
  | @bl t =>
    refine ⟨t, rfl, ?_⟩
    have L := (L1.trans L2).trans L3
    cases t with
    | true => exact iteT ⟨μ3, m3, ρ, _, kx, S3, ER.mono L.toLe, e3, fun μ4 m4 H4 d4 v4 L4 S4 R4 e4 => o' μ4 m4 H4 v2 v4 d2 d4 k Q S4 (R2.mono (L3.trans L4).toLe) R4 e4 (P.after (L.trans L4)), XP.after L⟩
    | false => exact iteF (post_bl (P.after L) S3 e3)
  | _ => cases e3
theorem s_ch {op op' : CmpOp} {f g : Sem2} {r r' : R2} (o : Op2 Z f r) (o' : Op2 Z g r') (ho : OpR X (compareOp op) r) (ho' : OpR X (compareOp op') r') (ha : PE X a (tI Z W ta)) (hb : PE X b (tI Z W tb)) (hc : PE X c (tI Z W tc))
    (hm : lastMarks [op, op'] [b, c] = false) : PE X (.Compare a [op, op'] [b, c] pos) (tI Z W (chC f g ta tb tc)) := (pe_chain ho ho' ha hb hc hm).imp fun σ H Q h => s_chR o o' h
theorem s_chT {op op' : CmpOp} {f g : Sem2} {r r' : R2} (o : Op2 Z f r) (o' : Op2 Z g r') (ho : OpR X (compareOp op) r) (ho' : OpR X (compareOp op') r') (ha : PE X a (tI Z W ta)) (hb : PE X b (tI Z W tb)) (hc : PE X c (tI Z W tc))
    (hm : lastMarks [op, op'] [b, c] = false) : PT X (.Compare a [op, op'] [b, c] pos) (tT Z W (blT (chC f g ta tb tc))) := s_blTest (pt_chain ho ho' ha hb hc hm) fun σ H Q h => s_chR o o' h
end

/-! ### calls of built-ins -/
section
variable {X : Cx} {Z : Wd} {W : WX} {e : Expr} {es : List Expr} {x : Str} {p pos : Pos} {id T : String} {f : List D → M → Kc → Bool} {r : List V → Hp → VK → Prop} {ts : SemA}
theorem s_callB (o : OpN Z f r) (hc : CallR X (.builtin id) r) (hg : Gl X x) (hm : X.mg x = none) (hv : bootBuiltins x = some (.builtin id)) (ha : PA X (e :: es) (tA Z W ts)) (hn : x ≠ "__name__") (hdb : (x == ("__debug__" : Str)) = false)
    (he : starEach (e :: es) X.env = (false, eval e X.env) :: starEach es X.env) (hpl : (backTo pos (starEach es X.env)).any (·.1) = false) : PE X (.Call (.Name x p) (e :: es) [] pos) (tI Z W (appC f ts)) :=
  (pe_callB hc hg hm hv ha hn hdb he hpl).imp fun σ H Q h => s_appR o h
theorem s_callTy (o : OpN Z f r) (hc : CallR X (.type T) r) (hg : Gl X x) (hm : X.mg x = none) (hv : bootBuiltins x = some (.type T)) (ha : PA X (e :: es) (tA Z W ts)) (hn : x ≠ "__name__") (hdb : (x == ("__debug__" : Str)) = false)
    (he : starEach (e :: es) X.env = (false, eval e X.env) :: starEach es X.env) (hpl : (backTo pos (starEach es X.env)).any (·.1) = false) : PE X (.Call (.Name x p) (e :: es) [] pos) (tI Z W (appC f ts)) :=
  (pe_callTy hc hg hm hv ha hn hdb he hpl).imp fun σ H Q h => s_appR o h
/-- the name of a built-in type, as a value -/
theorem s_tyName {t : Nat} (hg : Gl X x) (hm : X.mg x = none) (hv : bootBuiltins x = some (.type (tyName t))) (hn : x ≠ "__name__") (hd : (x == ("__debug__" : Str)) = false) : PE X (.Name x pos) (tI Z W (litC (.ty t))) :=
  s_lit (pe_bltn (v := .ty (tyName t)) hg hm hv rfl hn hd) fun _ _ _ => .ty
end

/-! ### isinstance -/
/-- the kind of a value by number: 0 int, 1 bool, 2 str, 3 tuple, 4 list, 5 dict, 6 None -/
def kindD (d : D) (m : M) : Option Nat := match d with
  | .non => some 6
  | .bl _ => some 1
  | .int _ => some 0
  | .str _ => some 2
  | .tup _ => some 3
  | .ref i => (match m.get i with
    | some (.lst _) => some 4
    | some (.dic _) => some 5
    | some (.dil _) => some 5
    | some (.dit _) => some 5
    | _ => none)
  | _ => none
def kiName : Nat → String
  | 0 => "int" | 1 => "bool" | 2 => "str" | 3 => "tuple" | 4 => "list" | 5 => "dict" | _ => "NoneType"
def isiB (a t : Nat) : Bool := match t with
  | 0 => Nat.beq a 0 || Nat.beq a 1
  | t => Nat.beq a t
theorem isi_tab : ∀ a, a < 7 → ∀ t, t < 6 → kitB (kiName a) (tyName t) = some (isiB a t) := by decide +kernel
theorem kind_lt {d : D} {m : M} {a : Nat} (h : kindD d m = some a) : a < 7 := by
  unfold kindD at h
  split at h <;> first | (cases h; decide) | skip
  split at h <;> first | (cases h; decide) | skip
  all_goals cases h
theorem kind_rep {Z : Wd} {μ : Nat → Addr} {m : M} {H : Hp} {d : D} {v : V} {a : Nat} (S : Sim Z μ m H) (r : Rep Z μ m.n H d v) (h : kindD d m = some a) : TyX Z.K H v (.type (kiName a)) := by
  cases r with
  | non => cases h; exact .base .non
  | bl => cases h; exact .base (.bl _)
  | int => cases h; exact .base (.int _)
  | str => cases h; exact .base (.str _)
  | tup hq rs =>
    cases h
    rcases hq with (hq | ⟨o, hq⟩) | ⟨o, its, n, h1, h2, _⟩
    · exact .base (.tup hq)
    · exact .fTuple hq
    · exact .kTuple h1 h2
  | ref hi =>
    unfold kindD at h
    dsimp only at h
    split at h
    · rename_i xs g
      cases h
      obtain ⟨vs, e, _⟩ := S.lst g
      exact .base (.lst e)
    · rename_i xs g
      cases h
      obtain ⟨vs, e, _⟩ := S.obj _ _ g
      exact .base (.dK e)
    · rename_i xs g
      cases h
      obtain ⟨vs, o, e, _⟩ := S.obj _ _ g
      exact .fDict e
    · rename_i xs g
      cases h
      obtain ⟨vs, e, _⟩ := S.obj _ _ g
      exact .base (.dT e)
    · cases h
  | fn _ => cases h
  | ty => cases h
  | scr => cases h
  | frl => cases h
def isiF (ds : List D) (m : M) (k : Kc) : Bool := match ds with
  | [d, .ty t] => Nat.blt t 6 && (match kindD d m with | some a => k (.bl (isiB a t)) m | none => false)
  | _ => false
theorem o_isi {Z : Wd} : OpN Z isiF (rIsi Z.K) := by
  intro μ m H xs ds k Q S rs h P
  unfold isiF at h
  split at h
  · rename_i d t
    cases rs with
    | cons r rs =>
      cases rs with
      | cons r2 rs =>
        cases rs
        cases r2
        obtain ⟨h1, h⟩ := and2 h
        have h1 : t < 6 := by
          unfold Nat.blt at h1
          exact Nat.le_of_ble_eq_true h1
        split at h
        · rename_i a ha
          exact ⟨_, _, _, _, _, rfl, .ty _, kind_rep S r ha, kit_ty (isi_tab a (kind_lt ha) t h1), post_bl P S h⟩
        · cases h
  · cases h

/-! ### methods -/
def OpM (Z : Wd) (f : D → List D → M → Kc → Bool) (r : V → List V → Hp → VK → Prop) : Prop := ∀ (μ : Nat → Addr) (m : M) (H : Hp) (x : V) (dx : D) (xs : List V) (ds : List D) (k : Kc) (Q : VK), Sim Z μ m H → Rep Z μ m.n H dx x → Reps Z μ m.n H ds xs → f dx ds m k = true → Post Z μ m H k Q → r x xs H Q
def isLst (d : D) (m : M) : Bool := match d with
  | .ref i => (match m.get i with | some (.lst _) => true | _ => false)
  | _ => false
def mtC (f : D → List D → M → Kc → Bool) (o : SemE) (a : SemA) : SemE := fun ρ m k kx => o ρ m (fun x m1 => isLst x m1 && a ρ m1 (fun xs m2 => f x xs m2 k) kx) kx
def mt0C (f : D → List D → M → Kc → Bool) (o : SemE) : SemE := fun ρ m k kx => o ρ m (fun x m1 => isLst x m1 && f x [] m1 k) kx
theorem isLst_rep {Z : Wd} {μ : Nat → Addr} {m : M} {H : Hp} {d : D} {v : V} (S : Sim Z μ m H) (r : Rep Z μ m.n H d v) (h : isLst d m = true) : tyV Z.K "list" v H := by
  cases r with
  | ref hi =>
    unfold isLst at h
    dsimp only at h
    split at h
    · rename_i xs g
      obtain ⟨vs, e, _⟩ := S.lst g
      exact .inl ⟨rfl, _, SqL.of e⟩
    · cases h
  | _ => cases h
section
variable {X : Cx} {Z : Wd} {W : WX} {o e : Expr} {es : List Expr} {name : Str} {apos cpos : Pos} {id : String} {f : D → List D → M → Kc → Bool} {r : V → List V → Hp → VK → Prop} {to : SemE} {ts : SemA}
theorem s_mt (hK : X.K = Z.K) (om : OpM Z f r) (slot : Slot "list" name id) (hty : typeOf (.builtin id) = pure (.type "method_descriptor")) (hm : MtR X id r) (ho : PE X o (tI Z W to)) (ha : PA X (e :: es) (tA Z W ts))
    (hbase : attributeBase o name X.env (eval o X.env) = eval o X.env)
    (hfew : ((backTo cpos (starEach (e :: es) X.env)).all (fun x => !x.1) && (backToKw cpos (keywordEach [] X.env)).all (fun x => x.1.isSome)
      && decide ((e :: es).length + ([] : List Keyword).length + (if ([] : List Keyword).isEmpty then 0 else 1) < 30)) = true)
    (hline : (apos.endLine == cpos.line) = true) (hs : starEach (e :: es) X.env = (false, eval e X.env) :: starEach es X.env) (hplain : (backTo cpos (starEach es X.env)).any (·.1) = false) :
    PE X (.Call (.Attribute o name apos) (e :: es) [] cpos) (tI Z W (mtC f to ts)) :=
  (pe_bm PySem.F.plainAttrs_list slot hty hm ho ha hbase hfew hline hs hplain).imp fun σ H Q ⟨μ, m, ρ, k, kx, S, ER, t, P, XP⟩ =>
    ⟨μ, m, ρ, _, kx, S, ER, t, fun μ1 m1 H1 d v L S1 R1 e1 => (by
      obtain ⟨h1, h2⟩ := and2 e1
      exact ⟨hK ▸ isLst_rep S1 R1 h1, μ1, m1, ρ, _, kx, S1, ER.mono L.toLe, h2, fun μ2 m2 H2 ds vs L2 S2 R2 e2 => om μ2 m2 H2 v d vs ds k Q S2 (R1.mono L2.toLe) R2 e2 (P.after (L.trans L2)), XP.after L⟩), XP⟩
theorem s_mt0 (hK : X.K = Z.K) (om : OpM Z f r) (slot : Slot "list" name id) (hty : typeOf (.builtin id) = pure (.type "method_descriptor")) (hm : MtR X id r) (ho : PE X o (tI Z W to))
    (hbase : attributeBase o name X.env (eval o X.env) = eval o X.env) (hline : (apos.endLine == cpos.line) = true) : PE X (.Call (.Attribute o name apos) [] [] cpos) (tI Z W (mt0C f to)) :=
  (pe_bm0 PySem.F.plainAttrs_list slot hty hm ho hbase hline).imp fun σ H Q ⟨μ, m, ρ, k, kx, S, ER, t, P, XP⟩ =>
    ⟨μ, m, ρ, _, kx, S, ER, t, fun μ1 m1 H1 d v L S1 R1 e1 => (by
      obtain ⟨h1, h2⟩ := and2 e1
      exact ⟨hK ▸ isLst_rep S1 R1 h1, om μ1 m1 H1 v d [] [] k Q S1 R1 .nil h2 (P.after L)⟩), XP⟩
end
def appendM (d : D) (ds : List D) (m : M) (k : Kc) : Bool := match d, ds with
  | .ref a, [y] => Nat.ble m.rn a && (match m.get a with
    | some (.lst xs) => Nat.ble xs.length LIM && k .non (m.set a (.lst (xs ++ [y])))
    | _ => false)
  | _, _ => false
theorem o_append {Z : Wd} : OpM Z appendM rAppend := by
  intro μ m H x dx xs ds k Q S rx rs h P
  unfold appendM at h
  split at h
  · cases rx
    cases rs with
    | cons r rs =>
      cases rs
      obtain ⟨hr, h⟩ := and2 h
      split at h
      · rename_i ys g
        obtain ⟨h1, h2⟩ := and2 h
        obtain ⟨vs, e, rr⟩ := S.lst g
        obtain ⟨S', L'⟩ := S.setL g e (Nat.le_of_ble_eq_true hr) (rr.append (.single r))
        exact ⟨_, vs, _, rfl, rfl, e, by rw [← rr.length]; exact ble_lt h1, P μ _ _ _ _ L' S' .non h2⟩
      · cases h
  · cases h
def extendM (d : D) (ds : List D) (m : M) (k : Kc) : Bool := match d, ds with
  | .ref a, [.ref b] => Nat.ble m.rn a && (match m.get a, m.get b with
    | some (.lst xs), some (.lst ys) => Nat.ble (xs.length + ys.length) LIM && k .non (m.set a (.lst (xs ++ ys)))
    | _, _ => false)
  | _, _ => false
theorem o_extend {Z : Wd} : OpM Z extendM rExtend := by
  intro μ m H x dx xs ds k Q S rx rs h P
  unfold extendM at h
  split at h
  · cases rx
    cases rs with
    | cons r rs =>
      cases rs
      cases r
      obtain ⟨hr, h⟩ := and2 h
      split at h
      · rename_i ys zs g g2
        obtain ⟨h1, h2⟩ := and2 h
        obtain ⟨vs, e, rr⟩ := S.lst g
        obtain ⟨ws, e2, rr2⟩ := S.lst g2
        obtain ⟨S', L'⟩ := S.setL g e (Nat.le_of_ble_eq_true hr) (rr.append rr2)
        exact ⟨_, _, vs, ws, rfl, rfl, e, e2, by rw [← rr.length, ← rr2.length]; exact ble_lim h1, P μ _ _ _ _ L' S' .non h2⟩
      · cases h
  · cases h
def lastD (xs : List D) : Option D := match xs with
  | [] => none
  | x :: r => (match r with | [] => some x | _ :: _ => lastD r)
theorem lastD_eq : ∀ xs : List D, lastD xs = xs[xs.length - 1]?
  | [] => rfl
  | [x] => rfl
  | x :: y :: r => by
    show lastD (y :: r) = _
    rw [lastD_eq (y :: r)]
    show (y :: r)[r.length + 1 - 1]? = (x :: y :: r)[r.length + 1 + 1 - 1]?
    rw [Nat.add_sub_cancel, Nat.add_sub_cancel]
    rfl
theorem Reps.dropLast {Z : Wd} {μ : Nat → Addr} {n : Nat} {H : Hp} {ds : List D} {vs : List V} (r : Reps Z μ n H ds vs) : Reps Z μ n H ds.dropLast vs.dropLast := by
  rw [List.dropLast_eq_take, List.dropLast_eq_take, r.length]
  exact r.take _
def popM (d : D) (ds : List D) (m : M) (k : Kc) : Bool := match d, ds with
  | .ref a, [] => Nat.ble m.rn a && (match m.get a with
    | some (.lst xs) => (match lastD xs with | some y => k y (m.set a (.lst xs.dropLast)) | none => false)
    | _ => false)
  | _, _ => false
theorem o_pop {Z : Wd} : OpM Z popM rPop := by
  intro μ m H x dx xs ds k Q S rx rs h P
  unfold popM at h
  split at h
  · cases rx
    cases rs
    obtain ⟨hr, h⟩ := and2 h
    split at h
    · rename_i ys g
      obtain ⟨vs, e, rr⟩ := S.lst g
      rw [lastD_eq] at h
      split at h
      · rename_i y hy
        obtain ⟨v, hv, rv⟩ := rr.get hy
        obtain ⟨S', L'⟩ := S.setL g e (Nat.le_of_ble_eq_true hr) rr.dropLast
        exact ⟨_, vs, v, rfl, rfl, e, by rw [← rr.length]; exact hv, P μ _ _ _ _ L' S' (rv.mono L'.toLe) h⟩
      · cases h
    · cases h
  · cases h
def popAtM (d : D) (ds : List D) (m : M) (k : Kc) : Bool := match d, ds with
  | .ref a, [.int i] => Nat.ble m.rn a && (match m.get a with
    | some (.lst xs) => (match plI xs.length i with | some j => (match nthD xs j with | some y => smallI i && k y (m.set a (.lst (xs.eraseIdx j))) | none => false) | none => false)
    | _ => false)
  | _, _ => false
theorem o_popAt {Z : Wd} : OpM Z popAtM rPopAt := by
  intro μ m H x dx xs ds k Q S rx rs h P
  unfold popAtM at h
  split at h
  · cases rx
    cases rs with
    | cons r rs =>
      cases rs
      cases r
      obtain ⟨hr, h⟩ := and2 h
      split at h
      · rename_i ys g
        obtain ⟨vs, e, rr⟩ := S.lst g
        rw [plI_eq] at h
        split at h
        · rename_i j hj
          rw [nthD_eq] at h
          split at h
          · rename_i y hy
            obtain ⟨h1, h2⟩ := and2 h
            obtain ⟨h3, h4⟩ := smallI_ok h1
            obtain ⟨v, hv, rv⟩ := rr.get hy
            obtain ⟨S', L'⟩ := S.setL g e (Nat.le_of_ble_eq_true hr) (rr.eraseIdx j)
            exact ⟨_, vs, _, j, v, rfl, rfl, e, by omega, by omega, by rw [← rr.length]; exact (ixN_seq hj).1, hv, P μ _ _ _ _ L' S' (rv.mono L'.toLe) h2⟩
          · cases h
        · cases h
      · cases h
  · cases h
def insertM (d : D) (ds : List D) (m : M) (k : Kc) : Bool := match d, ds with
  | .ref a, [.int (.ofNat i), y] => Nat.ble m.rn a && (match m.get a with
    | some (.lst xs) => Nat.ble xs.length LIM && Nat.ble i LIM && k .non (m.set a (.lst (xs.take i ++ [y] ++ xs.drop i)))
    | _ => false)
  | _, _ => false
theorem o_insert {Z : Wd} : OpM Z insertM (fun x vs H Q => ∃ (l : Addr) (xs : List V) (i : Int) (y : V), x = .ref l ∧ vs = [.int i, y] ∧ H l = some (.lst xs) ∧ xs.length < sizeLine ∧ 0 ≤ i ∧ i < 2 ^ 63 ∧
    Q .non (upd H l (.lst (xs.take i.toNat ++ [y] ++ xs.drop i.toNat)))) := by
  intro μ m H x dx xs ds k Q S rx rs h P
  unfold insertM at h
  split at h
  · rename_i a i y
    cases rx
    cases rs with
    | cons r rs =>
      cases rs with
      | cons r2 rs =>
        cases rs
        cases r
        obtain ⟨hr, h⟩ := and2 h
        split at h
        · rename_i ys g
          obtain ⟨h1, h2⟩ := and2 h
          obtain ⟨h1, h3⟩ := and2 h1
          obtain ⟨vs, e, rr⟩ := S.lst g
          obtain ⟨S', L'⟩ := S.setL g e (Nat.le_of_ble_eq_true hr) (((rr.take i).append (.single r2)).append (rr.drop i))
          have hi : i ≤ LIM := Nat.le_of_ble_eq_true h3
          have hl : LIM = 100000 := rfl
          exact ⟨_, vs, _, _, rfl, rfl, e, by rw [← rr.length]; exact ble_lt h1, Int.natCast_nonneg i, by show (i : Int) < 2 ^ 63; omega, P μ _ _ _ _ L' S' .non h2⟩
        · cases h
  · cases h
/-- the first place of an equal one -/
def idxD (e : D → Bool) (xs : List D) (i : Nat) (k : Nat → Bool) : Bool := match xs with
  | [] => false
  | x :: r => match e x with | true => k i | false => idxD e r (i + 1) k
theorem idxD_ok {e : D → Bool} {k : Nat → Bool} : ∀ {xs : List D} {i : Nat}, idxD e xs i k = true → ∃ j z, xs[j]? = some z ∧ e z = true ∧ (∀ m z', m < j → xs[m]? = some z' → e z' = false) ∧ k (i + j) = true
  | [], _, h => by cases h
  | x :: r, i, h => by
    unfold idxD at h
    split at h
    · rename_i hx
      exact ⟨0, x, rfl, hx, fun m z' hm => absurd hm (Nat.not_lt_zero _), h⟩
    · rename_i hx
      obtain ⟨j, z, h1, h2, h3, h4⟩ := idxD_ok h
      refine ⟨j + 1, z, by simpa using h1, h2, fun m z' hm hz => ?_, by rw [show i + (j + 1) = i + 1 + j by omega]; exact h4⟩
      cases m with
      | zero =>
        simp at hz
        rw [← hz]; exact hx
      | succ m => exact h3 m z' (by omega) (by simpa using hz)
def indexM (d : D) (ds : List D) (m : M) (k : Kc) : Bool := match d, ds with
  | .ref a, [y] => (match m.get a with
    | some (.lst xs) => okD 11 m y && xs.all (okD 11 m) && idxD (fun z => eqB 11 m z y) xs 0 fun j => frc (.ofNat j) fun c => k (.int c) m
    | _ => false)
  | _, _ => false
theorem o_index {Z : Wd} : OpM Z indexM (rIndexD Z.K) := by
  intro μ m H x dx xs ds k Q S rx rs h P
  unfold indexM at h
  split at h
  · cases rx
    cases rs with
    | cons r rs =>
      cases rs
      split at h
      · rename_i ys g
        obtain ⟨vs, e, rr⟩ := S.lst g
        obtain ⟨h1, h3⟩ := and2 h
        obtain ⟨h1, h2⟩ := and2 h1
        obtain ⟨j, z, q1, q2, q3, q4⟩ := idxD_ok h3
        rw [frc_eq] at q4
        obtain ⟨a1, a2, a3⟩ := Rep.dp S 11 _ _ r h1
        obtain ⟨b1, b2, b3⟩ := Reps.dpAll (Rep.dp S 11) rr h2
        have okz : okD 11 m z = true := List.all_eq_true.mp h2 z (List.mem_of_getElem? q1)
        refine ⟨_, _, _, _, j, toP 11 m z, rfl, rfl, .lst (SqL.of e) b1, a1, shaped_of b2 ?_, shaped_of a2 (Nat.le_succ_of_le a3), ?_, ?_, fun i z' hi hz => ?_, ?_⟩
        · show PyData.depthAll _ + 1 ≤ 12
          omega
        · rw [List.getElem?_map, q1]; rfl
        · rw [← eqB_eq 11 z _ okz h1]; exact q2
        · rw [List.getElem?_map] at hz
          obtain ⟨w, hw, rfl⟩ := Option.map_eq_some_iff.mp hz
          rw [← eqB_eq 11 w _ (List.all_eq_true.mp h2 w (List.mem_of_getElem? hw)) h1]
          exact q3 i w hi hw
        · rw [Nat.zero_add] at q4
          exact post_int P S q4
      · cases h
  · cases h

/-! ### dicts -/
def dnewC : SemE := fun _ m k _ => k (.ref m.n) (m.alloc (.dic []))
section
variable {X : Cx} {Z : Wd} {W : WX} {pos : Pos}
theorem s_dnew : PE X (.Dict [] [] pos) (tI Z W dnewC) :=
  pe_dnewK.imp fun σ H Q ⟨μ, m, ρ, k, kx, S, ER, t, P, XP⟩ p hp => P.new (o := .dic []) S hp (fun _ z => by cases z) ⟨[], upd_same, .nil⟩ t
end
/-- the pairs of a display -/
def pairsD (ks vs : List D) (acc : List (Key × D)) (k : List (Key × D) → Bool) : Bool := match ks, vs with
  | [], [] => k acc
  | x :: ks, y :: vs => (match keyD x with | some j => pairsD ks vs (putD acc j y) k | none => false)
  | _, _ => false
def isDic (d : D) (m : M) : Bool := match d with
  | .ref i => (match m.get i with | some (.dic _) => true | some (.dil _) => true | _ => false)
  | _ => false
def dlook (x y : D) (m : M) (k : Option D → Bool) : Bool := match x with
  | .ref i => (match m.get i with
    | some (.dic kvs) => (match keyD y with | some j => k (lookK kvs j) | none => false)
    | some (.dil kvs) => (match keyD y with | some j => k (lookK kvs j) | none => false)
    | _ => false)
  | _ => false
def get1C (o a : SemE) : SemE := fun ρ m k kx => o ρ m (fun x m1 => isDic x m1 && a ρ m1 (fun y m2 => dlook x y m2 fun r => match r with | some d => k d m2 | none => k .non m2) kx) kx
def get2C (o a b : SemE) : SemE := fun ρ m k kx => o ρ m (fun x m1 => isDic x m1 && a ρ m1 (fun y m2 => b ρ m2 (fun z m3 => dlook x y m3 fun r => match r with | some d => k d m3 | none => k z m3) kx) kx) kx
def pop2C (o a b : SemE) : SemE := fun ρ m k kx => o ρ m (fun x m1 => isDic x m1 && a ρ m1 (fun y m2 => b ρ m2 (fun z m3 => match x with
  | .ref i => (match m3.get i with
    | some (.dic kvs) => (match keyD y with | some j => (match lookK kvs j with | some d => Nat.ble m3.rn i && k d (m3.set i (.dic (dropD kvs j))) | none => k z m3) | none => false)
    | _ => false)
  | _ => false) kx) kx) kx
theorem isDic_rep {Z : Wd} {μ : Nat → Addr} {m : M} {H : Hp} {d : D} {v : V} (S : Sim Z μ m H) (r : Rep Z μ m.n H d v) (h : isDic d m = true) : ∃ a, v = .ref a ∧ IsD H a := by
  cases r with
  | ref hi =>
    unfold isDic at h
    dsimp only at h
    split at h
    · rename_i xs g
      obtain ⟨vs, e, _⟩ := S.obj _ _ g
      exact ⟨_, rfl, .inl ⟨_, .inl e⟩⟩
    · rename_i xs g
      obtain ⟨vs, o, e, _⟩ := S.obj _ _ g
      exact ⟨_, rfl, .inl ⟨_, .inr ⟨o, e⟩⟩⟩
    · cases h
  | _ => cases h
theorem dlook_rep {Z : Wd} {μ : Nat → Addr} {m : M} {H : Hp} {dx dy : D} {a : Addr} {y : V} {k : Option D → Bool} (S : Sim Z μ m H) (rx : Rep Z μ m.n H dx (.ref a)) (ry : Rep Z μ m.n H dy y) (h : dlook dx dy m k = true) :
    (k none = true ∧ DGet H a y none) ∨ ∃ d v, k (some d) = true ∧ DGet H a y (some v) ∧ Rep Z μ m.n H d v := by
  cases rx with
  | ref hi =>
    unfold dlook at h
    dsimp only at h
    split at h
    · rename_i kvs g
      obtain ⟨ws, e, rs⟩ := S.obj _ _ g
      split at h
      · rename_i j hj
        have ey := keyD_rep ry hj
        subst ey
        rcases look_rep (k := j) rs with ⟨q1, q2⟩ | ⟨d, v, q1, q2, q3⟩
        · rw [q1] at h
          exact .inl ⟨h, .inl ⟨ws, j, .inl e, rfl, q2.symm⟩⟩
        · rw [q1] at h
          exact .inr ⟨d, v, h, .inl ⟨ws, j, .inl e, rfl, q2.symm⟩, q3⟩
      · cases h
    · rename_i kvs g
      obtain ⟨ws, o, e, rs⟩ := S.obj _ _ g
      split at h
      · rename_i j hj
        have ey := keyD_rep ry hj
        subst ey
        rcases look_rep (k := j) rs with ⟨q1, q2⟩ | ⟨d, v, q1, q2, q3⟩
        · rw [q1] at h
          exact .inl ⟨h, .inl ⟨ws, j, .inr ⟨o, e⟩, rfl, q2.symm⟩⟩
        · rw [q1] at h
          exact .inr ⟨d, v, h, .inl ⟨ws, j, .inr ⟨o, e⟩, rfl, q2.symm⟩, q3⟩
      · cases h
    · cases h
  | _ => cases h
section
variable {X : Cx} {Z : Wd} {W : WX} {o e f : Expr} {apos cpos : Pos} {to te tf : SemE}
theorem s_get1 (hu : X.A.units + 1 < cLine) (ho : PE X o (tI Z W to)) (he : PE X e (tI Z W te)) (mm : M1 X o "get" apos e cpos) : PE X (.Call (.Attribute o "get" apos) [e] [] cpos) (tI Z W (get1C to te)) :=
  (pe_dget1 hu ho he mm).imp fun σ H Q ⟨μ, m, ρ, k, kx, S, ER, t, P, XP⟩ =>
    ⟨μ, m, ρ, _, kx, S, ER, t, fun μ1 m1 H1 d v L S1 R1 e1 => (by
      obtain ⟨h1, h2⟩ := and2 e1
      obtain ⟨a, rfl, hd⟩ := isDic_rep S1 R1 h1
      refine ⟨a, rfl, hd, μ1, m1, ρ, _, kx, S1, ER.mono L.toLe, h2, fun μ2 m2 H2 d2 v2 L2 S2 R2 e2 => ?_, XP.after L⟩
      have PP := P.after (L.trans L2)
      rcases dlook_rep S2 (R1.mono L2.toLe) R2 e2 with ⟨q1, q2⟩ | ⟨d3, v3, q1, q2, q3⟩
      · exact ⟨_, q2, PP.now S2 .non q1⟩
      · exact ⟨_, q2, PP.now S2 q3 q1⟩), XP⟩
theorem s_get2 (hu : X.A.units + 1 < cLine) (ho : PE X o (tI Z W to)) (he : PE X e (tI Z W te)) (hf : PE X f (tI Z W tf)) (mm : M2 X o "get" apos e f cpos) : PE X (.Call (.Attribute o "get" apos) [e, f] [] cpos) (tI Z W (get2C to te tf)) :=
  (pe_dget2 hu ho he hf mm).imp fun σ H Q ⟨μ, m, ρ, k, kx, S, ER, t, P, XP⟩ =>
    ⟨μ, m, ρ, _, kx, S, ER, t, fun μ1 m1 H1 d v L S1 R1 e1 => (by
      obtain ⟨h1, h2⟩ := and2 e1
      obtain ⟨a, rfl, hd⟩ := isDic_rep S1 R1 h1
      refine ⟨a, rfl, hd, μ1, m1, ρ, _, kx, S1, ER.mono L.toLe, h2, fun μ2 m2 H2 d2 v2 L2 S2 R2 e2 => ⟨μ2, m2, ρ, _, kx, S2, ER.mono (L.trans L2).toLe, e2, fun μ3 m3 H3 d3 v3 L3 S3 R3 e3 => ?_, XP.after (L.trans L2)⟩, XP.after L⟩
      have PP := P.after ((L.trans L2).trans L3)
      rcases dlook_rep S3 (R1.mono (L2.trans L3).toLe) (R2.mono L3.toLe) e3 with ⟨q1, q2⟩ | ⟨d4, v4, q1, q2, q3⟩
      · exact ⟨_, q2, PP.now S3 R3 q1⟩
      · exact ⟨_, q2, PP.now S3 q3 q1⟩), XP⟩
theorem s_pop2 (ho : PE X o (tI Z W to)) (he : PE X e (tI Z W te)) (hf : PE X f (tI Z W tf)) (mm : M2 X o "pop" apos e f cpos) : PE X (.Call (.Attribute o "pop" apos) [e, f] [] cpos) (tI Z W (pop2C to te tf)) :=
  (pe_dpop2 ho he hf mm).imp fun σ H Q ⟨μ, m, ρ, k, kx, S, ER, t, P, XP⟩ =>
    ⟨μ, m, ρ, _, kx, S, ER, t, fun μ1 m1 H1 d v L S1 R1 e1 => (by
      obtain ⟨h1, h2⟩ := and2 e1
      obtain ⟨a, rfl, hd⟩ := isDic_rep S1 R1 h1
      refine ⟨a, rfl, hd, μ1, m1, ρ, _, kx, S1, ER.mono L.toLe, h2, fun μ2 m2 H2 d2 v2 L2 S2 R2 e2 => ⟨μ2, m2, ρ, _, kx, S2, ER.mono (L.trans L2).toLe, e2, fun μ3 m3 H3 d3 v3 L3 S3 R3 e3 => ?_, XP.after (L.trans L2)⟩, XP.after L⟩
      have PP := P.after ((L.trans L2).trans L3)
      have RR := R1.mono (L2.trans L3).toLe
      have RY := R2.mono L3.toLe
      cases RR with
      | ref hi =>
        dsimp only at e3
        split at e3
        · rename_i kvs g
          obtain ⟨ws, e, rs⟩ := S3.obj _ _ g
          split at e3
          · rename_i j hj
            have ey := keyD_rep RY hj
            subst ey
            refine ⟨ws, j, e, rfl, fun v hv => ?_, fun hv => ?_⟩
            · rcases look_rep (k := j) rs with ⟨q1, q2⟩ | ⟨d4, v4, q1, q2, q3⟩
              · rw [hv] at q2; cases q2
              · rw [hv] at q2
                cases q2
                rw [q1] at e3
                obtain ⟨k1, k2⟩ := and2 e3
                obtain ⟨S', L'⟩ := S3.set g e (fun _ z => by cases z) (fun _ _ z => by cases z) (Nat.le_of_ble_eq_true k1) (fun z => by cases z) (fun _ z => by cases z) (fun _ z => by cases z) (o := .dic (dropD kvs j)) (ho := .dK (dropK ws j)) fun l =>
                  ⟨_, upd_same, (drop_rep rs).mono fun _ _ => Rep.mono l⟩
                exact PP _ _ _ _ _ L' S' (q3.mono L'.toLe) k2
            · rcases look_rep (k := j) rs with ⟨q1, q2⟩ | ⟨d4, v4, q1, q2, q3⟩
              · rw [q1] at e3
                exact PP.now S3 R3 e3
              · rw [hv] at q2; cases q2
          · cases e3
        · cases e3
      | _ => cases e3), XP⟩
end
end
end Ev

set_option Elab.async false
set_option linter.all false
set_option maxRecDepth 100000
set_option maxHeartbeats 2000000
/-! Ev11: what is walked: lists and tuples alike, enumerate and zip of them, enumerate of zip, dicts locked on the way. -/
namespace HT
open PySem PySem.Spec PyProof.Rows L2
noncomputable section

/-! ### lists (true) and tuples (false) by one name -/
def SqB (b : Bool) (K : PySem.W.Frag) (H : Hp) (a : Addr) (xs : List V) : Prop := match b with | true => SqL K H a xs | false => SqT K H a xs
def ItB (b : Bool) (h : Heap) (it a : Addr) (i : Nat) : Prop := match b with | true => h.IsListIter it a i | false => h.IsTupleIter it a i
def IsB (b : Bool) (h : Heap) (a : Addr) (items : Array Value) : Prop := match b with | true => h.IsList a items | false => h.IsTuple a items
def obB (b : Bool) (a : Addr) : Obj := match b with
  | true => { cls := .type "list_iterator", data := .fields #[.ref a, .int 0 0] }
  | false => { cls := .type "tuple_iterator", data := .fields #[.ref a, .int 0 0] }
theorem seqB {X : Cx} {pins : List (Addr × Obj)} {σ : L2.St} {H : Hp} {s : Shared} {b : Bool} {a : Addr} {xs : List V} (I : Inv X pins σ H s) (h : SqB b X.K H a xs) : ∃ its, Vals xs its ∧ IsB b s.heap a its.toArray := by
  cases b with
  | true => obtain ⟨its, rv, p, _⟩ := I.list h; exact ⟨its, rv, p.isList⟩
  | false => obtain ⟨its, rv, p, _⟩ := I.tuple h; exact ⟨its, rv, p⟩
theorem seqB_inj {X : Cx} {pins : List (Addr × Obj)} {σ : L2.St} {H : Hp} {s : Shared} {b : Bool} {a : Addr} {xs ys : List V} (I : Inv X pins σ H s) (h : SqB b X.K H a xs) (h' : SqB b X.K H a ys) : xs = ys := by
  cases b with
  | true => exact I.list_inj h h'
  | false => exact I.tuple_inj h h'
theorem isB_lt {b : Bool} {h : Heap} {a : Addr} {items : Array Value} (q : IsB b h a items) : a < h.objs.size := by
  cases b with
  | true => obtain ⟨_, e, _⟩ := q; exact Heap.lt_size e
  | false => obtain ⟨_, e, _⟩ := q; exact Heap.lt_size e
theorem itB_get {b : Bool} {h : Heap} {it a : Addr} {i : Nat} (q : ItB b h it a i) : ∃ o, h.get? it = some o ∧ ∀ v, o.data ≠ .cell v := by
  cases b with
  | true => obtain ⟨o, e, c, d⟩ := q; exact ⟨o, e, fun v z => by rw [d] at z; cases z⟩
  | false => obtain ⟨o, e, c, d⟩ := q; exact ⟨o, e, fun v z => by rw [d] at z; cases z⟩
theorem itB_at {b : Bool} {h h' : Heap} {it a : Addr} {i : Nat} (q : ItB b h it a i) (k : ∀ o, h.get? it = some o → h'.get? it = some o) : ItB b h' it a i := by
  cases b with
  | true => exact Heap.IsListIter.at q k
  | false => exact Heap.IsTupleIter.at q k
def fpB (it a : Addr) : List Addr := [it, a]
theorem drawsB {prog : Program} {w : World} {A : Around} (b : Bool) (hh : A.handled = none) (it a : Addr) (hne : a ≠ it) (items : Array Value) :
    Draws prog w A it [it, a] items.size (fun i v => items[i]? = some v) (fun i h => ItB b h it a i ∧ IsB b h a items) := by
  cases b with
  | true => exact Draws.list hh it a hne items
  | false => exact Draws.tuple hh it a hne items
theorem beginsB (b : Bool) (a : Addr) (items : Array Value) : Begins (.ref a) (obB b a) fun h => IsB b h a items := by
  cases b with
  | true => exact begins_list a items
  | false => exact begins_tuple a items
theorem obB_iter {b : Bool} {h : Heap} {it a : Addr} (e : h.get? it = some (obB b a)) : ItB b h it a 0 := by
  cases b with
  | true => exact ⟨_, e, rfl, rfl⟩
  | false => exact ⟨_, e, rfl, rfl⟩

/-! ### enumerate -/
set_option maxHeartbeats 2000000 in
theorem meets_enumerate_newB1 {v : Value} {o : Obj} {H : Heap → Prop} (B : Begins v o H) :
    Meets (Builtin.«enumerate.__new__» ⟨[.type "enumerate", v], []⟩) (fun _ R s => H s.heap ∧
      R (.ok (.ret (.ref (s.heap.push o).objs.size))) { s with heap := (s.heap.push o).push { cls := .type "enumerate", data := .fields #[.none, .bool false, .ref s.heap.objs.size, rawInt 0, .none, .none] } }) :=
  .of_wp fun prog w A R s h => by
    obtain ⟨hp, g, d, tk, os⟩ := s; obtain ⟨h1, h⟩ := h
    have hsub := sub_enumerate
    have q1 : ∀ {A' : Around} {E : Value → Shared → Prop} {Q : Value → Shared → Prop}, Q (.ref hp.objs.size) ⟨hp.push o, g, d, tk, os⟩ → wpAny (model prog w) A' (pyIter v) Q E ⟨hp, g, d, tk, os⟩ :=
      fun q => B.iter prog w _ _ ⟨hp, g, d, tk, os⟩ _ h1 q
    wp_walk using q1
    refine wpAny_stack_any fun st => wpAny_pure ?_
    split
    · rename_i c _ _ _ _ _
      cases (c == Value.type "enumerate")
      · wp_walk using q1
        exact ⟨_, rfl, h⟩
      · wp_walk using q1
        exact ⟨_, rfl, h⟩
    · wp_walk using q1
      exact ⟨_, rfl, h⟩
section
variable {prog : Program} {w : World} {A : Around} {E : Value → Shared → Prop} {s : Shared}
theorem enum_begins1 {v : Value} {o : Obj} {H : Heap → Prop} {Q : Value → Shared → Prop} (B : Begins v o H) (h1 : H s.heap)
    (h : ∀ h', IsEnum h' (s.heap.objs.size + 1) s.heap.objs.size 0 .none → h'.get? s.heap.objs.size = some o → h'.objs.size = s.heap.objs.size + 2 →
      (∀ b o, s.heap.get? b = some o → h'.get? b = some o) → Q (.ref (s.heap.objs.size + 1)) { s with heap := h' }) :
    wpAny (model prog w) A (call (.type "enumerate") [v]) Q E s := by
  refine callType_new F.called_enumerate (by decide) (F.typeCall_enumerate_1 _) (F.newCall_enumerate_1 _) (fun obj => F.args_object_init_2 obj _) F.entry_enumerate_new
    (meets_enumerate_newB1 B) ⟨h1, ?_⟩
  have hz : (s.heap.push o).objs.size = s.heap.objs.size + 1 := Heap.size_push ..
  show _ ∧ _
  rw [hz]
  have he : IsEnum ((s.heap.push o).push { cls := .type "enumerate", data := .fields #[.none, .bool false, .ref s.heap.objs.size, rawInt 0, .none, .none] }) (s.heap.objs.size + 1) s.heap.objs.size 0 .none := by
    have := Heap.get?_push_size (s.heap.push o) (o := { cls := .type "enumerate", data := .fields #[.none, .bool false, .ref s.heap.objs.size, rawInt 0, .none, .none] }) rfl
    rw [hz] at this; exact this
  refine ⟨⟨_, he, rfl⟩, h _ he (Heap.get?_push_of_some _ (Heap.get?_push_size _ B.free)) (by rw [Heap.size_push, hz]) fun b o x => Heap.get?_push_of_some _ (Heap.get?_push_of_some _ x)⟩
end
def IteB (b : Bool) (K : PySem.W.Frag) (a : Addr) : It :=
  ⟨fun i H => ∃ (xs : List V) (x : V), SqB b K H a xs ∧ xs[i]? = some x, fun i H v H' => ∃ T x, v = .ref T ∧ H T = none ∧ H' = upd H T (.tup [.int (i : Nat), x]) ∧ ∀ xs, SqB b K H a xs → xs[i]? = some x, fun i H => ∃ xs : List V, SqB b K H a xs ∧ xs.length = i⟩
theorem turn_enumB {P : Program} {w : World} {K : PySem.W.Frag} {elts : List Expr} {kk : Nat} {tpos : Pos} (b : Bool) (a e it : Addr) :
    Turn P w K (.Tuple elts kk tpos) (IteB b K a) [e, it] e (fun i h => (∃ old, IsEnum h e it ((i : Nat) : Int) old) ∧ ItB b h it a i ∧ e ≠ it ∧ a ≠ it ∧ a ≠ e) where
  mem := by simp
  obj := fun i h st c hb => by
    obtain ⟨⟨old, he⟩, hi, _⟩ := st
    have e' : c = e ∨ c = it := by simpa using hb
    rcases e' with z | z
    · rw [z]; exact ⟨_, he, fun v q => nomatch q⟩
    · rw [z]; exact itB_get hi
  keep := fun i h h' st k => let ⟨⟨old, he⟩, hi, hne⟩ := st; ⟨⟨old, k e (by simp) _ he⟩, itB_at hi fun o q => k it (by simp) o q, hne⟩
  item := by
    intro X hP hw hK hc i pins s σ H E I hf st hg
    subst hP hw hK
    obtain ⟨⟨old, he⟩, hit, hne, hai, hae⟩ := st
    obtain ⟨xs, x, hq, hx⟩ := hg
    obtain ⟨its, rv, p⟩ := seqB I hq
    obtain ⟨u, hu, ru⟩ := rv.get hx
    have hel : e < s.heap.objs.size := Heap.lt_size he
    have hil : it < s.heap.objs.size := by obtain ⟨_, q, _⟩ := itB_get hit; exact Heap.lt_size q
    have hlt : i < its.toArray.size := by
      have := (List.getElem?_eq_some_iff.mp hu).1
      simpa using this
    refine wpAny_pyNext_enum_itemD (drawsB (A := X.A.in1) b (I.ok.hd hc) it a hai its.toArray) he ⟨hit, p⟩ hlt hne (by simp [hne, Ne.symm hae]) fun x' h' tk hP ho hit' hT hsz hk => ?_
    have hx' : x' = u := by
      have q : its[i]? = some x' := by simpa using hP
      rw [hu] at q; cases q; rfl
    subst hx'
    refine ⟨_, rfl, wpAny_letOwnedTupleGo_enum (s := { s with heap := h', toks := tk + 1 }) ho fun h'' he' sb => ?_⟩
    have hT2 : h''.get? s.heap.objs.size = some { cls := .type "tuple", data := .seq #[.int i tk, x'] } := (sb.2 _ (Nat.ne_of_gt hel)).trans hT
    have new : ObjOk X.prog X.w (upd H s.heap.objs.size (.tup [.int (i : Nat), x])) h'' s.heap.objs.size (.tup [.int (i : Nat), x]) :=
      ⟨by show 2 ≤ sizeLine; decide, [.int i tk, x'], .cons ⟨_, rfl⟩ (.cons ru .nil), ⟨_, hT2, rfl, _, rfl⟩⟩
    have I1 : Inv X pins σ (upd H s.heap.objs.size (.tup [.int (i : Nat), x])) { s with heap := h'', toks := tk + 1 } :=
      I.turnedNew (ch := [e, it]) (fun b ob hb q => (sb.2 b (fun z => hb (by simp [z]))).trans (hk b ob (fun z => hb (by simp [z])) (fun z => hb (by simp [z])) q)) hf (Nat.le_refl _) new
    refine ⟨.ref s.heap.objs.size, _, I1, rfl, ⟨_, x, rfl, I.hok.fresh (Nat.le_refl _), rfl, fun ys hy => by rw [seqB_inj I hy hq]; exact hx⟩, ⟨⟨x', ?_⟩, itB_at hit'.1 fun o q => (sb.2 it (Ne.symm hne)).trans q, hne, hai, hae⟩, fun b hb => ?_⟩
    · have e1 : ((i + 1 : Nat) : Int) = (i : Int) + 1 := by omega
      rw [e1]; exact he'
    · have hb' : b < s.heap.objs.size := by
        have e' : b = e ∨ b = it := by simpa using hb
        rcases e' with z | z
        · rw [z]; exact hel
        · rw [z]; exact hil
      rw [upd_ne (Nat.ne_of_lt hb')]
      exact (hf b hb).1
  done := by
    intro X hP hw hK hc i pins s σ H E I hf st hg
    subst hP hw hK
    obtain ⟨⟨old, he⟩, hit, hne, hai, hae⟩ := st
    obtain ⟨xs, hq, hx⟩ := hg
    obtain ⟨its, rv, p⟩ := seqB I hq
    obtain ⟨f0, f1, f2, f3, f4, f5⟩ := hf it (by simp)
    have hl := rv.length
    have hi : i = its.toArray.size := by rw [List.size_toArray, ← hl, hx]
    exact wpAny_pyNext_enum_endD (drawsB (A := X.A.in1) b (I.ok.hd hc) it a hai its.toArray) he (by rw [← hi]; exact ⟨hit, p⟩) fun h' eb => ⟨rfl, I.turned (t' := s.toks) (fun b o hb q => eb b o hb q) f0 f1 f3 f4 f5⟩
  self := fun A i s Q E st h => let ⟨⟨_, he⟩, _⟩ := st; wpAny_pyIter_enum he h

/-! ### zip -/
def ItzB (b c : Bool) (K : PySem.W.Frag) (a1 a2 : Addr) : It :=
  ⟨fun i H => ∃ (xs ys : List V) (x y : V), SqB b K H a1 xs ∧ SqB c K H a2 ys ∧ xs[i]? = some x ∧ ys[i]? = some y,
    fun i H v H' => ∃ T x y, v = .ref T ∧ H T = none ∧ H' = upd H T (.tup [x, y]) ∧ (∀ xs, SqB b K H a1 xs → xs[i]? = some x) ∧ ∀ ys, SqB c K H a2 ys → ys[i]? = some y,
    fun i H => ∃ xs ys : List V, SqB b K H a1 xs ∧ SqB c K H a2 ys ∧ i ≤ xs.length ∧ i ≤ ys.length ∧ (i = xs.length ∨ i = ys.length)⟩
theorem turn_zipB {P : Program} {w : World} {K : PySem.W.Frag} {elts : List Expr} {kk : Nat} {tpos : Pos} (b c : Bool) {a1 a2 z TI TO i1 i2 : Addr} (D : ZipSep2 z TI TO i1 i2 [i1, a1] [i2, a2]) :
    Turn P w K (.Tuple elts kk tpos) (ItzB b c K a1 a2) [z, TI, TO, i1, i2] z (fun i h => IsZip h z TI TO .none ∧ IsTupOf2 h TI (.ref i1) (.ref i2) ∧ (∃ x y, IsTupOf2 h TO x y) ∧ ItB b h i1 a1 i ∧ ItB c h i2 a2 i ∧ a1 ≠ i1 ∧ a2 ≠ i2) where
  mem := by simp
  obj := fun i h st q hq => by
    obtain ⟨hz, hTI, ⟨x, y, hTO⟩, h1, h2, _⟩ := st
    have e' : q = z ∨ q = TI ∨ q = TO ∨ q = i1 ∨ q = i2 := by simpa using hq
    rcases e' with e | e | e | e | e
    · rw [e]; exact ⟨_, hz, fun v q => nomatch q⟩
    · rw [e]; exact ⟨_, hTI, fun v q => nomatch q⟩
    · rw [e]; exact ⟨_, hTO, fun v q => nomatch q⟩
    · rw [e]; exact itB_get h1
    · rw [e]; exact itB_get h2
  keep := fun i h h' st k => by
    obtain ⟨hz, hTI, ⟨x, y, hTO⟩, h1, h2, r⟩ := st
    exact ⟨k z (by simp) _ hz, k TI (by simp) _ hTI, ⟨x, y, k TO (by simp) _ hTO⟩, itB_at h1 fun o q => k i1 (by simp) o q, itB_at h2 fun o q => k i2 (by simp) o q, r⟩
  item := by
    intro X hP hw hK hc i pins s σ H E I hf st hg
    subst hP hw hK
    obtain ⟨hz, hTI, ⟨x0, y0, hTO⟩, h1, h2, n1, n2⟩ := st
    obtain ⟨xs, ys, x, y, hqx, hqy, hx, hy⟩ := hg
    obtain ⟨its, rv, p⟩ := seqB I hqx
    obtain ⟨its2, rv2, p2⟩ := seqB I hqy
    obtain ⟨u, hu, ru⟩ := rv.get hx
    obtain ⟨u2, hu2, ru2⟩ := rv2.get hy
    have hzl : z < s.heap.objs.size := Heap.lt_size hz
    have l1 : i < its.toArray.size := by
      have := (List.getElem?_eq_some_iff.mp hu).1
      simpa using this
    have l2 : i < its2.toArray.size := by
      have := (List.getElem?_eq_some_iff.mp hu2).1
      simpa using this
    refine wpAny_pyNext_zipD2_item D (drawsB (A := X.A.in1) b (I.ok.hd hc) i1 a1 n1 its.toArray) (drawsB (A := X.A.in1) c (I.ok.hd hc) i2 a2 n2 its2.toArray) hz hTI hTO ⟨h1, p⟩ ⟨h2, p2⟩ l1 l2 fun v1 v2 h' tk q1 q2 z' TO' h1' h2' hT hsz hk => ?_
    have e1 : v1 = u := by
      have q : its[i]? = some v1 := by simpa using q1
      rw [hu] at q; cases q; rfl
    have e2 : v2 = u2 := by
      have q : its2[i]? = some v2 := by simpa using q2
      rw [hu2] at q; cases q; rfl
    subst e1 e2
    refine ⟨_, rfl, wpAny_letOwnedTupleGo_zip (s := { s with heap := h', toks := tk }) z' fun h'' z'' sb => ?_⟩
    have hT2 : h''.get? s.heap.objs.size = some { cls := .type "tuple", data := .seq #[v1, v2] } := (sb.2 _ (Nat.ne_of_gt hzl)).trans hT
    have new : ObjOk X.prog X.w (upd H s.heap.objs.size (.tup [x, y])) h'' s.heap.objs.size (.tup [x, y]) :=
      ⟨by show 2 ≤ sizeLine; decide, [v1, v2], .cons ru (.cons ru2 .nil), ⟨_, hT2, rfl, _, rfl⟩⟩
    have I1 : Inv X pins σ (upd H s.heap.objs.size (.tup [x, y])) { s with heap := h'', toks := tk } :=
      I.turnedNew (t' := tk) (ch := [z, TI, TO, i1, i2]) (fun c o hb q => (sb.2 c (fun q' => hb (by simp [q']))).trans (hk c o (fun q' => hb (by simp [q'])) (fun q' => hb (by simp [q'])) (fun q' => hb (by simp [q'])) (fun q' => hb (by simp [q'])) q)) hf (Nat.le_refl _) new
    refine ⟨.ref s.heap.objs.size, _, I1, rfl, ⟨_, x, y, rfl, I.hok.fresh (Nat.le_refl _), rfl, fun l hl => by rw [seqB_inj I hl hqx]; exact hx, fun l hl => by rw [seqB_inj I hl hqy]; exact hy⟩, ⟨z'', ?_, ⟨v1, v2, ?_⟩, ?_, ?_, n1, n2⟩, fun c hcm => ?_⟩
    · exact (sb.2 _ D.TIz).trans (hk _ _ D.TIz D.TITO D.TIi1 D.TIi2 hTI)
    · exact (sb.2 _ D.TOz).trans TO'
    · exact itB_at h1'.1 fun o q => (sb.2 _ D.zi1.symm).trans q
    · exact itB_at h2'.1 fun o q => (sb.2 _ D.zi2.symm).trans q
    · have hlt : c < s.heap.objs.size := by
        have e' : c = z ∨ c = TI ∨ c = TO ∨ c = i1 ∨ c = i2 := by simpa using hcm
        rcases e' with q | q | q | q | q
        · rw [q]; exact hzl
        · rw [q]; exact Heap.lt_size hTI
        · rw [q]; exact Heap.lt_size hTO
        · rw [q]; obtain ⟨_, e1, _⟩ := itB_get h1; exact Heap.lt_size e1
        · rw [q]; obtain ⟨_, e2, _⟩ := itB_get h2; exact Heap.lt_size e2
      rw [upd_ne (Nat.ne_of_lt hlt)]
      exact (hf c hcm).1
  done := by
    intro X hP hw hK hc i pins s σ H E I hf st hg
    subst hP hw hK
    obtain ⟨hz, hTI, ⟨x0, y0, hTO⟩, h1, h2, n1, n2⟩ := st
    obtain ⟨xs, ys, hqx, hqy, le1, le2, hend⟩ := hg
    obtain ⟨its, rv, p⟩ := seqB I hqx
    obtain ⟨its2, rv2, p2⟩ := seqB I hqy
    have l1 : xs.length = its.toArray.size := by rw [List.size_toArray]; exact rv.length
    have l2 : ys.length = its2.toArray.size := by rw [List.size_toArray]; exact rv2.length
    rw [l1] at le1 hend
    rw [l2] at le2 hend
    exact wpAny_pyNext_zipD2_end D (drawsB (A := X.A.in1) b (I.ok.hd hc) i1 a1 n1 its.toArray) (drawsB (A := X.A.in1) c (I.ok.hd hc) i2 a2 n2 its2.toArray) hz hTI hTO ⟨h1, p⟩ ⟨h2, p2⟩ le1 le2 hend fun h' tk hk => ⟨rfl, I.turnedL (t' := tk) (ch := [z, TI, TO, i1, i2]) (fun c o hb q =>
      hk c o (fun q' => hb (by simp [q'])) (fun q' => hb (by simp [q'])) (fun q' => hb (by simp [q'])) (fun q' => hb (by simp [q'])) q) hf⟩
  self := fun A i s Q E st h => wpAny_pyIter_zip st.1 h
end
end HT

/-! Ez: zip's step, whatever became of the tuple that it gave last. -/
namespace HT
open PySem PySem.Spec PyProof.Rows L2
section
variable {prog : Program} {w : World} {A : Around} {E : Value → Shared → Prop} {s : Shared} {z TI TO i1 i2 : Addr} {fp1 fp2 : List Addr} {n1 n2 i : Nat} {P1 P2 : Nat → Value → Prop} {St1 St2 : Nat → Heap → Prop} {a1 a2 : Value}
/-- the zip between two turns -/
def ZSt (h : Heap) (z TI TO : Addr) : Prop := IsZip h z TI TO .none ∨ ∃ (T : Addr) (f : Bool), IsZipHeld h z TI TO T f
theorem gone {a : Addr} {Q : Option Obj → Shared → Prop} (ho : s.heap.get? a = none) (q : Q none s) : wpAny (model prog w) A (loadIfAlive a) Q E s := by
  have q2 : Q (s.heap.get? a) s := by rw [ho]; exact q
  exact fun _ _ _ => q2
theorem sep_over {it : Addr} {fp : List Addr} {n : Nat} {P : Nat → Value → Prop} {St : Nat → Heap → Prop} (D : Draws prog w A it fp n P St) {j : Nat} {h h' : Heap} {x : Addr} (st : St j h) (b : Heap.SameBut x h h') (nx : x ∉ fp) : St j h' := D.over st b nx
/-- the last tuple is out and alive -/
theorem zip_held {T : Addr} {f : Bool} {oT : Obj} {Q : Value → Shared → Prop} (G : ZipSep2 z TI TO i1 i2 fp1 fp2) (D1 : Draws prog w A i1 fp1 n1 P1 St1) (D2 : Draws prog w A i2 fp2 n2 P2 St2)
    (hz : IsZipHeld s.heap z TI TO T f) (al : s.heap.get? T = some oT) (ti : IsTupOf2 s.heap TI (.ref i1) (.ref i2)) (to : IsTupOf2 s.heap TO a1 a2) (u1 : St1 i s.heap) (u2 : St2 i s.heap) (l1 : i < n1) (l2 : i < n2)
    (q : ∀ x y h' tk, P1 i x → P2 i y → ZSt h' z TI TO → (∃ a b, IsTupOf2 h' TO a b) → St1 (i + 1) h' → St2 (i + 1) h' → IsTupOf2 h' s.heap.objs.size x y → h'.objs.size = s.heap.objs.size + 1 →
      (∀ c o, c ≠ z → c ≠ TO → c ≠ i1 → c ≠ i2 → s.heap.get? c = some o → h'.get? c = some o) → Q (.ref s.heap.objs.size) { s with heap := h', toks := tk }) :
    wpAny (model prog w) A (Builtin.«zip.__next__» ⟨[.ref z], []⟩) (fun fin s' => ∃ v, fin = .done (.ret v) ∧ Q v s') E s := by
  obtain ⟨h0, gg, dd, tt, oo⟩ := s
  show wpAny _ _ (field (.ref z) 2 >>= _) _ _ _
  refine wpAny_bind (wpAny_field hz rfl (x := .bool false) rfl ?_); show wpAny _ _ (field (.ref z) 3 >>= _) _ _ _
  refine wpAny_bind (wpAny_field hz rfl (x := .ref TI) rfl (wpAny_bind (wpAny_seqItems ti rfl ?_)))
  show wpAny _ _ (Builtin.SmallTypes.ownedTupleIsFree (.ref z) >>= _) _ _ ⟨h0, gg, dd, tt, oo⟩
  refine wpAny_bind (wpAny_tupleHeld_zip hz al fun ha za ba => ?_)
  have ba : Heap.SameBut z h0 ha := ba
  simp only [Bool.false_eq_true, if_false]
  refine wpAny_bind ?_
  rw [← Array.forIn_toList]
  simp only [List.forIn_cons, List.forIn_nil]
  refine wpAny_bind (wpAny_bind (wpAny_holding ?_)); show wpAny _ _ (Builtin.SmallTypes.nextOf (.ref i1) >>= _) _ _ ⟨ha, gg, dd, tt, oo⟩
  refine wpAny_bind (D1.item i _ _ _ l1 (D1.over u1 ba G.zf1) fun x hb tb px v1 bb => wpAny_pure (wpAny_pure ?_))
  have bb : Heap.SameBut i1 ha hb := bb
  refine wpAny_bind (wpAny_bind (wpAny_holding ?_)); show wpAny _ _ (Builtin.SmallTypes.nextOf (.ref i2) >>= _) _ _ ⟨hb, gg, dd, tb, oo⟩
  refine wpAny_bind (D2.item i _ _ _ l2 (D2.over (D2.over u2 ba G.zf2) bb G.sep1_2) fun y hc tc py v2 bc => wpAny_pure (wpAny_pure (wpAny_pure ?_)))
  have bc : Heap.SameBut i2 hb hc := bc
  show wpAny _ _ (newTuple [x, y] >>= _) _ _ ⟨hc, gg, dd, tc, oo⟩
  refine wpAny_bind (wpAny_newTuple (wpAny_pure ⟨_, rfl, ?_⟩))
  have sz : hc.objs.size = h0.objs.size := by rw [bc.1, bb.1, ba.1]
  have zc : IsZipHeld hc z TI TO T true := bc.extBut _ _ G.zi2 (bb.extBut _ _ G.zi1 za)
  have kp : ∀ c o, c ≠ z → c ≠ i1 → c ≠ i2 → h0.get? c = some o → hc.get? c = some o := fun c o c1 c2 c3 e => bc.extBut _ _ c3 (bb.extBut _ _ c2 (ba.extBut _ _ c1 e))
  show Q (.ref hc.objs.size) _
  have tn : IsTupOf2 (hc.push { cls := .type "tuple", data := .seq #[x, y] }) hc.objs.size x y := Heap.get?_push_size _ rfl
  have sn : (hc.push { cls := .type "tuple", data := .seq #[x, y] }).objs.size = hc.objs.size + 1 := Heap.size_push ..
  rw [sz] at tn sn ⊢
  exact q x y _ tc px py (.inr ⟨T, true, Heap.get?_push_of_some _ zc⟩) ⟨a1, a2, Heap.get?_push_of_some _ (kp _ _ G.TOz G.Ti1 G.Ti2 to)⟩ (D1.frame _ _ _ (D1.over v1 bc G.sep2_1) fun b _ o e => Heap.get?_push_of_some _ e) (D2.frame _ _ _ v2 fun b _ o e => Heap.get?_push_of_some _ e) tn sn
    fun c o c1 _ c3 c4 e => Heap.get?_push_of_some _ (kp c o c1 c3 c4 e)
/-- the last tuple is out and gone -/
theorem zip_dead {T : Addr} {f : Bool} {Q : Value → Shared → Prop} (G : ZipSep2 z TI TO i1 i2 fp1 fp2) (D1 : Draws prog w A i1 fp1 n1 P1 St1) (D2 : Draws prog w A i2 fp2 n2 P2 St2)
    (hz : IsZipHeld s.heap z TI TO T f) (al : s.heap.get? T = none) (ti : IsTupOf2 s.heap TI (.ref i1) (.ref i2)) (to : IsTupOf2 s.heap TO a1 a2) (u1 : St1 i s.heap) (u2 : St2 i s.heap) (l1 : i < n1) (l2 : i < n2)
    (q : ∀ x y h' tk, P1 i x → P2 i y → ZSt h' z TI TO → (∃ a b, IsTupOf2 h' TO a b) → St1 (i + 1) h' → St2 (i + 1) h' → IsTupOf2 h' s.heap.objs.size x y → h'.objs.size = s.heap.objs.size + 1 →
      (∀ c o, c ≠ z → c ≠ TO → c ≠ i1 → c ≠ i2 → s.heap.get? c = some o → h'.get? c = some o) → Q (.ref s.heap.objs.size) { s with heap := h', toks := tk }) :
    wpAny (model prog w) A (Builtin.«zip.__next__» ⟨[.ref z], []⟩) (fun fin s' => ∃ v, fin = .done (.ret v) ∧ Q v s') E s := by
  obtain ⟨h0, gg, dd, tt, oo⟩ := s
  show wpAny _ _ (field (.ref z) 2 >>= _) _ _ _
  refine wpAny_bind (wpAny_field hz rfl (x := .bool false) rfl ?_); show wpAny _ _ (field (.ref z) 3 >>= _) _ _ _
  refine wpAny_bind (wpAny_field hz rfl (x := .ref TI) rfl (wpAny_bind (wpAny_seqItems ti rfl ?_)))
  show wpAny _ _ (Builtin.SmallTypes.ownedTupleIsFree (.ref z) >>= _) _ _ ⟨h0, gg, dd, tt, oo⟩
  refine wpAny_bind ?_
  unfold Builtin.SmallTypes.ownedTupleIsFree
  refine wpAny_bind (wpAny_field hz rfl (x := rawInt T) rfl ?_); show wpAny _ _ (loadIfAlive ((T : Int).toNat) >>= _) _ _ ⟨h0, gg, dd, tt, oo⟩
  rw [Int.toNat_natCast]
  refine wpAny_bind (gone al ?_); simp only [Option.isNone_none, if_true]
  refine wpAny_pure ?_
  refine wpAny_bind (wpAny_rule (wpAny_bind (wpAny_field hz rfl (x := .ref TO) rfl ?_)))
  refine wpAny_bind (wpAny_setField_rec hz (by simp) fun ha za ba => ?_)
  have ba : Heap.SameBut z h0 ha := ba
  have za : ha.get? z = some { cls := .type "zip", dict := none, data := .fields #[.ellipsis, .bool f, .bool false, .ref TI, .ref TO], slots := #[] } := za
  refine wpAny_bind ?_
  simp only [List.zipIdx_cons, List.zipIdx_nil, List.forIn_cons, List.forIn_nil]
  refine wpAny_bind (wpAny_bind (wpAny_onRaise ?_)); show wpAny _ _ (Builtin.SmallTypes.nextOf (.ref i1) >>= _) _ _ ⟨ha, gg, dd, tt, oo⟩
  refine wpAny_bind (D1.item i _ _ _ l1 (D1.over u1 ba G.zf1) fun x hb tb px v1 bb => wpAny_pure ?_)
  have bb : Heap.SameBut i1 ha hb := bb
  have to1 : IsTupOf2 hb TO a1 a2 := bb.extBut _ _ G.Ti1 (ba.extBut _ _ G.TOz to)
  refine wpAny_bind (wpAny_seqItems (s := ⟨hb, gg, dd, tb, oo⟩) to1 rfl (wpAny_bind (updateSeq_IsTupOf2 (s := ⟨hb, gg, dd, tb, oo⟩) to1 fun hc to2 bc => ?_)))
  have to2 : IsTupOf2 hc TO x a2 := to2
  have bc : Heap.SameBut TO hb hc := bc
  refine wpAny_bind (wpAny_letGo (wpAny_pure (wpAny_bind (wpAny_bind (wpAny_onRaise ?_))))); show wpAny _ _ (Builtin.SmallTypes.nextOf (.ref i2) >>= _) _ _ ⟨hc, gg, dd, tb, oo⟩
  refine wpAny_bind (D2.item i _ _ _ l2 (D2.over (D2.over (D2.over u2 ba G.zf2) bb G.sep1_2) bc G.Tf2) fun y hd td py v2 bd => wpAny_pure ?_)
  have bd : Heap.SameBut i2 hc hd := bd
  have to3 : IsTupOf2 hd TO x a2 := bd.extBut _ _ G.Ti2 to2
  refine wpAny_bind (wpAny_seqItems (s := ⟨hd, gg, dd, td, oo⟩) to3 rfl (wpAny_bind (updateSeq_IsTupOf2 (s := ⟨hd, gg, dd, td, oo⟩) to3 fun he to4 be => ?_)))
  have to4 : IsTupOf2 he TO x y := to4
  have be : Heap.SameBut TO hd he := be
  refine wpAny_bind (wpAny_letGo (wpAny_pure (wpAny_pure (wpAny_bind (wpAny_seqItems (s := ⟨he, gg, dd, td, oo⟩) to4 rfl (wpAny_bind (wpAny_newTuple ?_)))))))
  have sz : he.objs.size = h0.objs.size := by rw [be.1, bd.1, bc.1, bb.1, ba.1]
  have ze : he.get? z = some { cls := .type "zip", dict := none, data := .fields #[.ellipsis, .bool f, .bool false, .ref TI, .ref TO], slots := #[] } := be.extBut _ _ G.TOz.symm (bd.extBut _ _ G.zi2 (bc.extBut _ _ G.TOz.symm (bb.extBut _ _ G.zi1 za)))
  have kp : ∀ c o, c ≠ z → c ≠ TO → c ≠ i1 → c ≠ i2 → h0.get? c = some o → he.get? c = some o := fun c o c0 c1 c2 c3 e => be.extBut _ _ c1 (bd.extBut _ _ c3 (bc.extBut _ _ c1 (bb.extBut _ _ c2 (ba.extBut _ _ c0 e))))
  have w1 : St1 (i + 1) he := D1.over (D1.over (D1.over v1 bc G.Tf1) bd G.sep2_1) be G.Tf1
  have w2 : St2 (i + 1) he := D2.over v2 be G.Tf2
  have lz : z < he.objs.size := Heap.lt_size ze
  show wpAny _ _ (Builtin.SmallTypes.ownedTupleHandOut (.ref z) (.ref he.objs.size) >>= _) _ _ ⟨he.push { cls := .type "tuple", data := .seq #[x, y] }, gg, dd, td, oo⟩
  refine wpAny_bind ?_
  unfold Builtin.SmallTypes.ownedTupleHandOut
  have zp : (he.push { cls := .type "tuple", data := .seq #[x, y] }).get? z = some { cls := .type "zip", dict := none, data := .fields #[.ellipsis, .bool f, .bool false, .ref TI, .ref TO], slots := #[] } := Heap.get?_push_of_some _ ze
  refine wpAny_bind (wpAny_setField_rec zp (by simp) fun hf zf bf => ?_)
  have zf : IsZipHeld hf z TI TO he.objs.size f := zf
  have bf : Heap.SameBut z (he.push { cls := .type "tuple", data := .seq #[x, y] }) hf := bf
  refine wpAny_setField_rec zf (by simp) fun hg zg bg => ?_
  have zg : IsZipHeld hg z TI TO he.objs.size false := zg
  have bg : Heap.SameBut z hf hg := bg
  have up : ∀ c o, c ≠ z → he.get? c = some o → hg.get? c = some o := fun c o c1 e => bg.extBut _ _ c1 (bf.extBut _ _ c1 (Heap.get?_push_of_some _ e))
  have tn : IsTupOf2 hg he.objs.size x y := bg.extBut _ _ (Nat.ne_of_gt lz) (bf.extBut _ _ (Nat.ne_of_gt lz) (Heap.get?_push_size _ rfl))
  have sn : hg.objs.size = he.objs.size + 1 := by rw [bg.1, bf.1, Heap.size_push]
  rw [sz] at zg tn sn
  refine wpAny_pure ⟨_, rfl, ?_⟩
  show Q (.ref he.objs.size) ⟨hg, gg, dd, td, oo⟩
  rw [sz]
  exact q x y hg td px py (.inr ⟨_, false, zg⟩) ⟨x, y, up _ _ G.TOz to4⟩ (D1.frame _ _ _ w1 fun b hb o e => up b o (fun r => G.zf1 (r ▸ hb)) e) (D2.frame _ _ _ w2 fun b hb o e => up b o (fun r => G.zf2 (r ▸ hb)) e) tn sn fun c o c0 c1 c2 c3 e => up c o c0 (kp c o c0 c1 c2 c3 e)
/-- a step, any way -/
theorem zip_step {Q : Value → Shared → Prop} (G : ZipSep2 z TI TO i1 i2 fp1 fp2) (D1 : Draws prog w A i1 fp1 n1 P1 St1) (D2 : Draws prog w A i2 fp2 n2 P2 St2)
    (hz : ZSt s.heap z TI TO) (ti : IsTupOf2 s.heap TI (.ref i1) (.ref i2)) (to : IsTupOf2 s.heap TO a1 a2) (u1 : St1 i s.heap) (u2 : St2 i s.heap) (l1 : i < n1) (l2 : i < n2)
    (q : ∀ x y h' tk, P1 i x → P2 i y → ZSt h' z TI TO → (∃ a b, IsTupOf2 h' TO a b) → St1 (i + 1) h' → St2 (i + 1) h' → IsTupOf2 h' s.heap.objs.size x y → h'.objs.size = s.heap.objs.size + 1 →
      (∀ c o, c ≠ z → c ≠ TO → c ≠ i1 → c ≠ i2 → s.heap.get? c = some o → h'.get? c = some o) → Q (.ref s.heap.objs.size) { s with heap := h', toks := tk }) :
    wpAny (model prog w) A (Builtin.«zip.__next__» ⟨[.ref z], []⟩) (fun fin s' => ∃ v, fin = .done (.ret v) ∧ Q v s') E s := by
  rcases hz with hz | ⟨T, f, hz⟩
  · exact zipD2_next_item G D1 D2 hz ti to u1 u2 l1 l2 fun x y h' tk p1 p2 zz tt v1 v2 tn sn k => q x y h' tk p1 p2 (.inr ⟨_, false, zz⟩) ⟨_, _, tt⟩ v1 v2 tn sn k
  · cases al : s.heap.get? T with
    | some oT => exact zip_held G D1 D2 hz al ti to u1 u2 l1 l2 q
    | none => exact zip_dead G D1 D2 hz al ti to u1 u2 l1 l2 q
theorem zip_stop_held {T : Addr} {f : Bool} {oT : Obj} {Q : Fin → Shared → Prop} (G : ZipSep2 z TI TO i1 i2 fp1 fp2) (D1 : Draws prog w A i1 fp1 n1 P1 St1) (D2 : Draws prog w A i2 fp2 n2 P2 St2)
    (hz : IsZipHeld s.heap z TI TO T f) (al : s.heap.get? T = some oT) (ti : IsTupOf2 s.heap TI (.ref i1) (.ref i2)) (u1 : St1 i s.heap) (u2 : St2 i s.heap) (l1 : i ≤ n1) (l2 : i ≤ n2) (en : i = n1 ∨ i = n2)
    (q : ∀ h' tk e, (∀ c o, c ≠ z → c ≠ TO → c ≠ i1 → c ≠ i2 → s.heap.get? c = some o → h'.get? c = some o) → (∃ o, h'.get? e = some o ∧ o.cls = .type "StopIteration") → E (.ref e) { s with heap := h', toks := tk }) :
    wpAny (model prog w) A (Builtin.«zip.__next__» ⟨[.ref z], []⟩) Q E s := by
  obtain ⟨h0, gg, dd, tt, oo⟩ := s
  show wpAny _ _ (field (.ref z) 2 >>= _) _ _ _
  refine wpAny_bind (wpAny_field hz rfl (x := .bool false) rfl ?_); show wpAny _ _ (field (.ref z) 3 >>= _) _ _ _
  refine wpAny_bind (wpAny_field hz rfl (x := .ref TI) rfl (wpAny_bind (wpAny_seqItems ti rfl ?_)))
  show wpAny _ _ (Builtin.SmallTypes.ownedTupleIsFree (.ref z) >>= _) _ _ ⟨h0, gg, dd, tt, oo⟩
  refine wpAny_bind (wpAny_tupleHeld_zip hz al fun ha za ba => ?_)
  have ba : Heap.SameBut z h0 ha := ba
  simp only [Bool.false_eq_true, if_false]
  refine wpAny_bind ?_
  rw [← Array.forIn_toList]
  simp only [List.forIn_cons, List.forIn_nil]
  refine wpAny_bind (wpAny_bind (wpAny_holding ?_)); show wpAny _ _ (Builtin.SmallTypes.nextOf (.ref i1) >>= _) _ _ ⟨ha, gg, dd, tt, oo⟩
  by_cases lt1 : i < n1
  · refine wpAny_bind (D1.item i _ _ _ lt1 (D1.over u1 ba G.zf1) fun x hb tb px v1 bb => wpAny_pure (wpAny_pure ?_))
    have bb : Heap.SameBut i1 ha hb := bb
    have e2 : i = n2 := by omega
    refine wpAny_bind (wpAny_bind (wpAny_holding ?_)); show wpAny _ _ (Builtin.SmallTypes.nextOf (.ref i2) >>= _) _ _ ⟨hb, gg, dd, tb, oo⟩
    refine wpAny_bind (D2.done ⟨hb, gg, dd, tb, oo⟩ _ _ (by rw [← e2]; exact D2.over (D2.over u2 ba G.zf2) bb G.sep1_2) fun hc e bc he => ?_)
    have bc : Heap.ExtBut i2 hb hc := bc
    exact q hc tb e (fun c o c0 _ c2 c3 r => bc _ _ c3 (bb.extBut _ _ c2 (ba.extBut _ _ c0 r))) he
  · have e1 : i = n1 := by omega
    refine wpAny_bind (D1.done ⟨ha, gg, dd, tt, oo⟩ _ _ (by rw [← e1]; exact D1.over u1 ba G.zf1) fun hc e bc he => ?_)
    have bc : Heap.ExtBut i1 ha hc := bc
    exact q hc tt e (fun c o c0 _ c2 _ r => bc _ _ c2 (ba.extBut _ _ c0 r)) he
theorem zip_stop_dead {T : Addr} {f : Bool} {Q : Fin → Shared → Prop} (G : ZipSep2 z TI TO i1 i2 fp1 fp2) (D1 : Draws prog w A i1 fp1 n1 P1 St1) (D2 : Draws prog w A i2 fp2 n2 P2 St2)
    (hz : IsZipHeld s.heap z TI TO T f) (al : s.heap.get? T = none) (ti : IsTupOf2 s.heap TI (.ref i1) (.ref i2)) (to : IsTupOf2 s.heap TO a1 a2) (u1 : St1 i s.heap) (u2 : St2 i s.heap) (l1 : i ≤ n1) (l2 : i ≤ n2) (en : i = n1 ∨ i = n2)
    (q : ∀ h' tk e, (∀ c o, c ≠ z → c ≠ TO → c ≠ i1 → c ≠ i2 → s.heap.get? c = some o → h'.get? c = some o) → (∃ o, h'.get? e = some o ∧ o.cls = .type "StopIteration") → E (.ref e) { s with heap := h', toks := tk }) :
    wpAny (model prog w) A (Builtin.«zip.__next__» ⟨[.ref z], []⟩) Q E s := by
  obtain ⟨h0, gg, dd, tt, oo⟩ := s
  show wpAny _ _ (field (.ref z) 2 >>= _) _ _ _
  refine wpAny_bind (wpAny_field hz rfl (x := .bool false) rfl ?_); show wpAny _ _ (field (.ref z) 3 >>= _) _ _ _
  refine wpAny_bind (wpAny_field hz rfl (x := .ref TI) rfl (wpAny_bind (wpAny_seqItems ti rfl ?_)))
  show wpAny _ _ (Builtin.SmallTypes.ownedTupleIsFree (.ref z) >>= _) _ _ ⟨h0, gg, dd, tt, oo⟩
  refine wpAny_bind ?_
  unfold Builtin.SmallTypes.ownedTupleIsFree
  refine wpAny_bind (wpAny_field hz rfl (x := rawInt T) rfl ?_); show wpAny _ _ (loadIfAlive ((T : Int).toNat) >>= _) _ _ ⟨h0, gg, dd, tt, oo⟩
  rw [Int.toNat_natCast]
  refine wpAny_bind (gone al ?_); simp only [Option.isNone_none, if_true]
  refine wpAny_pure ?_
  refine wpAny_bind (wpAny_rule (wpAny_bind (wpAny_field hz rfl (x := .ref TO) rfl ?_)))
  refine wpAny_bind (wpAny_setField_rec hz (by simp) fun ha za ba => ?_)
  have ba : Heap.SameBut z h0 ha := ba
  have za : ha.get? z = some { cls := .type "zip", dict := none, data := .fields #[.ellipsis, .bool f, .bool false, .ref TI, .ref TO], slots := #[] } := za
  refine wpAny_bind ?_
  simp only [List.zipIdx_cons, List.zipIdx_nil, List.forIn_cons, List.forIn_nil]
  refine wpAny_bind (wpAny_bind (wpAny_onRaise ?_)); show wpAny _ _ (Builtin.SmallTypes.nextOf (.ref i1) >>= _) _ _ ⟨ha, gg, dd, tt, oo⟩
  by_cases lt1 : i < n1
  · refine wpAny_bind (D1.item i _ _ _ lt1 (D1.over u1 ba G.zf1) fun x hb tb px v1 bb => wpAny_pure ?_)
    have bb : Heap.SameBut i1 ha hb := bb
    have to1 : IsTupOf2 hb TO a1 a2 := bb.extBut _ _ G.Ti1 (ba.extBut _ _ G.TOz to)
    refine wpAny_bind (wpAny_seqItems (s := ⟨hb, gg, dd, tb, oo⟩) to1 rfl (wpAny_bind (updateSeq_IsTupOf2 (s := ⟨hb, gg, dd, tb, oo⟩) to1 fun hc to2 bc => ?_)))
    have bc : Heap.SameBut TO hb hc := bc
    have e2 : i = n2 := by omega
    refine wpAny_bind (wpAny_letGo (wpAny_pure (wpAny_bind (wpAny_bind (wpAny_onRaise ?_))))); show wpAny _ _ (Builtin.SmallTypes.nextOf (.ref i2) >>= _) _ _ ⟨hc, gg, dd, tb, oo⟩
    refine wpAny_bind (D2.done ⟨hc, gg, dd, tb, oo⟩ _ _ (by rw [← e2]; exact D2.over (D2.over (D2.over u2 ba G.zf2) bb G.sep1_2) bc G.Tf2) fun hd e bd ⟨oe, ge, ce⟩ => ?_)
    have bd : Heap.ExtBut i2 hc hd := bd
    have ge : hd.get? e = some oe := ge
    have zd : hd.get? z = some { cls := .type "zip", dict := none, data := .fields #[.ellipsis, .bool f, .bool false, .ref TI, .ref TO], slots := #[] } := bd _ _ G.zi2 (bc.extBut _ _ G.TOz.symm (bb.extBut _ _ G.zi1 za))
    have ne : e ≠ z := fun r => by subst r; rw [zd] at ge; cases ge; simp at ce
    refine wpAny_setField_rec (s := ⟨hd, gg, dd, tb, oo⟩) zd (by simp) fun he _ be => ?_
    have be : Heap.SameBut z hd he := be
    exact q he tb e (fun c o c0 c1 c2 c3 r => be.extBut _ _ c0 (bd _ _ c3 (bc.extBut _ _ c1 (bb.extBut _ _ c2 (ba.extBut _ _ c0 r))))) ⟨oe, be.extBut _ _ ne ge, ce⟩
  · have e1 : i = n1 := by omega
    refine wpAny_bind (D1.done ⟨ha, gg, dd, tt, oo⟩ _ _ (by rw [← e1]; exact D1.over u1 ba G.zf1) fun hd e bd ⟨oe, ge, ce⟩ => ?_)
    have bd : Heap.ExtBut i1 ha hd := bd
    have ge : hd.get? e = some oe := ge
    have zd : hd.get? z = some { cls := .type "zip", dict := none, data := .fields #[.ellipsis, .bool f, .bool false, .ref TI, .ref TO], slots := #[] } := bd _ _ G.zi1 za
    have ne : e ≠ z := fun r => by subst r; rw [zd] at ge; cases ge; simp at ce
    refine wpAny_setField_rec (s := ⟨hd, gg, dd, tt, oo⟩) zd (by simp) fun he _ be => ?_
    have be : Heap.SameBut z hd he := be
    exact q he tt e (fun c o c0 _ c2 _ r => be.extBut _ _ c0 (bd _ _ c2 (ba.extBut _ _ c0 r))) ⟨oe, be.extBut _ _ ne ge, ce⟩
/-- the end, any way -/
theorem zip_stop {Q : Fin → Shared → Prop} (G : ZipSep2 z TI TO i1 i2 fp1 fp2) (D1 : Draws prog w A i1 fp1 n1 P1 St1) (D2 : Draws prog w A i2 fp2 n2 P2 St2)
    (hz : ZSt s.heap z TI TO) (ti : IsTupOf2 s.heap TI (.ref i1) (.ref i2)) (to : IsTupOf2 s.heap TO a1 a2) (u1 : St1 i s.heap) (u2 : St2 i s.heap) (l1 : i ≤ n1) (l2 : i ≤ n2) (en : i = n1 ∨ i = n2)
    (q : ∀ h' tk e, (∀ c o, c ≠ z → c ≠ TO → c ≠ i1 → c ≠ i2 → s.heap.get? c = some o → h'.get? c = some o) → (∃ o, h'.get? e = some o ∧ o.cls = .type "StopIteration") → E (.ref e) { s with heap := h', toks := tk }) :
    wpAny (model prog w) A (Builtin.«zip.__next__» ⟨[.ref z], []⟩) Q E s := by
  rcases hz with hz | ⟨T, f, hz⟩
  · exact zipD2_next_end G D1 D2 hz ti to u1 u2 l1 l2 en q
  · cases al : s.heap.get? T with
    | some oT => exact zip_stop_held G D1 D2 hz al ti u1 u2 l1 l2 en q
    | none => exact zip_stop_dead G D1 D2 hz al ti to u1 u2 l1 l2 en q
/-- enumerate's step, over what may make objects of its own -/
theorem enum_step {e it : Addr} {ni : Int} {old : Value} {Good : Value → Heap → Prop} {Q : Value → Shared → Prop} (he : IsEnum s.heap e it ni old)
    (inner : ∀ (R : Value → Shared → Prop), (∀ x h' tk, h'.get? e = some ⟨.type "enumerate", none, .fields #[.none, .bool false, .ref it, rawInt ni, .none, old], #[]⟩ → Good x h' → R x { s with heap := h', toks := tk }) → wpAny (model prog w) A (Builtin.SmallTypes.nextOf (.ref it)) R E s)
    (q : ∀ x h1 h' tk, Good x h1 → IsEnumOut h' e it (ni + 1) x h1.objs.size → h'.get? h1.objs.size = some { cls := .type "tuple", data := .seq #[.int ni tk, x] } → h'.objs.size = h1.objs.size + 1 →
      (∀ b o, b ≠ e → h1.get? b = some o → h'.get? b = some o) → Q (.ref h1.objs.size) { s with heap := h', toks := tk + 1 }) :
    wpAny (model prog w) A (Builtin.«enumerate.__next__» ⟨[.ref e], []⟩) (fun fin s' => ∃ v, fin = .done (.ret v) ∧ Q v s') E s := by
  obtain ⟨h0, gg, dd, tt, oo⟩ := s
  show wpAny _ _ (field (.ref e) 2 >>= _) _ _ _
  refine wpAny_bind (wpAny_field he rfl (x := .ref it) rfl (wpAny_bind (inner _ fun x ha ta ea ga => ?_)))
  have ea : IsEnum ha e it ni old := ea
  show wpAny _ _ (field (.ref e) 3 >>= _) _ _ ⟨ha, gg, dd, ta, oo⟩
  refine wpAny_bind (wpAny_field ea rfl (x := rawInt ni) rfl ?_); show wpAny _ _ (field (.ref e) 4 >>= _) _ _ ⟨ha, gg, dd, ta, oo⟩
  refine wpAny_bind (wpAny_field ea rfl (x := .none) rfl ?_); show wpAny _ _ (mkInt ni >>= _) _ _ ⟨ha, gg, dd, ta, oo⟩
  refine wpAny_bind (wpAny_mkInt ?_); show wpAny _ _ (setField (.ref e) 3 (rawInt (ni + 1)) >>= _) _ _ ⟨ha, gg, dd, ta + 1, oo⟩
  refine wpAny_bind (wpAny_setField_rec ea (by simp) fun hb eb bb => ?_)
  have bb : Heap.SameBut e ha hb := bb
  have eb : IsEnum hb e it (ni + 1) old := eb
  show wpAny _ _ (setField (.ref e) 4 .none >>= _) _ _ ⟨hb, gg, dd, ta + 1, oo⟩
  refine wpAny_bind (wpAny_setField_rec eb (by simp) fun hc ec bc => ?_)
  have bc : Heap.SameBut e hb hc := bc
  have ec : IsEnum hc e it (ni + 1) old := ec
  show wpAny _ _ (newTuple [.int ni ta, x] >>= _) _ _ ⟨hc, gg, dd, ta + 1, oo⟩
  refine wpAny_bind (wpAny_newTuple ?_)
  have sz : hc.objs.size = ha.objs.size := by rw [bc.1, bb.1]
  have le : e < hc.objs.size := Heap.lt_size ec
  have ed : IsEnum (hc.push { cls := .type "tuple", data := .seq #[.int ni ta, x] }) e it (ni + 1) old := Heap.get?_push_of_some _ ec
  show wpAny _ _ (Builtin.SmallTypes.ownedTupleIsFree (.ref e) >>= _) _ _ ⟨hc.push { cls := .type "tuple", data := .seq #[.int ni ta, x] }, gg, dd, ta + 1, oo⟩
  refine wpAny_bind ?_
  unfold Builtin.SmallTypes.ownedTupleIsFree
  refine wpAny_bind (wpAny_field ed rfl (x := .none) rfl (wpAny_pure ?_))
  simp only [if_true]
  refine wpAny_bind (wpAny_rule (wpAny_bind (wpAny_field ed rfl (x := old) rfl (wpAny_bind (wpAny_setField_rec ed (by simp) fun hf ef bf => ?_)))))
  have bf : Heap.SameBut e (hc.push { cls := .type "tuple", data := .seq #[.int ni ta, x] }) hf := bf
  have ef : IsEnum hf e it (ni + 1) x := ef
  show wpAny _ _ (Builtin.SmallTypes.ownedTupleHandOut (.ref e) (.ref hc.objs.size) >>= _) _ _ ⟨hf, gg, dd, ta + 1, oo⟩
  refine wpAny_bind ?_
  unfold Builtin.SmallTypes.ownedTupleHandOut
  refine wpAny_bind (wpAny_setField_rec ef (by simp) fun hg eg bg => ?_)
  have bg : Heap.SameBut e hf hg := bg
  have eg : IsEnumOut hg e it (ni + 1) x hc.objs.size := eg
  refine wpAny_setField_rec eg (by simp) fun hh eh bh => ?_
  have bh : Heap.SameBut e hg hh := bh
  have eh : IsEnumOut hh e it (ni + 1) x hc.objs.size := eh
  have up : ∀ b o, b ≠ e → (hc.push { cls := .type "tuple", data := .seq #[.int ni ta, x] }).get? b = some o → hh.get? b = some o := fun b o ne r => bh.extBut _ _ ne (bg.extBut _ _ ne (bf.extBut _ _ ne r))
  refine wpAny_bind (wpAny_letGo (wpAny_pure ⟨_, rfl, ?_⟩))
  have tn : hh.get? hc.objs.size = some { cls := .type "tuple", data := .seq #[.int ni ta, x] } := up _ _ (Nat.ne_of_gt le) (Heap.get?_push_size _ rfl)
  have sn : hh.objs.size = hc.objs.size + 1 := by rw [bh.1, bg.1, bf.1, Heap.size_push]
  show Q (.ref hc.objs.size) ⟨hh, gg, dd, ta + 1, oo⟩
  rw [sz] at eh tn sn ⊢
  exact q x ha hh ta ga eh tn sn fun b o ne r => up b o ne (Heap.get?_push_of_some _ (bc.extBut _ _ ne (bb.extBut _ _ ne r)))
theorem ZSt.ty {s : Shared} (hz : ZSt s.heap z TI TO) : s.TypeIs (.ref z) "zip" := by
  rcases hz with h | ⟨T, f, h⟩
  · exact ⟨_, h, rfl⟩
  · exact ⟨_, h, rfl⟩
theorem nextOf_zip {Q : Value → Shared → Prop} (G : ZipSep2 z TI TO i1 i2 fp1 fp2) (D1 : Draws prog w A.in1 i1 fp1 n1 P1 St1) (D2 : Draws prog w A.in1 i2 fp2 n2 P2 St2)
    (hz : ZSt s.heap z TI TO) (ti : IsTupOf2 s.heap TI (.ref i1) (.ref i2)) (to : IsTupOf2 s.heap TO a1 a2) (u1 : St1 i s.heap) (u2 : St2 i s.heap) (l1 : i < n1) (l2 : i < n2)
    (q : ∀ x y h' tk, P1 i x → P2 i y → ZSt h' z TI TO → (∃ a b, IsTupOf2 h' TO a b) → St1 (i + 1) h' → St2 (i + 1) h' → IsTupOf2 h' s.heap.objs.size x y → h'.objs.size = s.heap.objs.size + 1 →
      (∀ c o, c ≠ z → c ≠ TO → c ≠ i1 → c ≠ i2 → s.heap.get? c = some o → h'.get? c = some o) → Q (.ref s.heap.objs.size) { s with heap := h', toks := tk }) :
    wpAny (model prog w) A (Builtin.SmallTypes.nextOf (.ref z)) Q E s := by
  unfold Builtin.SmallTypes.nextOf
  exact wpAny_bind (wpAny_callSpecial?_slot (name := Str.ofString "__next__") hz.ty F.slot_zip_next (wpAny_call_entry F.slot_zip_next hz.ty F.entry_zip_next
    (zip_step G D1 D2 hz ti to u1 u2 l1 l2 fun x y h' tk p1 p2 zz tt v1 v2 tn sn k => wpAny_pure (q x y h' tk p1 p2 zz tt v1 v2 tn sn k)) (F.args_zip_next_1 _)))
theorem nextOf_zip_end {Q : Value → Shared → Prop} (G : ZipSep2 z TI TO i1 i2 fp1 fp2) (D1 : Draws prog w A.in1 i1 fp1 n1 P1 St1) (D2 : Draws prog w A.in1 i2 fp2 n2 P2 St2)
    (hz : ZSt s.heap z TI TO) (ti : IsTupOf2 s.heap TI (.ref i1) (.ref i2)) (to : IsTupOf2 s.heap TO a1 a2) (u1 : St1 i s.heap) (u2 : St2 i s.heap) (l1 : i ≤ n1) (l2 : i ≤ n2) (en : i = n1 ∨ i = n2)
    (q : ∀ h' tk e, (∀ c o, c ≠ z → c ≠ TO → c ≠ i1 → c ≠ i2 → s.heap.get? c = some o → h'.get? c = some o) → (∃ o, h'.get? e = some o ∧ o.cls = .type "StopIteration") → E (.ref e) { s with heap := h', toks := tk }) :
    wpAny (model prog w) A (Builtin.SmallTypes.nextOf (.ref z)) Q E s := by
  unfold Builtin.SmallTypes.nextOf
  exact wpAny_bind (wpAny_callSpecial?_slot (name := Str.ofString "__next__") hz.ty F.slot_zip_next (wpAny_call_entry F.slot_zip_next hz.ty F.entry_zip_next
    (zip_stop G D1 D2 hz ti to u1 u2 l1 l2 en q) (F.args_zip_next_1 _)))
theorem pyNext_ez {e : Addr} {old : Value} {Q : Option Value → Shared → Prop} (G : ZipSep2 z TI TO i1 i2 fp1 fp2) (D1 : Draws prog w A.in1.in1 i1 fp1 n1 P1 St1) (D2 : Draws prog w A.in1.in1 i2 fp2 n2 P2 St2) (he : IsEnum s.heap e z ((i : Nat) : Int) old)
    (hz : ZSt s.heap z TI TO) (ti : IsTupOf2 s.heap TI (.ref i1) (.ref i2)) (to : IsTupOf2 s.heap TO a1 a2) (u1 : St1 i s.heap) (u2 : St2 i s.heap) (l1 : i < n1) (l2 : i < n2) (ez : e ≠ z) (eT : e ≠ TO) (e1 : e ≠ i1) (e2 : e ≠ i2)
    (q : ∀ x y h1 h' tk, P1 i x → P2 i y → ZSt h1 z TI TO → (∃ a b, IsTupOf2 h1 TO a b) → St1 (i + 1) h1 → St2 (i + 1) h1 → IsTupOf2 h1 s.heap.objs.size x y → h1.objs.size = s.heap.objs.size + 1 →
      (∀ c o, c ≠ z → c ≠ TO → c ≠ i1 → c ≠ i2 → s.heap.get? c = some o → h1.get? c = some o) → IsEnumOut h' e z ((i : Int) + 1) (.ref s.heap.objs.size) h1.objs.size → h'.get? h1.objs.size = some { cls := .type "tuple", data := .seq #[.int i tk, .ref s.heap.objs.size] } → h'.objs.size = h1.objs.size + 1 →
      (∀ b o, b ≠ e → h1.get? b = some o → h'.get? b = some o) → Q (some (.ref h1.objs.size)) { s with heap := h', toks := tk + 1 }) :
    wpAny (model prog w) A (pyNext (.ref e)) Q E s := by
  have ty : s.TypeIs (.ref e) "enumerate" := ⟨_, he, rfl⟩
  unfold pyNext
  refine wpAny_bind (wpAny_attempt (wpAny_callSpecial?_slot (name := Str.ofString "__next__") ty F.slot_enumerate_next (wpAny_call_entry F.slot_enumerate_next ty F.entry_enumerate_next
    (enum_step (Good := fun v h1 => ∃ x y, v = .ref s.heap.objs.size ∧ P1 i x ∧ P2 i y ∧ ZSt h1 z TI TO ∧ (∃ a b, IsTupOf2 h1 TO a b) ∧ St1 (i + 1) h1 ∧ St2 (i + 1) h1 ∧ IsTupOf2 h1 s.heap.objs.size x y ∧ h1.objs.size = s.heap.objs.size + 1 ∧ ∀ c o, c ≠ z → c ≠ TO → c ≠ i1 → c ≠ i2 → s.heap.get? c = some o → h1.get? c = some o) he
      (fun R r => nextOf_zip G D1 D2 hz ti to u1 u2 l1 l2 fun x y h' tk p1 p2 zz tt v1 v2 tn sn k => r _ h' tk (k e _ ez eT e1 e2 he) ⟨x, y, rfl, p1, p2, zz, tt, v1, v2, tn, sn, k⟩)
      fun v h1 h' tk ⟨x, y, ev, p1, p2, zz, tt, v1, v2, tn, sn, k⟩ eo et es ek => ?_) (F.args_enumerate_next_1 _))))
  subst ev
  exact wpAny_pure (q x y h1 h' tk p1 p2 zz tt v1 v2 tn sn k eo et es ek)
theorem pyNext_ez_end {e : Addr} {old : Value} {Q : Option Value → Shared → Prop} (G : ZipSep2 z TI TO i1 i2 fp1 fp2) (D1 : Draws prog w A.in1.in1 i1 fp1 n1 P1 St1) (D2 : Draws prog w A.in1.in1 i2 fp2 n2 P2 St2) (he : IsEnum s.heap e z ((i : Nat) : Int) old)
    (hz : ZSt s.heap z TI TO) (ti : IsTupOf2 s.heap TI (.ref i1) (.ref i2)) (to : IsTupOf2 s.heap TO a1 a2) (u1 : St1 i s.heap) (u2 : St2 i s.heap) (l1 : i ≤ n1) (l2 : i ≤ n2) (en : i = n1 ∨ i = n2)
    (q : ∀ h' tk, (∀ c o, c ≠ z → c ≠ TO → c ≠ i1 → c ≠ i2 → s.heap.get? c = some o → h'.get? c = some o) → Q none { s with heap := h', toks := tk }) :
    wpAny (model prog w) A (pyNext (.ref e)) Q E s := by
  have ty : s.TypeIs (.ref e) "enumerate" := ⟨_, he, rfl⟩
  unfold pyNext
  refine wpAny_bind (wpAny_attempt (wpAny_callSpecial?_slot (name := Str.ofString "__next__") ty F.slot_enumerate_next (wpAny_call_entry F.slot_enumerate_next ty F.entry_enumerate_next ?_ (F.args_enumerate_next_1 _))))
  show wpAny _ _ (field (.ref e) 2 >>= _) _ _ _
  refine wpAny_bind (wpAny_field he rfl (x := .ref z) rfl (wpAny_bind (nextOf_zip_end G D1 D2 hz ti to u1 u2 l1 l2 en fun h' tk x k ⟨o, ho, hc⟩ => ?_)))
  exact wpAny_bind (wpAny_isInstance (T := "StopIteration") (b := true) ⟨o, ho, hc⟩ isSubtype_stop (wpAny_pure (q h' tk k)))
end
/-- the turns of enumerate(zip(..)) -/
def ItezB (b c : Bool) (K : PySem.W.Frag) (a1 a2 : Addr) : It :=
  ⟨fun i H => ∃ (xs ys : List V) (x y : V), SqB b K H a1 xs ∧ SqB c K H a2 ys ∧ xs[i]? = some x ∧ ys[i]? = some y,
    fun i H v H' => ∃ T U x y, v = .ref U ∧ H T = none ∧ H U = none ∧ U ≠ T ∧ H' = upd (upd H T (.tup [x, y])) U (.tup [.int (i : Nat), .ref T]) ∧ (∀ xs, SqB b K H a1 xs → xs[i]? = some x) ∧ ∀ ys, SqB c K H a2 ys → ys[i]? = some y,
    fun i H => ∃ xs ys : List V, SqB b K H a1 xs ∧ SqB c K H a2 ys ∧ i ≤ xs.length ∧ i ≤ ys.length ∧ (i = xs.length ∨ i = ys.length)⟩
theorem fp_upd {X : Cx} {pins : List (Addr × Obj)} {H : Hp} {b T : Addr} {o : HO} (h : FpOk X pins H b) (n : b ≠ T) : FpOk X pins (upd H T o) b := by
  obtain ⟨f0, f1, f2, f3, f4, f5⟩ := h
  exact ⟨by rw [upd_ne n]; exact f0, f1, f2, f3, f4, f5⟩
theorem turn_ez {P : Program} {w : World} {K : PySem.W.Frag} {elts : List Expr} {kk : Nat} {tpos : Pos} (b c : Bool) {a1 a2 e z TI TO i1 i2 : Addr} (G : ZipSep2 z TI TO i1 i2 [i1, a1] [i2, a2]) (ez : e ≠ z) (eI : e ≠ TI) (eO : e ≠ TO) (e1 : e ≠ i1) (e2 : e ≠ i2) :
    Turn P w K (.Tuple elts kk tpos) (ItezB b c K a1 a2) [e, z, TI, TO, i1, i2] e (fun i h => (∃ old, IsEnum h e z ((i : Nat) : Int) old) ∧ ZSt h z TI TO ∧ IsTupOf2 h TI (.ref i1) (.ref i2) ∧ (∃ x y, IsTupOf2 h TO x y) ∧ ItB b h i1 a1 i ∧ ItB c h i2 a2 i ∧ a1 ≠ i1 ∧ a2 ≠ i2) where
  mem := by simp
  obj := fun i h st q hq => by
    obtain ⟨⟨old, he⟩, hz, hTI, ⟨x, y, hTO⟩, h1, h2, _⟩ := st
    have e' : q = e ∨ q = z ∨ q = TI ∨ q = TO ∨ q = i1 ∨ q = i2 := by simpa using hq
    rcases e' with r | r | r | r | r | r
    · rw [r]; exact ⟨_, he, fun v q => nomatch q⟩
    · rw [r]
      rcases hz with hz | ⟨T, f, hz⟩
      · exact ⟨_, hz, fun v q => nomatch q⟩
      · exact ⟨_, hz, fun v q => nomatch q⟩
    · rw [r]; exact ⟨_, hTI, fun v q => nomatch q⟩
    · rw [r]; exact ⟨_, hTO, fun v q => nomatch q⟩
    · rw [r]; exact itB_get h1
    · rw [r]; exact itB_get h2
  keep := fun i h h' st k => by
    obtain ⟨⟨old, he⟩, hz, hTI, ⟨x, y, hTO⟩, h1, h2, r⟩ := st
    refine ⟨⟨old, k e (by simp) _ he⟩, ?_, k TI (by simp) _ hTI, ⟨x, y, k TO (by simp) _ hTO⟩, itB_at h1 fun o q => k i1 (by simp) o q, itB_at h2 fun o q => k i2 (by simp) o q, r⟩
    rcases hz with hz | ⟨T, f, hz⟩
    · exact .inl (k z (by simp) _ hz)
    · exact .inr ⟨T, f, k z (by simp) _ hz⟩
  item := by
    intro X hP hw hK hc i pins s σ H E I hf st hg
    subst hP hw hK
    obtain ⟨⟨old, he⟩, hz, hTI, ⟨x0, y0, hTO⟩, h1, h2, n1, n2⟩ := st
    obtain ⟨xs, ys, x, y, hqx, hqy, hx, hy⟩ := hg
    obtain ⟨its, rv, p⟩ := seqB I hqx
    obtain ⟨its2, rv2, p2⟩ := seqB I hqy
    obtain ⟨u, hu, ru⟩ := rv.get hx
    obtain ⟨u2, hu2, ru2⟩ := rv2.get hy
    have l1 : i < its.toArray.size := by
      have := (List.getElem?_eq_some_iff.mp hu).1
      simpa using this
    have l2 : i < its2.toArray.size := by
      have := (List.getElem?_eq_some_iff.mp hu2).1
      simpa using this
    have lt : ∀ q ∈ [e, z, TI, TO, i1, i2], q < s.heap.objs.size := fun q hq => by
      have e' : q = e ∨ q = z ∨ q = TI ∨ q = TO ∨ q = i1 ∨ q = i2 := by simpa using hq
      rcases e' with r | r | r | r | r | r
      · rw [r]; exact Heap.lt_size he
      · rw [r]; rcases hz with hz | ⟨T, f, hz⟩ <;> exact Heap.lt_size hz
      · rw [r]; exact Heap.lt_size hTI
      · rw [r]; exact Heap.lt_size hTO
      · rw [r]; obtain ⟨_, g, _⟩ := itB_get h1; exact Heap.lt_size g
      · rw [r]; obtain ⟨_, g, _⟩ := itB_get h2; exact Heap.lt_size g
    refine pyNext_ez G (drawsB (A := X.A.in1.in1) b (I.ok.hd hc) i1 a1 n1 its.toArray) (drawsB (A := X.A.in1.in1) c (I.ok.hd hc) i2 a2 n2 its2.toArray) he hz hTI hTO ⟨h1, p⟩ ⟨h2, p2⟩ l1 l2 ez eO e1 e2 fun v1 v2 hA hB tk q1 q2 zz ⟨x3, y3, tt⟩ v1' v2' tn sn k eo et es ek => ?_
    have r1 : v1 = u := by
      have q : its[i]? = some v1 := by simpa using q1
      rw [hu] at q; cases q; rfl
    have r2 : v2 = u2 := by
      have q : its2[i]? = some v2 := by simpa using q2
      rw [hu2] at q; cases q; rfl
    subst r1 r2
    have sn : hA.objs.size = s.heap.objs.size + 1 := sn
    have le0 : e < s.heap.objs.size := lt e (by simp)
    have leA : e < hA.objs.size := by rw [sn]; exact Nat.lt_succ_of_lt le0
    have sA : s.heap.objs.size ≤ hA.objs.size := by rw [sn]; exact Nat.le_succ _
    have nA : hA.objs.size ≠ s.heap.objs.size := by rw [sn]; exact Nat.succ_ne_self _
    refine ⟨_, rfl, wpAny_letOwnedTupleGo_enum (s := { s with heap := hB, toks := tk + 1 }) eo fun hC ec sb => ?_⟩
    have sb : Heap.SameBut e hB hC := sb
    have le : e < s.heap.objs.size := lt e (by simp)
    have kBC : ∀ d o, d ≠ e → hA.get? d = some o → hC.get? d = some o := fun d o nd g => sb.extBut _ _ nd (ek d o nd g)
    have tA : hA.get? s.heap.objs.size = some { cls := .type "tuple", data := .seq #[v1, v2] } := tn
    have new1 : ObjOk X.prog X.w (upd H s.heap.objs.size (.tup [x, y])) hA s.heap.objs.size (.tup [x, y]) :=
      ⟨by show 2 ≤ sizeLine; decide, [v1, v2], .cons ru (.cons ru2 .nil), ⟨_, tA, rfl, _, rfl⟩⟩
    have I1 : Inv X pins σ (upd H s.heap.objs.size (.tup [x, y])) { s with heap := hA, toks := tk } :=
      I.turnedNew (t' := tk) (ch := [e, z, TI, TO, i1, i2]) (fun d o hb g => k d o (fun q' => hb (by simp [q'])) (fun q' => hb (by simp [q'])) (fun q' => hb (by simp [q'])) (fun q' => hb (by simp [q'])) g) hf (Nat.le_refl _) new1
    have hf1 : ∀ q ∈ [e, z, TI, TO, i1, i2], FpOk X pins (upd H s.heap.objs.size (.tup [x, y])) q := fun q hq => fp_upd (hf q hq) (Nat.ne_of_lt (lt q hq))
    have tB : hC.get? hA.objs.size = some { cls := .type "tuple", data := .seq #[.int i tk, .ref s.heap.objs.size] } := sb.extBut _ _ (Nat.ne_of_gt leA) et
    have new2 : ObjOk X.prog X.w (upd (upd H s.heap.objs.size (.tup [x, y])) hA.objs.size (.tup [.int (i : Nat), .ref s.heap.objs.size])) hC hA.objs.size (.tup [.int (i : Nat), .ref s.heap.objs.size]) :=
      ⟨by show 2 ≤ sizeLine; decide, [.int i tk, .ref s.heap.objs.size], .cons ⟨_, rfl⟩ (.cons rfl .nil), ⟨_, tB, rfl, _, rfl⟩⟩
    have I2 : Inv X pins σ (upd (upd H s.heap.objs.size (.tup [x, y])) hA.objs.size (.tup [.int (i : Nat), .ref s.heap.objs.size])) { s with heap := hC, toks := tk + 1 } :=
      I1.turnedNew (t' := tk + 1) (ch := [e, z, TI, TO, i1, i2]) (fun d o hb g => kBC d o (fun q' => hb (by simp [q'])) g) hf1 (Nat.le_refl _) new2
    refine ⟨.ref hA.objs.size, _, I2, rfl, ⟨_, _, x, y, rfl, I.hok.fresh (Nat.le_refl _), I.hok.fresh sA, nA, rfl, fun l hl => by rw [seqB_inj I hl hqx]; exact hx, fun l hl => by rw [seqB_inj I hl hqy]; exact hy⟩, ⟨⟨.ref s.heap.objs.size, ?_⟩, ?_, ?_, ⟨x3, y3, ?_⟩, ?_, ?_, n1, n2⟩, fun d hd => ?_⟩
    · have e3 : ((i + 1 : Nat) : Int) = (i : Int) + 1 := by omega
      rw [e3]; exact ec
    · rcases zz with zz | ⟨T, f, zz⟩
      · exact .inl (kBC _ _ ez.symm zz)
      · exact .inr ⟨T, f, kBC _ _ ez.symm zz⟩
    · exact kBC _ _ eI.symm (k _ _ G.TIz G.TITO G.TIi1 G.TIi2 hTI)
    · exact kBC _ _ eO.symm tt
    · exact itB_at v1'.1 fun o q => kBC _ _ e1.symm q
    · exact itB_at v2'.1 fun o q => kBC _ _ e2.symm q
    · have ld := lt d hd
      rw [upd_ne (Nat.ne_of_lt (Nat.lt_of_lt_of_le ld sA)), upd_ne (Nat.ne_of_lt ld)]
      exact (hf d hd).1
  done := by
    intro X hP hw hK hc i pins s σ H E I hf st hg
    subst hP hw hK
    obtain ⟨⟨old, he⟩, hz, hTI, ⟨x0, y0, hTO⟩, h1, h2, n1, n2⟩ := st
    obtain ⟨xs, ys, hqx, hqy, le1, le2, hend⟩ := hg
    obtain ⟨its, rv, p⟩ := seqB I hqx
    obtain ⟨its2, rv2, p2⟩ := seqB I hqy
    have l1 : xs.length = its.toArray.size := by rw [List.size_toArray]; exact rv.length
    have l2 : ys.length = its2.toArray.size := by rw [List.size_toArray]; exact rv2.length
    rw [l1] at le1 hend
    rw [l2] at le2 hend
    exact pyNext_ez_end G (drawsB (A := X.A.in1.in1) b (I.ok.hd hc) i1 a1 n1 its.toArray) (drawsB (A := X.A.in1.in1) c (I.ok.hd hc) i2 a2 n2 its2.toArray) he hz hTI hTO ⟨h1, p⟩ ⟨h2, p2⟩ le1 le2 hend fun h' tk k => ⟨rfl, I.turnedL (t' := tk) (ch := [e, z, TI, TO, i1, i2]) (fun d o hb q =>
      k d o (fun q' => hb (by simp [q'])) (fun q' => hb (by simp [q'])) (fun q' => hb (by simp [q'])) (fun q' => hb (by simp [q'])) q) hf⟩
  self := fun A i s Q E st h => let ⟨⟨_, he⟩, _⟩ := st; wpAny_pyIter_enum he h
end HT
namespace HT
open PySem PySem.Spec PyProof.Rows L2
theorem meets_enum_own {v : Value} {H : Heap → Prop} (B : ∀ (prog : Program) (w : World) (A : Around) (E : Value → Shared → Prop) (s : Shared) (Q : Value → Shared → Prop), H s.heap → Q v s → wpAny (model prog w) A (pyIter v) Q E s) :
    Meets (Builtin.«enumerate.__new__» ⟨[.type "enumerate", v], []⟩) (fun _ R s => H s.heap ∧
      R (.ok (.ret (.ref s.heap.objs.size))) { s with heap := s.heap.push { cls := .type "enumerate", data := .fields #[.none, .bool false, v, rawInt 0, .none, .none] } }) :=
  .of_wp fun prog w A R s h => by
    obtain ⟨hp, g, d, tk, os⟩ := s; obtain ⟨h1, h⟩ := h
    have hsub := sub_enumerate
    have self : ∀ {A' : Around} {E : Value → Shared → Prop} {Q : Value → Shared → Prop}, Q v ⟨hp, g, d, tk, os⟩ → wpAny (model prog w) A' (pyIter v) Q E ⟨hp, g, d, tk, os⟩ :=
      fun q => B prog w _ _ ⟨hp, g, d, tk, os⟩ _ h1 q
    wp_walk using self
    refine wpAny_stack_any fun st => wpAny_pure ?_
    split
    · rename_i c _ _ _ _ _
      cases (c == Value.type "enumerate") <;> (wp_walk using self; exact ⟨_, rfl, h⟩)
    · wp_walk using self; exact ⟨_, rfl, h⟩
section
variable {prog : Program} {w : World} {A : Around} {E : Value → Shared → Prop} {s : Shared}
theorem enum_own {z : Addr} {H : Heap → Prop} {Q : Value → Shared → Prop} (B : ∀ (prog : Program) (w : World) (A : Around) (E : Value → Shared → Prop) (s : Shared) (Q : Value → Shared → Prop), H s.heap → Q (.ref z) s → wpAny (model prog w) A (pyIter (.ref z)) Q E s) (h1 : H s.heap)
    (h : IsEnum (s.heap.push { cls := .type "enumerate", data := .fields #[.none, .bool false, .ref z, rawInt 0, .none, .none] }) s.heap.objs.size z 0 .none →
      Q (.ref s.heap.objs.size) { s with heap := s.heap.push { cls := .type "enumerate", data := .fields #[.none, .bool false, .ref z, rawInt 0, .none, .none] } }) :
    wpAny (model prog w) A (call (.type "enumerate") [.ref z]) Q E s := by
  refine callType_new F.called_enumerate (by decide) (F.typeCall_enumerate_1 _) (F.newCall_enumerate_1 _) (fun obj => F.args_object_init_2 obj _) F.entry_enumerate_new
    (meets_enum_own B) ⟨h1, ?_⟩
  have he : IsEnum (s.heap.push { cls := .type "enumerate", data := .fields #[.none, .bool false, .ref z, rawInt 0, .none, .none] }) s.heap.objs.size z 0 .none := Heap.get?_push_size _ rfl
  exact ⟨⟨_, he, rfl⟩, h he⟩
end
end HT

set_option Elab.async false
set_option linter.all false
set_option maxRecDepth 100000
set_option maxHeartbeats 2000000
/-! Ev12: walks on data, and how they stand behind the hand layer's iterators. -/
namespace Ev
open PySem PySem.Spec PyProof.Rows L2 HT
noncomputable section

/-- a walk: the turn, what is left (where that is kept), the heap; the end, or an item -/
abbrev Wlk := Nat → List D → M → Bool → (D → List D → Bool) → Bool
abbrev SemI := Env → M → (Wlk → List D → M → Bool) → Kx → Bool
section
variable (Z : Wd)
def WlkOk (J : It) (nx : Wlk) (c0 : List D) (μ0 : Nat → Addr) (m0 : M) (H0 : Hp) : Prop :=
  ∃ Iv : Nat → List D → Prop, Iv 0 c0 ∧ ∀ (i : Nat) (c : List D) (μ : Nat → Addr) (m : M) (H : Hp) (ks : Bool) (ki : D → List D → Bool), Iv i c → Lt μ0 m0 H0 μ m H → Sim Z μ m H → nx i c m ks ki = true →
    (ks = true ∧ J.stop i H) ∨ ∃ d c', ki d c' = true ∧ Iv (i + 1) c' ∧ J.go i H ∧ ∀ x H', J.yld i H x H' → Kp H H' ∧ Rep Z μ m.n H' d x
def tIt (W : WX) (t : SemI) : TI := fun σ H R => ∃ μ m ρ k kx, Sim Z μ m H ∧ EnvRep Z μ m.n H ρ σ ∧ t ρ m k kx = true ∧
  (∀ μ' m' H' J nx c, Lt μ m H μ' m' H' → Sim Z μ' m' H' → WlkOk Z J nx c μ' m' H' → k nx c m' = true → R J H') ∧ XPost Z μ m H kx W σ
end

/-! ### the walks -/
def nxT : Wlk := fun _ c _ ks ki => match c with | [] => ks | x :: r => ki x r
def nxL (a : Nat) : Wlk := fun i _ m ks ki => match m.get a with
  | some (.lst xs) => (match nthD xs i with | some d => ki d [] | none => ks)
  | _ => false
def nxR (lo st : Int) (n : Nat) : Wlk := fun i _ _ ks ki => match Nat.blt i n with | true => frc (lo + (i : Nat) * st) (fun v => ki (.int v) []) | false => ks
/-- where a row of items stands -/
inductive Sr where | l (a : Nat) | t (xs : List D)
def srGet (s : Sr) (m : M) : Option (List D) := match s with
  | .t xs => some xs
  | .l a => (match m.get a with | some (.lst xs) => some xs | _ => none)
def nxE (s : Sr) : Wlk := fun i _ m ks ki => match srGet s m with
  | some xs => (match nthD xs i with | some d => ki (.tup [.int (.ofNat i), d]) [] | none => Nat.beq i xs.length && ks)
  | none => false
def nxZ (s t : Sr) : Wlk := fun i _ m ks ki => match srGet s m with
  | some xs => (match srGet t m with
    | some ys => (match nthD xs i with
      | some x => (match nthD ys i with | some y => ki (.tup [x, y]) [] | none => Nat.ble i xs.length && (Nat.ble i ys.length && ks))
      | none => Nat.ble i xs.length && (Nat.ble i ys.length && ks))
    | none => false)
  | none => false
def srB : Sr → Bool | .l _ => true | .t _ => false
section
variable {Z : Wd} {μ0 μ : Nat → Addr} {m0 m : M} {H0 H : Hp}
theorem blt_iff {i n : Nat} : Nat.blt i n = decide (i < n) := by
  unfold Nat.blt
  rw [Bool.eq_iff_iff]
  simp only [Nat.ble_eq, decide_eq_true_eq]
  exact Iff.rfl
theorem wok_T {a : Addr} {xs : List D} {vs : List V} (hq : SqT Z.K H0 a vs) (rs : Reps Z μ0 m0.n H0 xs vs) : WlkOk Z (Itt Z.K a) nxT xs μ0 m0 H0 := by
  refine ⟨fun i c => c = xs.drop i, (List.drop_zero).symm, fun i c μ m H ks ki hc L S h => ?_⟩
  have hq' := L.toLe.sqT hq
  have rs' := rs.mono L.toLe
  unfold nxT at h
  cases hd : xs.drop i with
  | nil =>
    rw [hc, hd] at h
    refine .inl ⟨h, vs, hq', ?_⟩
    have := List.drop_eq_nil_iff.mp hd
    rw [← rs.length]; exact this
  | cons x r =>
    rw [hc, hd] at h
    have hx : xs[i]? = some x := by
      have := congrArg List.head? hd
      rw [List.head?_drop] at this
      exact this
    obtain ⟨v, hv, rv⟩ := rs'.get hx
    refine .inr ⟨x, r, h, ?_, ⟨vs, v, hq', hv⟩, fun x' H' hy => ?_⟩
    · show r = xs.drop (i + 1)
      rw [← List.tail_drop, hd]; rfl
    · obtain ⟨rfl, hy⟩ := hy
      have := hy vs hq'
      rw [hv] at this
      cases this
      exact ⟨fun _ _ e => e, rv⟩
theorem wok_F {a : Addr} {xs : List D} {vs : List V} (hq : SqF Z.K H0 a vs) (rs : Reps Z μ0 m0.n H0 xs vs) : WlkOk Z (Itl Z.K a) nxT xs μ0 m0 H0 := by
  refine ⟨fun i c => c = xs.drop i, (List.drop_zero).symm, fun i c μ m H ks ki hc L S h => ?_⟩
  have hq' := (L.toLe.sqF hq).sq
  have rs' := rs.mono L.toLe
  unfold nxT at h
  cases hd : xs.drop i with
  | nil =>
    rw [hc, hd] at h
    refine .inl ⟨h, vs, hq', ?_⟩
    have := List.drop_eq_nil_iff.mp hd
    rw [← rs.length]; exact this
  | cons x r =>
    rw [hc, hd] at h
    have hx : xs[i]? = some x := by
      have := congrArg List.head? hd
      rw [List.head?_drop] at this
      exact this
    obtain ⟨v, hv, rv⟩ := rs'.get hx
    refine .inr ⟨x, r, h, ?_, ⟨vs, v, hq', hv⟩, fun x' H' hy => ?_⟩
    · show r = xs.drop (i + 1)
      rw [← List.tail_drop, hd]; rfl
    · obtain ⟨rfl, hy⟩ := hy
      have := hy vs hq'
      rw [hv] at this
      cases this
      exact ⟨fun _ _ e => e, rv⟩
theorem wok_L {i : Nat} (hi : i < m0.n) : WlkOk Z (Itl Z.K (μ0 i)) (nxL i) [] μ0 m0 H0 := by
  refine ⟨fun _ _ => True, True.intro, fun j c μ m H ks ki _ L S h => ?_⟩
  unfold nxL at h
  split at h
  · rename_i xs g
    obtain ⟨vs, e, rs⟩ := S.lst g
    rw [L.eq i hi] at e
    have hq : SqL Z.K H (μ0 i) vs := SqL.of e
    rw [nthD_eq] at h
    split at h
    · rename_i d hd
      obtain ⟨v, hv, rv⟩ := rs.get hd
      refine .inr ⟨d, [], h, True.intro, ⟨vs, v, hq, hv⟩, fun x' H' hy => ?_⟩
      obtain ⟨rfl, hy⟩ := hy
      have := hy vs hq
      rw [hv] at this
      cases this
      exact ⟨fun _ _ e => e, rv⟩
    · rename_i hd
      refine .inl ⟨h, vs, hq, ?_⟩
      rw [← rs.length]
      exact List.getElem?_eq_none_iff.mp hd
  · cases h
theorem wok_R {lo st : Int} {n : Nat} : WlkOk Z (Itc lo st n) (nxR lo st n) [] μ0 m0 H0 := by
  refine ⟨fun _ _ => True, True.intro, fun j c μ m H ks ki _ L S h => ?_⟩
  unfold nxR at h
  rw [blt_iff] at h
  by_cases hj : j < n
  · rw [decide_eq_true hj] at h
    dsimp only at h
    rw [frc_eq] at h
    exact .inr ⟨_, [], h, True.intro, hj, fun x' H' hy => by
      obtain ⟨rfl, rfl⟩ := hy
      exact ⟨fun _ _ e => e, .int⟩⟩
  · rw [decide_eq_false hj] at h
    exact .inl ⟨h, Nat.le_of_not_lt hj⟩
theorem wok_R1 {lo : Int} {n : Nat} : WlkOk Z (Itr lo n) (nxR lo 1 n) [] μ0 m0 H0 := by
  refine ⟨fun _ _ => True, True.intro, fun j c μ m H ks ki _ L S h => ?_⟩
  unfold nxR at h
  rw [blt_iff] at h
  by_cases hj : j < n
  · rw [decide_eq_true hj] at h
    dsimp only at h
    rw [frc_eq, Int.mul_one] at h
    exact .inr ⟨_, [], h, True.intro, hj, fun x' H' hy => by
      obtain ⟨rfl, rfl⟩ := hy
      exact ⟨fun _ _ e => e, .int⟩⟩
  · rw [decide_eq_false hj] at h
    exact .inl ⟨h, Nat.le_of_not_lt hj⟩
/-- a row of items by its place -/
def SrOk (Z : Wd) (s : Sr) (a : Addr) (μ0 : Nat → Addr) (m0 : M) (H0 : Hp) : Prop := match s with
  | .l i => i < m0.n ∧ a = μ0 i
  | .t xs => ∃ vs, SqT Z.K H0 a vs ∧ Reps Z μ0 m0.n H0 xs vs
theorem sr_rep {s : Sr} {a : Addr} {xs : List D} (o : SrOk Z s a μ0 m0 H0) (L : Lt μ0 m0 H0 μ m H) (S : Sim Z μ m H) (h : srGet s m = some xs) : ∃ vs, SqB (srB s) Z.K H a vs ∧ Reps Z μ m.n H xs vs := by
  cases s with
  | l i =>
    obtain ⟨hi, rfl⟩ := o
    unfold srGet at h
    dsimp only at h
    split at h
    · rename_i ys g
      cases h
      obtain ⟨vs, e, rs⟩ := S.lst g
      rw [L.eq i hi] at e
      exact ⟨vs, SqL.of e, rs⟩
    · cases h
  | t ys =>
    obtain ⟨vs, hq, rs⟩ := o
    cases h
    exact ⟨vs, L.toLe.sqT hq, rs.mono L.toLe⟩
theorem pair_rep {T : Addr} {d e : D} {x y : V} (hT : H T = none) (rd : Rep Z μ m.n H d x) (re : Rep Z μ m.n H e y) : Rep Z μ m.n (upd H T (.tup [x, y])) (.tup [d, e]) (.ref T) := by
  have L : Le μ m.n H μ m.n (upd H T (.tup [x, y])) := Le.ofKp (kp_upd hT) (Nat.le_refl _) fun _ _ => rfl
  exact .tup (SqT.of upd_same) (.cons (rd.mono L) (.cons (re.mono L) .nil))
theorem wok_E {s : Sr} {a : Addr} (o : SrOk Z s a μ0 m0 H0) : WlkOk Z (IteB (srB s) Z.K a) (nxE s) [] μ0 m0 H0 := by
  refine ⟨fun _ _ => True, True.intro, fun j c μ m H ks ki _ L S h => ?_⟩
  unfold nxE at h
  split at h
  · rename_i xs g
    obtain ⟨vs, hq, rs⟩ := sr_rep o L S g
    rw [nthD_eq] at h
    split at h
    · rename_i d hd
      obtain ⟨v, hv, rv⟩ := rs.get hd
      refine .inr ⟨_, [], h, True.intro, ⟨vs, v, hq, hv⟩, fun x' H' hy => ?_⟩
      obtain ⟨T, x, rfl, hT, rfl, hy⟩ := hy
      have := hy vs hq
      rw [hv] at this
      cases this
      exact ⟨kp_upd hT, pair_rep hT .int rv⟩
    · obtain ⟨h1, h2⟩ := and2 h
      exact .inl ⟨h2, vs, hq, by rw [← rs.length]; exact (Nat.eq_of_beq_eq_true h1).symm⟩
  · cases h
theorem wok_Z {s t : Sr} {a b : Addr} (o : SrOk Z s a μ0 m0 H0) (o2 : SrOk Z t b μ0 m0 H0) : WlkOk Z (ItzB (srB s) (srB t) Z.K a b) (nxZ s t) [] μ0 m0 H0 := by
  refine ⟨fun _ _ => True, True.intro, fun j c μ m H ks ki _ L S h => ?_⟩
  unfold nxZ at h
  split at h
  · rename_i xs g
    split at h
    · rename_i ys g2
      obtain ⟨vs, hq, rs⟩ := sr_rep o L S g
      obtain ⟨ws, hq2, rs2⟩ := sr_rep o2 L S g2
      have fin : (Nat.ble j xs.length && (Nat.ble j ys.length && ks)) = true → (xs[j]? = none ∨ ys[j]? = none) → ks = true ∧ (ItzB (srB s) (srB t) Z.K a b).stop j H := fun e hn => by
        obtain ⟨h1, e⟩ := and2 e
        obtain ⟨h2, e⟩ := and2 e
        have h1 := Nat.le_of_ble_eq_true h1
        have h2 := Nat.le_of_ble_eq_true h2
        refine ⟨e, vs, ws, hq, hq2, by rw [← rs.length]; exact h1, by rw [← rs2.length]; exact h2, ?_⟩
        rw [← rs.length, ← rs2.length]
        rcases hn with hn | hn
        · have := List.getElem?_eq_none_iff.mp hn
          exact .inl (by omega)
        · have := List.getElem?_eq_none_iff.mp hn
          exact .inr (by omega)
      rw [nthD_eq] at h
      split at h
      · rename_i d hd
        rw [nthD_eq] at h
        split at h
        · rename_i e he
          obtain ⟨v, hv, rv⟩ := rs.get hd
          obtain ⟨w, hw, rw'⟩ := rs2.get he
          refine .inr ⟨_, [], h, True.intro, ⟨vs, ws, v, w, hq, hq2, hv, hw⟩, fun x' H' hy => ?_⟩
          obtain ⟨T, x, y, rfl, hT, rfl, hy1, hy2⟩ := hy
          have e1 := hy1 vs hq
          have e2 := hy2 ws hq2
          rw [hv] at e1
          rw [hw] at e2
          cases e1
          cases e2
          exact ⟨kp_upd hT, pair_rep hT rv rw'⟩
        · rename_i he
          exact .inl (fin h (.inr he))
      · rename_i hd
        exact .inl (fin h (.inl hd))
    · cases h
  · cases h
end

def nxEZ (s t : Sr) : Wlk := fun i c m ks ki => nxZ s t i c m ks fun d c' => ki (.tup [.int (.ofNat i), d]) c'
theorem wok_EZ {Z : Wd} {μ0 : Nat → Addr} {m0 : M} {H0 : Hp} {s t : Sr} {a b : Addr} (o : SrOk Z s a μ0 m0 H0) (o2 : SrOk Z t b μ0 m0 H0) : WlkOk Z (ItezB (srB s) (srB t) Z.K a b) (nxEZ s t) [] μ0 m0 H0 := by
  obtain ⟨Iv, h0, hs⟩ := wok_Z o o2
  refine ⟨Iv, h0, fun j c μ m H ks ki hc L S h => ?_⟩
  rcases hs j c μ m H ks _ hc L S h with h | ⟨d, c', hk, hI, hg, hy⟩
  · exact .inl h
  · refine .inr ⟨_, c', hk, hI, hg, fun x' H' y => ?_⟩
    obtain ⟨T, U, x, y, rfl, hT, hU, ne, rfl, y1, y2⟩ := y
    obtain ⟨k1, r1⟩ := hy (.ref T) (upd H T (.tup [x, y])) ⟨T, x, y, rfl, hT, rfl, y1, y2⟩
    have hU' : upd H T (.tup [x, y]) U = none := by rw [upd_ne ne]; exact hU
    exact ⟨fun q o e => kp_upd hU' q o (k1 q o e), pair_rep hU' .int r1⟩

/-! ### iterables -/
/-- the value of an expression, walked: a list or a tuple -/
def seqI (e : SemE) : SemI := fun ρ m k kx => e ρ m (fun d m1 => match d with
  | .tup xs => k nxT xs m1
  | .frl xs => k nxT xs m1
  | .ref a => (match m1.get a with | some (.lst _) => k (nxL a) [] m1 | _ => false)
  | _ => false) kx
/-- bounds within which a range is asked -/
def rgOk (i : Int) : Bool := ileB (-1000000000) i && ileB i 1000000000
theorem rgOk_ok {i : Int} (h : rgOk i = true) : -1000000000 ≤ i ∧ i ≤ 1000000000 := by
  unfold rgOk at h
  rw [ileB_eq, ileB_eq] at h
  simpa using h
def toNatB (i : Int) (k : Nat → Bool) : Bool := match i with | .ofNat n => k n | .negSucc _ => k 0
theorem toNatB_eq (i : Int) (k : Nat → Bool) : toNatB i k = k i.toNat := by cases i <;> rfl
def rng1I (a : SemA) : SemI := fun ρ m k kx => a ρ m (fun xs m1 => match xs with
  | [.int j] => rgOk j && toNatB j fun n => k (nxR 0 1 n) [] m1
  | _ => false) kx
def rng2I (a : SemA) : SemI := fun ρ m k kx => a ρ m (fun xs m1 => match xs with
  | [.int i, .int j] => rgOk i && (rgOk j && toNatB (j - i) fun n => k (nxR i 1 n) [] m1)
  | _ => false) kx
def rng3I (a : SemA) : SemI := fun ρ m k kx => a ρ m (fun xs m1 => match xs with
  | [.int i, .int j, .int (.negSucc 0)] => rgOk i && (rgOk j && toNatB (i - j) fun n => k (nxR i (-1) n) [] m1)
  | [.int i, .int j, .int (.ofNat (c + 1))] => Nat.ble c LIM && (Builtin.Range.small i j (.ofNat (c + 1)) && toNatB (Builtin.Range.rangeSize i j (.ofNat (c + 1))) fun n => k (nxR i (.ofNat (c + 1)) n) [] m1)
  | _ => false) kx
def srOf (d : D) (m : M) : Option Sr := match d with
  | .tup xs => some (.t xs)
  | .ref a => (match m.get a with | some (.lst _) => some (.l a) | _ => none)
  | _ => none
def enuI (a : SemA) : SemI := fun ρ m k kx => a ρ m (fun xs m1 => match xs with
  | [d] => (match srOf d m1 with | some s => k (nxE s) [] m1 | none => false)
  | _ => false) kx
def zipI (a : SemA) : SemI := fun ρ m k kx => a ρ m (fun xs m1 => match xs with
  | [d, e] => (match srOf d m1 with | some s => (match srOf e m1 with | some t => k (nxZ s t) [] m1 | none => false) | none => false)
  | _ => false) kx
def enzI (a : SemA) : SemI := fun ρ m k kx => a ρ m (fun xs m1 => match xs with
  | [d, e] => (match srOf d m1 with | some s => (match srOf e m1 with | some t => k (nxEZ s t) [] m1 | none => false) | none => false)
  | _ => false) kx
section
variable {X : Cx} {Z : Wd} {W : WX} {tg e e2 : Expr} {ta : SemE} {ts : SemA} {p p2 pos pos2 tpos : Pos} {elts : List Expr} {kk : Nat}
theorem _root_.L2.PI.imp {t t' : TI} (h : PI X tg e t) (i : ∀ σ H R, t' σ H R → t σ H R) : PI X tg e t' := ⟨fun pins s σ H R I q => h.run pins s σ H R I (i σ H R q)⟩
theorem srOf_rep {μ : Nat → Addr} {m : M} {H : Hp} {d : D} {v : V} {s : Sr} (S : Sim Z μ m H) (r : Rep Z μ m.n H d v) (h : srOf d m = some s) : ∃ a, v = .ref a ∧ SrOk Z s a μ m H ∧ ∃ vs, SqB (srB s) Z.K H a vs := by
  cases r with
  | tup hq rs =>
    cases h
    exact ⟨_, rfl, ⟨_, hq, rs⟩, _, hq⟩
  | ref hi =>
    unfold srOf at h
    dsimp only at h
    split at h
    · rename_i ys g
      cases h
      obtain ⟨vs, e, rs⟩ := S.lst g
      exact ⟨_, rfl, ⟨hi, rfl⟩, vs, SqL.of e⟩
    · cases h
  | _ => cases h
theorem i_seq (hK : X.K = Z.K) (he : PE X e (tI Z W ta)) : PI X tg e (tIt Z W (seqI ta)) := by
  refine ⟨fun pins s σ H R I h => ?_⟩
  obtain ⟨μ, m, ρ, k, kx, S, ER, t, P, XP⟩ := h
  refine thn (he.run pins s σ H (fun v H1 => ∃ a, v = .ref a ∧ ((∃ vs, SqL X.K H1 a vs) ∧ R (Itl X.K a) H1 ∨ (∃ vs, SqT X.K H1 a vs) ∧ R (Itt X.K a) H1)) I ⟨μ, m, ρ, _, kx, S, ER, t, fun μ1 m1 H1 d v L S1 R1 e1 => ?_, XP⟩) fun v s1 q => ?_
  · rw [hK]
    cases R1 with
    | tup hq rs => exact ⟨_, rfl, .inr ⟨⟨_, hq⟩, P _ _ _ _ _ _ L S1 (wok_T hq rs) e1⟩⟩
    | frl hq rs => exact ⟨_, rfl, .inl ⟨⟨_, hq.sq⟩, P _ _ _ _ _ _ L S1 (wok_F hq rs) e1⟩⟩
    | ref hi =>
      dsimp only at e1
      split at e1
      · rename_i xs g
        obtain ⟨vs, e, rs⟩ := S1.lst g
        exact ⟨_, rfl, .inl ⟨⟨vs, SqL.of e⟩, P _ _ _ _ _ _ L S1 (wok_L hi) e1⟩⟩
      · cases e1
    | _ => cases e1
  · obtain ⟨x, H1, I1, r1, a, e, q⟩ := q
    subst e
    cases r1
    rcases q with ⟨⟨xs, hq⟩, q⟩ | ⟨⟨xs, hq⟩, q⟩
    · obtain ⟨its, rv, p, hz⟩ := I1.list hq
      exact wpAny_pyIter_list p.isList (pi_one (tk := s1.toks) I1 _ (turn_list a _) ⟨_, Heap.get?_push_size _ rfl, rfl, rfl⟩ q)
    · obtain ⟨its, rv, p, hz⟩ := I1.tuple hq
      exact wpAny_pyIter_tuple (show s1.heap.IsTuple a its.toArray from p) (pi_one (tk := s1.toks) I1 _ (turn_tuple a _) ⟨_, Heap.get?_push_size _ rfl, rfl, rfl⟩ q)
theorem i_rng1 (hg : Gl X "range") (hm : X.mg "range" = none) (ha : PA X [e] (tA Z W ts)) (hs : starEach [e] X.env = [(false, eval e X.env)]) : PI X tg (.Call (.Name "range" p) [e] [] pos) (tIt Z W (rng1I ts)) :=
  (pi_range1 hg hm ha hs).imp fun σ H R ⟨μ, m, ρ, k, kx, S, ER, t, P, XP⟩ => ⟨μ, m, ρ, _, kx, S, ER, t, fun μ1 m1 H1 ds vs L S1 R1 e1 => (by
    dsimp only at e1
    split at e1
    · cases R1 with
      | cons r rs =>
        cases rs
        cases r
        obtain ⟨h1, h2⟩ := and2 e1
        obtain ⟨h3, h4⟩ := rgOk_ok h1
        rw [toNatB_eq] at h2
        exact ⟨_, rfl, by omega, by omega, P _ _ _ _ _ _ L S1 wok_R1 h2⟩
    · cases e1), XP⟩
theorem i_rng2 (hg : Gl X "range") (hm : X.mg "range" = none) (ha : PA X [e, e2] (tA Z W ts)) (hs : starEach [e, e2] X.env = [(false, eval e X.env), (false, eval e2 X.env)]) (hs2 : starEach [e2] X.env = [(false, eval e2 X.env)]) :
    PI X tg (.Call (.Name "range" p) [e, e2] [] pos) (tIt Z W (rng2I ts)) :=
  (pi_range2 hg hm ha hs hs2).imp fun σ H R ⟨μ, m, ρ, k, kx, S, ER, t, P, XP⟩ => ⟨μ, m, ρ, _, kx, S, ER, t, fun μ1 m1 H1 ds vs L S1 R1 e1 => (by
    dsimp only at e1
    split at e1
    · cases R1 with
      | cons r rs =>
        cases rs with
        | cons r2 rs =>
          cases rs
          cases r
          cases r2
          obtain ⟨h1, h2⟩ := and2 e1
          obtain ⟨h3, h2⟩ := and2 h2
          obtain ⟨a1, a2⟩ := rgOk_ok h1
          obtain ⟨b1, b2⟩ := rgOk_ok h3
          rw [toNatB_eq] at h2
          exact ⟨_, _, rfl, ⟨by omega, by omega, by omega, by omega⟩, P _ _ _ _ _ _ L S1 wok_R1 h2⟩
    · cases e1), XP⟩
theorem i_rng3 {e3 : Expr} (hg : Gl X "range") (hm : X.mg "range" = none) (ha : PA X [e, e2, e3] (tA Z W ts)) (hs : starEach [e, e2, e3] X.env = (false, eval e X.env) :: starEach [e2, e3] X.env) (hpl : (backTo pos (starEach [e2, e3] X.env)).any (·.1) = false) :
    PI X tg (.Call (.Name "range" p) [e, e2, e3] [] pos) (tIt Z W (rng3I ts)) :=
  (pi_range3 hg hm ha hs hpl).imp fun σ H R ⟨μ, m, ρ, k, kx, S, ER, t, P, XP⟩ => ⟨μ, m, ρ, _, kx, S, ER, t, fun μ1 m1 H1 ds vs L S1 R1 e1 => (by
    dsimp only at e1
    split at e1
    · cases R1 with
      | cons r rs =>
        cases rs with
        | cons r2 rs =>
          cases rs with
          | cons r3 rs =>
            cases rs
            cases r
            cases r2
            cases r3
            obtain ⟨h1, h2⟩ := and2 e1
            obtain ⟨h3, h2⟩ := and2 h2
            obtain ⟨a1, a2⟩ := rgOk_ok h1
            obtain ⟨b1, b2⟩ := rgOk_ok h3
            rw [toNatB_eq] at h2
            exact ⟨_, _, _, _, rfl, RgC.neg (by omega) (by omega) (by omega) (by omega), P _ _ _ _ _ _ L S1 wok_R h2⟩
    · rename_i i j c
      cases R1 with
      | cons r rs =>
        cases rs with
        | cons r2 rs =>
          cases rs with
          | cons r3 rs =>
            cases rs
            cases r
            cases r2
            cases r3
            obtain ⟨h1, h2⟩ := and2 e1
            obtain ⟨h3, h2⟩ := and2 h2
            rw [toNatB_eq] at h2
            have hc := Nat.le_of_ble_eq_true h1
            have hl : LIM = 100000 := rfl
            exact ⟨_, _, _, _, rfl, ⟨fun z => (by cases z), by show c + 1 < 1073741824; omega, h3, PyProof.Rows.rangeSize_toNat _ _ _⟩, P _ _ _ _ _ _ L S1 wok_R h2⟩
    · cases e1), XP⟩
theorem i_enu (hK : X.K = Z.K) (hg : Gl X "enumerate") (hm : X.mg "enumerate" = none) (ha : PA X [e] (tA Z W ts)) (hs : starEach [e] X.env = [(false, eval e X.env)]) : PI X (.Tuple elts kk tpos) (.Call (.Name "enumerate" p) [e] [] pos) (tIt Z W (enuI ts)) := by
  refine ⟨fun pins s σ H R I h => ?_⟩
  obtain ⟨μ, m, ρ, k, kx, S, ER, t, P, XP⟩ := h
  refine Call_ (ld_blt I hg hm boot_enumerate (PyProof.Rows.callWith_type1 (thn (ha.run pos pins s σ H (fun vs H1 => ∃ a b xs, vs = [.ref a] ∧ SqB b X.K H1 a xs ∧ R (IteB b X.K a) H1) I ⟨μ, m, ρ, _, kx, S, ER, t, fun μ1 m1 H1 ds vs L S1 R1 e1 => ?_, XP⟩) fun us s1 q => ?_) hs rfl))
  · rw [hK]
    dsimp only at e1
    split at e1
    · split at e1
      · rename_i sr hsr
        cases R1 with
        | cons r rs =>
          cases rs
          obtain ⟨a, rfl, ho, xs, hq⟩ := srOf_rep S1 r hsr
          exact ⟨a, _, xs, rfl, hq, P _ _ _ _ _ _ L S1 (wok_E ho) e1⟩
      · cases e1
    · cases e1
  · obtain ⟨vs, H1, I1, r1, a, b, xs, ex, hq, q⟩ := q
    subst ex
    cases r1 with
    | cons r rr =>
      cases rr
      cases r
      obtain ⟨its, rv, p'⟩ := seqB I1 hq
      have la := isB_lt p'
      refine enum_begins1 (beginsB b a its.toArray) p' fun h' he hit hsz hk => wpAny_pyIter_enum he ?_
      have I2 : Inv X pins σ H1 { s1 with heap := h' } := I1.kept (t' := s1.toks) hk
      refine ⟨s1.heap.objs.size + 1, [s1.heap.objs.size + 1, s1.heap.objs.size], _, _, H1, rfl, I2, turn_enumB b a (s1.heap.objs.size + 1) s1.heap.objs.size, ⟨⟨.none, he⟩, obB_iter hit, Nat.succ_ne_self _, Nat.ne_of_lt la, Nat.ne_of_lt (Nat.lt_succ_of_lt la)⟩, fun b hb => ?_, q⟩
      have e' : b = s1.heap.objs.size + 1 ∨ b = s1.heap.objs.size := by simpa using hb
      have hle : s1.heap.objs.size ≤ b := by
        rcases e' with z | z
        · rw [z]; exact Nat.le_add_right _ _
        · rw [z]; exact Nat.le_refl _
      exact I1.fpOk hle (I1.hok.fresh hle)
theorem i_zip (hK : X.K = Z.K) (hg : Gl X "zip") (hm : X.mg "zip" = none) (ha : PA X [e, e2] (tA Z W ts)) (hs : starEach [e, e2] X.env = (false, eval e X.env) :: starEach [e2] X.env) (hpl : (backTo pos (starEach [e2] X.env)).any (·.1) = false) :
    PI X (.Tuple elts kk tpos) (.Call (.Name "zip" p) [e, e2] [] pos) (tIt Z W (zipI ts)) := by
  refine ⟨fun pins s σ H R I h => ?_⟩
  obtain ⟨μ, m, ρ, k, kx, S, ER, t, P, XP⟩ := h
  refine Call_ (ld_blt I hg hm PyProof.Rows.boot_zip (PyProof.Rows.callWith_type1 (thn (ha.run pos pins s σ H (fun vs H1 => ∃ a b c d xs ys, vs = [.ref a, .ref b] ∧ SqB c X.K H1 a xs ∧ SqB d X.K H1 b ys ∧ R (ItzB c d X.K a b) H1) I ⟨μ, m, ρ, _, kx, S, ER, t, fun μ1 m1 H1 ds vs L S1 R1 e1 => ?_, XP⟩) fun us s1 q => ?_) hs hpl))
  · rw [hK]
    dsimp only at e1
    split at e1
    · split at e1
      · rename_i sr hsr
        split at e1
        · rename_i sr2 hsr2
          cases R1 with
          | cons r rs =>
            cases rs with
            | cons r2 rs =>
              cases rs
              obtain ⟨a, rfl, ho, xs, hq⟩ := srOf_rep S1 r hsr
              obtain ⟨b, rfl, ho2, ys, hq2⟩ := srOf_rep S1 r2 hsr2
              exact ⟨a, b, _, _, xs, ys, rfl, hq, hq2, P _ _ _ _ _ _ L S1 (wok_Z ho ho2) e1⟩
        · cases e1
      · cases e1
    · cases e1
  · obtain ⟨vs, H1, I1, r1, a, b, c, d, xs, ys, ex, hqx, hqy, q⟩ := q
    subst ex
    cases r1 with
    | cons r rr =>
      cases rr with
      | cons r' rr =>
        cases rr
        cases r
        cases r'
        obtain ⟨its, rv, p1⟩ := seqB I1 hqx
        obtain ⟨its2, rv2, p2⟩ := seqB I1 hqy
        have la := isB_lt p1
        have lb := isB_lt p2
        refine zip_begins2 (beginsB c a its.toArray) (beginsB d b its2.toArray) p1 p2 fun h' hz hTI hTO h1 h2 hsz hk => wpAny_pyIter_zip hz ?_
        have I2 : Inv X pins σ H1 { s1 with heap := h' } := I1.kept (t' := s1.toks) hk
        have D := zip_sep2 (N := s1.heap.objs.size) (fp1 := [a]) (fp2 := [b]) (fun z hz => by rw [List.mem_singleton.mp hz]; exact la) (fun z hz => by rw [List.mem_singleton.mp hz]; exact lb)
        refine ⟨s1.heap.objs.size + 4, [s1.heap.objs.size + 4, s1.heap.objs.size + 2, s1.heap.objs.size + 3, s1.heap.objs.size, s1.heap.objs.size + 1], _, _, H1, rfl, I2, turn_zipB c d D, ⟨hz, hTI, ⟨_, _, hTO⟩, obB_iter h1, obB_iter h2, Nat.ne_of_lt la, Nat.ne_of_lt (Nat.lt_succ_of_lt lb)⟩, fun c hcm => ?_, q⟩
        have e' : c = s1.heap.objs.size + 4 ∨ c = s1.heap.objs.size + 2 ∨ c = s1.heap.objs.size + 3 ∨ c = s1.heap.objs.size ∨ c = s1.heap.objs.size + 1 := by simpa using hcm
        have hle : s1.heap.objs.size ≤ c := by
          rcases e' with z | z | z | z | z
          · rw [z]; exact Nat.le_add_right _ _
          · rw [z]; exact Nat.le_add_right _ _
          · rw [z]; exact Nat.le_add_right _ _
          · rw [z]; exact Nat.le_refl _
          · rw [z]; exact Nat.le_add_right _ _
        exact I1.fpOk hle (I1.hok.fresh hle)
theorem i_enz (hK : X.K = Z.K) (hg : Gl X "enumerate") (hm : X.mg "enumerate" = none) (hg2 : Gl X "zip") (hm2 : X.mg "zip" = none) (ha : PA X [e, e2] (tA Z W ts)) (hs0 : starEach [.Call (.Name "zip" p2) [e, e2] [] pos2] X.env = [(false, eval (.Call (.Name "zip" p2) [e, e2] [] pos2) X.env)])
    (hs : starEach [e, e2] X.env = (false, eval e X.env) :: starEach [e2] X.env) (hpl : (backTo pos2 (starEach [e2] X.env)).any (·.1) = false) :
    PI X (.Tuple elts kk tpos) (.Call (.Name "enumerate" p) [.Call (.Name "zip" p2) [e, e2] [] pos2] [] pos) (tIt Z W (enzI ts)) := by
  refine ⟨fun pins s σ H R I h => ?_⟩
  obtain ⟨μ, m, ρ, k, kx, S, ER, t, P, XP⟩ := h
  refine Call_ (ld_blt I hg hm boot_enumerate (PyProof.Rows.callWith_type1 (args_cons (Call_ (ld_blt I hg2 hm2 PyProof.Rows.boot_zip (PyProof.Rows.callWith_type1 (thn (ha.run pos2 pins s σ H (fun vs H1 => ∃ a b c d xs ys, vs = [.ref a, .ref b] ∧ SqB c X.K H1 a xs ∧ SqB d X.K H1 b ys ∧ R (ItezB c d X.K a b) H1) I ⟨μ, m, ρ, _, kx, S, ER, t, fun μ1 m1 H1 ds vs L S1 R1 e1 => ?_, XP⟩) fun us s1 q => ?_) hs hpl))) hs0) hs0 rfl))
  · rw [hK]
    dsimp only at e1
    split at e1
    · split at e1
      · rename_i sr hsr
        split at e1
        · rename_i sr2 hsr2
          cases R1 with
          | cons r rs =>
            cases rs with
            | cons r2 rs =>
              cases rs
              obtain ⟨a, rfl, ho, xs, hq⟩ := srOf_rep S1 r hsr
              obtain ⟨b, rfl, ho2, ys, hq2⟩ := srOf_rep S1 r2 hsr2
              exact ⟨a, b, _, _, xs, ys, rfl, hq, hq2, P _ _ _ _ _ _ L S1 (wok_EZ ho ho2) e1⟩
        · cases e1
      · cases e1
    · cases e1
  · obtain ⟨vs, H1, I1, r1, a, b, c, d, xs, ys, ex, hqx, hqy, q⟩ := q
    subst ex
    cases r1 with
    | cons r rr =>
      cases rr with
      | cons r' rr =>
        cases rr
        cases r
        cases r'
        obtain ⟨its, rv, p1⟩ := seqB I1 hqx
        obtain ⟨its2, rv2, p2⟩ := seqB I1 hqy
        have la := isB_lt p1
        have lb := isB_lt p2
        refine zip_begins2 (beginsB c a its.toArray) (beginsB d b its2.toArray) p1 p2 fun h' hz hTI hTO h1 h2 hsz hk => args_nil ?_
        refine enum_own (s := { s1 with heap := h' }) (H := fun h => IsZip h (s1.heap.objs.size + 4) (s1.heap.objs.size + 2) (s1.heap.objs.size + 3) .none) (fun _ _ _ _ _ _ g q => wpAny_pyIter_zip g q) hz fun he => ?_
        have sz : h'.objs.size = s1.heap.objs.size + 5 := hsz
        have k2 : ∀ b o, h'.get? b = some o → (h'.push { cls := .type "enumerate", data := .fields #[.none, .bool false, .ref (s1.heap.objs.size + 4), rawInt 0, .none, .none] }).get? b = some o := fun b o g => Heap.get?_push_of_some _ g
        have I2 : Inv X pins σ H1 { s1 with heap := h'.push { cls := .type "enumerate", data := .fields #[.none, .bool false, .ref (s1.heap.objs.size + 4), rawInt 0, .none, .none] } } := I1.kept (t' := s1.toks) fun b o g => k2 b o (hk b o g)
        have D := zip_sep2 (N := s1.heap.objs.size) (fp1 := [a]) (fp2 := [b]) (fun z hz => by rw [List.mem_singleton.mp hz]; exact la) (fun z hz => by rw [List.mem_singleton.mp hz]; exact lb)
        show wpAny _ _ (pyIter (.ref h'.objs.size)) _ _ _
        have he' : IsEnum (h'.push { cls := .type "enumerate", data := .fields #[.none, .bool false, .ref (s1.heap.objs.size + 4), rawInt 0, .none, .none] }) (s1.heap.objs.size + 5) (s1.heap.objs.size + 4) 0 .none := by rw [← sz]; exact he
        rw [sz]
        have ne : ∀ n k : Nat, n ≠ k → s1.heap.objs.size + n ≠ s1.heap.objs.size + k := fun n k h q => h (Nat.add_left_cancel q)
        refine wpAny_pyIter_enum he' ?_
        refine ⟨s1.heap.objs.size + 5, [s1.heap.objs.size + 5, s1.heap.objs.size + 4, s1.heap.objs.size + 2, s1.heap.objs.size + 3, s1.heap.objs.size, s1.heap.objs.size + 1], _, _, H1, rfl, I2, turn_ez c d D (ne 5 4 (by decide)) (ne 5 2 (by decide)) (ne 5 3 (by decide)) (ne 5 0 (by decide)) (ne 5 1 (by decide)), ⟨⟨.none, he'⟩, .inl (k2 _ _ hz), k2 _ _ hTI, ⟨_, _, k2 _ _ hTO⟩, itB_at (obB_iter h1) fun o g => k2 _ _ g, itB_at (obB_iter h2) fun o g => k2 _ _ g, Nat.ne_of_lt la, Nat.ne_of_lt (Nat.lt_succ_of_lt lb)⟩, fun c hcm => ?_, q⟩
        have e' : c = s1.heap.objs.size + 5 ∨ c = s1.heap.objs.size + 4 ∨ c = s1.heap.objs.size + 2 ∨ c = s1.heap.objs.size + 3 ∨ c = s1.heap.objs.size ∨ c = s1.heap.objs.size + 1 := by simpa using hcm
        have hle : s1.heap.objs.size ≤ c := by
          rcases e' with z | z | z | z | z | z
          · rw [z]; exact Nat.le_add_right _ _
          · rw [z]; exact Nat.le_add_right _ _
          · rw [z]; exact Nat.le_add_right _ _
          · rw [z]; exact Nat.le_add_right _ _
          · rw [z]; exact Nat.le_refl _
          · rw [z]; exact Nat.le_add_right _ _
        exact I1.fpOk hle (I1.hok.fresh hle)
end
end
end Ev

set_option Elab.async false
set_option linter.all false
set_option maxRecDepth 100000
set_option maxHeartbeats 1000000
/-! Ev13: targets, statements, loops. -/
namespace Ev
open PySem PySem.Spec PyProof.Rows L2 HT
noncomputable section

abbrev KN := Env → M → Bool
abbrev KX := Nat → Env → M → Bool
/-- a statement: next, break, continue, return, raise -/
abbrev SemS := Env → M → KN → KN → KN → Kc → KX → Bool
abbrev SemG := D → Env → M → (Env → Bool) → Bool
abbrev SemGs := List D → Env → M → (Env → Bool) → Bool
section
variable (Z : Wd)
def PostS (μ : Nat → Addr) (m : M) (H : Hp) (k : KN) (Q : L2.St → Hp → Prop) : Prop := ∀ μ' m' H' ρ' σ', Lt μ m H μ' m' H' → Sim Z μ' m' H' → EnvRep Z μ' m'.n H' ρ' σ' → k ρ' m' = true → Q σ' H'
def XPostS (μ : Nat → Addr) (m : M) (H : Hp) (kx : KX) (W : WX) : Prop := ∀ μ' m' H' c ρ' σ', Lt μ m H μ' m' H' → Sim Z μ' m' H' → EnvRep Z μ' m'.n H' ρ' σ' → kx c ρ' m' = true → W (Z.cls c) none σ' H'
def tS (W : WX) (t : SemS) : TS := fun D σ H => ∃ μ m ρ nx bk ct rt kx, Sim Z μ m H ∧ EnvRep Z μ m.n H ρ σ ∧ t ρ m nx bk ct rt kx = true ∧
  PostS Z μ m H nx D.nx ∧ PostS Z μ m H bk D.bk ∧ PostS Z μ m H ct D.ct ∧ Post Z μ m H rt D.rt ∧ XPostS Z μ m H kx W
def tG (ts : List Nat) (t : SemG) : TG := fun v σ H Q => ∃ μ m ρ d k, Sim Z μ m H ∧ EnvRep Z μ m.n H ρ σ ∧ Rep Z μ m.n H d v ∧ t d ρ m k = true ∧
  ∀ σ' ρ', EnvRep Z μ m.n H ρ' σ' → (∀ vs : List Nat, (∀ i ∈ ts, i ∈ vs) → wipe σ' vs = wipe σ vs) → k ρ' = true → Q σ' H
def tGs (ts : List Nat) (t : SemGs) : TGs := fun vs σ H Q => ∃ μ m ρ ds k, Sim Z μ m H ∧ EnvRep Z μ m.n H ρ σ ∧ Reps Z μ m.n H ds vs ∧ t ds ρ m k = true ∧
  ∀ σ' ρ', EnvRep Z μ m.n H ρ' σ' → (∀ vs : List Nat, (∀ i ∈ ts, i ∈ vs) → wipe σ' vs = wipe σ vs) → k ρ' = true → Q σ' H
end
section
variable {Z : Wd} {μ μ' : Nat → Addr} {m m' : M} {H H' : Hp} {W : WX} {σ : L2.St} {ρ : Env}
theorem PostS.after {k : KN} {Q : L2.St → Hp → Prop} (P : PostS Z μ m H k Q) (l : Lt μ m H μ' m' H') : PostS Z μ' m' H' k Q := fun μ2 m2 H2 ρ' σ' l2 => P μ2 m2 H2 ρ' σ' (l.trans l2)
theorem XPostS.after {kx : KX} (P : XPostS Z μ m H kx W) (l : Lt μ m H μ' m' H') : XPostS Z μ' m' H' kx W := fun μ2 m2 H2 c ρ' σ' l2 => P μ2 m2 H2 c ρ' σ' (l.trans l2)
theorem XPostS.ex {kx : KX} (P : XPostS Z μ m H kx W) (ER : EnvRep Z μ m.n H ρ σ) : XPost Z μ m H (fun c m => kx c ρ m) W σ := fun μ' m' H' c L S e => P μ' m' H' c ρ σ L S (ER.mono L.toLe) e
end

/-! ### targets -/
def setE (ρ : Env) (i : Nat) (d : D) : Env := match ρ with
  | [] => []
  | x :: r => match i with | 0 => d :: r | i + 1 => x :: setE r i d
theorem setE_eq : ∀ (ρ : Env) (i : Nat) (d : D), setE ρ i d = ρ.set i d
  | [], _, _ => rfl
  | x :: r, 0, d => rfl
  | x :: r, i + 1, d => by show x :: setE r i d = _; rw [setE_eq r i d]; rfl
def gNm (i : Nat) : SemG := fun d ρ _ k => k (setE ρ i d)
def gTp (gs : SemGs) (n : Nat) : SemG := fun d ρ m k => match d with
  | .tup xs => Nat.beq xs.length n && gs xs ρ m k
  | .ref a => (match m.get a with | some (.lst xs) => Nat.beq xs.length n && gs xs ρ m k | _ => false)
  | _ => false
def gsN : SemGs := fun ds ρ _ k => match ds with | [] => k ρ | _ => false
def gsC (g : SemG) (gs : SemGs) : SemGs := fun ds ρ m k => match ds with | [] => false | d :: r => g d ρ m fun ρ1 => gs r ρ1 m k
theorem wipe_set {σ : L2.St} {i : Nat} {x : Option V} : ∀ {vs : List Nat}, i ∈ vs → wipe (σ.set i x) vs = wipe σ vs
  | [], h => by cases h
  | v :: vs, h => by
    unfold wipe
    by_cases e : i ∈ vs
    · rw [wipe_set e]
    · have ev : i = v := by
        rcases List.mem_cons.mp h with h | h
        · exact h
        · exact absurd h e
      subst ev
      have : ∀ (vs : List Nat) (σ : L2.St), i ∉ vs → wipe (σ.set i x) vs = (wipe σ vs).set i x := by
        intro vs
        induction vs with
        | nil => intro σ _; rfl
        | cons w ws ih =>
          intro σ hn
          unfold wipe
          rw [ih σ (fun z => hn (List.mem_cons_of_mem _ z)), List.set_comm _ _ (fun z => hn (by rw [z]; exact List.mem_cons_self))]
      rw [this vs σ e, List.set_set]
section
variable {X : Cx} {Z : Wd} {W : WX} {pos : Pos}
theorem s_gNm {i : Nat} {x : Str} (hN : X.N.Nodup) (hi : X.N[i]? = some x) (hx : Loc X.env.scope x) (hf : X.fn x = true ∨ X.env.scope.names.lookup x = some .local) : PG X (.Name x pos) (tG Z [i] (gNm i)) := by
  have h := pg_name (pos := pos) hN hi hx hf
  refine ⟨fun pins s σ H v u Q I r ⟨μ, m, ρ, d, k, S, ER, R, t, P⟩ => h.run pins s σ H v u Q I r ?_⟩
  refine P _ (setE ρ i d) ?_ (fun vs hv => wipe_set (hv i List.mem_cons_self)) t
  rw [setE_eq]
  exact ER.set R i
theorem s_gsN : PGs X [] (tGs Z [] gsN) := by
  refine ⟨fun pins s σ H vs us Q I r ⟨μ, m, ρ, ds, k, S, ER, R, t, P⟩ => pgs_nil.run pins s σ H vs us Q I r ?_⟩
  unfold gsN at t
  split at t
  · cases R
    exact ⟨rfl, P σ ρ ER (fun _ _ => rfl) t⟩
  · cases t
theorem s_gsC {e : Expr} {es : List Expr} {g : SemG} {gs : SemGs} {ts us : List Nat} (h1 : PG X e (tG Z ts g)) (h2 : PGs X es (tGs Z us gs)) (hs : (assignEach (e :: es) X.env).map (·.2) = assign e X.env :: (assignEach es X.env).map (·.2)) :
    PGs X (e :: es) (tGs Z (ts ++ us) (gsC g gs)) := by
  have h := pgs_cons h1 h2 hs
  refine ⟨fun pins s σ H vs us Q I r ⟨μ, m, ρ, ds, k, S, ER, R, t, P⟩ => h.run pins s σ H vs us Q I r ?_⟩
  cases R with
  | nil => cases t
  | cons r1 rr =>
    refine ⟨_, _, rfl, μ, m, ρ, _, _, S, ER, r1, t, fun σ1 ρ1 E1 w1 e1 => ⟨μ, m, ρ1, _, k, S, E1, rr, e1, fun σ2 ρ2 E2 w2 e2 => P σ2 ρ2 E2 (fun vs hv => ?_) e2⟩⟩
    rw [w2 vs fun i hi => hv i (List.mem_append_right _ hi), w1 vs fun i hi => hv i (List.mem_append_left _ hi)]
theorem s_gTp {es : List Expr} {kk n : Nat} {gs : SemGs} {ts : List Nat} (hK : X.K = Z.K) (hc : X.calm = true) (h : PGs X es (tGs Z ts gs)) (hn : (assignEach es X.env).length = n) (hst : (assignEach es X.env).findIdx? (·.1) = none) : PG X (.Tuple es kk pos) (tG Z ts (gTp gs n)) := by
  have ht := pg_tup (pos := pos) (k := kk) hc h hn hst
  have hl := pg_lst (pos := pos) (k := kk) hc h hn hst
  refine ⟨fun pins s σ H v u Q I r ⟨μ, m, ρ, d, k, S, ER, R, t, P⟩ => ?_⟩
  cases R with
  | tup hq rs =>
    obtain ⟨t1, t2⟩ := and2 t
    exact ht.run pins s σ H _ u Q I r ⟨_, _, rfl, hK ▸ hq, by rw [← rs.length]; exact Nat.eq_of_beq_eq_true t1, μ, m, ρ, _, k, S, ER, rs, t2, P⟩
  | ref hi =>
    unfold gTp at t
    dsimp only at t
    split at t
    · rename_i xs g
      obtain ⟨vs, e, rs⟩ := S.lst g
      obtain ⟨t1, t2⟩ := and2 t
      exact hl.run pins s σ H _ u Q I r ⟨_, _, rfl, SqL.of e, by rw [← rs.length]; exact Nat.eq_of_beq_eq_true t1, μ, m, ρ, _, k, S, ER, rs, t2, P⟩
    · cases t
  | _ => cases t
end

/-! ### statements -/
def seqC (a b : SemS) : SemS := fun ρ m nx bk ct rt kx => a ρ m (fun ρ1 m1 => b ρ1 m1 nx bk ct rt kx) bk ct rt kx
def passC : SemS := fun ρ m nx _ _ _ _ => nx ρ m
def brkC : SemS := fun ρ m _ bk _ _ _ => bk ρ m
def cntC : SemS := fun ρ m _ _ ct _ _ => ct ρ m
def exprC (e : SemE) : SemS := fun ρ m nx _ _ _ kx => e ρ m (fun _ m1 => nx ρ m1) (fun c m1 => kx c ρ m1)
def retC (e : SemE) : SemS := fun ρ m _ _ _ rt kx => e ρ m rt (fun c m1 => kx c ρ m1)
def retNC : SemS := fun _ m _ _ _ rt _ => rt .non m
def ifS (t : SemT) (a b : SemS) : SemS := fun ρ m nx bk ct rt kx => t ρ m (fun c m1 => match c with | true => a ρ m1 nx bk ct rt kx | false => b ρ m1 nx bk ct rt kx) (fun c m1 => kx c ρ m1)
def setC (g : SemG) (e : SemE) : SemS := fun ρ m nx _ _ _ kx => e ρ m (fun d m1 => g d ρ m1 fun ρ1 => nx ρ1 m1) (fun c m1 => kx c ρ m1)
def setSC (o i e : SemE) : SemS := fun ρ m nx _ _ _ kx => e ρ m (fun v m1 => o ρ m1 (fun x m2 => i ρ m2 (fun y m3 => setD x y v m3 fun m4 => nx ρ m4) (fun c m4 => kx c ρ m4)) (fun c m4 => kx c ρ m4)) (fun c m1 => kx c ρ m1)
def par2C (i j : Nat) (a : SemA) : SemS := fun ρ m nx _ _ _ kx => a ρ m (fun xs m1 => match xs with | [x, y] => nx (setE (setE ρ i x) j y) m1 | _ => false) (fun c m1 => kx c ρ m1)
def augC (i : Nat) (f : Sem2) (e : SemE) : SemS := fun ρ m nx _ _ _ kx => match ρ[i]? with
  | none => false
  | some .und => false
  | some x => e ρ m (fun y m1 => f x y m1 fun z m2 => nx (setE ρ i z) m2) (fun c m1 => kx c ρ m1)
def refIx (x y : D) (m : M) (k : Kc) : Bool := match x with
  | .ref _ => ixD x y m k
  | _ => false
def augSC (o i : SemE) (f : Sem2) (e : SemE) : SemS := fun ρ m nx _ _ _ kx => o ρ m (fun x m1 => i ρ m1 (fun y m2 => refIx x y m2 fun old m3 => e ρ m3 (fun v m4 => f old v m4 fun z m5 => setD x y z m5 fun m6 => nx ρ m6) (fun c m4 => kx c ρ m4)) (fun c m4 => kx c ρ m4)) (fun c m4 => kx c ρ m4)
def FUEL : Nat := 100000
def forL (w : Wlk) (g : SemG) (b : SemS) (nx : KN) (rt : Kc) (kx : KX) (n : Nat) : Nat → List D → Env → M → Bool :=
  Nat.rec (fun _ _ _ _ => false) (fun _ ih i c ρ m => w i c m (nx ρ m) fun d c' => g d ρ m fun ρ1 => b ρ1 m (fun ρ2 m2 => ih (i + 1) c' ρ2 m2) nx (fun ρ2 m2 => ih (i + 1) c' ρ2 m2) rt kx) n
def forC (it : SemI) (g : SemG) (b : SemS) : SemS := fun ρ m nx _ _ rt kx => it ρ m (fun w c m1 => forL w g b nx rt kx FUEL 0 c ρ m1) (fun c m1 => kx c ρ m1)
def whlL (t : SemT) (b : SemS) (nx : KN) (rt : Kc) (kx : KX) (n : Nat) : Env → M → Bool :=
  Nat.rec (fun _ _ => false) (fun _ ih ρ m => t ρ m (fun c m1 => match c with | true => b ρ m1 ih nx ih rt kx | false => nx ρ m1) (fun c m1 => kx c ρ m1)) n
def whlC (t : SemT) (b : SemS) : SemS := fun ρ m nx _ _ rt kx => whlL t b nx rt kx FUEL ρ m

section
variable {X : Cx} {Z : Wd} {W : WX} {pos : Pos} {st : Stmt} {sts : List Stmt} {e o i : Expr} {te to ti : SemE}
theorem _root_.L2.PS.imp {t t' : TS} (h : PS X st t) (i : ∀ D σ H, t' D σ H → t D σ H) : PS X st t' := ⟨fun pins s σ H D I q => h.run pins s σ H D I (i D σ H q)⟩
theorem _root_.L2.PSs.imp {t t' : TS} (h : PSs X sts t) (i : ∀ D σ H, t' D σ H → t D σ H) : PSs X sts t' := ⟨fun pins s σ H D I q => h.run pins s σ H D I (i D σ H q)⟩
theorem s_one {t : SemS} (h : PS X st (tS Z W t)) : PSs X [st] (tS Z W t) := pss_one h
theorem s_nilS : PSs X [] (tS Z W passC) := pss_nil.imp fun D σ H ⟨μ, m, ρ, nx, bk, ct, rt, kx, S, ER, t, P1, P2, P3, P4, P5⟩ => P1 μ m H ρ σ .refl S ER t
theorem s_seq {a b : SemS} (h1 : PS X st (tS Z W a)) (h2 : PSs X sts (tS Z W b)) : PSs X (st :: sts) (tS Z W (seqC a b)) :=
  (pss_cons h1 h2).imp fun D σ H ⟨μ, m, ρ, nx, bk, ct, rt, kx, S, ER, t, P1, P2, P3, P4, P5⟩ =>
    ⟨μ, m, ρ, _, bk, ct, rt, kx, S, ER, t, fun μ1 m1 H1 ρ1 σ1 L S1 E1 e1 => ⟨μ1, m1, ρ1, nx, bk, ct, rt, kx, S1, E1, e1, P1.after L, P2.after L, P3.after L, P4.after L, P5.after L⟩, P2, P3, P4, P5⟩
theorem s_pass : PS X (.Pass pos) (tS Z W passC) := ps_pass.imp fun D σ H ⟨μ, m, ρ, nx, bk, ct, rt, kx, S, ER, t, P1, _⟩ => P1 μ m H ρ σ .refl S ER t
theorem s_brk : PS X (.Break pos) (tS Z W brkC) := ps_break.imp fun D σ H ⟨μ, m, ρ, nx, bk, ct, rt, kx, S, ER, t, _, P2, _⟩ => P2 μ m H ρ σ .refl S ER t
theorem s_cnt : PS X (.Continue pos) (tS Z W cntC) := ps_continue.imp fun D σ H ⟨μ, m, ρ, nx, bk, ct, rt, kx, S, ER, t, _, _, P3, _⟩ => P3 μ m H ρ σ .refl S ER t
theorem s_expr (he : PE X e (tI Z W te)) (hs : swapsWith e none pos.line X.env = pure false) : PS X (.Expr e pos) (tS Z W (exprC te)) :=
  (ps_expr he hs).imp fun D σ H ⟨μ, m, ρ, nx, bk, ct, rt, kx, S, ER, t, P1, P2, P3, P4, P5⟩ => ⟨μ, m, ρ, _, _, S, ER, t, fun μ1 m1 H1 d v L S1 R1 e1 => P1 μ1 m1 H1 ρ σ L S1 (ER.mono L.toLe) e1, P5.ex ER⟩
theorem s_ret (he : PE X e (tI Z W te)) : PS X (.Return (some e) pos) (tS Z W (retC te)) :=
  (ps_ret he).imp fun D σ H ⟨μ, m, ρ, nx, bk, ct, rt, kx, S, ER, t, P1, P2, P3, P4, P5⟩ => ⟨μ, m, ρ, _, _, S, ER, t, P4, P5.ex ER⟩
theorem s_retN : PS X (.Return none pos) (tS Z W retNC) := ps_retN.imp fun D σ H ⟨μ, m, ρ, nx, bk, ct, rt, kx, S, ER, t, P1, P2, P3, P4, P5⟩ => P4.now S .non t
theorem s_if {c : Expr} {a b : List Stmt} {tc : SemT} {ta tb : SemS} (hc : PT X c (tT Z W tc)) (ha : PSs X a (tS Z W ta)) (hb : PSs X b (tS Z W tb)) : PS X (.If c a b pos) (tS Z W (ifS tc ta tb)) :=
  (ps_if hc ha hb).imp fun D σ H ⟨μ, m, ρ, nx, bk, ct, rt, kx, S, ER, t, P1, P2, P3, P4, P5⟩ => ⟨μ, m, ρ, _, _, S, ER, t, fun μ1 m1 H1 d L S1 e1 => (by
    cases d with
    | true => exact iteT ⟨μ1, m1, ρ, nx, bk, ct, rt, kx, S1, ER.mono L.toLe, e1, P1.after L, P2.after L, P3.after L, P4.after L, P5.after L⟩
    | false => exact iteF ⟨μ1, m1, ρ, nx, bk, ct, rt, kx, S1, ER.mono L.toLe, e1, P1.after L, P2.after L, P3.after L, P4.after L, P5.after L⟩), P5.ex ER⟩
theorem s_setR {g : SemG} {ts : List Nat} {D : Ends} {σ : L2.St} {H : Hp} (h : tS Z W (setC g te) D σ H) : tAsg (tI Z W te) (tG Z ts g) D σ H := by
  obtain ⟨μ, m, ρ, nx, bk, ct, rt, kx, S, ER, t, P1, P2, P3, P4, P5⟩ := h
  exact ⟨μ, m, ρ, _, _, S, ER, t, fun μ1 m1 H1 d v L S1 R1 e1 => ⟨μ1, m1, ρ, d, _, S1, ER.mono L.toLe, R1, e1, fun σ' ρ' E' _ e' => P1 μ1 m1 H1 ρ' σ' L S1 E' e'⟩, P5.ex ER⟩
theorem s_set {tg : Expr} {g : SemG} {ts : List Nat} (he : PE X e (tI Z W te)) (hg : PG X tg (tG Z ts g)) (hs : swapsWithSole [tg] e pos.line X.env = pure false) (hw : swappedStores [tg] e X.env = pure none)
    (h1 : (assignEach [tg] X.env).map (·.2) = [assign tg X.env]) : PS X (.Assign [tg] e pos) (tS Z W (setC g te)) := (ps_asg he hg hs hw h1).imp fun D σ H h => s_setR h
theorem s_setN {n : Nat} {x : Str} {pos' : Pos} (hN : X.N.Nodup) (hi : X.N[n]? = some x) (hx : Loc X.env.scope x) (he : PE X e (tI Z W te)) (hs : swapsWith e (some (.Name x pos')) pos.line X.env = pure false) (hf : X.fn x = true ∨ X.env.scope.names.lookup x = some .local) :
    PS X (.Assign [.Name x pos'] e pos) (tS Z W (setC (gNm n) te)) :=
  (ps_set hN hi hx he hs hf).imp fun D σ H ⟨μ, m, ρ, nx, bk, ct, rt, kx, S, ER, t, P1, P2, P3, P4, P5⟩ => ⟨μ, m, ρ, _, _, S, ER, t, fun μ1 m1 H1 d v L S1 R1 e1 => P1 μ1 m1 H1 _ _ L S1 (by rw [setE_eq]; exact (ER.mono L.toLe).set R1 n) e1, P5.ex ER⟩
theorem s_setS {tpos : Pos} (hu : X.A.units + 1 < cLine) (he : PE X e (tI Z W te)) (ho : PE X o (tI Z W to)) (hi : PE X i (tI Z W ti)) (hs : swapsWithSole [.Subscript o i tpos] e pos.line X.env = pure false) (hw : swappedStores [.Subscript o i tpos] e X.env = pure none)
    (h1 : (assignEach [.Subscript o i tpos] X.env).map (·.2) = [assign (.Subscript o i tpos) X.env])
    (ha : ∀ v, assign (.Subscript o i tpos) X.env v = (do
      let ov ← holding [v] (eval o X.env)
      let iv ← holding [v, ov] (eval i X.env)
      standAt tpos
      holding [v, ov, iv] (setItem ov iv v)
      release [v, ov, iv] [])) : PS X (.Assign [.Subscript o i tpos] e pos) (tS Z W (setSC to ti te)) :=
  (ps_asg he (pg_sub ho hi (r_set hu) ha) hs hw h1).imp fun D σ H ⟨μ, m, ρ, nx, bk, ct, rt, kx, S, ER, t, P1, P2, P3, P4, P5⟩ =>
    ⟨μ, m, ρ, _, _, S, ER, t, fun μ1 m1 H1 d1 v1 L1 S1 R1 e1 => ⟨μ1, m1, ρ, _, _, S1, ER.mono L1.toLe, e1, fun μ2 m2 H2 d2 v2 L2 S2 R2 e2 => ⟨μ2, m2, ρ, _, _, S2, ER.mono (L1.trans L2).toLe, e2, fun μ3 m3 H3 d3 v3 L3 S3 R3 e3 => (by
      have L := (L1.trans L2).trans L3
      exact o_set S3 (R2.mono L3.toLe) R3 (R1.mono (L2.trans L3).toLe) e3 fun μ4 m4 H4 L4 S4 e4 => P1 μ4 m4 H4 ρ σ (L.trans L4) S4 (ER.mono (L.trans L4).toLe) e4),
      (P5.after (L1.trans L2)).ex (ER.mono (L1.trans L2).toLe)⟩, (P5.after L1).ex (ER.mono L1.toLe)⟩, P5.ex ER⟩
def sw2C (o1 i1 o2 i2 e : SemE) : SemS := fun ρ m nx _ _ _ kx => e ρ m (fun d m1 => match d with
  | .tup [x, y] => o1 ρ m1 (fun p m2 => i1 ρ m2 (fun q m3 => setD p q x m3 fun m4 => o2 ρ m4 (fun p2 m5 => i2 ρ m5 (fun q2 m6 => setD p2 q2 y m6 fun m7 => nx ρ m7) (fun c m1 => kx c ρ m1)) (fun c m1 => kx c ρ m1)) (fun c m1 => kx c ρ m1)) (fun c m1 => kx c ρ m1)
  | _ => false) (fun c m1 => kx c ρ m1)
theorem s_sw2 {o2 i2 : Expr} {to2 ti2 : SemE} {p1 p2 tpos : Pos} {k : Nat} (hK : X.K = Z.K) (hc : X.calm = true) (hu : X.A.units + 1 < cLine) (he : PE X e (tI Z W te)) (ho : PE X o (tI Z W to)) (hi : PE X i (tI Z W ti)) (ho2 : PE X o2 (tI Z W to2)) (hi2 : PE X i2 (tI Z W ti2))
    (hn : (assignEach [.Subscript o i p1, .Subscript o2 i2 p2] X.env).length = 2) (hst : (assignEach [.Subscript o i p1, .Subscript o2 i2 p2] X.env).findIdx? (·.1) = none)
    (hm1 : (assignEach [.Subscript o i p1, .Subscript o2 i2 p2] X.env).map (·.2) = assign (.Subscript o i p1) X.env :: (assignEach [.Subscript o2 i2 p2] X.env).map (·.2)) (hm2 : (assignEach [.Subscript o2 i2 p2] X.env).map (·.2) = assign (.Subscript o2 i2 p2) X.env :: (assignEach [] X.env).map (·.2))
    (hs : swapsWithSole [.Tuple [.Subscript o i p1, .Subscript o2 i2 p2] k tpos] e pos.line X.env = pure false) (hw : swappedStores [.Tuple [.Subscript o i p1, .Subscript o2 i2 p2] k tpos] e X.env = pure none)
    (h1 : (assignEach [.Tuple [.Subscript o i p1, .Subscript o2 i2 p2] k tpos] X.env).map (·.2) = [assign (.Tuple [.Subscript o i p1, .Subscript o2 i2 p2] k tpos) X.env])
    (ha : ∀ v, assign (.Subscript o i p1) X.env v = (do
      let ov ← holding [v] (eval o X.env)
      let iv ← holding [v, ov] (eval i X.env)
      standAt p1
      holding [v, ov, iv] (setItem ov iv v)
      release [v, ov, iv] []))
    (ha2 : ∀ v, assign (.Subscript o2 i2 p2) X.env v = (do
      let ov ← holding [v] (eval o2 X.env)
      let iv ← holding [v, ov] (eval i2 X.env)
      standAt p2
      holding [v, ov, iv] (setItem ov iv v)
      release [v, ov, iv] [])) : PS X (.Assign [.Tuple [.Subscript o i p1, .Subscript o2 i2 p2] k tpos] e pos) (tS Z W (sw2C to ti to2 ti2 te)) :=
  (ps_asg he (pg_tup hc (pgs_cons (pg_sub ho hi (r_set hu) ha) (pgs_cons (pg_sub ho2 hi2 (r_set hu) ha2) pgs_nil hm2) hm1) hn hst) hs hw h1).imp fun D σ H ⟨μ, m, ρ, nx, bk, ct, rt, kx, S, ER, t, P1, P2, P3, P4, P5⟩ =>
    ⟨μ, m, ρ, _, _, S, ER, t, fun μ1 m1 H1 d1 v1 L1 S1 R1 e1 => (by
      dsimp only at e1
      split at e1
      · rename_i x y
        cases R1 with
        | tup hq rs =>
          cases rs with
          | cons rx rs => cases rs with
            | cons ry rs => cases rs with
              | nil =>
                rename_i vx vy
                refine ⟨_, _, rfl, hK ▸ hq, rfl, vx, [vy], rfl, μ1, m1, ρ, _, _, S1, ER.mono L1.toLe, e1, fun μ2 m2 H2 d2 v2 L2 S2 R2 e2 => ⟨μ2, m2, ρ, _, _, S2, ER.mono (L1.trans L2).toLe, e2, fun μ3 m3 H3 d3 v3 L3 S3 R3 e3 => ?_, (P5.after (L1.trans L2)).ex (ER.mono (L1.trans L2).toLe)⟩, (P5.after L1).ex (ER.mono L1.toLe)⟩
                have L := (L1.trans L2).trans L3
                refine o_set S3 (R2.mono L3.toLe) R3 (rx.mono (L2.trans L3).toLe) e3 fun μ4 m4 H4 L4 S4 e4 => ⟨vy, [], rfl, μ4, m4, ρ, _, _, S4, ER.mono (L.trans L4).toLe, e4, fun μ5 m5 H5 d5 v5 L5 S5 R5 e5 => ⟨μ5, m5, ρ, _, _, S5, ER.mono ((L.trans L4).trans L5).toLe, e5, fun μ6 m6 H6 d6 v6 L6 S6 R6 e6 => ?_, (P5.after ((L.trans L4).trans L5)).ex (ER.mono ((L.trans L4).trans L5).toLe)⟩, (P5.after (L.trans L4)).ex (ER.mono (L.trans L4).toLe)⟩
                have LL := ((L.trans L4).trans L5).trans L6
                exact o_set S6 (R5.mono L6.toLe) R6 (ry.mono (((L2.trans L3).trans L4).trans (L5.trans L6)).toLe) e6 fun μ7 m7 H7 L7 S7 e7 => ⟨rfl, P1 μ7 m7 H7 ρ σ (LL.trans L7) S7 (ER.mono (LL.trans L7).toLe) e7⟩
      · cases e1), P5.ex ER⟩
theorem s_par2 {n j : Nat} {x y : Str} {a b : Expr} {ta : SemA} {px py pt : Pos} {kt k2 pt2} (hc : X.calm = true) (hN : X.N.Nodup) (hi : X.N[n]? = some x) (hj : X.N[j]? = some y) (hij : n ≠ j)
    (hx : X.env.scope.names.lookup x = some .local) (hy : X.env.scope.names.lookup y = some .local) (ha : PA X [a, b] (tA Z W ta))
    (hw : swappedStores [.Tuple [.Name x px, .Name y py] kt pt] (.Tuple [a, b] k2 pt2) X.env = pure (some [x, y]))
    (hs : swapsWithSole [.Tuple [.Name x px, .Name y py] kt pt] (.Tuple [a, b] k2 pt2) pos.line X.env = pure false) :
    PS X (.Assign [.Tuple [.Name x px, .Name y py] kt pt] (.Tuple [a, b] k2 pt2) pos) (tS Z W (par2C n j ta)) :=
  (ps_par hc hN hi hj hij hx hy ha hw hs).imp fun D σ H ⟨μ, m, ρ, nx, bk, ct, rt, kx, S, ER, t, P1, P2, P3, P4, P5⟩ => ⟨μ, m, ρ, _, _, S, ER, t, fun μ1 m1 H1 ds vs L S1 R1 e1 => (by
    dsimp only at e1
    split at e1
    · cases R1 with
      | cons r rs =>
        cases rs with
        | cons r2 rs =>
          cases rs
          rw [setE_eq, setE_eq] at e1
          exact ⟨_, _, rfl, P1 μ1 m1 H1 _ _ L S1 (((ER.mono L.toLe).set r n).set r2 j) e1⟩
    · cases e1), P5.ex ER⟩
def par3C (i j l : Nat) (a : SemA) : SemS := fun ρ m nx _ _ _ kx => a ρ m (fun xs m1 => match xs with | [x, y, z] => nx (setE (setE (setE ρ i x) j y) l z) m1 | _ => false) (fun c m1 => kx c ρ m1)
theorem s_par3 {n j l : Nat} {x y z : Str} {a b c : Expr} {ta : SemA} {px py pz pt : Pos} {kt k2 pt2} (hc : X.calm = true) (hN : X.N.Nodup) (hi : X.N[n]? = some x) (hj : X.N[j]? = some y) (hl : X.N[l]? = some z) (hij : n ≠ j) (hil : n ≠ l) (hjl : j ≠ l)
    (hx : X.env.scope.names.lookup x = some .local) (hy : X.env.scope.names.lookup y = some .local) (hz : X.env.scope.names.lookup z = some .local) (ha : PA X [a, b, c] (tA Z W ta))
    (hw : swappedStores [.Tuple [.Name x px, .Name y py, .Name z pz] kt pt] (.Tuple [a, b, c] k2 pt2) X.env = pure (some [x, y, z]))
    (hs : swapsWithSole [.Tuple [.Name x px, .Name y py, .Name z pz] kt pt] (.Tuple [a, b, c] k2 pt2) pos.line X.env = pure false) :
    PS X (.Assign [.Tuple [.Name x px, .Name y py, .Name z pz] kt pt] (.Tuple [a, b, c] k2 pt2) pos) (tS Z W (par3C n j l ta)) :=
  (ps_par3 hc hN hi hj hl hij hil hjl hx hy hz ha hw hs).imp fun D σ H ⟨μ, m, ρ, nx, bk, ct, rt, kx, S, ER, t, P1, P2, P3, P4, P5⟩ => ⟨μ, m, ρ, _, _, S, ER, t, fun μ1 m1 H1 ds vs L S1 R1 e1 => (by
    dsimp only at e1
    split at e1
    · cases R1 with
      | cons r rs =>
        cases rs with
        | cons r2 rs =>
          cases rs with
          | cons r3 rs =>
            cases rs
            rw [setE_eq, setE_eq, setE_eq] at e1
            exact ⟨_, _, _, rfl, P1 μ1 m1 H1 _ _ L S1 ((((ER.mono L.toLe).set r n).set r2 j).set r3 l) e1⟩
    · cases e1), P5.ex ER⟩
end

/-! ### augmented assignment -/
section
variable {X : Cx}
theorem ip_fdiv : PIp X .FloorDiv (fun x y H Q => rI CDivA (fun i j => .int (i.fdiv j)) x y H Q) := by
  intro pins s σ H x y v u Q I r1 r2 h
  obtain ⟨i, j, e1, e2, c, q⟩ := h
  subst e1; subst e2
  obtain ⟨t, rfl⟩ := r1
  obtain ⟨t', rfl⟩ := r2
  have fin : ∀ tk s', Inv X pins σ H s' → EP X pins σ Q (.int (i.fdiv j) tk) s' := fun tk s' I' => ⟨.int _, H, I', ⟨_, rfl⟩, q⟩
  rcases c with ⟨c1, c2⟩ | ⟨c1, c2⟩
  · exact PyProof.Rows.ifloordiv_int (by omega) (fin _ _ (I.tok _)) (.inl (PyProof.noPylong_of_log2 c2))
  · exact PyProof.Rows.ifloordiv_int c1 (fin _ _ (I.tok _)) (.inl (PyProof.noPylong_small c2))
theorem ip_mul : PIp X .Mult (fun x y H Q => rI CMulW (fun i j => .int (i * j)) x y H Q) := by
  intro pins s σ H x y v u Q I r1 r2 h
  obtain ⟨i, j, e1, e2, c, q⟩ := h
  subst e1; subst e2
  obtain ⟨t, rfl⟩ := r1
  obtain ⟨t', rfl⟩ := r2
  exact PySem.P.imul_int ⟨.int _, H, I.tok _, ⟨_, rfl⟩, q⟩ c.ok
theorem get_listD : PGet X (rIxL X.K) := by
  intro pins s σ H x y v u Q I rx ry h
  obtain ⟨p, xs, i, z, rfl, rfl, hq, he, q⟩ := h
  cases rx
  obtain ⟨t, rfl⟩ := ry
  obtain ⟨its, r, pl, hz⟩ := I.list hq
  obtain ⟨j, h1, h2, h3, h4, h5⟩ := atI_get he
  obtain ⟨w, ew, rw'⟩ := r.get h2
  have hl := r.length
  have hn := line63
  have fin : EP X pins σ Q w s := ⟨z, H, I, rw', q⟩
  by_cases h0 : 0 ≤ i
  · have hj : i.toNat = j := by
      rw [seqIndex_of h0 h5] at h1
      exact Option.some.inj h1
    exact wpAny_getItem_list pl.isList h0 (by omega) (by rw [hj]; simpa using ew) fin
  · have hj : (i + (its.toArray.size : Int)).toNat = j := by
      rw [seqIndex_neg (by omega) h4] at h1
      rw [List.size_toArray, ← hl]
      exact Option.some.inj h1
    exact wpAny_getItem_list_neg pl.isList (by omega) (by rw [List.size_toArray] <;> omega) (by omega) (by rw [hj]; simpa using ew) fin
theorem get_dictD (hu : X.A.units + 1 < cLine) : PGet X rIxDict := by
  intro pins s σ H x y v u Q I rx ry ⟨a, z, ex, g, q⟩
  subst ex
  obtain rfl : v = Value.ref a := rx
  exact d_getItem hu I g ry fun w' s3 I3 rw' => ⟨z, H, I3, rw', q⟩
def rGetA (K : PySem.W.Frag) : V → V → Hp → VK → Prop := fun x y H Q => rIxL K x y H Q ∨ rIxDict x y H Q
theorem r_get (hu : X.A.units + 1 < cLine) : PGet X (rGetA X.K) := by
  intro pins s σ H x y v u Q I rx ry h
  rcases h with h | h
  · exact get_listD pins s σ H x y v u Q I rx ry h
  · exact get_dictD hu pins s σ H x y v u Q I rx ry h
end

section
variable {X : Cx} {Z : Wd} {W : WX} {pos : Pos} {e o i : Expr} {te to ti : SemE} {op : Operator} {f : Sem2} {r : R2}
theorem s_aug {n : Nat} {x : Str} {pos' : Pos} (of : Op2 Z f r) (hN : X.N.Nodup) (hi : X.N[n]? = some x) (hx : Loc X.env.scope x) (he : PE X e (tI Z W te)) (hp : PIp X op r) (hf : X.fn x = true ∨ X.env.scope.names.lookup x = some .local) :
    PS X (.AugAssign (.Name x pos') op e pos) (tS Z W (augC n f te)) :=
  (ps_aug hN hi hx he hp hf).imp fun D σ H ⟨μ, m, ρ, nx, bk, ct, rt, kx, S, ER, t, P1, P2, P3, P4, P5⟩ => by
    unfold augC at t
    split at t
    · cases t
    · cases t
    · rename_i d hne h
      obtain ⟨v, h1, h2⟩ := ER.at' n d h hne
      exact ⟨v, h1, μ, m, ρ, _, _, S, ER, t, fun μ1 m1 H1 d1 v1 L1 S1 R1 e1 => of μ1 m1 H1 v v1 d d1 _ _ S1 (h2.mono L1.toLe) R1 e1 fun μ2 m2 H2 d2 v2 L2 S2 R2 e2 =>
        P1 μ2 m2 H2 _ _ (L1.trans L2) S2 (by rw [setE_eq]; exact (ER.mono (L1.trans L2).toLe).set R2 n) e2, P5.ex ER⟩
theorem get_rep {μ : Nat → Addr} {m : M} {H : Hp} {x y : V} {dx dy : D} {k : Kc} {Q : VK} (S : Sim Z μ m H) (rx : Rep Z μ m.n H dx x) (ry : Rep Z μ m.n H dy y) (hl : ∀ xs, dx ≠ .tup xs) (hs : ∀ z, dx ≠ .str z) (h : ixD dx dy m k = true) (P : Post Z μ m H k Q) : rGetA Z.K x y H Q := by
  rcases o_ix μ m H x y dx dy k Q S rx ry h P with q | q | q | q
  · exact .inl q
  · cases rx with
    | tup => exact absurd rfl (hl _)
    | ref hi =>
      unfold ixD at h
      dsimp only at h
      split at h
      · rename_i xs g
        obtain ⟨vs, e, rs⟩ := S.lst g
        cases ry with
        | int =>
          obtain ⟨d, v, h1, h2, h3⟩ := at_rep rs h
          exact .inl ⟨_, _, _, v, rfl, rfl, SqL.of e, h1, P.now S h2 h3⟩
        | _ => cases h
      · rename_i kvs g
        obtain ⟨p, xs, i, v, ex, ey, hq, _⟩ := q
        subst ey
        cases ry
        obtain ⟨ws, e, rs⟩ := S.obj _ _ g
        split at h
        · rename_i j hj
          cases hj
          split at h
          · rename_i d hd
            obtain ⟨v, h1, h2⟩ := look_some rs hd
            exact .inr ⟨_, v, rfl, .inl ⟨ws, _, .inl e, rfl, h1.symm⟩, P.now S h2 h⟩
          · cases h
        · cases h
      · rename_i kvs g
        obtain ⟨p, xs, i, v, ex, ey, hq, _⟩ := q
        subst ey
        cases ry
        obtain ⟨ws, o, e, rs⟩ := S.obj _ _ g
        split at h
        · rename_i j hj
          cases hj
          split at h
          · rename_i d hd
            obtain ⟨v, h1, h2⟩ := look_some rs hd
            exact .inr ⟨_, v, rfl, .inl ⟨ws, _, .inr ⟨o, e⟩, rfl, h1.symm⟩, P.now S h2 h⟩
          · cases h
        · cases h
      · cases h
    | str => exact absurd rfl (hs _)
    | _ => cases h
  · obtain ⟨z, i, c, ex, _⟩ := q
    subst ex
    cases rx
    exact absurd rfl (hs _)
  · exact .inr q
theorem setD_ref {o i v : D} {m : M} {k : M → Bool} (h : setD o i v m k = true) : ∃ a, o = .ref a := by
  unfold setD at h
  split at h
  · exact ⟨_, rfl⟩
  · cases h
theorem s_augS {tpos : Pos} (hK : X.K = Z.K) (hu : X.A.units + 1 < cLine) (of : Op2 Z f r) (ho : PE X o (tI Z W to)) (hi : PE X i (tI Z W ti)) (he : PE X e (tI Z W te)) (hp : PIp X op r)
    (ha : ∀ ov iv new, augStore i ov iv new = (do holding [new, ov, iv] (setItem ov iv new); release [new, ov, iv] []; pure .next)) : PS X (.AugAssign (.Subscript o i tpos) op e pos) (tS Z W (augSC to ti f te)) :=
  (ps_augS ho hi (r_get hu) he hp (r_set hu) ha).imp fun D σ H ⟨μ, m, ρ, nx, bk, ct, rt, kx, S, ER, t, P1, P2, P3, P4, P5⟩ =>
    ⟨μ, m, ρ, _, _, S, ER, t, fun μ1 m1 H1 d1 v1 L1 S1 R1 e1 => ⟨μ1, m1, ρ, _, _, S1, ER.mono L1.toLe, e1, fun μ2 m2 H2 d2 v2 L2 S2 R2 e2 => (by
      unfold refIx at e2
      split at e2
      · rw [hK]
        refine get_rep S2 (R1.mono L2.toLe) R2 (fun _ z => by cases z) (fun _ z => by cases z) e2 fun μ3 m3 H3 d3 v3 L3 S3 R3 e3 => ?_
        have L13 := (L1.trans L2).trans L3
        refine ⟨μ3, m3, ρ, _, _, S3, ER.mono L13.toLe, e3, fun μ4 m4 H4 d4 v4 L4 S4 R4 e4 => ?_, (P5.after L13).ex (ER.mono L13.toLe)⟩
        refine of μ4 m4 H4 v3 v4 d3 d4 _ _ S4 (R3.mono L4.toLe) R4 e4 fun μ5 m5 H5 d5 v5 L5 S5 R5 e5 => ?_
        have L25 := (L3.trans L4).trans L5
        have L15 := (L1.trans L2).trans L25
        exact o_set S5 (R1.mono (L2.trans L25).toLe) (R2.mono L25.toLe) R5 e5 fun μ6 m6 H6 L6 S6 e6 => P1 μ6 m6 H6 ρ σ (L15.trans L6) S6 (ER.mono (L15.trans L6).toLe) e6
      · cases e2), (P5.after L1).ex (ER.mono L1.toLe)⟩, P5.ex ER⟩

/-! ### loops -/
theorem s_for {tg iter : Expr} {body : List Stmt} {it : SemI} {g : SemG} {ts : List Nat} {tb : SemS} (hp : PassesOwn (model X.prog X.w) X.A X.env X.xe) (hc : X.calm = true) (hi : PI X tg iter (tIt Z W it)) (hg : PG X tg (tG Z ts g)) (hb : PSs X body (tS Z W tb))
    (hs : ∀ x, foldedSetIterable iter X.env x = pure x) : PS X (.For tg iter body [] pos) (tS Z W (forC it g tb)) :=
  (ps_for hp hc hi hg hb hs).imp fun D σ H ⟨μ, m, ρ, nx, bk, ct, rt, kx, S, ER, t, P1, P2, P3, P4, P5⟩ =>
    ⟨μ, m, ρ, _, _, S, ER, t, fun μ0 m0 H0 J w c0 L0 S0 ⟨Iv, iv0, step⟩ e0 => by
      refine ⟨fun i n σ' H' => ∃ μ' m' ρ' c, Lt μ0 m0 H0 μ' m' H' ∧ Sim Z μ' m' H' ∧ EnvRep Z μ' m'.n H' ρ' σ' ∧ Iv i c ∧ forL w g tb nx rt kx n i c ρ' m' = true, ⟨FUEL, μ0, m0, ρ, c0, .refl, S0, ER.mono L0.toLe, iv0, e0⟩, ?_⟩
      rintro i n σ' H' ⟨μ', m', ρ', c, L, S', E', iv, e⟩
      cases n with
      | zero => cases e
      | succ n =>
        have LL := L0.trans L
        have e' : w i c m' (nx ρ' m') (fun d c' => g d ρ' m' fun ρ1 => tb ρ1 m' (fun ρ2 m2 => forL w g tb nx rt kx n (i + 1) c' ρ2 m2) nx (fun ρ2 m2 => forL w g tb nx rt kx n (i + 1) c' ρ2 m2) rt kx) = true := e
        rcases step i c μ' m' H' _ _ iv L S' e' with ⟨h1, h2⟩ | ⟨d, c', h1, h2, h3, h4⟩
        · exact .inl ⟨h2, P1 μ' m' H' ρ' σ' LL S' E' h1⟩
        · refine .inr ⟨h3, fun σ2 H2 => ∃ μ2 m2 ρ2, Lt μ0 m0 H0 μ2 m2 H2 ∧ Sim Z μ2 m2 H2 ∧ EnvRep Z μ2 m2.n H2 ρ2 σ2 ∧ forL w g tb nx rt kx n (i + 1) c' ρ2 m2 = true, fun σ2 H2 ⟨μ2, m2, ρ2, q1, q2, q3, q4⟩ => ⟨n, Nat.lt_succ_self n, μ2, m2, ρ2, c', q1, q2, q3, h2, q4⟩, fun x H1 hy => ?_⟩
          obtain ⟨kp, rx⟩ := h4 x H1 hy
          have L1 : Lt μ' m' H' μ' m' H1 := Lt.kp kp
          have rx1 : Rep Z μ' m'.n H1 d x := rx
          refine ⟨μ', m', ρ', d, _, S'.kp kp, E'.mono L1.toLe, rx1, h1, fun σ1 ρ1 E1 _ e1 => ?_⟩
          have LL1 := LL.trans L1
          exact ⟨μ', m', ρ1, _, nx, _, rt, kx, S'.kp kp, E1, e1, fun μ2 m2 H2 ρ2 σ2 l2 s2 q2 k2 => ⟨μ2, m2, ρ2, (L.trans L1).trans l2, s2, q2, k2⟩, P1.after LL1, fun μ2 m2 H2 ρ2 σ2 l2 s2 q2 k2 => ⟨μ2, m2, ρ2, (L.trans L1).trans l2, s2, q2, k2⟩, P4.after LL1, P5.after LL1⟩, P5.ex ER⟩
theorem s_whl {c : Expr} {body : List Stmt} {tc : SemT} {tb : SemS} (hp : PassesOwn (model X.prog X.w) X.A X.env X.xe) (hc : PT X c (tT Z W tc)) (hb : PSs X body (tS Z W tb)) : PS X (.While c body [] pos) (tS Z W (whlC tc tb)) :=
  (ps_while hp hc hb).imp fun D σ H ⟨μ, m, ρ, nx, bk, ct, rt, kx, S, ER, t, P1, P2, P3, P4, P5⟩ => by
    refine ⟨fun n σ' H' => ∃ μ' m' ρ', Lt μ m H μ' m' H' ∧ Sim Z μ' m' H' ∧ EnvRep Z μ' m'.n H' ρ' σ' ∧ whlL tc tb nx rt kx n ρ' m' = true, ⟨FUEL, μ, m, ρ, .refl, S, ER, t⟩, ?_⟩
    rintro n σ' H' ⟨μ', m', ρ', L, S', E', e⟩
    cases n with
    | zero => cases e
    | succ n =>
      have e' : tc ρ' m' (fun c m1 => match c with | true => tb ρ' m1 (whlL tc tb nx rt kx n) nx (whlL tc tb nx rt kx n) rt kx | false => nx ρ' m1) (fun c m1 => kx c ρ' m1) = true := e
      refine ⟨μ', m', ρ', _, _, S', E', e', fun μ1 m1 H1 b L1 S1 e1 => ?_, (P5.after L).ex E'⟩
      have LL := L.trans L1
      cases b with
      | true =>
        refine iteT ⟨fun σ2 H2 => ∃ μ2 m2 ρ2, Lt μ m H μ2 m2 H2 ∧ Sim Z μ2 m2 H2 ∧ EnvRep Z μ2 m2.n H2 ρ2 σ2 ∧ whlL tc tb nx rt kx n ρ2 m2 = true, fun σ2 H2 q => ⟨n, Nat.lt_succ_self n, q⟩, ?_⟩
        exact ⟨μ1, m1, ρ', _, nx, _, rt, kx, S1, E'.mono L1.toLe, e1, fun μ2 m2 H2 ρ2 σ2 l2 s2 q2 k2 => ⟨μ2, m2, ρ2, LL.trans l2, s2, q2, k2⟩, P1.after LL, fun μ2 m2 H2 ρ2 σ2 l2 s2 q2 k2 => ⟨μ2, m2, ρ2, LL.trans l2, s2, q2, k2⟩, P4.after LL, P5.after LL⟩
      | false => exact iteF (P1 μ1 m1 H1 ρ' σ' LL S1 (E'.mono L1.toLe) e1)
end
end
end Ev

set_option Elab.async false
set_option linter.all false
set_option maxRecDepth 100000
set_option maxHeartbeats 1000000
/-! Ev14: list comprehensions. -/
namespace Ev
open PySem PySem.Spec PyProof.Rows L2 HT
noncomputable section

/-! ### objects that are not ours -/
section
variable {Z : Wd} {μ μ0 : Nat → Addr} {m m0 : M} {H H0 : Hp} {D : Addr} {xs ys : List V}
/-- D is none of our places -/
def Apt (μ : Nat → Addr) (n : Nat) (D : Addr) : Prop := ∀ i, i < n → μ i ≠ D
theorem Le.wr {n : Nat} (e : H D = some (.lst xs)) : Le μ n H μ n (upd H D (.lst ys)) :=
  ⟨Nat.le_refl _, fun _ _ => rfl, fun a u q => by rw [upd_ne (fun z => by rw [z, e] at q; cases q)]; exact q, fun a x u q => by rw [upd_ne (fun z => by rw [z, e] at q; cases q)]; exact q⟩
theorem Sim.wr (S : Sim Z μ m H) (hD : Apt μ m.n D) (e : H D = some (.lst xs)) : Sim Z μ m (upd H D (.lst ys)) := by
  refine ⟨S.len, S.rlen, S.inj, fun i o h => ?_, S.tap⟩
  have hi : i < m.n := (M.get_some h).1
  have L : Le μ m.n H μ m.n (upd H D (.lst ys)) := Le.wr e
  have old := S.obj i o h
  have ne : μ i ≠ D := hD i hi
  cases o with
  | lst xs => obtain ⟨vs, e1, r⟩ := old; exact ⟨vs, by rw [upd_ne ne]; exact e1, r.mono L⟩
  | dic xs => obtain ⟨vs, e1, r⟩ := old; exact ⟨vs, by rw [upd_ne ne]; exact e1, r.mono fun _ _ => Rep.mono L⟩
  | dil xs => obtain ⟨vs, o, e1, r⟩ := old; exact ⟨vs, o, by rw [upd_ne ne]; exact e1, r.mono fun _ _ => Rep.mono L⟩
  | dit xs => obtain ⟨vs, e1, r⟩ := old; exact ⟨vs, by rw [upd_ne ne]; exact e1, r.mono fun _ _ => Rep.mono L⟩
  | hid => obtain ⟨vs, e1, e2⟩ := old; exact ⟨vs, by rw [upd_ne ne]; exact e1, e2⟩
  | tape c =>
    obtain ⟨hc, cells, a1, a2, a3, a4, q1, q2, ok⟩ := old
    exact ⟨hc, cells, a1, a2, a3, a4, by rw [upd_ne ne]; exact q1, by rw [upd_ne (hD c hc)]; exact q2, ok⟩
theorem Lt.wr (L : Lt μ0 m0 H0 μ m H) (h0 : H0 D = none) (e : H D = some (.lst xs)) : Lt μ0 m0 H0 μ m (upd H D (.lst ys)) :=
  ⟨⟨L.le, L.eq, fun a u q => by rw [upd_ne (fun z => by rw [z, h0] at q; cases q)]; exact L.tup a u q, fun a x u q => by rw [upd_ne (fun z => by rw [z, h0] at q; cases q)]; exact L.frz a x u q⟩, L.rn, L.ro, fun a o q n => by
    rw [upd_ne (fun z => by rw [z, h0] at q; cases q)]; exact L.oth a o q n⟩
/-- what was not ours becomes ours -/
theorem Sim.adopt (S : Sim Z μ m H) (hD : Apt μ m.n D) {o : O} (ht : ∀ c, o ≠ .tape c) (h : OHas Z (ext μ m.n D) (m.n + 1) m.tk H D o) : Sim Z (ext μ m.n D) (m.alloc o) H := by
  refine ⟨Nat.le_succ_of_le S.len, alloc_all S, fun i j hi hj e => ?_, fun i o' g => ?_, fun i c g => ?_⟩
  · have hi : i < m.n + 1 := hi
    have hj : j < m.n + 1 := hj
    by_cases ei : i = m.n
    · by_cases ej : j = m.n
      · omega
      · subst ei
        rw [ext_eq, ext_lt (by omega)] at e
        exact absurd e.symm (hD j (by omega))
    · by_cases ej : j = m.n
      · subst ej
        rw [ext_eq, ext_lt (by omega)] at e
        exact absurd e (hD i (by omega))
      · rw [ext_lt (by omega), ext_lt (by omega)] at e
        exact S.inj i j (by omega) (by omega) e
  · show OHas Z (ext μ m.n D) (m.n + 1) m.tk H (ext μ m.n D i) o'
    rcases get_alloc S g with ⟨rfl, rfl⟩ | ⟨hi, g⟩
    · rw [ext_eq]; exact h
    · rw [ext_lt hi]
      exact (S.obj i o' g).kp (fun _ _ e => e) (Nat.le_succ _) (Nat.le_refl _) fun _ h => ext_lt h
  · rcases get_alloc S g with ⟨rfl, e⟩ | ⟨hi, g⟩
    · exact absurd e.symm (ht c)
    · have g2 := S.tap i c g
      rw [alloc_get S (M.get_some g2).1]; exact g2
theorem Lt.adopt (S : Sim Z μ m H2) (L : Lt μ0 m0 H0 μ m H) (h0 : H0 D = none) {o : O} : Lt μ0 m0 H0 (ext μ m.n D) (m.alloc o) H :=
  ⟨⟨Nat.le_succ_of_le L.le, fun i h => by rw [ext_lt (Nat.lt_of_lt_of_le h L.le)]; exact L.eq i h, L.tup, L.frz⟩, L.rn, fun i hi => (alloc_get S (Nat.lt_of_lt_of_le hi (by rw [← L.rn]; exact S.len))).trans (L.ro i hi), fun a o q n => by
    obtain ⟨q1, q2⟩ := L.oth a o q n
    refine ⟨q1, fun i hi => ?_⟩
    have hi : i < m.n + 1 := hi
    by_cases h : i = m.n
    · subst h; rw [ext_eq]; exact fun z => by rw [← z, h0] at q; cases q
    · rw [ext_lt (by omega)]; exact q2 i (by omega)⟩
end

/-! ### comprehensions -/
def wipeE (ρ : Env) (vs : List Nat) : Env := match vs with
  | [] => ρ
  | v :: vs => setE (wipeE ρ vs) v .und
theorem wipeE_rep {Z : Wd} {μ : Nat → Addr} {n : Nat} {H : Hp} {ρ : Env} {σ : L2.St} (E : EnvRep Z μ n H ρ σ) : ∀ vs : List Nat, EnvRep Z μ n H (wipeE ρ vs) (wipe σ vs)
  | [] => E
  | v :: vs => by
    have E' := wipeE_rep E vs
    unfold wipeE wipe
    rw [setE_eq]
    refine ⟨by rw [List.length_set, List.length_set]; exact E'.len, fun j e h hd => ?_⟩
    by_cases hj : j = v
    · subst hj
      by_cases hl : j < (wipeE ρ vs).length
      · rw [List.getElem?_set_self hl] at h
        exact absurd (Option.some.inj h).symm hd
      · rw [List.getElem?_eq_none (by simpa using hl)] at h; cases h
    · rw [List.getElem?_set_ne (Ne.symm hj)] at h
      rw [List.getElem?_set_ne (Ne.symm hj)]
      exact E'.at' j e h hd
theorem wipe_wipe (σ : L2.St) : ∀ vs ws : List Nat, (∀ i ∈ ws, i ∈ vs) → wipe (wipe σ ws) vs = wipe σ vs
  | vs, [], _ => rfl
  | vs, w :: ws, h => by
    show wipe ((wipe σ ws).set w none) vs = _
    rw [wipe_set (h w List.mem_cons_self), wipe_wipe σ vs ws fun i hi => h i (List.mem_cons_of_mem _ hi)]
/-- from the back, forced -/
def revK (acc : List D) : List D → (List D → Bool) → Bool := List.rec (fun out k => k out) (fun x _ ih out k => ih (x :: out) k) acc
theorem revK_eq : ∀ (acc out : List D) (k : List D → Bool), revK acc out k = k (acc.reverse ++ out)
  | [], out, k => rfl
  | x :: r, out, k => by
    show revK r (x :: out) k = _
    rw [revK_eq r (x :: out) k, List.reverse_cons, List.append_assoc]; rfl
def yesT : SemT := fun _ m k _ => k true m
def lcL (w : Wlk) (g : SemG) (tt : SemT) (te : SemE) (ρ0 : Env) (fin : List D → M → Bool) (n : Nat) : Nat → List D → List D → M → Bool :=
  Nat.rec (fun _ _ _ _ => false) (fun _ ih i c acc m => w i c m (fin acc m) fun d c' => g d ρ0 m fun ρ1 => tt ρ1 m (fun b m1 => match b with
    | true => te ρ1 m1 (fun v m2 => ih (i + 1) c' (v :: acc) m2) fun _ _ => false
    | false => ih (i + 1) c' acc m1) fun _ _ => false) n
def lcC (it : SemI) (g : SemG) (tt : SemT) (te : SemE) (own : List Nat) : SemE := fun ρ m k kx => it ρ m (fun w c m1 => lcL w g tt te (wipeE ρ own) (fun acc m2 => revK acc [] fun xs => k (.ref m2.n) (m2.alloc (.lst xs))) FUEL 0 c [] m1) kx
/-- no exception comes -/
def W0 : WX := fun _ _ _ _ => False
section
variable {X : Cx} {Z : Wd} {W : WX} {ts own : List Nat} {it : SemI} {g : SemG} {tt : SemT} {te : SemE}
theorem s_yes : PTs X [] (tT Z W yesT) := ⟨fun pins s σ H Q I ⟨μ, m, ρ, k, kx, S, ER, t, P, _⟩ => pts_nil.run pins s σ H Q I (P μ m H true .refl S t)⟩
theorem s_ones {c : Expr} {t : SemT} (h : PT X c (tT Z W t)) : PTs X [c] (tT Z W t) := pts_one h
theorem Reps.snoc {μ : Nat → Addr} {n : Nat} {H : Hp} {ds : List D} {vs : List V} {d : D} {v : V} (r : Reps Z μ n H ds vs) (h : Rep Z μ n H d v) : Reps Z μ n H (ds ++ [d]) (vs ++ [v]) := r.append (.single h)
theorem lcR (hsub : ∀ i ∈ ts, i ∈ own) {σ : L2.St} {H : Hp} {Q : VK} (h : tI Z W (lcC it g tt te own) σ H Q) : tLc (tIt Z W it) (tG Z ts g) (tT Z W0 tt) (tI Z W0 te) own σ H Q := by
  obtain ⟨μ, m, ρ, k, kx, S, ER, t, P, XP⟩ := h
  refine ⟨μ, m, ρ, _, kx, S, ER, t, fun μ1 m1 H1 J w c0 L1 S1 ⟨Iv, iv0, step⟩ e1 D hD => ?_, XP⟩
  generalize hfin : (fun (acc : List Ev.D) (m2 : M) => revK acc [] fun xs => k (.ref m2.n) (m2.alloc (.lst xs))) = fin at e1
  have apt1 : Apt μ1 m1.n D := fun i hi => S1.ne_fresh hD hi
  have E1 := ER.mono L1.toLe
  refine ⟨fun i n H' => ∃ μ' m' c acc vs, n + i = FUEL ∧ acc.length ≤ i ∧ Lt μ1 m1 H1 μ' m' H' ∧ Sim Z μ' m' H' ∧ Apt μ' m'.n D ∧ H' D = some (.lst vs) ∧ Reps Z μ' m'.n H' acc.reverse vs ∧ Iv i c ∧ lcL w g tt te (wipeE ρ own) fin n i c acc m' = true,
    ⟨FUEL, μ1, m1, c0, [], [], rfl, Nat.le_refl _, Lt.kp (kp_upd hD), S1.kp (kp_upd hD), apt1, upd_same, .nil, iv0, e1⟩, ?_⟩
  rintro i n H' ⟨μ', m', c, acc, vs, hn, hl, L, S', ap, hv, rs, iv, e⟩
  cases n with
  | zero => cases e
  | succ n =>
    have e' : w i c m' (fin acc m') (fun d c' => g d (wipeE ρ own) m' fun ρ1 => tt ρ1 m' (fun b m1 => match b with
      | true => te ρ1 m1 (fun v m2 => lcL w g tt te (wipeE ρ own) fin n (i + 1) c' (v :: acc) m2) fun _ _ => false
      | false => lcL w g tt te (wipeE ρ own) fin n (i + 1) c' acc m1) fun _ _ => false) = true := e
    rcases step i c μ' m' H' _ _ iv L S' e' with ⟨h1, h2⟩ | ⟨d, c', h1, h2, h3, h4⟩
    · refine .inl ⟨h2, ?_⟩
      rw [← hfin] at h1
      dsimp only at h1
      rw [revK_eq, List.append_nil] at h1
      have L2 : Lt μ m H (ext μ' m'.n D) (m'.alloc (.lst acc.reverse)) H' := L1.trans (L.adopt S' hD)
      refine P _ _ _ _ _ L2 (S'.adopt ap (fun _ z => by cases z) ⟨vs, hv, rs.mono (Le.ofKp (fun _ _ e => e) (Nat.le_succ _) fun _ h => ext_lt h)⟩) ?_ h1
      have := Rep.ref (Z := Z) (μ := ext μ' m'.n D) (n := m'.n + 1) (H := H') (i := m'.n) (Nat.lt_succ_self _)
      rw [ext_eq] at this
      exact this
    · refine .inr ⟨h3, fun H2 => ∃ μ2 m2 acc2 vs2, acc2.length ≤ i + 1 ∧ Lt μ1 m1 H1 μ2 m2 H2 ∧ Sim Z μ2 m2 H2 ∧ Apt μ2 m2.n D ∧ H2 D = some (.lst vs2) ∧ Reps Z μ2 m2.n H2 acc2.reverse vs2 ∧ lcL w g tt te (wipeE ρ own) fin n (i + 1) c' acc2 m2 = true,
        fun H2 ⟨μ2, m2, acc2, vs2, q0, q1, q2, q3, q4, q5, q6⟩ => ⟨n, Nat.lt_succ_self n, μ2, m2, c', acc2, vs2, by omega, q0, q1, q2, q3, q4, q5, h2, q6⟩, fun x Hx hy => ?_⟩
      obtain ⟨kp, rx⟩ := h4 x Hx hy
      have Lx : Lt μ' m' H' μ' m' Hx := Lt.kp kp
      have Sx : Sim Z μ' m' Hx := S'.kp kp
      have LLx := L.trans Lx
      have hvx := kp D _ hv
      have E2 : EnvRep Z μ' m'.n Hx (wipeE ρ own) (wipe σ own) := (wipeE_rep E1 own).mono LLx.toLe
      refine ⟨μ', m', wipeE ρ own, d, _, Sx, E2, rx, h1, fun σ2 ρ2 E3 w3 e3 => ⟨?_, ?_⟩⟩
      · rw [w3 own hsub, wipe_wipe σ own own fun i hi => hi]
      · refine ⟨μ', m', ρ2, _, fun _ _ => false, Sx, E3, e3, fun μ3 m3 H3 b L3 S3 e4 => ?_, fun _ _ _ _ _ _ z => by cases z⟩
        obtain ⟨hv3, ap3⟩ := L3.oth D _ hvx ap
        have LL3 := LLx.trans L3
        have rs3 : Reps Z μ3 m3.n H3 acc.reverse vs := rs.mono (Lx.trans L3).toLe
        cases b with
        | false => exact iteF ⟨μ3, m3, acc, vs, Nat.le_succ_of_le hl, LL3, S3, ap3, hv3, rs3, e4⟩
        | true =>
          refine iteT ⟨μ3, m3, ρ2, _, fun _ _ => false, S3, E3.mono L3.toLe, e4, fun μ4 m4 H4 v y L4 S4 R4 e5 => ?_, fun _ _ _ _ _ _ z => by cases z⟩
          obtain ⟨hv4, ap4⟩ := L4.oth D _ hv3 ap3
          have LL4 := LL3.trans L4
          have rs4 : Reps Z μ4 m4.n H4 acc.reverse vs := rs3.mono L4.toLe
          have hlen : vs.length ≤ i := by rw [← rs4.length, List.length_reverse]; exact hl
          refine ⟨vs, hv4, ?_, μ4, m4, v :: acc, vs ++ [y], by rw [List.length_cons]; omega, LL4.wr hD hv4, S4.wr ap4 hv4, ap4, upd_same, ?_, e5⟩
          · have h1 : FUEL = 100000 := rfl
            have h2 : sizeLine = 16777216 := sizeLine_eq
            omega
          · rw [List.reverse_cons]
            exact (rs4.snoc R4).mono (Le.wr hv4)
theorem s_lc {elt tg iter : Expr} {ifs : List Expr} {scope : Scope} {ow : List (Str × Nat)} {pos : Pos} (hc : X.calm = true) (hN : X.N.Nodup) (hi : PI X tg iter (tIt Z W it)) (ok : BlkOk X.N X.env.scope scope ow) (hsub : ∀ i ∈ ts, i ∈ ow.map (·.2))
    (hg : ∀ (s : Shared) (H : Hp) (C : Addr) (cl : List (Str × Addr)) (fp : List Addr), PG (X.blk s H scope (compEnvC scope cl C X.env) fp) tg (tG Z ts g)) (ht : ∀ (s : Shared) (H : Hp) (C : Addr) (cl : List (Str × Addr)) (fp : List Addr), PTs (X.blk s H scope (compEnvC scope cl C X.env) fp) ifs (tT Z W0 tt))
    (he : ∀ (s : Shared) (H : Hp) (C : Addr) (cl : List (Str × Addr)) (fp : List Addr), PE (X.blk s H scope (compEnvC scope cl C X.env) fp) elt (tI Z W0 te)) (hs : ∀ x, foldedSetIterable iter X.env x = pure x) :
    PE X (.ListComp elt [⟨tg, iter, ifs, 0⟩] scope pos) (tI Z W (lcC it g tt te (ow.map (·.2)))) := (pe_lc hc hN hi ok hg ht he hs).imp fun σ H Q h => lcR hsub h
theorem s_setLc {i : Nat} {y : Str} {py : Pos} {elt tg iter : Expr} {ifs : List Expr} {scope : Scope} {ow : List (Str × Nat)} {pos spos : Pos} (hc : X.calm = true) (hN : X.N.Nodup) (hy : X.N[i]? = some y) (hyl : X.env.scope.names.lookup y = some .local)
    (hsw : swapsWith (.ListComp elt [⟨tg, iter, ifs, 0⟩] scope pos) (some (.Name y py)) spos.line X.env = pure true) (hi : PI X tg iter (tIt Z W it)) (ok : BlkOk X.N X.env.scope scope ow) (hsub : ∀ i ∈ ts, i ∈ ow.map (·.2))
    (hg : ∀ (s : Shared) (H : Hp) (C : Addr) (cl : List (Str × Addr)) (fp : List Addr), PG (X.blk s H scope (compEnvC scope cl C X.env) fp) tg (tG Z ts g)) (ht : ∀ (s : Shared) (H : Hp) (C : Addr) (cl : List (Str × Addr)) (fp : List Addr), PTs (X.blk s H scope (compEnvC scope cl C X.env) fp) ifs (tT Z W0 tt))
    (he : ∀ (s : Shared) (H : Hp) (C : Addr) (cl : List (Str × Addr)) (fp : List Addr), PE (X.blk s H scope (compEnvC scope cl C X.env) fp) elt (tI Z W0 te)) (hs : ∀ x, foldedSetIterable iter X.env x = pure x) :
    PS X (.Assign [.Name y py] (.ListComp elt [⟨tg, iter, ifs, 0⟩] scope pos) spos) (tS Z W (setC (gNm i) (lcC it g tt te (ow.map (·.2))))) :=
  (ps_setLc hc hN hy hyl hsw hi ok hg ht he hs).imp fun D σ H ⟨μ, m, ρ, nx, bk, ct, rt, kx, S, ER, t, P1, P2, P3, P4, P5⟩ =>
    lcR hsub ⟨μ, m, ρ, _, _, S, ER, t, fun μ1 m1 H1 d v L S1 R1 e1 => P1 μ1 m1 H1 _ _ L S1 (by rw [setE_eq]; exact (ER.mono L.toLe).set R1 i) e1, P5.ex ER⟩
end
end
end Ev

set_option Elab.async false
set_option linter.all false
set_option maxRecDepth 100000
set_option maxHeartbeats 1000000
/-! Ev15: calls of defs, regions, raise, try, list(range(..)). -/
namespace Ev
open PySem PySem.Spec PyProof.Rows L2 HT
noncomputable section

/-- the promise of a def that computes as f says, n arguments -/
def spF (Z : Wd) (n : Nat) (f : SemF) : Sp := fun vs H Q E => vs.length = n ∧ ∃ μ m ds k kx, Sim Z μ m H ∧ Reps Z μ m.n H ds vs ∧ f ds m k kx = true ∧ Post Z μ m H k Q ∧
  ∀ μ' m' H' c, Lt μ m H μ' m' H' → Sim Z μ' m' H' → kx c m' = true → E (Z.cls c) none H'
/-- a def at its address, with its promise -/
structure DefOk (P : Program) (w : World) (K : PySem.W.Frag) (mg : Str → Option Value) (base : Heap) (Z : Wd) (lev : Nat) (a : Addr) (n : Nat) (f : SemF) : Prop where
  ex : ∃ (fd : FuncData) (ps : List Str), FnOk P w K mg base (L2.CX P w) lev a fd ps (spF Z n f) ∧ PySem.W.keepIn K (.ref a) = true ∧ Binds K fd ps []
  ar : ∀ ds m k kx, f ds m k kx = true → ds.length = n
def undN : Nat → Env := fun n => Nat.rec [] (fun _ r => .und :: r) n
theorem undN_get : ∀ (n i : Nat) (d : D), (undN n)[i]? = some d → d = .und
  | 0, _, _, h => by cases h
  | n + 1, 0, d, h => by
    have : some D.und = some d := h
    exact (Option.some.inj this).symm
  | n + 1, i + 1, d, h => undN_get n i d h
theorem undN_len : ∀ n : Nat, (undN n).length = n
  | 0 => rfl
  | n + 1 => by show (undN n).length + 1 = _; rw [undN_len n]
/-- a def by its body: n parameters, pad other names -/
def mkF (n pad : Nat) (b : SemS) : SemF := fun ds m k kx => Nat.beq ds.length n && b (ds ++ undN pad) m (fun _ m1 => k .non m1) (fun _ _ => false) (fun _ _ => false) k (fun c _ m1 => kx c m1)
theorem start_rep {Z : Wd} {μ : Nat → Addr} {m : M} {H : Hp} {ds : List D} {vs : List V} {N : List Str} {pad : Nat} (r : Reps Z μ m.n H ds vs) (h : N.length = ds.length + pad) : EnvRep Z μ m.n H (ds ++ undN pad) (L2.start N vs) := by
  refine ⟨?_, fun i d hd hne => ?_⟩
  · unfold L2.start
    rw [List.length_append, List.length_append, List.length_map, List.length_replicate, undN_len, r.length]
    have := r.length
    omega
  · by_cases hi : i < ds.length
    · rw [List.getElem?_append_left hi] at hd
      obtain ⟨v, h1, h2⟩ := r.get hd
      refine ⟨v, ?_, h2⟩
      unfold L2.start
      have hl : i < vs.length := by rw [← r.length]; exact hi
      rw [List.getElem?_append_left (by rw [List.length_map]; exact hl), List.getElem?_map, h1]; rfl
    · rw [List.getElem?_append_right (by omega)] at hd
      exact absurd (undN_get _ _ _ hd) hne
/-- THE RULE for a def by its translated body -/
theorem def_ok {P : Program} {w : World} {K : PySem.W.Frag} {mg : Str → Option Value} {base : Heap} {Z : Wd} {x qual : Str} {st : Stmt} {f : Addr} {fd : FuncData} {N ps : List Str} {k pad : Nat} {b : SemS} (F : Fun K x qual st f fd) (S : FnScope N ps (defScope st)) (hl : N.length = ps.length + pad)
    (hbody : ∀ (cdv : Value) (A : Around) (outer : List PySem.Env) (s : Shared) (H : Hp) (E : XK), Room k (A.deeper (envOfC qual (defScope st) s.heap.objs.size f cdv)) →
      PSs (cxOf (L2.CX P w) P w K mg base N qual (defScope st) f cdv A outer s H E) (defBody st) (tS Z (fun cls d _ H' => E cls d H') b)) : FnOk P w K mg base (L2.CX P w) (k + 1) f fd ps (spF Z ps.length (mkF ps.length pad b)) := by
  refine Fun.okX F S (fun vs H Q E h => h.1) fun cdv A outer s H vs Q E hr h => ⟨_, hbody cdv A outer s H E hr, ?_⟩
  obtain ⟨hn, μ, m, ds, kk, kx, S, R, t, P, XP⟩ := h
  obtain ⟨t1, t2⟩ := and2 t
  have hlen := R.length
  refine ⟨μ, m, _, _, _, _, _, _, S, start_rep R (by omega), t2, fun μ' m' H' ρ' σ' L' S' E' e' => P μ' m' H' .non .non L' S' .non e', fun _ _ _ _ _ _ _ _ z => (by cases z), fun _ _ _ _ _ _ _ _ z => (by cases z), P, fun μ' m' H' c ρ' σ' L' S' _ e' => XP μ' m' H' c L' S' e'⟩

theorem mkF_ar {n pad : Nat} {b : SemS} : ∀ ds m k kx, mkF n pad b ds m k kx = true → ds.length = n := fun ds m k kx h => Nat.eq_of_beq_eq_true (and2 h).1

/-! ### calls -/
/-- a def that a slot holds -/
def callLC (i : Nat) (T : Nat → Option SemF) (a : SemA) : SemE := fun ρ m k kx => match ρ[i]? with
  | some (.fn j) => (match T j with | some f => a ρ m (fun xs m1 => f xs m1 k kx) kx | none => false)
  | _ => false
section
variable {X : Cx} {Z : Wd} {W : WX} {x : Str} {p pos : Pos} {e : Expr} {es : List Expr} {ts : SemA} {lev a n i : Nat} {f : SemF}
theorem s_callR (har : ∀ ds m k kx, f ds m k kx = true → ds.length = n) {σ : L2.St} {H : Hp} {Q : VK} (h : tI Z W (callC f ts) σ H Q) : tCallSD (spF Z n f) [] (WE W) (tA Z W ts) σ H Q := by
  obtain ⟨μ, m, ρ, k, kx, S, ER, t, P, XP⟩ := h
  refine ⟨μ, m, ρ, _, kx, S, ER, t, fun μ1 m1 H1 ds vs L S1 R1 e1 => ?_, XP⟩
  show spF Z n f (vs ++ []) H1 Q (WE W σ)
  rw [List.append_nil]
  exact ⟨by rw [← R1.length]; exact har _ _ _ _ e1, μ1, m1, ds, k, kx, S1, R1, e1, P.after L, XP.after L⟩
theorem s_call (F : DefOk X.prog X.w X.K X.mg X.base Z lev a n f) (hr : Room lev X.A) (hg : Gl X x) (hm : X.mg x = some (.ref a)) (tk : Takes X W) (ha : PA X (e :: es) (tA Z W ts)) (hdb : (x == ("__debug__" : Str)) = false)
    (he : starEach (e :: es) X.env = (false, eval e X.env) :: starEach es X.env) (hpl : (backTo pos (starEach es X.env)).any (·.1) = false) : PE X (.Call (.Name x p) (e :: es) [] pos) (tI Z W (callC f ts)) := by
  obtain ⟨fd, ps, hF, hk, hb⟩ := F.ex
  exact (pe_callSD (dvs := []) (ds := []) hF hr hg hm hk hb .nil (fun σ => passAt tk σ) ha hdb he hpl).imp fun σ H Q h => s_callR F.ar h
theorem s_callL {T : Nat → Option SemF} (F : ∀ j f, T j = some f → ∃ a n, Z.FT j = some a ∧ DefOk X.prog X.w X.K X.mg X.base Z lev a n f) (hr : Room lev X.A) (hN : X.N[i]? = some x) (hv : Vis X.env.scope x) (tk : Takes X W) (ha : PA X (e :: es) (tA Z W ts)) (hdb : (x == ("__debug__" : Str)) = false)
    (hcd : (x == ("__classdict__" : Str)) = false) (he : starEach (e :: es) X.env = (false, eval e X.env) :: starEach es X.env) (hpl : (backTo pos (starEach es X.env)).any (·.1) = false) : PE X (.Call (.Name x p) (e :: es) [] pos) (tI Z W (callLC i T ts)) := by
  refine ⟨fun pins s σ H Q I h => ?_⟩
  obtain ⟨μ, m, ρ, k, kx, S, ER, t, P, XP⟩ := h
  unfold callLC at t
  split at t
  · rename_i j hj
    split at t
    · rename_i f hf
      obtain ⟨a, n, hZ, D⟩ := F j f hf
      obtain ⟨v, hs, rv⟩ := ER.at' i _ hj (fun z => by cases z)
      cases rv with
      | fn hz =>
        rw [hZ] at hz
        cases hz
        obtain ⟨fd, ps, hF, hk, hb⟩ := D.ex
        refine wpAny_Call_Name_kw (thn ((pe_var (pos := p) hN hv hdb hcd).run pins s σ H (fun v H1 => v = .ref a ∧ H1 = H) I ⟨.ref a, hs, rfl, rfl⟩) fun u s1 ⟨v, H1, I1, r1, q1⟩ => ?_)
        obtain ⟨rfl, rfl⟩ := q1
        cases r1
        have h2 : tI Z W (callC f ts) σ H1 Q := ⟨μ, m, ρ, k, kx, S, ER, t, P, XP⟩
        refine PySem.W.callWith_K (h₀ := X.base) I.ok.mod.kin hk (thn (ha.run pos pins s1 σ _ _ I1 (s_callR D.ar h2)) fun us s2 ⟨vs, H2, I2, r, q⟩ => ⟨I2.kIn, ?_⟩) he hpl
        exact run_fnSD hF hr hb .nil (passAt tk σ) I2 r q
    · cases t
  · cases t
end

/-! ### regions: a call that leaves what stood untouched, its garbage let go -/
def M.sub (m : M) : M := ⟨m.n, m.n, m.t, m.tk⟩
def M.keep (m m' : M) : M := ⟨m.rn, m'.n, m'.t, m'.tk⟩
/-- what stood, with the later count of draws -/
def M.at (m : M) (t : Nat) : M := ⟨m.rn, m.n, m.t, t⟩
def frcN (i : Nat) (k : Nat → Bool) : Bool := Nat.rec (k 0) (fun n _ => k (n + 1)) i
theorem frcN_eq (i : Nat) (k : Nat → Bool) : frcN i k = k i := by cases i <;> rfl
def land0 (d : D) (m m' : M) (k : Kc) : Bool := match pureB 40 d with
  | true => k d m
  | false => (match d with
    | .ref j => (match Nat.blt j m.n with
      | true => k d m
      | false => (match m'.get j with
        | some (.lst xs) => (match xs.all (pureB 40) with
          | true => k (.ref m.n) (m.alloc (.lst xs))
          | false => k d (m.keep m'))
        | _ => k d (m.keep m')))
    | _ => k d (m.keep m'))
def landD (d : D) (m m' : M) (k : Kc) : Bool := frcN m'.tk fun t => land0 d (m.at t) m' k
def pureF (f : SemF) : SemF := fun ds m k kx => f ds m.sub (fun d m' => landD d m m' k) (fun c m' => frcN m'.tk fun t => kx c (m.at t))
section
variable {Z : Wd} {μ μ' : Nat → Addr} {m m' : M} {n n' : Nat} {H H' : Hp}
mutual
theorem Rep.both (hle : ∀ i, i < n → μ' i = μ i) : ∀ {d : D} {v0 v : V}, Rep Z μ n H d v0 → Rep Z μ' n' H' d v → Rep Z μ n H' d v
  | _, _, _, .non, .non => .non
  | _, _, _, .bl, .bl => .bl
  | _, _, _, .int, .int => .int
  | _, _, _, .str, .str => .str
  | _, _, _, .tup _ r0, .tup h r => .tup h (Reps.both hle r0 r)
  | _, _, _, .ref h0, .ref _ => by rw [hle _ h0]; exact .ref h0
  | _, _, _, .fn _, .fn h => .fn h
  | _, _, _, .ty, .ty => .ty
  | _, _, _, .scr _ _, .scr h hl => .scr h hl
  | _, _, _, .frl _ r0, .frl h r => .frl h (Reps.both hle r0 r)
theorem Reps.both (hle : ∀ i, i < n → μ' i = μ i) : ∀ {ds : List D} {vs0 vs : List V}, Reps Z μ n H ds vs0 → Reps Z μ' n' H' ds vs → Reps Z μ n H' ds vs
  | _, _, _, .nil, .nil => .nil
  | _, _, _, .cons h0 r0, .cons h r => .cons (Rep.both hle h0 h) (Reps.both hle r0 r)
end
theorem KReps.both {κ : Type} {R R' R'' : D → V → Prop} (f : ∀ d v0 v, R d v0 → R' d v → R'' d v) : ∀ {ks : List (κ × D)} {vs0 vs : List (κ × V)}, KReps R ks vs0 → KReps R' ks vs → KReps R'' ks vs
  | _, _, _, .nil, .nil => .nil
  | _, _, _, .cons h0 r0, .cons h r => .cons (f _ _ _ h0 h) (KReps.both f r0 r)
theorem pure_any : ∀ (f : Nat) {d : D} {v : V}, pureB f d = true → Rep Z μ' n' H d v → Rep Z μ n H d v := by
  have all : ∀ (f : Nat), (∀ {d : D} {v : V}, pureB f d = true → Rep Z μ' n' H d v → Rep Z μ n H d v) → ∀ {ds : List D} {vs : List V}, ds.all (pureB f) = true → Reps Z μ' n' H ds vs → Reps Z μ n H ds vs := by
    intro f ih ds
    induction ds with
    | nil => intro vs _ r; cases r; exact .nil
    | cons d ds ihd =>
      intro vs h r
      rw [List.all_cons] at h
      obtain ⟨h1, h2⟩ := and2 h
      cases r with
      | cons a b => exact .cons (ih h1 a) (ihd h2 b)
  intro f
  induction f with
  | zero =>
    intro d v h r
    cases r with
    | tup hq rs => unfold pureB at h; cases h
    | non => exact .non
    | bl => exact .bl
    | int => exact .int
    | str => exact .str
    | ref _ => unfold pureB at h; cases h
    | fn _ => unfold pureB at h; cases h
    | ty => unfold pureB at h; cases h
    | scr => unfold pureB at h; cases h
    | frl => unfold pureB at h; cases h
  | succ f ih =>
    intro d v h r
    cases r with
    | tup hq rs =>
      unfold pureB at h
      exact .tup hq (all f ih h rs)
    | non => exact .non
    | bl => exact .bl
    | int => exact .int
    | str => exact .str
    | ref _ => unfold pureB at h; cases h
    | fn _ => unfold pureB at h; cases h
    | ty => unfold pureB at h; cases h
    | scr => unfold pureB at h; cases h
    | frl => unfold pureB at h; cases h
theorem pures_any {f : Nat} : ∀ {ds : List D} {vs : List V}, ds.all (pureB f) = true → Reps Z μ' n' H ds vs → Reps Z μ n H ds vs
  | _, _, _, .nil => .nil
  | _, _, h, .cons a b => by
    rw [List.all_cons] at h
    obtain ⟨h1, h2⟩ := and2 h
    exact .cons (pure_any f h1 a) (pures_any h2 b)
theorem sub_get {i : Nat} : m.sub.get i = m.get i := rfl
theorem Sim.sub (S : Sim Z μ m H) : Sim Z μ m.sub H :=
  ⟨Nat.le_refl _, S.rlen, S.inj, fun i o h => S.obj i o h, fun i c h => S.tap i c h⟩
theorem low_get (S' : Sim Z μ' m' H') (L : Lt μ m.sub H μ' m' H') {i : Nat} (hi : i < m.n) : m'.get i = m.get i := by
  exact L.ro i hi
theorem Sim.low (S : Sim Z μ m H) (S' : Sim Z μ' m' H') (L : Lt μ m.sub H μ' m' H') : Sim Z μ (m.at m'.tk) H' ∧ Lt μ m H μ (m.at m'.tk) H' := by
  refine ⟨⟨S.len, S.rlen, S.inj, fun i o h => ?_, S.tap⟩, ⟨⟨Nat.le_refl _, fun _ _ => rfl, L.tup, L.frz⟩, rfl, fun _ _ => rfl, fun a o e n => ⟨(L.oth a o e n).1, n⟩⟩⟩
  have hi : i < m.n := (M.get_some h).1
  have h : m.get i = some o := h
  have h' : m'.get i = some o := by rw [low_get S' L hi]; exact h
  have o1 := S.obj i o h
  have o2 := S'.obj i o h'
  have e : ∀ j, j < m.n → μ' j = μ j := L.eq
  rw [e i hi] at o2
  cases o with
  | lst xs =>
    obtain ⟨vs0, _, r0⟩ := o1
    obtain ⟨vs, q, r⟩ := o2
    exact ⟨vs, q, r0.both e r⟩
  | dic xs =>
    obtain ⟨vs0, _, r0⟩ := o1
    obtain ⟨vs, q, r⟩ := o2
    exact ⟨vs, q, KReps.both (R := Rep Z μ m.n H) (R' := Rep Z μ' m'.n H') (fun _ _ _ a b => Rep.both e a b) r0 r⟩
  | dil xs =>
    obtain ⟨vs0, _, _, r0⟩ := o1
    obtain ⟨vs, o, q, r⟩ := o2
    exact ⟨vs, o, q, KReps.both (R := Rep Z μ m.n H) (R' := Rep Z μ' m'.n H') (fun _ _ _ a b => Rep.both e a b) r0 r⟩
  | dit xs =>
    obtain ⟨vs0, _, r0⟩ := o1
    obtain ⟨vs, q, r⟩ := o2
    exact ⟨vs, q, KReps.both (R := Rep Z μ m.n H) (R' := Rep Z μ' m'.n H') (fun _ _ _ a b => Rep.both e a b) r0 r⟩
  | hid => exact o2
  | tape c =>
    obtain ⟨hc, _⟩ := o1
    obtain ⟨_, cells, a1, a2, a3, a4, q1, q2, ok⟩ := o2
    rw [e c hc] at q1 q2
    exact ⟨hc, cells, a1, a2, a3, a4, q1, q2, ok⟩
theorem Sim.keep (S : Sim Z μ m H) (S' : Sim Z μ' m' H') (L : Lt μ m.sub H μ' m' H') : Sim Z μ' (m.keep m') H' ∧ Lt μ m H μ' (m.keep m') H' := by
  exact ⟨⟨Nat.le_trans S.len L.le, S'.rlen, S'.inj, fun i o h => S'.obj i o h, fun i c h => S'.tap i c h⟩, ⟨L.toLe, rfl, fun i hi => L.ro i (Nat.lt_of_lt_of_le hi S.len), L.oth⟩⟩
theorem land_ok (S : Sim Z μ m H) (S' : Sim Z μ' m' H') (L : Lt μ m.sub H μ' m' H') {d : D} {v : V} {k : Kc} {Q : VK} (r : Rep Z μ' m'.n H' d v) (h : landD d m m' k = true) (P : Post Z μ m H k Q) : Q v H' := by
  obtain ⟨S1, L1⟩ := S.low S' L
  unfold landD at h
  rw [frcN_eq] at h
  have keep : k d (m.keep m') = true → Q v H' := fun e => by
    obtain ⟨S2, L2⟩ := S.keep S' L
    exact P _ _ _ _ _ L2 S2 r e
  unfold land0 at h
  split at h
  · rename_i hp
    exact P _ _ _ _ _ L1 S1 (pure_any 40 hp r) h
  · cases d with
    | ref j =>
      cases r with
      | ref hj =>
        dsimp only at h
        rw [blt_iff, show (m.at m'.tk).n = m.n from rfl] at h
        by_cases hlt : j < m.n
        · rw [decide_eq_true hlt] at h
          have : Rep Z μ m.n H' (.ref j) (.ref (μ' j)) := by rw [L.eq j hlt]; exact .ref hlt
          exact P _ _ _ _ _ L1 S1 this h
        · rw [decide_eq_false hlt] at h
          dsimp only at h
          split at h
          · rename_i xs g
            split at h
            · rename_i hp
              obtain ⟨vs, e, rs⟩ := S'.lst g
              have ap : Apt μ m.n (μ' j) := fun i hi z => by
                rw [← L.eq i hi] at z
                have := S'.inj i j (Nat.lt_of_lt_of_le hi L.le) hj z
                omega
              have S2 := S1.adopt ap (o := .lst xs) (fun _ z => by cases z) ⟨vs, e, pures_any hp rs⟩
              have L2 : Lt μ m H (ext μ m.n (μ' j)) ((m.at m'.tk).alloc (.lst xs)) H' := ⟨⟨Nat.le_succ _, fun i hi => ext_lt hi, L1.tup, L1.frz⟩, rfl, fun i hi => alloc_get S1 (Nat.lt_of_lt_of_le hi S1.len), fun a o q n => by
                obtain ⟨q1, q2⟩ := L.oth a o q n
                refine ⟨q1, fun i hi => ?_⟩
                have hi : i < m.n + 1 := hi
                by_cases h2 : i = m.n
                · rw [h2, ext_eq]; exact q2 _ hj
                · rw [ext_lt (by omega)]; exact n i (by omega)⟩
              refine P _ _ _ _ _ L2 S2 ?_ h
              have := Rep.ref (Z := Z) (μ := ext μ m.n (μ' j)) (n := m.n + 1) (H := H') (i := m.n) (Nat.lt_succ_self _)
              rw [ext_eq] at this
              exact this
            · exact keep h
          · exact keep h
    | _ => exact keep h
theorem spF_pure {f : SemF} : ∀ vs H Q E, spF Z n (pureF f) vs H Q E → spF Z n f vs H Q E := by
  rintro vs H Q E ⟨hn, μ, m, ds, k, kx, S, R, t, P, XP⟩
  refine ⟨hn, μ, m.sub, ds, _, _, S.sub, R, t, fun μ' m' H' d v L S' r e => land_ok S S' L r e P, fun μ' m' H' c L S' e => ?_⟩
  obtain ⟨S1, L1⟩ := S.low S' L
  rw [frcN_eq] at e
  exact XP _ _ _ c L1 S1 e
end
theorem DefOk.pure {P : Program} {w : World} {K : PySem.W.Frag} {mg : Str → Option Value} {base : Heap} {Z : Wd} {lev : Nat} {a : Addr} {n : Nat} {f : SemF} (F : DefOk P w K mg base Z lev a n f) : DefOk P w K mg base Z lev a n (pureF f) := by
  obtain ⟨fd, ps, h1, h2, h3⟩ := F.ex
  exact ⟨⟨fd, ps, h1.imp spF_pure, h2, h3⟩, fun ds m k kx h => F.ar ds _ _ _ h⟩
theorem DefOk.mono {P : Program} {w : World} {K : PySem.W.Frag} {mg : Str → Option Value} {base : Heap} {Z : Wd} {lev lev' : Nat} {a : Addr} {n : Nat} {f : SemF} (F : DefOk P w K mg base Z lev a n f) (h : lev ≤ lev') : DefOk P w K mg base Z lev' a n f := by
  obtain ⟨fd, ps, h1, h2, h3⟩ := F.ex
  exact ⟨⟨fd, ps, h1.mono h, h2, h3⟩, F.ar⟩

/-! ### list(range(..)), tuple(range(..)) -/
def rgD (lo : Int) (n : Nat) : List D := (List.range n).map fun i => .int (lo + (i : Nat))
def rgK (n : Nat) : Int → List D → (List D → Bool) → Bool := Nat.rec (fun _ acc k => k acc) (fun _ ih hi acc k => frc (hi - 1) fun h => ih h (.int h :: acc) k) n
theorem rgK_eq : ∀ (n : Nat) (lo : Int) (acc : List D) (k : List D → Bool), rgK n (lo + n) acc k = k (rgD lo n ++ acc)
  | 0, lo, acc, k => rfl
  | n + 1, lo, acc, k => by
    show (frc (lo + ((n + 1 : Nat) : Int) - 1) fun h => rgK n h (.int h :: acc) k) = _
    rw [frc_eq, show lo + ((n + 1 : Nat) : Int) - 1 = lo + n by omega, rgK_eq n lo, show rgD lo (n + 1) = rgD lo n ++ [.int (lo + n)] from ?_, List.append_assoc]
    · rfl
    · unfold rgD
      rw [List.range_succ, List.map_append]; rfl
theorem rgD_rep {Z : Wd} {μ : Nat → Addr} {n : Nat} {H : Hp} (a b : Int) : Reps Z μ n H (rgD a (b - a).toNat) (rgV a b) := by
  unfold rgD rgV
  generalize List.range (b - a).toNat = l
  induction l with
  | nil => exact .nil
  | cons i l ih => exact .cons .int ih
/-- the ints from lo below hi, as a new list -/
def rgB (lo hi : Int) (k : List D → Bool) : Bool := rgOk lo && (rgOk hi && toNatB (hi - lo) fun n => Nat.ble n LIM && (match n with | 0 => k [] | _ => rgK n hi [] k))
theorem rgB_ok {lo hi : Int} {k : List D → Bool} (h : rgB lo hi k = true) : RgOk lo hi ∧ k (rgD lo (hi - lo).toNat) = true := by
  obtain ⟨h1, h⟩ := and2 h
  obtain ⟨h2, h⟩ := and2 h
  obtain ⟨a1, a2⟩ := rgOk_ok h1
  obtain ⟨b1, b2⟩ := rgOk_ok h2
  rw [toNatB_eq] at h
  obtain ⟨h3, h4⟩ := and2 h
  have h5 : (hi - lo).toNat ≤ 100000 := Nat.le_of_ble_eq_true h3
  refine ⟨⟨by omega, by omega, by omega, by omega, by omega⟩, ?_⟩
  generalize hn : (hi - lo).toNat = n at h4
  cases n with
  | zero => exact h4
  | succ n =>
    have e : hi = lo + ((n + 1 : Nat) : Int) := by omega
    rw [e] at h4
    replace h4 : rgK (n + 1) (lo + ((n + 1 : Nat) : Int)) [] k = true := h4
    rw [rgK_eq, List.append_nil] at h4
    exact h4
def lrg1C (a : SemE) : SemE := fun ρ m k kx => a ρ m (fun x m1 => match x with | .int j => rgB 0 j fun xs => k (.ref m1.n) (m1.alloc (.lst xs)) | _ => false) kx
def lrg2C (a b : SemE) : SemE := fun ρ m k kx => a ρ m (fun x m1 => b ρ m1 (fun y m2 => match x, y with | .int i, .int j => rgB i j fun xs => k (.ref m2.n) (m2.alloc (.lst xs)) | _, _ => false) kx) kx
def trg1C (a : SemE) : SemE := fun ρ m k kx => a ρ m (fun x m1 => match x with | .int j => rgB 0 j fun xs => k (.tup xs) m1 | _ => false) kx
def trg2C (a b : SemE) : SemE := fun ρ m k kx => a ρ m (fun x m1 => b ρ m1 (fun y m2 => match x, y with | .int i, .int j => rgB i j fun xs => k (.tup xs) m2 | _, _ => false) kx) kx
section
variable {X : Cx} {Z : Wd} {W : WX} {a b : Expr} {ta tb : SemE} {p pos q qos : Pos}
theorem s_lrg1 (hc : X.calm = true) (hl : Gl X "list") (hlm : X.mg "list" = none) (hg : Gl X "range") (hm : X.mg "range" = none) (ha : PE X a (tI Z W ta)) (na : starEach [a] X.env = (false, eval a X.env) :: starEach [] X.env)
    (ne : starEach [.Call (.Name "range" p) [a] [] pos] X.env = (false, eval (.Call (.Name "range" p) [a] [] pos) X.env) :: starEach [] X.env) : PE X (.Call (.Name "list" q) [.Call (.Name "range" p) [a] [] pos] [] qos) (tI Z W (lrg1C ta)) :=
  (pe_listRg hc hl hlm (prg_1 hg hm ha na) ne).imp fun σ H Q ⟨μ, m, ρ, k, kx, S, ER, t, P, XP⟩ => ⟨μ, m, ρ, _, kx, S, ER, t, fun μ1 m1 H1 d v L S1 R1 e1 => (by
    cases R1 with
    | int =>
      obtain ⟨h1, h2⟩ := rgB_ok e1
      exact ⟨_, rfl, h1, fun p hp => (P.after L).newL S1 hp (rgD_rep 0 _) h2⟩
    | _ => cases e1), XP⟩
theorem s_lrg2 (hc : X.calm = true) (hl : Gl X "list") (hlm : X.mg "list" = none) (hg : Gl X "range") (hm : X.mg "range" = none) (ha : PE X a (tI Z W ta)) (hb : PE X b (tI Z W tb)) (na : starEach [a, b] X.env = (false, eval a X.env) :: starEach [b] X.env)
    (nb : starEach [b] X.env = (false, eval b X.env) :: starEach [] X.env) (hp : (backTo pos (starEach [b] X.env)).any (·.1) = false)
    (ne : starEach [.Call (.Name "range" p) [a, b] [] pos] X.env = (false, eval (.Call (.Name "range" p) [a, b] [] pos) X.env) :: starEach [] X.env) : PE X (.Call (.Name "list" q) [.Call (.Name "range" p) [a, b] [] pos] [] qos) (tI Z W (lrg2C ta tb)) :=
  (pe_listRg hc hl hlm (prg_2 hg hm ha hb na nb hp) ne).imp fun σ H Q ⟨μ, m, ρ, k, kx, S, ER, t, P, XP⟩ => ⟨μ, m, ρ, _, kx, S, ER, t, fun μ1 m1 H1 d v L S1 R1 e1 => ⟨μ1, m1, ρ, _, kx, S1, ER.mono L.toLe, e1, fun μ2 m2 H2 d2 v2 L2 S2 R2 e2 => (by
    have R1' := R1.mono L2.toLe
    cases R1' with
    | int =>
      cases R2 with
      | int =>
        obtain ⟨h1, h2⟩ := rgB_ok e2
        exact ⟨_, _, rfl, rfl, h1, fun p hp => (P.after (L.trans L2)).newL S2 hp (rgD_rep _ _) h2⟩
      | _ => cases e2
    | _ => cases R2 <;> cases e2), XP.after L⟩, XP⟩
theorem s_trg1 (hc : X.calm = true) (hl : Gl X "tuple") (hlm : X.mg "tuple" = none) (hg : Gl X "range") (hm : X.mg "range" = none) (ha : PE X a (tI Z W ta)) (na : starEach [a] X.env = (false, eval a X.env) :: starEach [] X.env)
    (ne : starEach [.Call (.Name "range" p) [a] [] pos] X.env = (false, eval (.Call (.Name "range" p) [a] [] pos) X.env) :: starEach [] X.env) : PE X (.Call (.Name "tuple" q) [.Call (.Name "range" p) [a] [] pos] [] qos) (tI Z W (trg1C ta)) :=
  (pe_tupRg hc hl hlm (prg_1 hg hm ha na) ne).imp fun σ H Q ⟨μ, m, ρ, k, kx, S, ER, t, P, XP⟩ => ⟨μ, m, ρ, _, kx, S, ER, t, fun μ1 m1 H1 d v L S1 R1 e1 => (by
    cases R1 with
    | int =>
      obtain ⟨h1, h2⟩ := rgB_ok e1
      exact ⟨_, rfl, h1, fun p hp => (P.after L).newT S1 hp (rgD_rep 0 _) h2⟩
    | _ => cases e1), XP⟩
theorem s_trg2 (hc : X.calm = true) (hl : Gl X "tuple") (hlm : X.mg "tuple" = none) (hg : Gl X "range") (hm : X.mg "range" = none) (ha : PE X a (tI Z W ta)) (hb : PE X b (tI Z W tb)) (na : starEach [a, b] X.env = (false, eval a X.env) :: starEach [b] X.env)
    (nb : starEach [b] X.env = (false, eval b X.env) :: starEach [] X.env) (hp : (backTo pos (starEach [b] X.env)).any (·.1) = false)
    (ne : starEach [.Call (.Name "range" p) [a, b] [] pos] X.env = (false, eval (.Call (.Name "range" p) [a, b] [] pos) X.env) :: starEach [] X.env) : PE X (.Call (.Name "tuple" q) [.Call (.Name "range" p) [a, b] [] pos] [] qos) (tI Z W (trg2C ta tb)) :=
  (pe_tupRg hc hl hlm (prg_2 hg hm ha hb na nb hp) ne).imp fun σ H Q ⟨μ, m, ρ, k, kx, S, ER, t, P, XP⟩ => ⟨μ, m, ρ, _, kx, S, ER, t, fun μ1 m1 H1 d v L S1 R1 e1 => ⟨μ1, m1, ρ, _, kx, S1, ER.mono L.toLe, e1, fun μ2 m2 H2 d2 v2 L2 S2 R2 e2 => (by
    have R1' := R1.mono L2.toLe
    cases R1' with
    | int =>
      cases R2 with
      | int =>
        obtain ⟨h1, h2⟩ := rgB_ok e2
        exact ⟨_, _, rfl, rfl, h1, fun p hp => (P.after (L.trans L2)).newT S2 hp (rgD_rep _ _) h2⟩
      | _ => cases e2
    | _ => cases R2 <;> cases e2), XP.after L⟩, XP⟩
end

/-! ### raise, try -/
def raiseC (c : Nat) : SemS := fun ρ m _ _ _ _ kx => kx c ρ m
/-- the clause's answer by the class's number -/
def tryC (body : SemS) (hit : Nat → Option Bool) (suite : SemS) : SemS := fun ρ m nx bk ct rt kx => body ρ m nx bk ct rt fun c ρ1 m1 => match hit c with
  | some true => suite ρ1 m1 nx bk ct rt fun _ _ _ => false
  | some false => kx c ρ1 m1
  | none => false
section
variable {X : Cx} {Z : Wd} {W : WX} {pos : Pos}
theorem s_raise {e : Expr} {c : Nat} {C : Addr} (hc : X.calm = true) (tk : Takes X W) (he : PMk X e (fun _ H Q => Q (.ref C) none H)) (hC : Z.cls c = .ref C) : PS X (.Raise (some e) none pos) (tS Z W (raiseC c)) :=
  (ps_raise hc tk he).imp fun D σ H ⟨μ, m, ρ, nx, bk, ct, rt, kx, S, ER, t, P1, P2, P3, P4, P5⟩ => by
    have := P5 μ m H c ρ σ .refl S ER t
    rw [hC] at this
    exact this
theorem s_try {x : Str} {C : Value} {body suite : List Stmt} {b₀ : Stmt} {np pos' : Pos} {tb ts : SemS} {hit : Nat → Option Bool} (hK : X.K = Z.K) (hs : X.stack = X.env :: X.outer) (hf : X.env.frame = some X.env.locals) (hc : Names X x C) (tk : Takes X W)
    (hh : ∀ c b, hit c = some b → PySem.W.exmOne Z.K (Z.cls c) C = some b)
    (hb : ∀ (W : WX) (pn : List (Addr × Obj)) (xe : Value → Shared → Prop), Takes (X.tr pn xe) W → PassesOwn (model X.prog X.w) X.A X.env xe → PSs (X.tr pn xe) body (tS Z W tb))
    (hsu : ∀ (a : Addr) (oe : Obj) (cls : Value) (d : Option Addr) (pn : List (Addr × Obj)), Zc cls d oe → (∃ vs, oe.data = .fields vs) → PSs (X.suite a ((a, oe) :: pn)) (b₀ :: suite) (tS Z W0 ts)) :
    PS X (.Try body [.ExceptHandler (some (.Name x np)) none (b₀ :: suite) pos'] [] [] pos) (tS Z W (tryC tb hit ts)) :=
  (ps_try_only (tb := fun W => tS Z W tb) (ts := fun _ _ _ => tS Z W0 ts) hs hf hc tk hb hsu).imp fun D σ H ⟨μ, m, ρ, nx, bk, ct, rt, kx, S, ER, t, P1, P2, P3, P4, P5⟩ => by
    refine ⟨μ, m, ρ, nx, bk, ct, rt, _, S, ER, t, P1, P2, P3, P4, fun μ' m' H' c ρ' σ' L S' E' e' => ?_⟩
    dsimp only at e'
    split at e'
    · rename_i hc'
      exact ⟨true, by rw [hK]; exact hh c true hc', fun _ a ha => ⟨μ', m', ρ', nx, bk, ct, rt, _, S', E', e', P1.after L, P2.after L, P3.after L, P4.after L, fun _ _ _ _ _ _ _ _ _ z => (by cases z)⟩, fun z => (by cases z)⟩
    · rename_i hc'
      exact ⟨false, by rw [hK]; exact hh c false hc', fun z => (by cases z), fun _ => P5 μ' m' H' c ρ' σ' L S' E' e'⟩
    · cases e'
end
end
end Ev

set_option Elab.async false
set_option linter.all false
set_option maxRecDepth 100000
set_option maxHeartbeats 1000000
/-! Ev16: what the translator asks of the trees, by cases. -/
namespace Ev
open PySem PySem.Spec PyProof.Rows L2 HT
noncomputable section

/-! ### facts about trees, by cases -/
def notStar : Expr → Bool
  | .Starred _ _ => false
  | _ => true
section
variable {e o i : Expr} {es : List Expr} {env : PySem.Env} {pos : Pos}
theorem star_e (h : notStar e = true) : starEach (e :: es) env = (false, eval e env) :: starEach es env := by
  cases e <;> first | rfl | cases h
theorem star_1 (h : notStar e = true) : starEach [e] env = [(false, eval e env)] := star_e h
theorem star_any : ∀ {es : List Expr}, es.all notStar = true → (backTo pos (starEach es env)).any (·.1) = false
  | [], _ => rfl
  | e :: es, h => by
    rw [List.all_cons] at h
    obtain ⟨h1, h2⟩ := and2 h
    rw [star_e h1]
    show (false || (backTo pos (starEach es env)).any (·.1)) = false
    rw [star_any h2]; rfl
theorem star_all : ∀ {es : List Expr}, es.all notStar = true → ((backTo pos (starEach es env)).all fun x => !x.1) = true
  | [], _ => rfl
  | e :: es, h => by
    rw [List.all_cons] at h
    obtain ⟨h1, h2⟩ := and2 h
    rw [star_e h1]
    show (true && (backTo pos (starEach es env)).all fun x => !x.1) = true
    rw [star_all h2]; rfl
theorem asg_e (h : notStar e = true) : assignEach (e :: es) env = (false, assign e env) :: assignEach es env := by
  cases e <;> first | rfl | cases h
theorem asg_map (h : notStar e = true) : (assignEach (e :: es) env).map (·.2) = assign e env :: (assignEach es env).map (·.2) := by rw [asg_e h]; rfl
theorem asg_1 (h : notStar e = true) : (assignEach [e] env).map (·.2) = [assign e env] := by rw [asg_e h]; rfl
theorem asg_len : ∀ {es : List Expr}, es.all notStar = true → (assignEach es env).length = es.length
  | [], _ => rfl
  | e :: es, h => by
    rw [List.all_cons] at h
    obtain ⟨h1, h2⟩ := and2 h
    rw [asg_e h1, List.length_cons, asg_len h2]; rfl
theorem asg_find : ∀ {es : List Expr}, es.all notStar = true → (assignEach es env).findIdx? (·.1) = none
  | [], _ => rfl
  | e :: es, h => by
    rw [List.all_cons] at h
    obtain ⟨h1, h2⟩ := and2 h
    rw [asg_e h1, List.findIdx?_cons, asg_find h2]; rfl
/-- an expression whose test is its value's truth -/
def plainTest : Expr → Bool
  | .UnaryOp .Not _ _ => false
  | .BoolOp _ _ _ => false
  | .IfExp _ _ _ _ => false
  | .Compare _ _ _ _ => false
  | _ => true
theorem plain_test (h : plainTest e = true) : ∀ whole, isTrue e env whole = (do let v ← whole; standAt e.pos; holding [v] (truthy v)) := by
  intro whole
  cases e <;> first | rfl | (cases h; done) | skip
  rename_i op _ _
  cases op <;> first | rfl | cases h
def notComp : Expr → Bool
  | .ListComp _ _ _ _ => false
  | .SetComp _ _ _ _ => false
  | .DictComp _ _ _ _ _ => false
  | _ => true
theorem sw_none {l : Nat} {t : Option Expr} (h : notComp e = true) : swapsWith e t l env = pure false := by
  cases e <;> first | rfl | cases h
theorem sw_sole {l : Nat} {t : Expr} (h : notComp e = true) : swapsWithSole [t] e l env = pure false := sw_none h
/-- a target that is no name -/
def notName : Expr → Bool
  | .Name _ _ => false
  | _ => true
theorem sw_target {l : Nat} {t : Expr} (h : notName t = true) : swapsWithSole [t] e l env = pure false := by
  show swapsWith e (some t) l env = pure false
  cases t <;> first | (cases h; done) | (cases e <;> rfl)
def notTup : Expr → Bool
  | .Tuple _ _ _ => false
  | .List _ _ => false
  | _ => true
theorem st_target {t : Expr} (h : notTup t = true) : swappedStores [t] e env = pure none := by
  cases t <;> first | rfl | cases h
theorem st_value {t : Expr} (h : notTup e = true) : swappedStores [t] e env = pure none := by
  cases e <;> first | (cases t <;> rfl) | cases h
def notSet : Expr → Bool
  | .Set _ _ _ => false
  | _ => true
theorem fold_set (h : notSet e = true) : ∀ x, foldedSetIterable e env x = pure x := by
  intro x
  cases e <;> first | rfl | cases h
theorem marks_set {op : CmpOp} (h : notSet e = true) : behindInMarks op e = false := by
  cases e <;> first | rfl | cases h
theorem marks_last {op op' : CmpOp} {b c : Expr} (h : notSet c = true) : lastMarks [op, op'] [b, c] = false := marks_set h
def notSlice : Expr → Bool
  | .Slice _ _ _ _ => false
  | _ => true
theorem plain_ix (h : notSlice e = true) : PlainIx e := by
  intro o i
  cases e <;> first | rfl | cases h
theorem aug_store (h : notSlice e = true) : ∀ ov iv new, augStore e ov iv new = (do holding [new, ov, iv] (setItem ov iv new); release [new, ov, iv] []; pure .next) := by
  intro ov iv new
  cases e <;> first | rfl | cases h
theorem asg_sub (h : notSlice i = true) : ∀ v, assign (.Subscript o i pos) env v = (do
      let ov ← holding [v] (eval o env)
      let iv ← holding [v, ov] (eval i env)
      standAt pos
      holding [v, ov, iv] (setItem ov iv v)
      release [v, ov, iv] []) := by
  intro v
  cases i <;> first | rfl | cases h
/-- a receiver that is a name or an item -/
def plainBase : Expr → Bool
  | .Name _ _ => true
  | .Subscript _ _ _ => true
  | _ => false
theorem base_of {m : Str} (h : plainBase o = true) : attributeBase o m env (eval o env) = eval o env := by
  cases o <;> first | rfl | cases h
end

/-! ### values by truth -/
section
variable {X : Cx} {Z : Wd} {W : WX} {a b : Expr} {rest : List Expr} {ta tb : SemE} {pos : Pos}
theorem s_orV (hK : X.K = Z.K) (ha : PE X a (tI Z W ta)) (hb : PE X (.BoolOp .Or (b :: rest) pos) (tI Z W tb)) : PE X (.BoolOp .Or (a :: b :: rest) pos) (tI Z W (orV ta tb)) :=
  (pe_orT ha hb).imp fun σ H Q ⟨μ, m, ρ, k, kx, S, ER, t, P, XP⟩ => ⟨μ, m, ρ, _, kx, S, ER, t, fun μ1 m1 H1 d v L S1 R1 e1 => by
    obtain ⟨c, h1, h2⟩ := tru_rep S1 R1 e1
    refine ⟨c, hK ▸ h1, ?_⟩
    cases c with
    | true => exact iteT (P _ _ _ _ _ L S1 R1 h2)
    | false => exact iteF ⟨μ1, m1, ρ, k, kx, S1, ER.mono L.toLe, h2, P.after L, XP.after L⟩, XP⟩
theorem s_andV (hK : X.K = Z.K) (ha : PE X a (tI Z W ta)) (hb : PE X (.BoolOp .And (b :: rest) pos) (tI Z W tb)) : PE X (.BoolOp .And (a :: b :: rest) pos) (tI Z W (andV ta tb)) :=
  (pe_andT ha hb).imp fun σ H Q ⟨μ, m, ρ, k, kx, S, ER, t, P, XP⟩ => ⟨μ, m, ρ, _, kx, S, ER, t, fun μ1 m1 H1 d v L S1 R1 e1 => by
    obtain ⟨c, h1, h2⟩ := tru_rep S1 R1 e1
    refine ⟨c, hK ▸ h1, ?_⟩
    cases c with
    | true => exact iteT ⟨μ1, m1, ρ, k, kx, S1, ER.mono L.toLe, h2, P.after L, XP.after L⟩
    | false => exact iteF (P _ _ _ _ _ L S1 R1 h2), XP⟩
theorem s_notV (hK : X.K = Z.K) (ha : PE X a (tI Z W ta)) : PE X (.UnaryOp .Not a pos) (tI Z W (notV ta)) :=
  (pe_notT ha).imp fun σ H Q ⟨μ, m, ρ, k, kx, S, ER, t, P, XP⟩ => ⟨μ, m, ρ, _, kx, S, ER, t, fun μ1 m1 H1 d v L S1 R1 e1 => by
    obtain ⟨c, h1, h2⟩ := tru_rep S1 R1 e1
    exact ⟨c, hK ▸ h1, (P.after L).now S1 .bl h2⟩, XP⟩
end

/-! ### items -/
section
variable {X : Cx} {Z : Wd} {W : WX} {a b : Expr} {ta tb : SemE} {pos : Pos}
theorem s_ix (hK : X.K = Z.K) (hu : X.A.units + 1 < cLine) (ha : PE X a (tI Z W ta)) (hb : PE X b (tI Z W tb)) (hs : PlainIx b) : PE X (.Subscript a b pos) (tI Z W (binC ixD ta tb)) :=
  (pe_ix (hK ▸ r_ix hu) ha hb hs).imp fun σ H Q h => s_binR o_ix h
end

/-! ### tuples of names set side by side -/
def swP (ts vs : List Expr) (kd : Str → Option NameKind) : Option (Option (List Str)) :=
  if (!(ts.length == 2 || ts.length == 3) || vs.length != ts.length) = true then some none else
  if (vs.any fun | .Starred .. => true | _ => false) = true then some none else
  let line := (ts.head?.map (·.pos.line)).getD 0
  let names := ts.filterMap fun
    | .Name id pos => if kd id == some .local && pos.line == line then some id else none
    | _ => none
  if (names.length != ts.length || names.eraseDups.length != names.length) = true then some none else
  if (vs.all (foldedForSure 8)) = true then some none else
  if (vs.all (constantsAlone 8)) = true then none else some (some names)
theorem sw_tup {ts vs : List Expr} {k k2 : Nat} {p p2 : Pos} {env : PySem.Env} {r : Option (List Str)} (hk : env.scope.kind = .function) (h : swP ts vs env.kindOf = some r) : swappedStores [.Tuple ts k p] (.Tuple vs k2 p2) env = pure r := by
  have hb : env.blockKind = .function := by unfold Env.blockKind; rw [hk]; rfl
  unfold swappedStores
  dsimp only
  unfold swP at h
  dsimp only at h
  have e : (!(ts.length == 2 || ts.length == 3) || vs.length != ts.length || env.blockKind != .function) = (!(ts.length == 2 || ts.length == 3) || vs.length != ts.length) := by rw [hb]; simp
  rw [e]
  by_cases h1 : (!(ts.length == 2 || ts.length == 3) || vs.length != ts.length) = true
  · rw [if_pos h1] at h ⊢
    cases h; rfl
  · rw [if_neg h1] at h ⊢
    try simp only [pure_bind]
    by_cases h2 : (vs.any fun | .Starred .. => true | _ => false) = true
    · rw [if_pos h2] at h
      refine (if_pos h2).trans ?_
      cases h; rfl
    · rw [if_neg h2] at h
      refine (if_neg h2).trans ?_
      split at h
      · rename_i h3
        refine (if_pos h3).trans ?_
        cases h; rfl
      · rename_i h3
        refine (if_neg h3).trans ?_
        split at h
        · rename_i h4
          refine (if_pos h4).trans ?_
          cases h; rfl
        · rename_i h4
          refine (if_neg h4).trans ?_
          split at h
          · cases h
          · rename_i h5
            refine (if_neg h5).trans ?_
            cases h; rfl

/-! ### displays of dicts -/
abbrev SemPr := Env → M → (List (Key × D) → M → Bool) → Kx → Bool
def prsC (ps : List (SemE × SemE)) : SemPr := match ps with
  | [] => fun _ m k _ => k [] m
  | (a, b) :: r => fun ρ m k kx => a ρ m (fun x m1 => match keyD x with | some j => b ρ m1 (fun y m2 => prsC r ρ m2 (fun kvs m3 => k ((j, y) :: kvs) m3) kx) kx | none => false) kx
def mergeD (kvs acc : List (Key × D)) : List (Key × D) := match kvs with
  | [] => acc
  | (j, y) :: r => mergeD r (putD acc j y)
def dispC (ps : List (SemE × SemE)) : SemE := fun ρ m k kx => prsC ps ρ m (fun kvs m1 => Nat.ble kvs.length 15 && k (.ref m1.n) (m1.alloc (.dic (mergeD kvs [])))) kx
section
variable {Z : Wd} {W : WX} {μ μ0 : Nat → Addr} {m m0 : M} {H H0 : Hp} {σ : L2.St} {ρ : Env} {p : Addr} {ys ys2 : List (Key × V)}
theorem mergeD_rep {R : D → V → Prop} : ∀ {kvs : List (Key × D)} {ws : List (Key × V)} {acc : List (Key × D)} {vs : List (Key × V)}, KReps R kvs ws → KReps R acc vs → KReps R (mergeD kvs acc) (mergeK vs ws)
  | _, _, _, _, .nil, h => h
  | _, _, _, _, .cons a b, h => (mergeD_rep b (put_rep a h) :)
theorem prs_ok : ∀ {ps : List (SemE × SemE)} {μ : Nat → Addr} {m : M} {H : Hp} {k : List (Key × D) → M → Bool} {kx : Kx} {Q : List (V × V) → Hp → Prop}, Sim Z μ m H → EnvRep Z μ m.n H ρ σ → prsC ps ρ m k kx = true →
    (∀ μ' m' H' kvs ws, Lt μ m H μ' m' H' → Sim Z μ' m' H' → KReps (Rep Z μ' m'.n H') kvs ws → k kvs m' = true → Q (ws.map fun kv => (kV kv.1, kv.2)) H') → XPost Z μ m H kx W σ → tPairs (ps.map fun q => (tI Z W q.1, tI Z W q.2)) σ H Q
  | [], μ, m, H, k, kx, Q, S, ER, t, P, XP => P μ m H [] [] .refl S .nil t
  | (a, b) :: r, μ, m, H, k, kx, Q, S, ER, t, P, XP => ⟨μ, m, ρ, _, kx, S, ER, t, fun μ1 m1 H1 d v L1 S1 R1 e1 => (by
      dsimp only at e1
      split at e1
      · rename_i j hj
        rw [keyD_rep R1 hj]
        exact ⟨μ1, m1, ρ, _, kx, S1, ER.mono L1.toLe, e1, fun μ2 m2 H2 d2 v2 L2 S2 R2 e2 => prs_ok S2 (ER.mono (L1.trans L2).toLe) e2 (fun μ3 m3 H3 kvs ws L3 S3 R3 e3 => P _ _ _ _ ((j, v2) :: ws) ((L1.trans L2).trans L3) S3 (.cons (R2.mono L3.toLe) R3) e3) (XP.after (L1.trans L2)), XP.after L1⟩
      · cases e1), XP⟩
theorem Sim.wrK (S : Sim Z μ m H) (hD : Apt μ m.n p) (e : H p = some (.dK ys)) : Sim Z μ m (upd H p (.dK ys2)) := by
  refine ⟨S.len, S.rlen, S.inj, fun i o h => ?_, S.tap⟩
  have hi : i < m.n := (M.get_some h).1
  have L : Le μ m.n H μ m.n (upd H p (.dK ys2)) := ⟨Nat.le_refl _, fun _ _ => rfl, fun a u q => by rw [upd_ne (fun z => by rw [z, e] at q; cases q)]; exact q, fun a x u q => by rw [upd_ne (fun z => by rw [z, e] at q; cases q)]; exact q⟩
  have old := S.obj i o h
  have ne : μ i ≠ p := hD i hi
  cases o with
  | lst xs => obtain ⟨vs, e1, r⟩ := old; exact ⟨vs, by rw [upd_ne ne]; exact e1, r.mono L⟩
  | dic xs => obtain ⟨vs, e1, r⟩ := old; exact ⟨vs, by rw [upd_ne ne]; exact e1, r.mono fun _ _ => Rep.mono L⟩
  | dil xs => obtain ⟨vs, o, e1, r⟩ := old; exact ⟨vs, o, by rw [upd_ne ne]; exact e1, r.mono fun _ _ => Rep.mono L⟩
  | dit xs => obtain ⟨vs, e1, r⟩ := old; exact ⟨vs, by rw [upd_ne ne]; exact e1, r.mono fun _ _ => Rep.mono L⟩
  | hid => obtain ⟨vs, e1, e2⟩ := old; exact ⟨vs, by rw [upd_ne ne]; exact e1, e2⟩
  | tape c =>
    obtain ⟨hc, cells, a1, a2, a3, a4, q1, q2, ok⟩ := old
    exact ⟨hc, cells, a1, a2, a3, a4, by rw [upd_ne ne]; exact q1, by rw [upd_ne (hD c hc)]; exact q2, ok⟩
theorem Lt.wrK (L : Lt μ0 m0 H0 μ m H) (h0 : H0 p = none) : Lt μ0 m0 H0 μ m (upd H p (.dK ys2)) :=
  ⟨⟨L.le, L.eq, fun a u q => by rw [upd_ne (fun z => by rw [z, h0] at q; cases q)]; exact L.tup a u q, fun a x u q => by rw [upd_ne (fun z => by rw [z, h0] at q; cases q)]; exact L.frz a x u q⟩, L.rn, L.ro, fun a o q n => by
    rw [upd_ne (fun z => by rw [z, h0] at q; cases q)]; exact L.oth a o q n⟩
end
section
variable {X : Cx} {Z : Wd} {W : WX} {pos : Pos}
theorem s_disp {keys : List (Option Expr)} {values : List Expr} {ps : List (SemE × SemE)} (h : PPs X pos keys values (ps.map fun q => (tI Z W q.1, tI Z W q.2))) (hall : keys.all (·.isSome) = true) (hl : keys.length = values.length) (h0 : keys ≠ []) (h15 : keys.length ≤ 15) : PE X (.Dict keys values pos) (tI Z W (dispC ps)) :=
  (pe_disp h hall hl h0 h15).imp fun σ H Q ⟨μ, m, ρ, k, kx, S, ER, t, P, XP⟩ p hp => by
    have K0 : Kp H (upd H p (.dK [])) := kp_upd hp
    have L0 : Lt μ m H μ m (upd H p (.dK [])) := .kp K0
    refine prs_ok (W := W) (S.kp K0) (ER.mono L0.toLe) t (fun μ1 m1 H1 kvs ws L1 S1 R1 e1 => ?_) (XP.after L0)
    obtain ⟨h1, h2⟩ := and2 e1
    obtain ⟨q1, ap⟩ := L1.oth p _ upd_same fun i hi => S.ne_fresh hp hi
    have hlen : ws.length ≤ 15 := by rw [← R1.length]; exact Nat.le_of_ble_eq_true h1
    refine ⟨q1, ws, rfl, hlen, ?_⟩
    have LL := (L0.trans L1).wrK (ys2 := mergeK [] ws) hp
    have S2 := S1.wrK (ys2 := mergeK [] ws) ap q1
    have Lm : Le μ1 m1.n H1 (ext μ1 m1.n p) (m1.n + 1) (upd H1 p (.dK (mergeK [] ws))) := ⟨Nat.le_succ _, fun i hi => ext_lt hi, fun a u q => by rw [upd_ne (fun z => by rw [z, q1] at q; cases q)]; exact q, fun a x u q => by rw [upd_ne (fun z => by rw [z, q1] at q; cases q)]; exact q⟩
    refine P _ _ _ _ _ (LL.adopt S2 hp (o := .dic (mergeD kvs []))) (S2.adopt ap (fun _ z => by cases z) ⟨_, upd_same, mergeD_rep (R1.mono fun _ _ => Rep.mono Lm) .nil⟩) ?_ h2
    have := Rep.ref (Z := Z) (μ := ext μ1 m1.n p) (n := m1.n + 1) (H := upd H1 p (.dK (mergeK [] ws))) (i := m1.n) (Nat.lt_succ_self _)
    rw [ext_eq] at this
    exact this
end

def prsT (f : Expr → Option SemE) : List (Option Expr) → List Expr → Option (List (SemE × SemE))
  | [], [] => some []
  | some k :: ks, v :: vs => (match f k, f v, prsT f ks vs with | some a, some b, some r => some ((a, b) :: r) | _, _, _ => none)
  | _, _ => none
theorem prsT_ok {X : Cx} {Z : Wd} {W : WX} {pos : Pos} {f : Expr → Option SemE} (h : ∀ e t, f e = some t → PE X e (tI Z W t)) : ∀ (ks : List (Option Expr)) (vs : List Expr) (ps : List (SemE × SemE)), prsT f ks vs = some ps → PPs X pos ks vs (ps.map fun q => (tI Z W q.1, tI Z W q.2)) ∧ ks.all (·.isSome) = true ∧ ks.length = vs.length
  | [], [], ps, e => by cases e; exact ⟨pps_nil, rfl, rfl⟩
  | [], _ :: _, ps, e => by cases e
  | none :: _, [], ps, e => by cases e
  | none :: _, _ :: _, ps, e => by cases e
  | some k :: ks, [], ps, e => by cases e
  | some k :: ks, v :: vs, ps, e => by
    unfold prsT at e
    split at e
    · rename_i a b r ha hb hr
      cases e
      obtain ⟨h1, h2, h3⟩ := prsT_ok h ks vs r hr
      refine ⟨pps_cons (h k a ha) (h v b hb) h1, ?_, ?_⟩
      · rw [List.all_cons, h2]; rfl
      · rw [List.length_cons, List.length_cons, h3]
    · cases e
end
end Ev

set_option Elab.async false
set_option linter.all false
set_option maxRecDepth 100000
set_option maxHeartbeats 1000000
/-! Ev17: the translator. -/
namespace Ev
open PySem PySem.Spec PyProof.Rows L2 HT
noncomputable section

structure Cfg where
  N : List Str
  sc : List (Str × NameKind)
  cal : Bool
  lev : Nat
  fns : List (Str × SemF)
  cst : List (Str × D)
  exs : List (Str × Nat)
  hit : List (Str × (Nat → Option Bool))
  tab : Nat → Option SemF
/-- built-ins by name -/
def bltNames : List (Str × Nat) := [("len", 0), ("sum", 1), ("max", 2), ("min", 3), ("abs", 4), ("any", 5), ("all", 6), ("sorted", 7), ("isinstance", 8), ("int", 9), ("bool", 10), ("list", 11), ("tuple", 12), ("dict", 13), ("range", 14), ("enumerate", 15), ("zip", 16), ("str", 17), ("set", 18)]
/-- what is asked of a place in a def -/
structure Gd (c : Cfg) (X : Cx) (Z : Wd) (W : WX) : Prop where
  N : X.N = c.N
  nd : c.N.Nodup
  sc : ∀ x k, c.sc.lookup x = some k → ∃ k', X.env.scope.names.lookup x = some k' ∧ (k' = k ∨ (k = .free ∧ k' = .cell))
  K : X.K = Z.K
  un : X.A.units + 100 < cLine
  cal : c.cal = true → X.calm = true ∧ Room c.lev X.A
  fnc : ∀ x, c.sc.lookup x = some .cell → X.fn x = true
  tk : Takes X W
  mgn : ∀ x n, bltNames.lookup x = some n → X.mg x = none
  fns : ∀ x f, c.fns.lookup x = some f → ∃ a n, X.mg x = some (.ref a) ∧ DefOk X.prog X.w X.K X.mg X.base Z c.lev a n f
  cst : ∀ x d, c.cst.lookup x = some d → ∃ v u, X.mg x = some u ∧ RelV v u ∧ ∀ μ n H, Rep Z μ n H d v
  tab : ∀ j f, c.tab j = some f → ∃ a n, Z.FT j = some a ∧ DefOk X.prog X.w X.K X.mg X.base Z c.lev a n f
  exs : ∀ x k, c.exs.lookup x = some k → ∃ C bmB B newId initId, Z.cls k = .ref C ∧ ExcBaseFacts B newId initId bmB ∧ PySem.W.excIn X.K C bmB newId = true ∧ X.mg x = some (.ref C) ∧ PySem.W.keepIn X.K (.ref C) = true ∧ Raises X (.ref C)
  hit : ∀ x h, c.hit.lookup x = some h → ∃ C, X.mg x = some C ∧ ∀ k b, h k = some b → PySem.W.exmOne Z.K (Z.cls k) C = some b
/-- .. of a statement's -/
structure GdS (c : Cfg) (X : Cx) (Z : Wd) (W : WX) : Prop extends Gd c X Z W where
  ex : X.env.scope.names = c.sc
  fk : X.env.scope.kind = .function
  own : c.cal = true → PassesOwn (model X.prog X.w) X.A X.env X.xe
  stk : c.cal = true → X.stack = X.env :: X.outer ∧ X.env.frame = some X.env.locals

structure Trs where
  E : Cfg → Expr → Option SemE
  T : Cfg → Expr → Option SemT
  I : Cfg → Expr → Expr → Option SemI
  G : Cfg → Expr → Option (SemG × List Nat)
  S : Cfg → Stmt → Option SemS

/-! ### lists of trees -/
def argsT (f : Expr → Option SemE) : List Expr → Option SemA
  | [] => some nilC
  | e :: es => match notStar e with
    | true => (match f e with | some a => (match argsT f es with | some r => some (consC a r) | none => none) | none => none)
    | false => none
def goalsT (f : Expr → Option (SemG × List Nat)) : List Expr → Option (SemGs × List Nat)
  | [] => some (gsN, [])
  | e :: es => match notStar e with
    | true => (match f e with | some (g, ts) => (match goalsT f es with | some (gs, us) => some (gsC g gs, ts ++ us) | none => none) | none => none)
    | false => none
/-- a statement that is not translated: stuck -/
def nevC : SemS := fun _ _ _ _ _ _ _ => false
def stmtsT (f : Stmt → Option SemS) : List Stmt → Option SemS
  | [] => some passC
  | s :: ss => match f s with
    | some a => (match ss with | [] => some a | _ :: _ => (match stmtsT f ss with | some b => some (seqC a b) | none => none))
    | none => some nevC
def andsT (f : Expr → Option SemT) : List Expr → Option SemT
  | [] => none
  | e :: es => match f e with
    | some a => (match es with | [] => some a | _ :: _ => (match andsT f es with | some b => some (andT a b) | none => none))
    | none => none
def orsT (f : Expr → Option SemT) : List Expr → Option SemT
  | [] => none
  | e :: es => match f e with
    | some a => (match es with | [] => some a | _ :: _ => (match orsT f es with | some b => some (orT a b) | none => none))
    | none => none
def andsV (f : Expr → Option SemE) : List Expr → Option SemE
  | [] => none
  | e :: es => match f e with
    | some a => (match es with | [] => some a | _ :: _ => (match andsV f es with | some b => some (andV a b) | none => none))
    | none => none
def orsV (f : Expr → Option SemE) : List Expr → Option SemE
  | [] => none
  | e :: es => match f e with
    | some a => (match es with | [] => some a | _ :: _ => (match orsV f es with | some b => some (orV a b) | none => none))
    | none => none
def partT (f : Expr → Option SemE) : Option Expr → Option SemP
  | none => some noP
  | some e => (match f e with | some a => some (someP a) | none => none)
section
variable {X : Cx} {Z : Wd} {W : WX}
theorem args_ok {f : Expr → Option SemE} (h : ∀ e t, f e = some t → PE X e (tI Z W t)) : ∀ es ts, argsT f es = some ts → PA X es (tA Z W ts) ∧ es.all notStar = true
  | [], ts, e => by
    cases e
    exact ⟨s_nil, rfl⟩
  | e :: es, ts, q => by
    unfold argsT at q
    split at q
    · rename_i hs
      split at q
      · rename_i a ha
        split at q
        · rename_i r hr
          cases q
          obtain ⟨h1, h2⟩ := args_ok h es r hr
          exact ⟨s_cons (h e a ha) h1 (star_e hs), by rw [List.all_cons, hs, h2]; rfl⟩
        · cases q
      · cases q
    · cases q
theorem goals_ok {f : Expr → Option (SemG × List Nat)} (h : ∀ e g ts, f e = some (g, ts) → PG X e (tG Z ts g)) : ∀ es gs us, goalsT f es = some (gs, us) → PGs X es (tGs Z us gs) ∧ es.all notStar = true
  | [], gs, us, e => by
    cases e
    exact ⟨s_gsN, rfl⟩
  | e :: es, gs, us, q => by
    unfold goalsT at q
    split at q
    · rename_i hs
      split at q
      · rename_i g ts hg
        split at q
        · rename_i gs' us' hgs
          cases q
          obtain ⟨h1, h2⟩ := goals_ok h es gs' us' hgs
          exact ⟨s_gsC (h e g ts hg) h1 (asg_map hs), by rw [List.all_cons, hs, h2]; rfl⟩
        · cases q
      · cases q
    · cases q
theorem stmts_ok {f : Stmt → Option SemS} (h : ∀ s t, f s = some t → PS X s (tS Z W t)) : ∀ ss t, stmtsT f ss = some t → PSs X ss (tS Z W t)
  | [], t, e => by
    cases e
    exact s_nilS
  | s :: ss, t, q => by
    unfold stmtsT at q
    split at q
    · rename_i a ha
      split at q
      · cases q
        exact s_one (h s _ ha)
      · split at q
        · rename_i b hb
          cases q
          exact s_seq (h s a ha) (stmts_ok h _ b hb)
        · cases q
    · cases q
      exact pss_never.imp fun D σ H ⟨μ, m, ρ, nx, bk, ct, rt, kx, S, ER, t, _⟩ => (by cases t)
theorem ands_ok {f : Expr → Option SemT} (h : ∀ e t, f e = some t → PT X e (tT Z W t)) : ∀ (es : List Expr) (t : SemT) (pos : Pos), andsT f es = some t → PW X (.BoolOp .And es pos) (tT Z W t)
  | [], t, _, e => by cases e
  | [e], t, pos, q => by
    unfold andsT at q
    split at q
    · rename_i a ha
      cases q
      exact s_and1 (h e _ ha)
    · cases q
  | e :: e2 :: es, t, pos, q => by
    unfold andsT at q
    split at q
    · rename_i a ha
      dsimp only at q
      split at q
      · rename_i b hb
        cases q
        exact s_and (h e a ha) (ands_ok h _ b pos hb)
      · cases q
    · cases q
theorem ors_ok {f : Expr → Option SemT} (h : ∀ e t, f e = some t → PT X e (tT Z W t)) : ∀ (es : List Expr) (t : SemT) (pos : Pos), orsT f es = some t → PW X (.BoolOp .Or es pos) (tT Z W t)
  | [], t, _, e => by cases e
  | [e], t, pos, q => by
    unfold orsT at q
    split at q
    · rename_i a ha
      cases q
      exact s_or1 (h e _ ha)
    · cases q
  | e :: e2 :: es, t, pos, q => by
    unfold orsT at q
    split at q
    · rename_i a ha
      dsimp only at q
      split at q
      · rename_i b hb
        cases q
        exact s_or (h e a ha) (ors_ok h _ b pos hb)
      · cases q
    · cases q
theorem andsV_ok {f : Expr → Option SemE} (hK : X.K = Z.K) (h : ∀ e t, f e = some t → PE X e (tI Z W t)) : ∀ (es : List Expr) (t : SemE) (pos : Pos), andsV f es = some t → PE X (.BoolOp .And es pos) (tI Z W t)
  | [], t, _, e => by cases e
  | [e], t, pos, q => by
    unfold andsV at q
    split at q
    · rename_i a ha
      cases q
      exact s_oneV (h e _ ha)
    · cases q
  | e :: e2 :: es, t, pos, q => by
    unfold andsV at q
    split at q
    · rename_i a ha
      dsimp only at q
      split at q
      · rename_i b hb
        cases q
        exact s_andV hK (h e a ha) (andsV_ok hK h _ b pos hb)
      · cases q
    · cases q
theorem orsV_ok {f : Expr → Option SemE} (hK : X.K = Z.K) (h : ∀ e t, f e = some t → PE X e (tI Z W t)) : ∀ (es : List Expr) (t : SemE) (pos : Pos), orsV f es = some t → PE X (.BoolOp .Or es pos) (tI Z W t)
  | [], t, _, e => by cases e
  | [e], t, pos, q => by
    unfold orsV at q
    split at q
    · rename_i a ha
      cases q
      exact s_oneV (h e _ ha)
    · cases q
  | e :: e2 :: es, t, pos, q => by
    unfold orsV at q
    split at q
    · rename_i a ha
      dsimp only at q
      split at q
      · rename_i b hb
        cases q
        exact s_orV hK (h e a ha) (orsV_ok hK h _ b pos hb)
      · cases q
    · cases q
theorem part_ok {f : Expr → Option SemE} (h : ∀ e t, f e = some t → PE X e (tI Z W t)) : ∀ o t, partT f o = some t → PO X o (tP Z W t)
  | none, t, e => by cases e; exact s_noP
  | some e, t, q => by
    unfold partT at q
    dsimp only at q
    split at q
    · rename_i a ha
      cases q
      exact s_someP (h e a ha)
    · cases q
end

/-! ### tables -/
def opT : Operator → Option Sem2
  | .Add => some addD | .Sub => some subD | .Mult => some mulD | .FloorDiv => some fdivD | .Mod => some modD | _ => none
def ipT : Operator → Option Sem2
  | .Add => some iaddD | .Sub => some subD | .Mult => some imulD | .FloorDiv => some fdivD | _ => none
where
  iaddD : Sem2 := fun x y m k => match x, y with | .int i, .int j => frc (i + j) fun c => k (.int c) m | _, _ => false
  imulD : Sem2 := fun x y m k => match x, y with | .int i, .int j => mulOk i j && frc (i * j) fun c => k (.int c) m | _, _ => false
def cmT : CmpOp → Option Sem2
  | .Eq => some eqD | .NotEq => some neD | .Lt => some ltD | .LtE => some leD | .Gt => some gtD | .GtE => some geD | .Is => some isD | .IsNot => some isnD | .In => some inD | .NotIn => some ninD
section
variable {X : Cx} {Z : Wd}
theorem op_ok (hK : X.K = Z.K) {op : Operator} {f : Sem2} (h : opT op = some f) : ∃ r, Op2 Z f r ∧ OpR X (binaryOp op) r := by
  cases op <;> first | (cases h; done) | (cases h)
  · exact ⟨_, o_add, hK ▸ r_add⟩
  · exact ⟨_, o_sub, op_sub⟩
  · exact ⟨_, o_mul, hK ▸ r_mul⟩
  · exact ⟨_, o_mod, op_modN⟩
  · exact ⟨_, o_fdiv, op_fdivA⟩
theorem o_iadd : Op2 Z ipT.iaddD (ipI fun i j => i + j) := by
  intro μ m H x y dx dy k Q S rx ry h P
  unfold ipT.iaddD at h
  split at h
  · cases rx
    cases ry
    rw [frc_eq] at h
    exact ⟨_, _, rfl, rfl, post_int P S h⟩
  · cases h
theorem o_isub : Op2 Z subD (ipI fun i j => i - j) := by
  intro μ m H x y dx dy k Q S rx ry h P
  obtain ⟨i, j, e1, e2, q⟩ := o_sub μ m H x y dx dy k Q S rx ry h P
  exact ⟨i, j, e1, e2, q⟩
theorem o_imul : Op2 Z ipT.imulD (fun x y H Q => rI CMulW (fun i j => .int (i * j)) x y H Q) := by
  intro μ m H x y dx dy k Q S rx ry h P
  unfold ipT.imulD at h
  split at h
  · cases rx
    cases ry
    obtain ⟨h1, h2⟩ := and2 h
    rw [frc_eq] at h2
    exact ⟨_, _, rfl, rfl, mulOk_ok h1, post_int P S h2⟩
  · cases h
theorem ip_ok {op : Operator} {f : Sem2} (h : ipT op = some f) : ∃ r, Op2 Z f r ∧ PIp X op r := by
  cases op <;> first | (cases h; done) | (cases h)
  · exact ⟨_, o_iadd, ip_add⟩
  · exact ⟨_, o_isub, ip_sub⟩
  · exact ⟨_, o_imul, ip_mul⟩
  · exact ⟨_, o_fdiv, ip_fdiv⟩
theorem cm_ok (hK : X.K = Z.K) (hu : X.A.units + 100 < cLine) {op : CmpOp} {f : Sem2} (h : cmT op = some f) : ∃ r, Op2 Z f r ∧ OpR X (compareOp op) r := by
  cases op <;> cases h
  · exact ⟨_, o_eq, hK ▸ op_eqD (by omega)⟩
  · exact ⟨_, o_ne, hK ▸ op_neD (by omega)⟩
  · exact ⟨_, o_lt, hK ▸ r_lt (by omega)⟩
  · exact ⟨_, o_le, op_le⟩
  · exact ⟨_, o_gt, hK ▸ r_gt (by omega)⟩
  · exact ⟨_, o_ge, op_ge⟩
  · exact ⟨_, o_is, r_is⟩
  · exact ⟨_, o_isn, r_isn⟩
  · exact ⟨_, o_in, hK ▸ r_in (by omega)⟩
  · exact ⟨_, o_nin, hK ▸ r_nin (by omega)⟩
end
/-- the built-in functions -/
def bltB (n : Nat) : Option (List D → M → Kc → Bool) := match n with
  | 0 => some lenF | 1 => some sumF | 2 => some maxF | 3 => some minF | 4 => some absF | 5 => some anyF | 6 => some allF | 7 => some sortedF | 8 => some isiF
  | 9 => some intF | 10 => some boolF | 11 => some listF | 12 => some tupleF | 13 => some dictF | _ => none
def tyNo (n : Nat) : Option Nat := match n with | 9 => some 0 | 10 => some 1 | 17 => some 2 | 12 => some 3 | 11 => some 4 | 13 => some 5 | _ => none
theorem blt_mem {x : Str} {n : Nat} (h : bltNames.lookup x = some n) : (x, n) ∈ bltNames := PySem.mem_of_lookup h
section
variable {X : Cx} {Z : Wd} {W : WX} {x : Str} {n : Nat} {p pos : Pos} {e : Expr} {es : List Expr} {ts : SemA} {f : List D → M → Kc → Bool}
theorem blt_ok (hK : X.K = Z.K) (hu : X.A.units + 100 < cLine) (hcal : X.calm = true) (hb : bltNames.lookup x = some n) (hg : Gl X x) (hm : X.mg x = none) (hf : bltB n = some f) (ha : PA X (e :: es) (tA Z W ts)) (hs : (e :: es).all notStar = true) :
    PE X (.Call (.Name x p) (e :: es) [] pos) (tI Z W (appC f ts)) := by
  rw [List.all_cons] at hs
  obtain ⟨s1, s2⟩ := and2 hs
  have he : starEach (e :: es) X.env = (false, eval e X.env) :: starEach es X.env := star_e s1
  have hpl : (backTo pos (starEach es X.env)).any (·.1) = false := star_any s2
  have hx := blt_mem hb
  simp only [bltNames, List.mem_cons, Prod.mk.injEq, List.not_mem_nil, or_false] at hx
  have hu1 : X.A.units + 64 < cLine := by omega
  rcases hx with ⟨rfl, rfl⟩ | ⟨rfl, rfl⟩ | ⟨rfl, rfl⟩ | ⟨rfl, rfl⟩ | ⟨rfl, rfl⟩ | ⟨rfl, rfl⟩ | ⟨rfl, rfl⟩ | ⟨rfl, rfl⟩ | ⟨rfl, rfl⟩ | ⟨rfl, rfl⟩ | ⟨rfl, rfl⟩ | ⟨rfl, rfl⟩ | ⟨rfl, rfl⟩ | ⟨rfl, rfl⟩ | ⟨rfl, rfl⟩ | ⟨rfl, rfl⟩ | ⟨rfl, rfl⟩ | ⟨rfl, rfl⟩ | ⟨rfl, rfl⟩
  · cases hf; exact s_callB (id := "len") o_len (hK ▸ cr_lenA) hg hm rfl ha (by decide) (by decide) he hpl
  · cases hf; exact s_callB (id := "sum") o_sum (hK ▸ cr_sumA hcal) hg hm rfl ha (by decide) (by decide) he hpl
  · cases hf; exact s_callB (id := "max") o_max (hK ▸ cr_maxA hcal hu1) hg hm rfl ha (by decide) (by decide) he hpl
  · cases hf; exact s_callB (id := "min") o_min (hK ▸ cr_minA hcal hu1) hg hm rfl ha (by decide) (by decide) he hpl
  · cases hf; exact s_callB (id := "abs") o_abs call_abs hg hm rfl ha (by decide) (by decide) he hpl
  · cases hf; exact s_callB (id := "any") o_any (hK ▸ cr_anyA hcal) hg hm rfl ha (by decide) (by decide) he hpl
  · cases hf; exact s_callB (id := "all") o_all (hK ▸ cr_allA hcal) hg hm rfl ha (by decide) (by decide) he hpl
  · cases hf; exact s_callB (id := "sorted") o_sorted (hK ▸ r_sorted hu1) hg hm rfl ha (by decide) (by decide) he hpl
  · cases hf; exact s_callB (id := "isinstance") o_isi (hK ▸ call_isi) hg hm rfl ha (by decide) (by decide) he hpl
  · cases hf; exact s_callTy (T := "int") o_int call_int1 hg hm rfl ha (by decide) (by decide) he hpl
  · cases hf; exact s_callTy (T := "bool") o_bool call_bool1 hg hm rfl ha (by decide) (by decide) he hpl
  · cases hf; exact s_callTy (T := "list") o_list (hK ▸ cr_listA hcal) hg hm rfl ha (by decide) (by decide) he hpl
  · cases hf; exact s_callTy (T := "tuple") o_tuple (hK ▸ call_tuple_of) hg hm rfl ha (by decide) (by decide) he hpl
  · cases hf; exact s_callTy (T := "dict") o_dict call_dictD hg hm rfl ha (by decide) (by decide) he hpl
  all_goals cases hf
theorem ty_ok (hb : bltNames.lookup x = some n) {t : Nat} (ht : tyNo n = some t) (hg : Gl X x) (hm : X.mg x = none) : PE X (.Name x pos) (tI Z W (litC (.ty t))) := by
  have hx := blt_mem hb
  simp only [bltNames, List.mem_cons, Prod.mk.injEq, List.not_mem_nil, or_false] at hx
  rcases hx with ⟨rfl, rfl⟩ | ⟨rfl, rfl⟩ | ⟨rfl, rfl⟩ | ⟨rfl, rfl⟩ | ⟨rfl, rfl⟩ | ⟨rfl, rfl⟩ | ⟨rfl, rfl⟩ | ⟨rfl, rfl⟩ | ⟨rfl, rfl⟩ | ⟨rfl, rfl⟩ | ⟨rfl, rfl⟩ | ⟨rfl, rfl⟩ | ⟨rfl, rfl⟩ | ⟨rfl, rfl⟩ | ⟨rfl, rfl⟩ | ⟨rfl, rfl⟩ | ⟨rfl, rfl⟩ | ⟨rfl, rfl⟩ | ⟨rfl, rfl⟩
  all_goals first | (cases ht; done) | (cases ht; exact s_tyName hg hm rfl (by decide) (by decide))
end
end
end Ev

set_option Elab.async false
set_option linter.all false
set_option maxRecDepth 100000
set_option maxHeartbeats 1000000
/-! Ev18: the translator's step and its soundness: expressions. -/
namespace Ev
open PySem PySem.Spec PyProof.Rows L2 HT
noncomputable section

def idxN (N : List Str) (x : Str) : Option Nat := match N with
  | [] => none
  | y :: r => match decide (y = x) with | true => some 0 | false => (match idxN r x with | some i => some (i + 1) | none => none)
theorem idxN_ok : ∀ {N : List Str} {x : Str} {i : Nat}, idxN N x = some i → N[i]? = some x
  | [], _, _, h => by cases h
  | y :: r, x, i, h => by
    unfold idxN at h
    split at h
    · rename_i hd
      cases h
      rw [of_decide_eq_true hd]; rfl
    · split at h
      · rename_i j hj
        cases h
        have := idxN_ok hj
        simpa using this
      · cases h
def isVis : NameKind → Bool
  | .local => true | .cell => true | .free => true | _ => false
section
variable {c : Cfg} {X : Cx} {Z : Wd} {W : WX} {x : Str} {k : NameKind}
theorem Gd.vis (g : Gd c X Z W) (h : c.sc.lookup x = some k) (hv : isVis k = true) : Vis X.env.scope x := by
  obtain ⟨k', h1, h2⟩ := g.sc x k h
  rcases h2 with rfl | ⟨rfl, rfl⟩
  · cases k' with
    | «local» => exact .inl h1
    | cell => exact .inr (.inl h1)
    | free => exact .inr (.inr h1)
    | _ => cases hv
  · exact .inr (.inl h1)
theorem Gd.gl (g : Gd c X Z W) (h : c.sc.lookup x = some .globalImplicit) : Gl X x := by
  obtain ⟨k', h1, h2⟩ := g.sc x _ h
  rcases h2 with rfl | ⟨h2, _⟩
  · exact h1
  · cases h2
theorem Gd.loc (g : Gd c X Z W) (h : c.sc.lookup x = some .local) : X.env.scope.names.lookup x = some .local := by
  obtain ⟨k', h1, h2⟩ := g.sc x _ h
  rcases h2 with rfl | ⟨h2, _⟩
  · exact h1
  · cases h2
theorem Gd.celk (g : Gd c X Z W) (h : c.sc.lookup x = some .cell) : X.env.scope.names.lookup x = some .cell := by
  obtain ⟨k', h1, h2⟩ := g.sc x _ h
  rcases h2 with rfl | ⟨h2, _⟩
  · exact h1
  · cases h2
end
/-- names that are none of the compiler's -/
def okName (x : Str) : Bool := !(x == ("__debug__" : Str)) && !(x == ("__classdict__" : Str)) && !decide (x = "__name__")
theorem okName_ok {x : Str} (h : okName x = true) : (x == ("__debug__" : Str)) = false ∧ (x == ("__classdict__" : Str)) = false ∧ x ≠ "__name__" := by
  unfold okName at h
  obtain ⟨h, h3⟩ := and2 h
  obtain ⟨h1, h2⟩ := and2 h
  refine ⟨by simpa using h1, by simpa using h2, ?_⟩
  intro z
  rw [decide_eq_true z] at h3
  cases h3

/-! ### names -/
def nameT (c : Cfg) (x : Str) : Option SemE := match okName x with
  | false => none
  | true => match c.sc.lookup x with
    | some .globalImplicit => (match c.cst.lookup x with
      | some d => some (litC d)
      | none => (match bltNames.lookup x with
        | some n => (match tyNo n with | some t => some (litC (.ty t)) | none => none)
        | none => none))
    | some k => (match isVis k with | true => (match idxN c.N x with | some i => some (varC i) | none => none) | false => none)
    | none => none
theorem name_ok {c : Cfg} {X : Cx} {Z : Wd} {W : WX} {x : Str} {t : SemE} {pos : Pos} (g : Gd c X Z W) (h : nameT c x = some t) : PE X (.Name x pos) (tI Z W t) := by
  unfold nameT at h
  split at h
  · cases h
  · rename_i ho
    obtain ⟨o1, o2, o3⟩ := okName_ok ho
    split at h
    · rename_i hk
      have hg := g.gl hk
      split at h
      · rename_i d hd
        cases h
        obtain ⟨v, u, h1, h2, h3⟩ := g.cst x d hd
        exact s_lit (pe_glob hg h1 h2 o1) h3
      · split at h
        · rename_i n hn
          split at h
          · rename_i t ht
            cases h
            exact ty_ok hn ht hg (g.mgn x n hn)
          · cases h
        · cases h
    · rename_i k hne hk
      split at h
      · rename_i hv
        split at h
        · rename_i i hi
          cases h
          exact s_var (by rw [g.N]; exact idxN_ok hi) (g.vis hk hv) o1 o2
        · cases h
      · cases h
    · cases h

/-! ### calls -/
/-- methods of lists by name and number of arguments -/
def mtNames : List (Str × Nat) := [("append", 0), ("extend", 1), ("pop", 2), ("insert", 3), ("index", 4)]
def mtT (n : Nat) (args : Nat) : Option (D → List D → M → Kc → Bool) := match n, args with
  | 0, 1 => some appendM | 1, 1 => some extendM | 2, 1 => some popAtM | 3, 2 => some insertM | 4, 1 => some indexM | _, _ => none
def isGet (x : Str) : Bool := decide (x = "get")
def isPop (x : Str) : Bool := decide (x = "pop")
def isRange (x : Str) : Bool := decide (x = "range")
def isListN (x : Str) : Bool := decide (x = "list")
def isTupleN (x : Str) : Bool := decide (x = "tuple")
def lineOk (a b : Pos) : Bool := a.endLine == b.line
theorem mtT_cases {n a : Nat} {f : D → List D → M → Kc → Bool} (h : mtT n a = some f) : (n = 0 ∧ f = appendM) ∨ (n = 1 ∧ f = extendM) ∨ (n = 2 ∧ f = popAtM) ∨ (n = 3 ∧ f = insertM) ∨ (n = 4 ∧ f = indexM) := by
  unfold mtT at h
  split at h <;> first | (cases h; done) | skip
  · cases h; exact .inl ⟨rfl, rfl⟩
  · cases h; exact .inr (.inl ⟨rfl, rfl⟩)
  · cases h; exact .inr (.inr (.inl ⟨rfl, rfl⟩))
  · cases h; exact .inr (.inr (.inr (.inl ⟨rfl, rfl⟩)))
  · cases h; exact .inr (.inr (.inr (.inr ⟨rfl, rfl⟩)))
section
variable {c : Cfg} {X : Cx} {Z : Wd} {W : WX}
theorem few_ok {es : List Expr} {env : PySem.Env} {cpos : Pos} (h : es.all notStar = true) (hl : Nat.blt es.length 29 = true) : ((backTo cpos (starEach es env)).all (fun x => !x.1) && (backToKw cpos (keywordEach [] env)).all (fun x => x.1.isSome)
      && decide (es.length + ([] : List Keyword).length + (if ([] : List Keyword).isEmpty then 0 else 1) < 30)) = true := by
  rw [star_all h]
  rw [blt_iff] at hl
  have := of_decide_eq_true hl
  show (true && true && decide (es.length + 0 + 0 < 30)) = true
  rw [decide_eq_true (by omega)]; rfl
theorem mt_ok {o e : Expr} {es : List Expr} {name : Str} {n : Nat} {f : D → List D → M → Kc → Bool} {apos cpos : Pos} {to : SemE} {ts : SemA} (g : Gd c X Z W) (hn : mtNames.lookup name = some n) (hf : mtT n (e :: es).length = some f) (hb : plainBase o = true) (hl : lineOk apos cpos = true) (hs : (e :: es).all notStar = true) (h30 : Nat.blt (e :: es).length 29 = true)
    (ho : PE X o (tI Z W to)) (ha : PA X (e :: es) (tA Z W ts)) : PE X (.Call (.Attribute o name apos) (e :: es) [] cpos) (tI Z W (mtC f to ts)) := by
  have hfew := few_ok (env := X.env) (cpos := cpos) hs h30
  have hm := PySem.mem_of_lookup hn
  rw [List.all_cons] at hs
  obtain ⟨s1, s2⟩ := and2 hs
  have he : starEach (e :: es) X.env = (false, eval e X.env) :: starEach es X.env := star_e s1
  have hpl : (backTo cpos (starEach es X.env)).any (·.1) = false := star_any s2
  have hu := g.un
  have hbase : attributeBase o name X.env (eval o X.env) = eval o X.env := base_of hb
  simp only [mtNames, List.mem_cons, Prod.mk.injEq, List.not_mem_nil, or_false] at hm
  rcases mtT_cases hf with ⟨rfl, rfl⟩ | ⟨rfl, rfl⟩ | ⟨rfl, rfl⟩ | ⟨rfl, rfl⟩ | ⟨rfl, rfl⟩ <;> rcases hm with ⟨rfl, h0⟩ | ⟨rfl, h0⟩ | ⟨rfl, h0⟩ | ⟨rfl, h0⟩ | ⟨rfl, h0⟩ <;> first | (cases h0; done) | skip
  · exact s_mt g.K o_append PySem.F.slot_list_append PySem.F.type_list_append mt_append ho ha hbase hfew hl he hpl
  · exact s_mt g.K o_extend PySem.F.slot_list_extend PySem.F.type_list_extend mt_extend ho ha hbase hfew hl he hpl
  · exact s_mt g.K o_popAt PySem.F.slot_list_pop PySem.F.type_list_pop mt_popAt ho ha hbase hfew hl he hpl
  · exact s_mt g.K o_insert PySem.F.slot_list_insert PySem.F.type_list_insert mt_insert ho ha hbase hfew hl he hpl
  · exact s_mt g.K o_index PySem.F.slot_list_index PySem.F.type_list_index (g.K ▸ mt_indexD (by omega)) ho ha hbase hfew hl he hpl
end
end
end Ev

set_option Elab.async false
set_option linter.all false
set_option maxRecDepth 100000
set_option maxHeartbeats 1000000
/-! Ev19: the translator's step and its soundness: expressions, iterables, targets. -/
namespace Ev
open PySem PySem.Spec PyProof.Rows L2 HT
noncomputable section

/-! ### comprehension scopes -/
def ownOf (N : List Str) (names : List (Str × NameKind)) : List (Str × Nat) := match names with
  | [] => []
  | (x, k) :: r => (match k with
    | .local => (match idxN N x with | some i => (x, i) :: ownOf N r | none => ownOf N r)
    | .cell => (match idxN N x with | some i => (x, i) :: ownOf N r | none => ownOf N r)
    | _ => ownOf N r)
def blkB (c : Cfg) (scope : Scope) (own : List (Str × Nat)) : Bool :=
  (match scope.kind with | .function => true | _ => false) && (scope.names.all fun y => decide (scope.names.lookup y.1 = some y.2)) && (own.all fun p => decide (c.N[p.2]? = some p.1)) &&
    (scope.names.all fun y => match y.2 with
      | .free => (match c.sc.lookup y.1 with | some .cell => true | some .free => true | _ => false)
      | .local => decide (y.1 ∈ own.map (·.1)) || decide (y.1 ∉ c.N)
      | .cell => decide (y.1 ∈ own.map (·.1)) || decide (y.1 ∉ c.N)
      | _ => true)
section
variable {c : Cfg} {X : Cx} {Z : Wd} {W : WX}
theorem blkB_ok (g : Gd c X Z W) {scope : Scope} {own : List (Str × Nat)} (h : blkB c scope own = true) : BlkOk X.N X.env.scope scope own := by
  unfold blkB at h
  simp only [Bool.and_eq_true, List.all_eq_true, decide_eq_true_eq] at h
  obtain ⟨⟨⟨h1, h2⟩, h3⟩, h4⟩ := h
  refine ⟨?_, h2, by rw [g.N]; exact h3, fun y hy e => ?_, fun y hy e => ?_⟩
  · split at h1
    · assumption
    · cases h1
  · have q := h4 y hy
    simp only [e] at q
    split at q
    · rename_i hk
      exact .inl (g.celk hk)
    · rename_i hk
      obtain ⟨k', a, b⟩ := g.sc y.1 _ hk
      rcases b with rfl | ⟨_, rfl⟩
      · exact .inr a
      · exact .inl a
    · cases q
  · rw [g.N]
    have q := h4 y hy
    rcases e with e | e <;> (simp only [e, Bool.or_eq_true, decide_eq_true_eq] at q; exact q)
theorem relabel_look {f : Str → NameKind → NameKind} : ∀ {names : List (Str × NameKind)} {x : Str} {k : NameKind}, names.lookup x = some k → (names.map fun p => (p.1, f p.1 p.2)).lookup x = some (f x k)
  | [], _, _, h => by cases h
  | (n, k₀) :: r, x, k, h => by
    rw [List.map_cons, List.lookup_cons]
    rw [List.lookup_cons] at h
    cases hx : x == n with
    | true =>
      rw [hx] at h
      cases h
      rw [eq_of_beq hx]
    | false =>
      rw [hx] at h
      exact relabel_look h
theorem Gd.blk (g : Gd c X Z W) (s : Shared) (H : Hp) (scope : Scope) (C : Addr) (cl : List (Str × Addr)) (fp : List Addr) : Gd { c with sc := scope.names } (X.blk s H scope (compEnvC scope cl C X.env) fp) Z W0 := by
  refine ⟨g.N, g.nd, fun x k h => ?_, g.K, g.un, g.cal, fun x h => ?_, takes0, g.mgn, g.fns, g.cst, g.tab, g.exs, g.hit⟩
  · have h : scope.names.lookup x = some k := h
    have e : (compEnvC scope cl C X.env).scope.names = scope.names.map fun p => (p.1, if (p.2 == NameKind.free && X.env.scope.kind == ScopeKind.function && X.env.kindOf p.1 == some NameKind.cell) = true then NameKind.cell else p.2) := by
      show (scope.names.map fun (n, k) => if (k == NameKind.free && X.env.scope.kind == ScopeKind.function && X.env.kindOf n == some NameKind.cell) = true then (n, NameKind.cell) else (n, k)) = _
      refine List.map_congr_left fun p _ => ?_
      obtain ⟨n, k⟩ := p
      dsimp only
      split <;> rfl
    show ∃ k', (compEnvC scope cl C X.env).scope.names.lookup x = some k' ∧ _
    rw [e]
    have q := relabel_look (f := fun n k => if (k == NameKind.free && X.env.scope.kind == ScopeKind.function && X.env.kindOf n == some NameKind.cell) = true then NameKind.cell else k) h
    refine ⟨_, q, ?_⟩
    by_cases hc : (k == NameKind.free && X.env.scope.kind == ScopeKind.function && X.env.kindOf x == some NameKind.cell) = true
    · rw [if_pos hc]
      simp only [Bool.and_eq_true, beq_iff_eq] at hc
      exact .inr ⟨hc.1.1, rfl⟩
    · rw [if_neg hc]
      exact .inl rfl
  · show (scope.names.lookup x == some .cell) = true
    have h : scope.names.lookup x = some .cell := h
    rw [h]; rfl
end

/-! ### targets -/
def stepG (r : Trs) (c : Cfg) (e : Expr) : Option (SemG × List Nat) := match e with
  | .Name x _ => (match c.sc.lookup x with
    | some .local => (match idxN c.N x with | some i => some (gNm i, [i]) | none => none)
    | some .cell => (match idxN c.N x with | some i => some (gNm i, [i]) | none => none)
    | _ => none)
  | .Tuple es _ _ => (match c.cal with
    | true => (match goalsT (r.G c) es with | some (gs, ts) => some (gTp gs es.length, ts) | none => none)
    | false => none)
  | _ => none

/-! ### calls -/
/-- list(range(..)), tuple(range(..)) -/
def rangeArg (c : Cfg) (e : Expr) : Option (List Expr) := match e with
  | .Call (.Name g _) args [] _ => (match isRange g with
    | true => (match c.sc.lookup g with | some .globalImplicit => some args | _ => none)
    | false => none)
  | _ => none
def lrgT (r : Trs) (c : Cfg) (f : Str) (args : List Expr) : Option SemE := match c.cal, args with
  | true, [e] => (match rangeArg c e with
    | some [a] => (match notStar a, r.E c a with
      | true, some ta => (match isListN f with | true => some (lrg1C ta) | false => (match isTupleN f with | true => some (trg1C ta) | false => none))
      | _, _ => none)
    | some [a, b] => (match notStar a && notStar b, r.E c a, r.E c b with
      | true, some ta, some tb => (match isListN f with | true => some (lrg2C ta tb) | false => (match isTupleN f with | true => some (trg2C ta tb) | false => none))
      | _, _, _ => none)
    | _ => none)
  | _, _ => none
def callT (r : Trs) (c : Cfg) (f : Str) (args : List Expr) : Option SemE := match okName f, c.cal, args with
  | true, true, e :: es => (match c.sc.lookup f with
    | some .globalImplicit => (match c.fns.lookup f with
      | some F => (match argsT (r.E c) (e :: es) with | some a => some (callC F a) | none => none)
      | none => (match bltNames.lookup f with
        | some n => (match bltB n with
          | some F => (match argsT (r.E c) (e :: es) with | some a => some (appC F a) | none => none)
          | none => none)
        | none => none))
    | some k => (match isVis k with
      | true => (match idxN c.N f with
        | some i => (match argsT (r.E c) (e :: es) with | some a => some (callLC i c.tab a) | none => none)
        | none => none)
      | false => none)
    | none => none)
  | _, _, _ => none
/-- o.m(..) -/
def methT (r : Trs) (c : Cfg) (o : Expr) (m : Str) (apos cpos : Pos) (args : List Expr) : Option SemE := match plainBase o && lineOk apos cpos && args.all notStar && Nat.blt args.length 29, r.E c o with
  | true, some to => (match args with
    | [] => (match isPop m with | true => some (mt0C popM to) | false => none)
    | [e] => (match isGet m with
      | true => (match r.E c e with | some te => some (get1C to te) | none => none)
      | false => (match mtNames.lookup m with
        | some n => (match mtT n 1 with
          | some f => (match argsT (r.E c) [e] with | some a => some (mtC f to a) | none => none)
          | none => none)
        | none => none))
    | [e, e2] => (match isGet m with
      | true => (match r.E c e, r.E c e2 with | some te, some tf => some (get2C to te tf) | _, _ => none)
      | false => (match isPop m with
        | true => (match r.E c e, r.E c e2 with | some te, some tf => some (pop2C to te tf) | _, _ => none)
        | false => (match mtNames.lookup m with
          | some n => (match mtT n 2 with
            | some f => (match argsT (r.E c) [e, e2] with | some a => some (mtC f to a) | none => none)
            | none => none)
          | none => none)))
    | _ => none)
  | _, _ => none

/-! ### iterables -/
def isEnum (x : Str) : Bool := decide (x = "enumerate")
def isZip (x : Str) : Bool := decide (x = "zip")
/-- enumerate over a zip -/
def enzT (r : Trs) (c : Cfg) (e : Expr) : Option SemI := match e with
  | .Call (.Name f _) args [] _ => (match c.sc.lookup f with
    | some .globalImplicit => (match isZip f with
      | true => (match args with
        | [_, _] => (match argsT (r.E c) args with | some a => some (enzI a) | none => none)
        | _ => none)
      | false => none)
    | _ => none)
  | _ => none
def stepI (r : Trs) (c : Cfg) (tg iter : Expr) : Option SemI := match iter with
  | .Call (.Name f _) args [] _ => (match c.sc.lookup f with
    | some .globalImplicit => (match isRange f with
      | true => (match argsT (r.E c) args with
        | some a => (match args with | [_] => some (rng1I a) | [_, _] => some (rng2I a) | [_, _, _] => some (rng3I a) | _ => none)
        | none => none)
      | false => (match isEnum f with
        | true => (match tg, args with
          | .Tuple _ _ _, [e] => (match enzT r c e with | some t => some t | none => (match argsT (r.E c) args with | some a => some (enuI a) | none => none))
          | _, _ => none)
        | false => (match isZip f with
          | true => (match tg, args with
            | .Tuple _ _ _, [_, _] => (match argsT (r.E c) args with | some a => some (zipI a) | none => none)
            | _, _ => none)
          | false => (match r.E c iter with | some t => some (seqI t) | none => none))))
    | _ => (match r.E c iter with | some t => some (seqI t) | none => none))
  | _ => (match r.E c iter with | some t => some (seqI t) | none => none)

/-! ### comprehensions -/
def testsT (f : Expr → Option SemT) : List Expr → Option SemT
  | [] => some yesT
  | [e] => f e
  | _ => none
def lcT (r : Trs) (c : Cfg) (elt tg iter : Expr) (ifs : List Expr) (scope : Scope) : Option SemE := match c.cal && notSet iter && blkB c scope (ownOf c.N scope.names) with
  | true => (match r.I c tg iter with
    | some it => (match r.G { c with sc := scope.names } tg with
      | some (g, ts) => (match ts.all fun i => decide (i ∈ (ownOf c.N scope.names).map (·.2)) with
        | true => (match testsT (r.T { c with sc := scope.names }) ifs with
          | some tt => (match r.E { c with sc := scope.names } elt with
            | some te => some (lcC it g tt te ((ownOf c.N scope.names).map (·.2)))
            | none => none)
          | none => none)
        | false => none)
      | none => none)
    | none => none)
  | false => none

def stepE (r : Trs) (c : Cfg) (e : Expr) : Option SemE := match e with
  | .Constant k _ _ => (match k with | .int i => some (litC (.int i)) | .bool b => some (litC (.bl b)) | .none => some (litC .non) | .str x => some (litC (.str x)) | _ => none)
  | .Name x _ => nameT c x
  | .BinOp a op b _ => (match opT op, r.E c a, r.E c b with | some f, some ta, some tb => some (binC f ta tb) | _, _, _ => none)
  | .UnaryOp op a _ => (match op, r.E c a with | .USub, some ta => some (unC negD ta) | .Not, some ta => some (notV ta) | _, _ => none)
  | .BoolOp op es _ => (match op with | .And => andsV (r.E c) es | .Or => orsV (r.E c) es)
  | .IfExp t a b _ => (match r.T c t, r.E c a, r.E c b with | some tt, some ta, some tb => some (ifC tt ta tb) | _, _, _ => none)
  | .Compare a ops bs _ => (match ops, bs with
    | [op], [b] => (match notSet b, cmT op, r.E c a, r.E c b with | true, some f, some ta, some tb => some (binC f ta tb) | _, _, _, _ => none)
    | [op, op'], [b, d] => (match notSet d, cmT op, cmT op', r.E c a, r.E c b, r.E c d with | true, some f, some f', some ta, some tb, some td => some (chC f f' ta tb td) | _, _, _, _, _, _ => none)
    | _, _ => none)
  | .Call fn args kws pos => (match kws with
    | [] => (match fn with
      | .Name f _ => (match lrgT r c f args with | some t => (match c.sc.lookup f with | some .globalImplicit => some t | _ => none) | none => callT r c f args)
      | .Attribute o m apos => methT r c o m apos pos args
      | _ => none)
    | _ :: _ => none)
  | .Subscript a i _ => (match i with
    | .Slice lo hi st _ => (match r.E c a, partT (r.E c) lo, partT (r.E c) hi with
      | some ta, some tl, some th => (match st with
        | none => some (slC ta tl th)
        | some se => (match partT (r.E c) (some se) with | some ts => some (slsC ta tl th ts) | none => none))
      | _, _, _ => none)
    | _ => (match notSlice i, r.E c a, r.E c i with | true, some ta, some ti => some (binC ixD ta ti) | _, _, _ => none))
  | .Tuple es _ _ => (match argsT (r.E c) es with | some a => some (tupC a) | none => none)
  | .List es _ => (match argsT (r.E c) es with | some a => some (lstC a) | none => none)
  | .Dict ks vs _ => (match ks, vs with
    | [], [] => some dnewC
    | k :: ks, vs => (match Nat.ble (k :: ks).length 15, prsT (r.E c) (k :: ks) vs with | true, some ps => some (dispC ps) | _, _ => none)
    | _, _ => none)
  | .ListComp elt gens scope _ => (match gens with
    | [⟨tg, iter, ifs, 0⟩] => lcT r c elt tg iter ifs scope
    | _ => none)
  | _ => none
def stepT (r : Trs) (c : Cfg) (e : Expr) : Option SemT := match e with
  | .UnaryOp .Not a _ => (match r.T c a with | some t => some (notT t) | none => none)
  | .BoolOp op es _ => (match op with | .And => andsT (r.T c) es | .Or => orsT (r.T c) es)
  | .Compare a ops bs _ => (match ops, bs with
    | [op], [b] => (match notSet b, cmT op, r.E c a, r.E c b with | true, some f, some ta, some tb => some (blT (binC f ta tb)) | _, _, _, _ => none)
    | [op, op'], [b, d] => (match notSet d, cmT op, cmT op', r.E c a, r.E c b, r.E c d with | true, some f, some f', some ta, some tb, some td => some (blT (chC f f' ta tb td)) | _, _, _, _, _, _ => none)
    | _, _ => none)
  | .IfExp _ _ _ _ => none
  | e => (match plainTest e, r.E c e with | true, some t => some (truT t) | _, _ => none)

/-! ### soundness -/
structure TrOk (r : Trs) : Prop where
  E : ∀ {c X Z W e t}, Gd c X Z W → r.E c e = some t → PE X e (tI Z W t)
  T : ∀ {c X Z W e t}, Gd c X Z W → r.T c e = some t → PT X e (tT Z W t)
  I : ∀ {c X Z W tg e t}, Gd c X Z W → r.I c tg e = some t → PI X tg e (tIt Z W t)
  G : ∀ {c X Z W e g ts}, Gd c X Z W → r.G c e = some (g, ts) → PG X e (tG Z ts g)
  S : ∀ {c X Z W s t}, GdS c X Z W → r.S c s = some t → PS X s (tS Z W t)
section
variable {r : Trs} {c : Cfg} {X : Cx} {Z : Wd} {W : WX}
theorem stepG_ok (R : TrOk r) {e : Expr} {gm : SemG} {ts : List Nat} (g : Gd c X Z W) (h : stepG r c e = some (gm, ts)) : PG X e (tG Z ts gm) := by
  unfold stepG at h
  split at h
  · split at h
    · rename_i hk
      split at h
      · rename_i i hi
        cases h
        exact s_gNm (by rw [g.N]; exact g.nd) (by rw [g.N]; exact idxN_ok hi) (.inl (g.loc hk)) (.inr (g.loc hk))
      · cases h
    · rename_i hk
      split at h
      · rename_i i hi
        cases h
        exact s_gNm (by rw [g.N]; exact g.nd) (by rw [g.N]; exact idxN_ok hi) (.inr (g.celk hk)) (.inl (g.fnc _ hk))
      · cases h
    · cases h
  · split at h
    · rename_i hc
      split at h
      · rename_i gs us hg
        cases h
        obtain ⟨h1, h2⟩ := goals_ok (fun e gg ts q => R.G g q) _ _ _ hg
        exact s_gTp g.K (g.cal hc).1 h1 (asg_len h2) (asg_find h2)
      · cases h
    · cases h
  · cases h
theorem lrgT_ok (R : TrOk r) {f : Str} {args : List Expr} {t : SemE} {p pos : Pos} (g : Gd c X Z W) (hf : c.sc.lookup f = some .globalImplicit) (h : lrgT r c f args = some t) : PE X (.Call (.Name f p) args [] pos) (tI Z W t) := by
  unfold lrgT at h
  split at h
  · rename_i e hc
    have calm := (g.cal hc).1
    unfold rangeArg at h
    split at h
    · rename_i a he
      split at he
      · rename_i gn gp gargs gpos
        split at he
        · rename_i hr
          split at he
          · rename_i hk
            cases he
            have e1 : gn = "range" := of_decide_eq_true hr
            subst e1
            have hgr := g.gl hk
            have hmr := g.mgn "range" 14 rfl
            split at h
            · rename_i hs ha
              have na := star_e (e := a) (es := []) (env := X.env) hs
              split at h
              · rename_i hl
                cases h
                have e2 : f = "list" := of_decide_eq_true hl
                subst e2
                exact s_lrg1 calm (g.gl hf) (g.mgn "list" 11 rfl) hgr hmr (R.E g ha) na rfl
              · split at h
                · rename_i hl
                  cases h
                  have e2 : f = "tuple" := of_decide_eq_true hl
                  subst e2
                  exact s_trg1 calm (g.gl hf) (g.mgn "tuple" 12 rfl) hgr hmr (R.E g ha) na rfl
                · cases h
            · cases h
          · cases he
        · cases he
      · cases he
    · rename_i a b he
      split at he
      · rename_i gn gp gargs gpos
        split at he
        · rename_i hr
          split at he
          · rename_i hk
            cases he
            have e1 : gn = "range" := of_decide_eq_true hr
            subst e1
            have hgr := g.gl hk
            have hmr := g.mgn "range" 14 rfl
            split at h
            · rename_i hs ha hb
              obtain ⟨hs1, hs2⟩ := and2 hs
              have na := star_e (e := a) (es := [b]) (env := X.env) hs1
              have nb := star_e (e := b) (es := []) (env := X.env) hs2
              have hp : (backTo gpos (starEach [b] X.env)).any (·.1) = false := star_any (by rw [List.all_cons, hs2]; rfl)
              split at h
              · rename_i hl
                cases h
                have e2 : f = "list" := of_decide_eq_true hl
                subst e2
                exact s_lrg2 calm (g.gl hf) (g.mgn "list" 11 rfl) hgr hmr (R.E g ha) (R.E g hb) na nb hp rfl
              · split at h
                · rename_i hl
                  cases h
                  have e2 : f = "tuple" := of_decide_eq_true hl
                  subst e2
                  exact s_trg2 calm (g.gl hf) (g.mgn "tuple" 12 rfl) hgr hmr (R.E g ha) (R.E g hb) na nb hp rfl
                · cases h
            · cases h
          · cases he
        · cases he
      · cases he
    · cases h
  · cases h
theorem callT_ok (R : TrOk r) {f : Str} {args : List Expr} {t : SemE} {p pos : Pos} (g : Gd c X Z W) (h : callT r c f args = some t) : PE X (.Call (.Name f p) args [] pos) (tI Z W t) := by
  unfold callT at h
  split at h
  · rename_i e es ho hc
    obtain ⟨o1, o2, o3⟩ := okName_ok ho
    obtain ⟨calm, room⟩ := g.cal hc
    split at h
    · rename_i hk
      split at h
      · rename_i F hF
        split at h
        · rename_i a ha
          cases h
          obtain ⟨h1, h2⟩ := args_ok (fun e t q => R.E g q) _ _ ha
          rw [List.all_cons] at h2
          obtain ⟨s1, s2⟩ := and2 h2
          obtain ⟨ad, n, hm, hD⟩ := g.fns f F hF
          exact s_call hD room (g.gl hk) hm g.tk h1 o1 (star_e s1) (star_any s2)
        · cases h
      · split at h
        · rename_i n hn
          split at h
          · rename_i F hF
            split at h
            · rename_i a ha
              cases h
              obtain ⟨h1, h2⟩ := args_ok (fun e t q => R.E g q) _ _ ha
              exact blt_ok g.K g.un calm hn (g.gl hk) (g.mgn f n hn) hF h1 h2
            · cases h
          · cases h
        · cases h
    · rename_i k hne hk
      split at h
      · rename_i hv
        split at h
        · rename_i i hi
          split at h
          · rename_i a ha
            cases h
            obtain ⟨h1, h2⟩ := args_ok (fun e t q => R.E g q) _ _ ha
            rw [List.all_cons] at h2
            obtain ⟨s1, s2⟩ := and2 h2
            exact s_callL g.tab room (by rw [g.N]; exact idxN_ok hi) (g.vis hk hv) g.tk h1 o1 o2 (star_e s1) (star_any s2)
          · cases h
        · cases h
      · cases h
    · cases h
  · cases h
theorem methT_ok (R : TrOk r) {o : Expr} {m : Str} {args : List Expr} {t : SemE} {apos cpos : Pos} (g : Gd c X Z W) (h : methT r c o m apos cpos args = some t) : PE X (.Call (.Attribute o m apos) args [] cpos) (tI Z W t) := by
  unfold methT at h
  split at h
  · rename_i to hs hto
    obtain ⟨hs, h30⟩ := and2 hs
    obtain ⟨hs, hst⟩ := and2 hs
    obtain ⟨hb, hl⟩ := and2 hs
    have ho := R.E g hto
    have hbase : ∀ m, attributeBase o m X.env (eval o X.env) = eval o X.env := fun m => base_of hb
    have hfew := few_ok (env := X.env) (cpos := cpos) hst h30
    have hu : X.A.units + 1 < cLine := by have := g.un; omega
    split at h
    · split at h
      · rename_i hp
        cases h
        have e : m = "pop" := of_decide_eq_true hp
        subst e
        exact s_mt0 g.K o_pop PySem.F.slot_list_pop PySem.F.type_list_pop mt_pop ho (hbase _) hl
      · cases h
    · rename_i e
      rw [List.all_cons] at hst
      obtain ⟨s1, _⟩ := and2 hst
      split at h
      · rename_i hg
        split at h
        · rename_i te he
          cases h
          have e1 : m = "get" := of_decide_eq_true hg
          subst e1
          exact s_get1 hu ho (R.E g he) ⟨hbase _, hfew, hl, by rw [star_e s1]; rfl⟩
        · cases h
      · split at h
        · rename_i n hn
          split at h
          · rename_i f hf
            split at h
            · rename_i a ha
              cases h
              obtain ⟨h1, h2⟩ := args_ok (fun e t q => R.E g q) _ _ ha
              exact mt_ok g hn hf hb hl h2 h30 ho h1
            · cases h
          · cases h
        · cases h
    · rename_i e e2 _
      rw [List.all_cons, List.all_cons] at hst
      obtain ⟨s1, hst2⟩ := and2 hst
      obtain ⟨s2, _⟩ := and2 hst2
      have tr : backTo cpos (starEach [e, e2] X.env) = [(false, eval e X.env), (false, eval e2 X.env)] := by rw [star_e s1, star_e s2]; rfl
      split at h
      · rename_i hg
        split at h
        · rename_i te tf he hf
          cases h
          have e1 : m = "get" := of_decide_eq_true hg
          subst e1
          exact s_get2 hu ho (R.E g he) (R.E g hf) ⟨hbase _, hfew, hl, tr⟩
        · cases h
      · split at h
        · rename_i hp
          split at h
          · rename_i te tf he hf
            cases h
            have e1 : m = "pop" := of_decide_eq_true hp
            subst e1
            exact s_pop2 ho (R.E g he) (R.E g hf) ⟨hbase _, hfew, hl, tr⟩
          · cases h
        · split at h
          · rename_i n hn
            split at h
            · rename_i f hf
              split at h
              · rename_i a ha
                cases h
                obtain ⟨h1, h2⟩ := args_ok (fun e t q => R.E g q) _ _ ha
                exact mt_ok g hn hf hb hl h2 h30 ho h1
              · cases h
            · cases h
          · cases h
    · cases h
  · cases h
theorem stepI_ok (R : TrOk r) {tg iter : Expr} {t : SemI} (g : Gd c X Z W) (h : stepI r c tg iter = some t) : PI X tg iter (tIt Z W t) := by
  have seq : ∀ {t}, (match r.E c iter with | some t => some (seqI t) | none => none) = some t → PI X tg iter (tIt Z W t) := fun {t} q => by
    split at q
    · rename_i te he
      cases q
      exact i_seq g.K (R.E g he)
    · cases q
  unfold stepI at h
  split at h
  · rename_i f fp args pos
    split at h
    · rename_i hk
      split at h
      · rename_i hr
        have e1 : f = "range" := of_decide_eq_true hr
        subst e1
        have hgr := g.gl hk
        have hmr := g.mgn "range" 14 rfl
        split at h
        · rename_i a ha
          obtain ⟨h1, h2⟩ := args_ok (fun e t q => R.E g q) _ _ ha
          split at h
          · rw [List.all_cons] at h2
            cases h
            exact i_rng1 hgr hmr h1 (star_1 (and2 h2).1)
          · rw [List.all_cons, List.all_cons] at h2
            obtain ⟨s1, h2⟩ := and2 h2
            obtain ⟨s2, _⟩ := and2 h2
            cases h
            exact i_rng2 hgr hmr h1 (by rw [star_e s1, star_1 s2]) (star_1 s2)
          · rw [List.all_cons] at h2
            obtain ⟨s1, h2⟩ := and2 h2
            cases h
            exact i_rng3 hgr hmr h1 (star_e s1) (star_any h2)
          · cases h
        · cases h
      · split at h
        · rename_i hr
          have e1 : f = "enumerate" := of_decide_eq_true hr
          subst e1
          split at h
          · split at h
            · rename_i t' hz
              cases h
              unfold enzT at hz
              split at hz
              · split at hz
                · rename_i hk2
                  split at hz
                  · rename_i hr2
                    have e2 := of_decide_eq_true hr2
                    subst e2
                    split at hz
                    · split at hz
                      · rename_i a ha
                        obtain ⟨h1, h2⟩ := args_ok (fun e t q => R.E g q) _ _ ha
                        rw [List.all_cons] at h2
                        obtain ⟨s1, h2⟩ := and2 h2
                        cases hz
                        exact i_enz g.K (g.gl hk) (g.mgn "enumerate" 15 rfl) (g.gl hk2) (g.mgn "zip" 16 rfl) h1 (star_1 rfl) (star_e s1) (star_any h2)
                      · cases hz
                    · cases hz
                  · cases hz
                · cases hz
              · cases hz
            · split at h
              · rename_i a ha
                obtain ⟨h1, h2⟩ := args_ok (fun e t q => R.E g q) _ _ ha
                rw [List.all_cons] at h2
                cases h
                exact i_enu g.K (g.gl hk) (g.mgn "enumerate" 15 rfl) h1 (star_1 (and2 h2).1)
              · cases h
          · cases h
        · split at h
          · rename_i hr
            have e1 : f = "zip" := of_decide_eq_true hr
            subst e1
            split at h
            · split at h
              · rename_i a ha
                obtain ⟨h1, h2⟩ := args_ok (fun e t q => R.E g q) _ _ ha
                rw [List.all_cons] at h2
                obtain ⟨s1, h2⟩ := and2 h2
                cases h
                exact i_zip g.K (g.gl hk) (g.mgn "zip" 16 rfl) h1 (star_e s1) (star_any h2)
              · cases h
            · cases h
          · exact seq h
    · exact seq h
  · exact seq h
theorem tests_ok (R : TrOk r) {ifs : List Expr} {t : SemT} (g : Gd c X Z W) (h : testsT (r.T c) ifs = some t) : PTs X ifs (tT Z W t) := by
  unfold testsT at h
  split at h
  · cases h
    exact s_yes
  · exact s_ones (R.T g h)
  · cases h
/-- the parts of a translated comprehension -/
theorem lcT_parts {elt tg iter : Expr} {ifs : List Expr} {scope : Scope} {t : SemE} (h : lcT r c elt tg iter ifs scope = some t) : ∃ it gm ts tt te, c.cal = true ∧ notSet iter = true ∧ blkB c scope (ownOf c.N scope.names) = true ∧ r.I c tg iter = some it ∧
    r.G { c with sc := scope.names } tg = some (gm, ts) ∧ (∀ i ∈ ts, i ∈ (ownOf c.N scope.names).map (·.2)) ∧ testsT (r.T { c with sc := scope.names }) ifs = some tt ∧ r.E { c with sc := scope.names } elt = some te ∧ t = lcC it gm tt te ((ownOf c.N scope.names).map (·.2)) := by
  unfold lcT at h
  split at h
  · rename_i hs
    obtain ⟨hs, hb⟩ := and2 hs
    obtain ⟨hc, hn⟩ := and2 hs
    split at h
    · rename_i it hi
      split at h
      · rename_i gm ts hg
        split at h
        · rename_i hsub
          split at h
          · rename_i tt htt
            split at h
            · rename_i te hte
              cases h
              exact ⟨it, gm, ts, tt, te, hc, hn, hb, hi, hg, fun i hi => of_decide_eq_true (List.all_eq_true.mp hsub i hi), htt, hte, rfl⟩
            · cases h
          · cases h
        · cases h
      · cases h
    · cases h
  · cases h
theorem lcT_ok (R : TrOk r) {elt tg iter : Expr} {ifs : List Expr} {scope : Scope} {pos : Pos} {t : SemE} (g : Gd c X Z W) (h : lcT r c elt tg iter ifs scope = some t) : PE X (.ListComp elt [⟨tg, iter, ifs, 0⟩] scope pos) (tI Z W t) := by
  obtain ⟨it, gm, ts, tt, te, hc, hn, hb, hi, hg, hsub, htt, hte, rfl⟩ := lcT_parts h
  exact s_lc (g.cal hc).1 (by rw [g.N]; exact g.nd) (R.I g hi) (blkB_ok g hb) hsub (fun s H C cl fp => R.G (g.blk s H scope C cl fp) hg) (fun s H C cl fp => tests_ok R (g.blk s H scope C cl fp) htt) (fun s H C cl fp => R.E (g.blk s H scope C cl fp) hte) (fold_set hn)
theorem stepE_ok (R : TrOk r) {e : Expr} {t : SemE} (g : Gd c X Z W) (h : stepE r c e = some t) : PE X e (tI Z W t) := by
  unfold stepE at h
  split at h
  · split at h
    · cases h; exact s_lit pe_int fun _ _ _ => .int
    · cases h; exact s_lit pe_bl fun _ _ _ => .bl
    · cases h; exact s_lit pe_non fun _ _ _ => .non
    · cases h; exact s_lit pe_str fun _ _ _ => .str
    · cases h
  · exact name_ok g h
  · split at h
    · rename_i f ta tb hf ha hb
      cases h
      obtain ⟨rr, h1, h2⟩ := op_ok g.K hf
      exact s_bin h1 h2 (R.E g ha) (R.E g hb)
    · cases h
  · split at h
    · rename_i ta ha
      cases h
      exact s_un o_neg un_neg (R.E g ha)
    · rename_i ta ha
      cases h
      exact s_notV g.K (R.E g ha)
    · cases h
  · split at h
    · exact andsV_ok g.K (fun e t q => R.E g q) _ _ _ h
    · exact orsV_ok g.K (fun e t q => R.E g q) _ _ _ h
  · split at h
    · rename_i tt ta tb ht ha hb
      cases h
      exact s_ifE (R.T g ht) (R.E g ha) (R.E g hb)
    · cases h
  · split at h
    · split at h
      · rename_i f ta tb hs hf ha hb
        cases h
        obtain ⟨rr, h1, h2⟩ := cm_ok g.K g.un hf
        exact s_cmp h1 h2 (R.E g ha) (R.E g hb) (marks_set hs)
      · cases h
    · split at h
      · rename_i f f' ta tb td hs hf hf' ha hb hd
        cases h
        obtain ⟨rr, h1, h2⟩ := cm_ok g.K g.un hf
        obtain ⟨rr', h3, h4⟩ := cm_ok g.K g.un hf'
        exact s_ch h1 h3 h2 h4 (R.E g ha) (R.E g hb) (R.E g hd) (marks_last hs)
      · cases h
    · cases h
  · split at h
    · split at h
      · split at h
        · rename_i t' hl
          split at h
          · rename_i hk
            cases h
            exact lrgT_ok R g hk hl
          · cases h
        · exact callT_ok R g h
      · exact methT_ok R g h
      · cases h
    · cases h
  · split at h
    · split at h
      · rename_i ta tl th ha hl hh
        have p1 := part_ok (W := W) (fun e t q => R.E g q) _ _ hl
        have p2 := part_ok (W := W) (fun e t q => R.E g q) _ _ hh
        split at h
        · cases h
          exact s_slice g.K (R.E g ha) p1 p2
        · rename_i se
          split at h
          · rename_i ts hs
            cases h
            exact s_sliceS g.K (R.E g ha) p1 p2 rfl (part_ok (fun e t q => R.E g q) _ _ hs)
          · cases h
      · cases h
    · split at h
      · rename_i ta ti hs ha hi
        cases h
        exact s_ix g.K (by have := g.un; omega) (R.E g ha) (R.E g hi) (plain_ix hs)
      · cases h
  · split at h
    · rename_i a ha
      cases h
      exact s_tup (args_ok (fun e t q => R.E g q) _ _ ha).1
    · cases h
  · split at h
    · rename_i a ha
      cases h
      exact s_lst (args_ok (fun e t q => R.E g q) _ _ ha).1
    · cases h
  · split at h
    · cases h
      exact s_dnew
    · split at h
      · rename_i ps hb hp
        cases h
        obtain ⟨h1, h2, h3⟩ := prsT_ok (pos := ‹Pos›) (fun e t q => R.E g q) _ _ _ hp
        exact s_disp h1 h2 h3 (by intro z; cases z) (Nat.le_of_ble_eq_true hb)
      · cases h
    · cases h
  · split at h
    · exact lcT_ok R g h
    · cases h
  · cases h
theorem stepT_ok (R : TrOk r) {e : Expr} {t : SemT} (g : Gd c X Z W) (h : stepT r c e = some t) : PT X e (tT Z W t) := by
  unfold stepT at h
  split at h
  · split at h
    · rename_i t ht
      cases h
      exact s_not (R.T g ht)
    · cases h
  · split at h
    · exact (ands_ok (fun e t q => R.T g q) _ _ _ h).pt
    · exact (ors_ok (fun e t q => R.T g q) _ _ _ h).pt
  · split at h
    · split at h
      · rename_i f ta tb hs hf ha hb
        cases h
        obtain ⟨rr, h1, h2⟩ := cm_ok g.K g.un hf
        exact s_cmpT h1 h2 (R.E g ha) (R.E g hb) (marks_set hs)
      · cases h
    · split at h
      · rename_i f f' ta tb td hs hf hf' ha hb hd
        cases h
        obtain ⟨rr, h1, h2⟩ := cm_ok g.K g.un hf
        obtain ⟨rr', h3, h4⟩ := cm_ok g.K g.un hf'
        exact s_chT h1 h3 h2 h4 (R.E g ha) (R.E g hb) (R.E g hd) (marks_last hs)
      · cases h
    · cases h
  · cases h
  · split at h
    · rename_i t hp ht
      cases h
      exact s_truT g.K (R.E g ht) (plain_test hp)
    · cases h
end
end
end Ev

set_option Elab.async false
set_option linter.all false
set_option maxRecDepth 100000
set_option maxHeartbeats 1000000
/-! Ev20: the translator's step and its soundness: statements; the tower; a def by its translation. -/
namespace Ev
open PySem PySem.Spec PyProof.Rows L2 HT
noncomputable section

def swOwn (scope : Scope) (x : Str) : Bool := scope.names.any fun (n, k) => n == x && (k == .local || k == .cell)
/-- name = value -/
def setNameT (r : Trs) (c : Cfg) (x : Str) (p : Pos) (e : Expr) : Option SemS := match idxN c.N x with
  | some i => (match e with
    | .ListComp elt gens scope lpos => (match gens with
      | [⟨tg, iter, ifs, 0⟩] => (match lcT r c elt tg iter ifs scope, c.sc.lookup x with
        | some te, some .local => some (setC (gNm i) te)
        | some te, some .cell => some (setC (gNm i) te)
        | _, _ => none)
      | _ => none)
    | e => (match notComp e, r.E c e, c.sc.lookup x with
      | true, some te, some .local => some (setC (gNm i) te)
      | true, some te, some .cell => some (setC (gNm i) te)
      | _, _, _ => none))
  | none => none
/-- t, t = value -/
def setTupT (r : Trs) (c : Cfg) (tg : Expr) (ts : List Expr) (e : Expr) : Option SemS := match e with
  | .Tuple vs _ _ => (match swP ts vs (fun x => c.sc.lookup x) with
    | some none => (match r.E c e, r.G c tg with | some te, some (g, _) => some (setC g te) | _, _ => none)
    | some (some _) => (match ts, vs with
      | [.Name x _, .Name y _], [a, b] => (match c.cal, c.sc.lookup x, c.sc.lookup y, idxN c.N x, idxN c.N y, argsT (r.E c) [a, b] with
        | true, some .local, some .local, some i, some j, some ta => (match Nat.beq i j with | true => none | false => some (par2C i j ta))
        | _, _, _, _, _, _ => none)
      | [.Name x _, .Name y _, .Name z _], [a, b, d] => (match c.cal, c.sc.lookup x, c.sc.lookup y, c.sc.lookup z, idxN c.N x, idxN c.N y, idxN c.N z, argsT (r.E c) [a, b, d] with
        | true, some .local, some .local, some .local, some i, some j, some l, some ta => (match Nat.beq i j || (Nat.beq i l || Nat.beq j l) with | true => none | false => some (par3C i j l ta))
        | _, _, _, _, _, _, _, _ => none)
      | _, _ => none)
    | none => none)
  | .List _ _ => none
  | _ => (match r.E c e, r.G c tg with | some te, some (g, _) => some (setC g te) | _, _ => none)
/-- o[i], o[i] = value -/
def sw2T (r : Trs) (c : Cfg) (ts : List Expr) (e : Expr) : Option SemS := match ts, e with
  | [.Subscript o1 i1 _, .Subscript o2 i2 _], .Tuple vs _ _ => (match notSlice i1 && notSlice i2, c.cal, swP ts vs (fun x => c.sc.lookup x), r.E c o1, r.E c i1, r.E c o2, r.E c i2, r.E c e with
    | true, true, some none, some a, some b, some a2, some b2, some te => some (sw2C a b a2 b2 te)
    | _, _, _, _, _, _, _, _ => none)
  | _, _ => none
def excArg (e : Expr) : Option Str := match e with
  | .Call (.Name x _) [.Constant (.str _) _ _] [] _ => some x
  | _ => none
def stepS (r : Trs) (c : Cfg) (s : Stmt) : Option SemS := match s with
  | .Pass _ => some passC
  | .Break _ => some brkC
  | .Continue _ => some cntC
  | .Expr e _ => (match notComp e, r.E c e with | true, some t => some (exprC t) | _, _ => none)
  | .Return o _ => (match o with | none => some retNC | some e => (match r.E c e with | some t => some (retC t) | none => none))
  | .If t a b _ => (match r.T c t, stmtsT (r.S c) a, stmtsT (r.S c) b with | some tt, some ta, some tb => some (ifS tt ta tb) | _, _, _ => none)
  | .Assign tgs e _ => (match tgs with
    | [tg] => (match tg with
      | .Name x p => setNameT r c x p e
      | .Tuple ts _ _ => (match sw2T r c ts e with | some t => some t | none => setTupT r c tg ts e)
      | .Subscript o i _ => (match notSlice i, r.E c o, r.E c i, r.E c e with | true, some to, some ti, some te => some (setSC to ti te) | _, _, _, _ => none)
      | _ => none)
    | _ => none)
  | .AugAssign tg op e _ => (match ipT op, r.E c e with
    | some f, some te => (match tg with
      | .Name x _ => (match c.sc.lookup x, idxN c.N x with | some .local, some i => some (augC i f te) | some .cell, some i => some (augC i f te) | _, _ => none)
      | .Subscript o i _ => (match notSlice i, r.E c o, r.E c i with | true, some to, some ti => some (augSC to ti f te) | _, _, _ => none)
      | _ => none)
    | _, _ => none)
  | .For tg iter body orelse _ => (match orelse, c.cal && notSet iter with
    | [], true => (match r.I c tg iter, r.G c tg, stmtsT (r.S c) body with | some it, some (g, _), some tb => some (forC it g tb) | _, _, _ => none)
    | _, _ => none)
  | .While t body orelse _ => (match orelse, c.cal with
    | [], true => (match r.T c t, stmtsT (r.S c) body with | some tt, some tb => some (whlC tt tb) | _, _ => none)
    | _, _ => none)
  | .Raise o cause _ => (match o, cause, c.cal with
    | some e, none, true => (match excArg e with
      | some x => (match c.sc.lookup x, okName x, c.exs.lookup x with | some .globalImplicit, true, some k => some (raiseC k) | _, _, _ => none)
      | none => none)
    | _, _, _ => none)
  | .Try body hs orelse fin _ => (match hs, orelse, fin, c.cal with
    | [.ExceptHandler (some (.Name x _)) none (b :: suite) _], [], [], true => (match c.sc.lookup x, okName x, c.hit.lookup x with
      | some .globalImplicit, true, some hit => (match stmtsT (r.S c) body, stmtsT (r.S { c with cal := false }) (b :: suite) with
        | some tb, some ts => some (tryC tb hit ts)
        | _, _ => none)
      | _, _, _ => none)
    | _, _, _, _ => none)
  | _ => none

section
variable {r : Trs} {c : Cfg} {X : Cx} {Z : Wd} {W : WX}
theorem GdS.kd (g : GdS c X Z W) : X.env.kindOf = fun x => c.sc.lookup x := by
  funext x
  show X.env.scope.names.lookup x = _
  rw [g.ex]
theorem GdS.bk (g : GdS c X Z W) : X.env.blockKind = .function := by unfold Env.blockKind; rw [g.fk]; rfl
theorem sw_lc {elt : Expr} {gs : List Comprehension} {scope : Scope} {pos p : Pos} {x : Str} {l : Nat} {env : PySem.Env} : swapsWith (.ListComp elt gs scope pos) (some (.Name x p)) l env = pure (env.blockKind == .function && env.kindOf x == some .local && p.line == pos.line && !(swOwn scope x)) := rfl
theorem setName_ok (R : TrOk r) {x : Str} {p pos : Pos} {e : Expr} {t : SemS} (g : GdS c X Z W) (h : setNameT r c x p e = some t) : PS X (.Assign [.Name x p] e pos) (tS Z W t) := by
  have hN : X.N.Nodup := by rw [g.N]; exact g.nd
  unfold setNameT at h
  split at h
  · rename_i i hi
    have hi' : X.N[i]? = some x := by rw [g.N]; exact idxN_ok hi
    split at h
    · rename_i elt gens scope lpos
      split at h
      · rename_i tg iter ifs
        split at h
        · rename_i te hl hk
          cases h
          by_cases hsw : (X.env.blockKind == .function && X.env.kindOf x == some .local && p.line == lpos.line && !(swOwn scope x)) = true
          · obtain ⟨it, gm, ts, tt, te', hc, hn, hb, hi2, hg, hsub, htt, hte, rfl⟩ := lcT_parts hl
            exact s_setLc (g.cal hc).1 hN hi' (g.loc hk) (by rw [sw_lc, hsw]) (R.I g.toGd hi2) (blkB_ok g.toGd hb) hsub (fun s H C cl fp => R.G (g.toGd.blk s H scope C cl fp) hg) (fun s H C cl fp => tests_ok R (g.toGd.blk s H scope C cl fp) htt)
              (fun s H C cl fp => R.E (g.toGd.blk s H scope C cl fp) hte) (fold_set hn)
          · exact s_setN hN hi' (.inl (g.loc hk)) (lcT_ok R g.toGd hl) (by rw [sw_lc, Bool.eq_false_iff.mpr hsw]) (.inr (g.loc hk))
        · rename_i te hl hk
          cases h
          have e1 : X.env.kindOf x = some .cell := g.celk hk
          refine s_setN hN hi' (.inr (g.celk hk)) (lcT_ok R g.toGd hl) ?_ (.inl (g.fnc _ hk))
          rw [sw_lc, e1, show ((some NameKind.cell : Option NameKind) == some .local) = false from rfl]
          simp
        · cases h
      · cases h
    · split at h
      · rename_i te hn he hk
        cases h
        exact s_setN hN hi' (.inl (g.loc hk)) (R.E g.toGd he) (sw_none hn) (.inr (g.loc hk))
      · rename_i te hn he hk
        cases h
        exact s_setN hN hi' (.inr (g.celk hk)) (R.E g.toGd he) (sw_none hn) (.inl (g.fnc _ hk))
      · cases h
  · cases h
theorem setTup_ok (R : TrOk r) {ts : List Expr} {k : Nat} {p pos : Pos} {e : Expr} {t : SemS} (g : GdS c X Z W) (h : setTupT r c (.Tuple ts k p) ts e = some t) : PS X (.Assign [.Tuple ts k p] e pos) (tS Z W t) := by
  have hN : X.N.Nodup := by rw [g.N]; exact g.nd
  have gen : ∀ {t}, swappedStores [.Tuple ts k p] e X.env = pure none → (match r.E c e, r.G c (.Tuple ts k p) with | some te, some (g, _) => some (setC g te) | _, _ => none) = some t → PS X (.Assign [.Tuple ts k p] e pos) (tS Z W t) := fun {t} hw q => by
    split at q
    · rename_i te gm us he hg
      cases q
      exact s_set (R.E g.toGd he) (R.G g.toGd hg) (sw_target rfl) hw (asg_1 rfl)
    · cases q
  unfold setTupT at h
  split at h
  · rename_i vs k2 p2
    split at h
    · rename_i hw
      exact gen (sw_tup g.fk (by rw [g.kd]; exact hw)) h
    · rename_i names hw
      split at h
      · rename_i x px y py a b
        split at h
        · rename_i i j ta hc hkx hky hix hjy ha
          split at h
          · cases h
          · rename_i hij
            cases h
            have hw' := hw
            unfold swP at hw'
            dsimp only at hw'
            have nm : names = [x, y] := by
              split at hw'
              · cases hw'
              · split at hw'
                · cases hw'
                · split at hw'
                  · cases hw'
                  · rename_i h3
                    split at hw'
                    · cases hw'
                    · split at hw'
                      · cases hw'
                      · simp only [Option.some.injEq] at hw'
                        rw [← hw']
                        simp only [Bool.or_eq_true, not_or, Bool.not_eq_true, bne_eq_false_iff_eq] at h3
                        have hl := h3.1
                        rw [List.filterMap_cons, List.filterMap_cons, List.filterMap_nil]
                        rw [List.filterMap_cons, List.filterMap_cons, List.filterMap_nil] at hl
                        split at hl <;> split at hl <;> simp_all
            subst nm
            exact s_par2 (g.cal hc).1 hN (by rw [g.N]; exact idxN_ok hix) (by rw [g.N]; exact idxN_ok hjy) (fun z => by rw [z] at hij; simp at hij) (g.loc hkx) (g.loc hky) (args_ok (fun e t q => R.E g.toGd q) _ _ ha).1
              (sw_tup g.fk (by rw [g.kd]; exact hw)) (sw_target rfl)
        · cases h
      · rename_i x px y py z pz a b d
        split at h
        · rename_i i j l ta hc hkx hky hkz hix hjy hlz ha
          split at h
          · cases h
          · rename_i hij
            cases h
            have hw' := hw
            unfold swP at hw'
            dsimp only at hw'
            have nm : names = [x, y, z] := by
              split at hw'
              · cases hw'
              · split at hw'
                · cases hw'
                · split at hw'
                  · cases hw'
                  · rename_i h3
                    split at hw'
                    · cases hw'
                    · split at hw'
                      · cases hw'
                      · simp only [Option.some.injEq] at hw'
                        rw [← hw']
                        simp only [Bool.or_eq_true, not_or, Bool.not_eq_true, bne_eq_false_iff_eq] at h3
                        have hl := h3.1
                        rw [List.filterMap_cons, List.filterMap_cons, List.filterMap_cons, List.filterMap_nil]
                        rw [List.filterMap_cons, List.filterMap_cons, List.filterMap_cons, List.filterMap_nil] at hl
                        split at hl <;> split at hl <;> split at hl <;> simp_all
            subst nm
            simp only [Bool.or_eq_false_iff] at hij
            exact s_par3 (g.cal hc).1 hN (by rw [g.N]; exact idxN_ok hix) (by rw [g.N]; exact idxN_ok hjy) (by rw [g.N]; exact idxN_ok hlz) (fun z => by rw [z] at hij; simp at hij) (fun z => by rw [z] at hij; simp at hij) (fun z => by rw [z] at hij; simp at hij) (g.loc hkx) (g.loc hky) (g.loc hkz) (args_ok (fun e t q => R.E g.toGd q) _ _ ha).1
              (sw_tup g.fk (by rw [g.kd]; exact hw)) (sw_target rfl)
        · cases h
      · cases h
    · cases h
  · cases h
  · rename_i h1 h2
    refine gen (st_value ?_) h
    cases e <;> first | rfl | exact absurd rfl (h1 _ _ _) | exact absurd rfl (h2 _ _)
theorem sw2_ok (R : TrOk r) {ts : List Expr} {k : Nat} {p pos : Pos} {e : Expr} {t : SemS} (g : GdS c X Z W) (hu : X.A.units + 1 < cLine) (h : sw2T r c ts e = some t) : PS X (.Assign [.Tuple ts k p] e pos) (tS Z W t) := by
  unfold sw2T at h
  split at h
  · rename_i o1 i1 p1 o2 i2 p2 vs k2 q2
    split at h
    · rename_i a b a2 b2 te hs hc hw h1 h2 h3 h4 h5
      cases h
      obtain ⟨s1, s2⟩ := and2 hs
      exact s_sw2 g.K (g.cal hc).1 hu (R.E g.toGd h5) (R.E g.toGd h1) (R.E g.toGd h2) (R.E g.toGd h3) (R.E g.toGd h4) (asg_len rfl) (asg_find rfl) (asg_map rfl) (asg_map rfl) (sw_target rfl) (sw_tup g.fk (by rw [g.kd]; exact hw)) (asg_1 rfl) (asg_sub s1) (asg_sub s2)
    · cases h
  · cases h
theorem GdS.tr (g : GdS c X Z W) {W' : WX} {pn : List (Addr × Obj)} {xe : Value → Shared → Prop} (tk : Takes (X.tr pn xe) W') (ow : PassesOwn (model X.prog X.w) X.A X.env xe) : GdS c (X.tr pn xe) Z W' :=
  ⟨⟨g.N, g.nd, g.sc, g.K, g.un, g.cal, g.fnc, tk, g.mgn, g.fns, g.cst, g.tab, g.exs, g.hit⟩, g.ex, g.fk, fun _ => ow, g.stk⟩
theorem GdS.suite (g : GdS c X Z W) {a : Addr} {pn : List (Addr × Obj)} : GdS { c with cal := false } (X.suite a pn) Z W0 :=
  ⟨⟨g.N, g.nd, g.sc, g.K, g.un, fun h => (by cases h), g.fnc, takes0, g.mgn, g.fns, g.cst, g.tab, g.exs, g.hit⟩, g.ex, g.fk, fun h => (by cases h), fun h => (by cases h)⟩
theorem stepS_ok (R : TrOk r) {s : Stmt} {t : SemS} (g : GdS c X Z W) (h : stepS r c s = some t) : PS X s (tS Z W t) := by
  have hN : X.N.Nodup := by rw [g.N]; exact g.nd
  have hu : X.A.units + 1 < cLine := by have := g.un; omega
  have body : ∀ {ss t}, stmtsT (r.S c) ss = some t → PSs X ss (tS Z W t) := fun {ss t} q => stmts_ok (fun s t q => R.S g q) ss t q
  unfold stepS at h
  split at h
  · cases h; exact s_pass
  · cases h; exact s_brk
  · cases h; exact s_cnt
  · split at h
    · rename_i t hn he
      cases h
      exact s_expr (R.E g.toGd he) (sw_none hn)
    · cases h
  · split at h
    · cases h; exact s_retN
    · split at h
      · rename_i t he
        cases h
        exact s_ret (R.E g.toGd he)
      · cases h
  · split at h
    · rename_i tt ta tb ht ha hb
      cases h
      exact s_if (R.T g.toGd ht) (body ha) (body hb)
    · cases h
  · split at h
    · split at h
      · exact setName_ok R g h
      · split at h
        · rename_i t' ht
          cases h
          exact sw2_ok R g hu ht
        · exact setTup_ok R g h
      · split at h
        · rename_i to ti te hs ho hi he
          cases h
          exact s_setS hu (R.E g.toGd he) (R.E g.toGd ho) (R.E g.toGd hi) (sw_target rfl) (st_target rfl) (asg_1 rfl) (asg_sub hs)
        · cases h
      · cases h
    · cases h
  · split at h
    · rename_i f te hf he
      obtain ⟨rr, h1, h2⟩ := ip_ok (Z := Z) (X := X) hf
      split at h
      · split at h
        · rename_i i hk hi
          cases h
          exact s_aug h1 hN (by rw [g.N]; exact idxN_ok hi) (.inl (g.loc hk)) (R.E g.toGd he) h2 (.inr (g.loc hk))
        · rename_i i hk hi
          cases h
          exact s_aug h1 hN (by rw [g.N]; exact idxN_ok hi) (.inr (g.celk hk)) (R.E g.toGd he) h2 (.inl (g.fnc _ hk))
        · cases h
      · split at h
        · rename_i to ti hs ho hi
          cases h
          exact s_augS g.K hu h1 (R.E g.toGd ho) (R.E g.toGd hi) (R.E g.toGd he) h2 (aug_store hs)
        · cases h
      · cases h
    · cases h
  · split at h
    · rename_i hc
      obtain ⟨hc, hs⟩ := and2 hc
      split at h
      · rename_i it gm us tb hi hg hb
        cases h
        exact s_for (g.own hc) (g.cal hc).1 (R.I g.toGd hi) (R.G g.toGd hg) (body hb) (fold_set hs)
      · cases h
    · cases h
  · split at h
    · rename_i hc
      split at h
      · rename_i tt tb ht hb
        cases h
        exact s_whl (g.own hc) (R.T g.toGd ht) (body hb)
      · cases h
    · cases h
  · split at h
    · rename_i e hc
      split at h
      · rename_i x hx
        split at h
        · rename_i k hk ho hk2
          cases h
          unfold excArg at hx
          split at hx
          · cases hx
            obtain ⟨o1, _, _⟩ := okName_ok ho
            obtain ⟨C, bmB, B, newId, initId, e1, e2, e3, e4, e5, e6⟩ := g.exs _ k hk2
            exact s_raise (g.cal hc).1 g.tk (pmk_own e2 e3 e4 e5 e6 (g.gl hk) o1) e1
          · cases hx
        · cases h
      · cases h
    · cases h
  · split at h
    · rename_i x np b suite hpos hc
      split at h
      · rename_i hit hk ho hh
        split at h
        · rename_i tb ts hb hsu
          cases h
          obtain ⟨o1, _, _⟩ := okName_ok ho
          obtain ⟨C, m1, m2⟩ := g.hit x hit hh
          obtain ⟨k1, k2⟩ := g.stk hc
          exact s_try g.K k1 k2 ⟨g.gl hk, o1, .inl m1⟩ g.tk m2 (fun W' pn xe tk ow => stmts_ok (fun s t q => R.S (g.tr tk ow) q) _ _ hb) (fun a oe cls d pn _ _ => stmts_ok (fun s t q => R.S g.suite q) _ _ hsu)
        · cases h
      · cases h
    · cases h
  · cases h
end

/-! ### the tower -/
def tr0 : Trs := ⟨fun _ _ => none, fun _ _ => none, fun _ _ _ => none, fun _ _ => none, fun _ _ => none⟩
def stepR (r : Trs) : Trs := ⟨stepE r, stepT r, stepI r, stepG r, stepS r⟩
def trN (n : Nat) : Trs := Nat.rec tr0 (fun _ r => stepR r) n
theorem tr0_ok : TrOk tr0 := ⟨fun _ h => (by cases h), fun _ h => (by cases h), fun _ h => (by cases h), fun _ h => (by cases h), fun _ h => (by cases h)⟩
theorem stepR_ok {r : Trs} (R : TrOk r) : TrOk (stepR r) := ⟨fun g h => stepE_ok R g h, fun g h => stepT_ok R g h, fun g h => stepI_ok R g h, fun g h => stepG_ok (R := R) g h, fun g h => stepS_ok R g h⟩
theorem trN_ok : ∀ n, TrOk (trN n)
  | 0 => tr0_ok
  | n + 1 => stepR_ok (trN_ok n)
/-- a def's body -/
def trB (c : Cfg) (b : List Stmt) : Option SemS := stmtsT ((trN 40).S c) b
theorem trB_ok {c : Cfg} {X : Cx} {Z : Wd} {W : WX} {b : List Stmt} {t : SemS} (g : GdS c X Z W) (h : trB c b = some t) : PSs X b (tS Z W t) := stmts_ok (fun s t q => (trN_ok 40).S g q) _ _ h
end
end Ev

set_option Elab.async false
set_option linter.all false
set_option maxRecDepth 100000
set_option maxHeartbeats 1000000
/-! Ev21: defs by their translation. -/
namespace Ev
open PySem PySem.Spec PyProof.Rows L2 HT
noncomputable section

/-- what a program's written part gives -/
structure Wf (P : Program) (w : World) (K : PySem.W.Frag) (mg : Str → Option Value) (base : Heap) (Z : Wd) (c : Cfg) : Prop where
  KZ : K = Z.K
  cal : c.cal = true
  mgn : ∀ x n, bltNames.lookup x = some n → mg x = none
  fns : ∀ x f, c.fns.lookup x = some f → ∃ a n, mg x = some (.ref a) ∧ DefOk P w K mg base Z c.lev a n f
  cst : ∀ x d, c.cst.lookup x = some d → ∃ v u, mg x = some u ∧ RelV v u ∧ ∀ μ n H, Rep Z μ n H d v
  tab : ∀ j f, c.tab j = some f → ∃ a n, Z.FT j = some a ∧ DefOk P w K mg base Z c.lev a n f
  exs : ∀ x k, c.exs.lookup x = some k → ∃ C bmB B newId initId, Z.cls k = .ref C ∧ ExcBaseFacts B newId initId bmB ∧ PySem.W.excIn K C bmB newId = true ∧ mg x = some (.ref C) ∧ PySem.W.keepIn K (.ref C) = true ∧
    PySem.W.subIn K (.ref C) (.type "BaseException") = some true ∧ PySem.W.typeIn K (.ref C) = some (.type "type")
  hit : ∀ x h, c.hit.lookup x = some h → ∃ C, mg x = some C ∧ ∀ k b, h k = some b → PySem.W.exmOne Z.K (Z.cls k) C = some b
section
variable {P : Program} {w : World} {K : PySem.W.Frag} {mg : Str → Option Value} {base : Heap} {Z : Wd} {c : Cfg}
theorem gd_of (V : Wf P w K mg base Z c) {qual : Str} {scope : Scope} {f : Addr} {cdv : Value} {A : Around} {outer : List PySem.Env} {s : Shared} {H : Hp} {E : XK} {ps : List Str} (S : FnScope c.N ps scope) (hsc : c.sc = scope.names) (hr : Room c.lev (A.deeper (envOfC qual scope s.heap.objs.size f cdv))) :
    GdS c (cxOf (L2.CX P w) P w K mg base c.N qual scope f cdv A outer s H E) Z (fun cls d _ H' => E cls d H') := by
  refine ⟨⟨rfl, S.nd, fun x k h => ⟨k, by rw [hsc] at h; exact h, .inl rfl⟩, V.KZ, ?_, fun _ => ⟨rfl, hr⟩, fun _ _ => rfl, takes_of rfl rfl rfl rfl, V.mgn, V.fns, V.cst, V.tab, fun x k h => ?_, V.hit⟩, hsc.symm, S.kind, fun _ => passes_of (X := cxOf (L2.CX P w) P w K mg base c.N qual scope f cdv A outer s H E) rfl, fun _ => ⟨rfl, rfl⟩⟩
  · have := hr.un
    show (A.deeper _).units + 100 < cLine
    omega
  · obtain ⟨C, bmB, B, newId, initId, e1, e2, e3, e4, e5, e6, e7⟩ := V.exs x k h
    exact ⟨C, bmB, B, newId, initId, e1, e2, e3, e4, e5, raises_own e6 e7⟩
/-- a def, translated -/
theorem def_tr (V : Wf P w K mg base Z c) {x qual : Str} {st : Stmt} {f : Addr} {fd : FuncData} {ps : List Str} {pad : Nat} {b : SemS} (F : Fun K x qual st f fd) (S : FnScope c.N ps (defScope st)) (hb : Binds K fd ps []) (hl : c.N.length = ps.length + pad) (hsc : c.sc = (defScope st).names)
    (ht : trB c (defBody st) = some b) : DefOk P w K mg base Z (c.lev + 1) f ps.length (mkF ps.length pad b) :=
  ⟨⟨fd, ps, def_ok F S hl fun cdv A outer s H E hr => trB_ok (gd_of V S hsc hr) ht, F.kp, hb⟩, mkF_ar⟩
end
end
end Ev

set_option Elab.async false
set_option linter.all false
set_option maxRecDepth 100000
set_option maxHeartbeats 2000000
/-! Ev22: the tape of draws. -/
namespace Ev
open PySem PySem.Spec PyProof.Rows L2 HT
noncomputable section

def tapeB : SemS := (seqC (setC (gNm 1) (lcC (seqI (varC 0)) (gNm 3) yesT (appC absF (consC (appC intF (consC (varC 3) nilC)) nilC)) [3]))
  (seqC (setC (gNm 2) (litC (.int 7)))
  (seqC (forC (seqI (varC 1)) (gNm 3) (setC (gNm 2) (binC modD (appC intF (consC (binC addD (binC mulD (varC 2) (litC (.int 31))) (varC 3)) nilC)) (litC (.int 2147483647)))))
  (retC (dispC [(litC (.str "cells"), varC 1), (litC (.str "at"), litC (.int 0)), (litC (.str "left"), litC (.int 0)), (litC (.str "seed"), varC 2), (litC (.str "salt"), litC (.int 0))])))))
def tk1B : SemS := (ifS (andT (blT (binC eqD (binC ixD (varC 0) (litC (.str "left"))) (litC (.int 0)))) (blT (binC ltD (binC ixD (varC 0) (litC (.str "at"))) (appC lenF (consC (binC ixD (varC 0) (litC (.str "cells"))) nilC))))) (seqC (setSC (varC 0) (litC (.str "left")) (binC ixD (binC ixD (varC 0) (litC (.str "cells"))) (binC ixD (varC 0) (litC (.str "at")))))
  (setSC (varC 0) (litC (.str "at")) (binC addD (binC ixD (varC 0) (litC (.str "at"))) (litC (.int 1))))) passC)
def tk2B : SemS := (ifS (blT (binC gtD (binC ixD (varC 0) (litC (.str "left"))) (litC (.int 0)))) (seqC (setC (gNm 2) (binC modD (appC intF (consC (binC ixD (varC 0) (litC (.str "left"))) nilC)) (varC 1)))
  (seqC (setSC (varC 0) (litC (.str "left")) (binC fdivD (binC ixD (varC 0) (litC (.str "left"))) (varC 1)))
  (retC (varC 2)))) passC)
def tk3B : SemS := (seqC (setSC (varC 0) (litC (.str "salt")) (binC addD (binC ixD (varC 0) (litC (.str "salt"))) (litC (.int 1))))
  (seqC (setC (gNm 3) (binC modD (appC intF (consC (binC addD (binC mulD (binC ixD (varC 0) (litC (.str "seed"))) (litC (.int 48271))) (binC mulD (binC ixD (varC 0) (litC (.str "salt"))) (litC (.int 69621)))) nilC)) (litC (.int 2147483647))))
  (seqC (setC (gNm 3) (binC modD (appC intF (consC (binC addD (binC addD (binC mulD (varC 3) (varC 3)) (binC mulD (binC ixD (varC 0) (litC (.str "salt"))) (litC (.int 40692)))) (litC (.int 12345))) nilC)) (litC (.int 2147483399))))
  (retC (binC modD (appC intF (consC (varC 3) nilC)) (varC 1))))))
def takeB : SemS := seqC tk1B (seqC tk2B tk3B)

/-- the little world of a tape -/
def TW (cells : List Int) (at' left seed salt : Int) : M := ⟨0, 2, .n (some (.lst (cells.map D.int))) (.n (some (.dic [(.inr "cells", .ref 0), (.inr "at", .int at'), (.inr "left", .int left), (.inr "seed", .int seed), (.inr "salt", .int salt)])) .e .e) .e, 0⟩
section
variable {cells : List Int} {at' left seed salt v : Int} {k : Kc} {km : M → Bool}
theorem tw_at : ixD (.ref 1) (.str "at") (TW cells at' left seed salt) k = k (.int at') (TW cells at' left seed salt) := by kernel_rfl
theorem tw_left : ixD (.ref 1) (.str "left") (TW cells at' left seed salt) k = k (.int left) (TW cells at' left seed salt) := by kernel_rfl
theorem tw_seed : ixD (.ref 1) (.str "seed") (TW cells at' left seed salt) k = k (.int seed) (TW cells at' left seed salt) := by kernel_rfl
theorem tw_salt : ixD (.ref 1) (.str "salt") (TW cells at' left seed salt) k = k (.int salt) (TW cells at' left seed salt) := by kernel_rfl
theorem tw_cells : ixD (.ref 1) (.str "cells") (TW cells at' left seed salt) k = k (.ref 0) (TW cells at' left seed salt) := by kernel_rfl
theorem ts_at : setD (.ref 1) (.str "at") (.int v) (TW cells at' left seed salt) km = km (TW cells v left seed salt) := by kernel_rfl
theorem ts_left : setD (.ref 1) (.str "left") (.int v) (TW cells at' left seed salt) km = km (TW cells at' v seed salt) := by kernel_rfl
theorem ts_salt : setD (.ref 1) (.str "salt") (.int v) (TW cells at' left seed salt) km = km (TW cells at' left seed v) := by kernel_rfl
end

section
variable {cells : List Int} {at' left seed salt : Int} {n : Int} {x y : D} {nx bk ct : KN} {rt : Kc} {kx : KX}
theorem tw_get {cells : List Int} {at' left seed salt : Int} : (TW cells at' left seed salt).get 0 = some (.lst (cells.map D.int)) := by kernel_rfl
theorem len_at {k : Kc} : lenF [.ref 0] (TW cells at' left seed salt) k = k (.int cells.length) (TW cells at' left seed salt) := by
  unfold lenF lenD
  dsimp only
  rw [tw_get]
  dsimp only
  rw [frc_eq, List.length_map]; rfl
theorem ix_at {k : Kc} {a : Int} (h0 : 0 ≤ a) (h1 : a < cells.length) : ∃ c : Int, ixD (.ref 0) (.int a) (TW cells at' left seed salt) k = k (.int c) (TW cells at' left seed salt) := by
  obtain ⟨j, rfl⟩ : ∃ j : Nat, a = j := ⟨a.toNat, by omega⟩
  have hj : j < cells.length := by omega
  refine ⟨cells[j], ?_⟩
  unfold ixD
  dsimp only
  rw [tw_get]
  dsimp only
  unfold atD
  rw [show plI (cells.map D.int).length ((j : Nat) : Int) = some j from ?_]
  · dsimp only
    rw [nthD_eq, List.getElem?_map, List.getElem?_eq_getElem hj]; rfl
  · show (match Nat.blt j (cells.map D.int).length with | true => some j | false => none) = some j
    rw [blt_iff, List.length_map, decide_eq_true hj]
theorem tk1_ok (h0 : 0 ≤ at') (h : ∀ a l, 0 ≤ a → nx [.ref 1, .int n, x, y] (TW cells a l seed salt) = true) : tk1B [.ref 1, .int n, x, y] (TW cells at' left seed salt) nx bk ct rt kx = true := by
  simp only [tk1B, ifS, andT, blT, binC, varC, litC, List.getElem?_cons_zero, tw_left, eqD, passC, seqC, setSC, appC, consC, nilC]
  split
  · simp only [tw_at, tw_cells, len_at, ltD]
    split
    · rename_i h1
      rw [iltB_eq] at h1
      have h1 := of_decide_eq_true h1
      obtain ⟨c, hc⟩ := ix_at (cells := cells) (at' := at') (left := left) (seed := seed) (salt := salt) (k := fun v m1 => setD (.ref 1) (.str "left") v m1 fun m4 => ixD (.ref 1) (.str "at") m4 fun a m5 => addD a (.int 1) m5 fun v m6 => setD (.ref 1) (.str "at") v m6 fun m7 => nx [.ref 1, .int n, x, y] m7) h0 h1
      refine hc.trans ?_
      simp only [ts_left, tw_at, addD, frc_eq, ts_at]
      exact h _ _ (by omega)
    · exact h _ _ h0
  · exact h _ _ h0
theorem tk2_ok (hn : 0 < n) (hb : n.natAbs.log2 ≤ 8999) (hr : ∀ l d : Int, 0 ≤ d → d < n → rt (.int d) (TW cells at' l seed salt) = true) (h : ∀ x, nx [.ref 1, .int n, x, y] (TW cells at' left seed salt) = true) : tk2B [.ref 1, .int n, x, y] (TW cells at' left seed salt) nx bk ct rt kx = true := by
  have e0 : ieqB n 0 = false := by rw [ieqB_eq]; exact beq_eq_false_iff_ne.2 (by omega)
  have e1 : divOk n = true := by
    unfold divOk
    rw [iltB_eq, decide_eq_true hn, Nat.ble_eq_true_of_le hb]; rfl
  simp only [tk2B, ifS, blT, binC, varC, litC, List.getElem?_cons_zero, List.getElem?_cons_succ, tw_left, gtD, passC, seqC, setSC, setC, gNm, setE, appC, consC, nilC, intF, modD, fdivD, retC, e0, e1, frc_eq, ts_left, Bool.not_false, Bool.true_and]
  split
  · exact hr _ _ (Int.fmod_nonneg_of_pos _ hn) (Int.fmod_lt_of_pos _ hn)
  · exact h _
end

theorem log2_small {n : Nat} (h : n < 2 ^ 64) : n.log2 ≤ 64 := by
  by_cases h0 : n = 0
  · subst h0; decide
  · exact Nat.le_of_lt ((Nat.log2_lt h0).2 h)
theorem mulOk_small {i j : Int} (hi : i.natAbs < 2 ^ 64) (hj : j.natAbs < 2 ^ 64) : mulOk i j = true := by
  unfold mulOk
  have a := log2_small hi
  have b := log2_small hj
  exact Nat.ble_eq_true_of_le (by omega)
section
variable {cells : List Int} {at' left seed salt : Int} {n : Int} {x y : D} {nx bk ct : KN} {rt : Kc} {kx : KX}
theorem tk3_ok (hn : 0 < n) (hs : 0 ≤ seed ∧ seed < 2147483647) (ht : 0 ≤ salt ∧ salt ≤ 1000000) (hr : ∀ d : Int, 0 ≤ d → d < n → rt (.int d) (TW cells at' left seed (salt + 1)) = true) : tk3B [.ref 1, .int n, x, y] (TW cells at' left seed salt) nx bk ct rt kx = true := by
  have e0 : ieqB n 0 = false := by rw [ieqB_eq]; exact beq_eq_false_iff_ne.2 (by omega)
  have e1 : ieqB 2147483647 0 = false := by decide
  have e2 : ieqB 2147483399 0 = false := by decide
  have p : (2 : Nat) ^ 64 = 18446744073709551616 := by decide
  have m1 : mulOk seed 48271 = true := mulOk_small (by omega) (by decide)
  have m2 : mulOk (salt + 1) 69621 = true := mulOk_small (by omega) (by decide)
  have m3 : mulOk (salt + 1) 40692 = true := mulOk_small (by omega) (by decide)
  have b1 := Int.fmod_nonneg_of_pos (seed * 48271 + (salt + 1) * 69621) (b := 2147483647) (by decide)
  have b2 := Int.fmod_lt_of_pos (seed * 48271 + (salt + 1) * 69621) (b := 2147483647) (by decide)
  have m4 : mulOk ((seed * 48271 + (salt + 1) * 69621).fmod 2147483647) ((seed * 48271 + (salt + 1) * 69621).fmod 2147483647) = true := mulOk_small (by omega) (by omega)
  simp only [tk3B, binC, varC, litC, List.getElem?_cons_zero, List.getElem?_cons_succ, tw_salt, tw_seed, seqC, setSC, setC, gNm, setE, appC, consC, nilC, intF, modD, addD, mulD, retC, e0, e1, e2, m1, m2, m3, m4, frc_eq, ts_salt, Bool.not_false, Bool.true_and]
  exact hr _ (Int.fmod_nonneg_of_pos _ hn) (Int.fmod_lt_of_pos _ hn)
/-- a draw, in the little world -/
theorem take_run {k : Kc} (h0 : 0 ≤ at') (hn : 0 < n) (hb : n.natAbs.log2 ≤ 8999) (hs : 0 ≤ seed ∧ seed < 2147483647) (ht : 0 ≤ salt ∧ salt ≤ 1000000) (h : ∀ a l s d : Int, 0 ≤ a → 0 ≤ s → s ≤ salt + 1 → 0 ≤ d → d < n → k (.int d) (TW cells a l seed s) = true) (kx : Kx) :
    mkF 2 2 takeB [.ref 1, .int n] (TW cells at' left seed salt) k kx = true := by
  show (true && takeB [.ref 1, .int n, .und, .und] (TW cells at' left seed salt) _ _ _ k _) = true
  rw [Bool.true_and]
  unfold takeB seqC
  refine tk1_ok h0 fun a l ha => ?_
  refine tk2_ok hn hb (fun l2 d d1 d2 => h a l2 salt d ha ht.1 (by omega) d1 d2) fun x => ?_
  exact tk3_ok hn hs ht fun d d1 d2 => h a l (salt + 1) d ha (by omega) (by omega) d1 d2
end

/-! ### from the little world back -/
section
variable {Z : Wd} {μ μ2 μ' : Nat → Addr} {m m2 m' : M} {H H' : Hp}
theorem Sim.upto (S : Sim Z μ m H) (L : Le μ m.n H μ m.n H') {t : Nat} (ht : m.tk ≤ t) (hh : ∀ i, m.get i = some .hid → H' (μ i) = H (μ i)) (hk : ∀ i o, m.get i = some o → H' (μ i) = H (μ i) ∨ OHas Z μ m.n t H' (μ i) o) : Sim Z μ (m.at t) H' := by
  refine ⟨S.len, S.rlen, S.inj, fun i o h => ?_, S.tap⟩
  have h : m.get i = some o := h
  rcases hk i o h with e | e
  · have old := S.obj i o h
    show OHas Z μ m.n t H' (μ i) o
    cases o with
    | lst xs => obtain ⟨vs, e1, r⟩ := old; exact ⟨vs, e.trans e1, r.mono L⟩
    | dic xs => obtain ⟨vs, e1, r⟩ := old; exact ⟨vs, e.trans e1, r.mono fun _ _ => Rep.mono L⟩
    | dil xs => obtain ⟨vs, o, e1, r⟩ := old; exact ⟨vs, o, e.trans e1, r.mono fun _ _ => Rep.mono L⟩
    | dit xs => obtain ⟨vs, e1, r⟩ := old; exact ⟨vs, e.trans e1, r.mono fun _ _ => Rep.mono L⟩
    | hid => obtain ⟨vs, e1, e2⟩ := old; exact ⟨vs, e.trans e1, e2⟩
    | tape c =>
      obtain ⟨hc, cells, a1, a2, a3, a4, q1, q2, ok, hs⟩ := old
      exact ⟨hc, cells, a1, a2, a3, a4, e.trans q1, (hh c (S.tap i c h)).trans q2, ok, by omega⟩
  · exact e
theorem ints_of {n : Nat} : ∀ {cells : List Int} {vs : List V}, Reps Z μ n H (cells.map D.int) vs → vs = cells.map V.int
  | [], _, r => by cases r; rfl
  | c :: r, vs, h => by
    rw [List.map_cons] at h
    cases h with
    | cons a b =>
      cases a
      rw [List.map_cons, ← ints_of b]
theorem ints_rep {n : Nat} : ∀ (cells : List Int), Reps Z μ n H (cells.map D.int) (cells.map V.int)
  | [] => .nil
  | c :: r => .cons .int (ints_rep r)
end

/-- each number below n, from the greatest -/
def allB (n : Nat) (f : Nat → Bool) : Bool := Nat.rec true (fun i ih => f i && ih) n
theorem allB_ok {f : Nat → Bool} : ∀ {n : Nat}, allB n f = true → ∀ i, i < n → f i = true
  | 0, _, i, h => absurd h (Nat.not_lt_zero i)
  | n + 1, h, i, hi => by
    obtain ⟨h1, h2⟩ := and2 h
    by_cases e : i = n
    · subst e; exact h1
    · exact allB_ok h2 i (by omega)
def takeF : SemF := fun ds m k _ => match ds with
  | [.ref t, .int (.ofNat n)] => (match m.get t with
    | some (.tape _) => Nat.blt 0 n && (Nat.ble n 1000000 && (Nat.ble m.tk LIM && frcN (m.tk + 1) fun c => allB n fun d => k (.int (.ofNat d)) (m.at c)))
    | _ => false)
  | _ => false
def tapeF : SemF := fun ds m k _ => match ds with
  | [.scr] => frcN m.n fun c => k (.ref (c + 1)) ((m.alloc .hid).alloc (.tape c))
  | _ => false
section
variable {Z : Wd} {μ μ2 μ' : Nat → Addr} {m m2 m' : M} {H H' : Hp}
theorem two_le {n : Nat} (h : n ≤ 1000000) : (Int.ofNat n).natAbs.log2 ≤ 8999 := by
  have p : (2 : Nat) ^ 64 = 18446744073709551616 := by decide
  have : n.log2 ≤ 64 := log2_small (by omega)
  show n.log2 ≤ 8999
  omega
theorem take_ok : ∀ vs H Q E, spF Z 2 takeF vs H Q E → spF Z 2 (mkF 2 2 takeB) vs H Q E := by
  rintro vs H Q E ⟨hn, μ, m, ds, k, kx, S, R, t, P, XP⟩
  refine ⟨hn, ?_⟩
  unfold takeF at t
  split at t
  · rename_i ti n
    split at t
    · rename_i c gt
      obtain ⟨t1, t⟩ := and2 t
      obtain ⟨t2, t⟩ := and2 t
      obtain ⟨t3, t⟩ := and2 t
      rw [frcN_eq] at t
      rw [blt_iff] at t1
      have t1 := of_decide_eq_true t1
      have t2 : n ≤ 1000000 := Nat.le_of_ble_eq_true t2
      have t3 : m.tk ≤ 100000 := Nat.le_of_ble_eq_true t3
      have gc := S.tap ti c gt
      obtain ⟨hc, cells, a0, l0, s0, z0, q1, q2, ⟨ok1, ok2, ok3, ok4, ok5⟩, hz⟩ := S.obj ti _ gt
      have hti : ti < m.n := (M.get_some gt).1
      have hne : c ≠ ti := fun z => by rw [z, gt] at gc; cases gc
      have hna : μ c ≠ μ ti := fun z => hne (S.inj c ti hc hti z)
      cases R with
      | cons Ra Rr => cases Rr with
      | cons Rb Rn =>
      cases Rn
      cases Ra
      cases Rb
      have S2 : Sim Z (fun j => if j = 0 then μ c else μ ti) (TW cells a0 l0 s0 z0) H := by
        refine ⟨Nat.zero_le _, fun i hi => (match i, hi with | 0, _ => ⟨_, rfl⟩ | 1, _ => ⟨_, rfl⟩ | i + 2, hi => absurd hi (by show ¬ (i + 2 < 2); omega)), fun i j hi hj e => ?_, fun i o g => ?_, fun i c' g => ?_⟩
        · have hi : i < 2 := hi
          have hj : j < 2 := hj
          by_cases e1 : i = 0 <;> by_cases e2 : j = 0
          · omega
          · simp only [e1, e2, if_true, if_false] at e; exact absurd e hna
          · simp only [e1, e2, if_true, if_false] at e; exact absurd e.symm hna
          · omega
        · have hi : i < 2 := (M.get_some g).1
          have : i = 0 ∨ i = 1 := by omega
          rcases this with rfl | rfl
          · have g : some (O.lst (cells.map D.int)) = some o := g
            cases g
            exact ⟨_, q2, ints_rep cells⟩
          · have g : some (O.dic _) = some o := g
            cases g
            refine ⟨_, q1, .cons ?_ (.cons .int (.cons .int (.cons .int (.cons .int .nil))))⟩
            exact Rep.ref (i := 0) (show 0 < 2 by decide)
        · have hi : i < 2 := (M.get_some g).1
          have : i = 0 ∨ i = 1 := by omega
          rcases this with rfl | rfl
          · have g : some (O.lst (cells.map D.int)) = some (.tape c') := g
            cases g
          · have g : some (O.dic _) = some (.tape c') := g
            cases g
      classical
      let Pk : D → M → Prop := fun d m1 => ∃ a l s x : Int, d = .int x ∧ m1 = TW cells a l s0 s ∧ 0 ≤ a ∧ 0 ≤ s ∧ s ≤ z0 + 1 ∧ 0 ≤ x ∧ x < n
      refine ⟨_, TW cells a0 l0 s0 z0, [.ref 1, .int (.ofNat n)], fun d m1 => decide (Pk d m1), fun _ _ => false, S2, .cons (Rep.ref (i := 1) (show 1 < 2 by decide)) (.cons .int .nil), take_run ok2 (by show (0 : Int) < (n : Int); omega) (two_le t2) ⟨ok3, ok4⟩ ⟨ok5, by omega⟩ (fun a l s d h1 h2 h3 h4 h5 => decide_eq_true ⟨a, l, s, d, rfl, rfl, h1, h2, h3, h4, h5⟩) _, fun μ' m' H' d v L S' R' e => ?_, fun _ _ _ _ _ _ z => (by cases z)⟩
      obtain ⟨a, l, s, x, rfl, rfl, h1, h2, h3, h4, h5⟩ := of_decide_eq_true e
      cases R'
      have e0 : μ' 0 = μ c := L.eq 0 (show 0 < 2 by decide)
      have e1 : μ' 1 = μ ti := L.eq 1 (show 1 < 2 by decide)
      obtain ⟨w0, r1, r2⟩ := S'.obj 0 (.lst (cells.map D.int)) (by rfl)
      have := ints_of r2
      subst this
      obtain ⟨w1, r3, r4⟩ := S'.obj 1 (.dic _) (by rfl)
      cases r4 with
      | cons u1 r4 => cases r4 with
      | cons u2 r4 => cases r4 with
      | cons u3 r4 => cases r4 with
      | cons u4 r4 => cases r4 with
      | cons u5 r4 =>
      cases r4
      cases u1; cases u2; cases u3; cases u4; cases u5
      rw [e0] at r1
      rw [e1] at r3
      have Lm : Le μ m.n H μ m.n H' := ⟨Nat.le_refl _, fun _ _ => rfl, L.tup, L.frz⟩
      have oth : ∀ i, i < m.n → i ≠ c → i ≠ ti → H' (μ i) = H (μ i) := fun i hi n1 n2 => by
        obtain ⟨o, ho⟩ := S.all hi
        obtain ⟨o1, ho1⟩ := S.isSome ho rfl
        rw [ho1]
        refine (L.oth (μ i) o1 ho1 fun j hj => ?_).1
        by_cases hj0 : j = 0
        · simp only [hj0, if_true]; exact fun z => n1 (S.inj i c hi hc z.symm)
        · simp only [hj0, if_false]; exact fun z => n2 (S.inj i ti hi hti z.symm)
      have SS : Sim Z μ (m.at (m.tk + 1)) H' := by
        refine S.upto Lm (Nat.le_succ _) (fun i g => ?_) fun i o g => ?_
        · have hi := (M.get_some g).1
          by_cases n1 : i = c
          · subst n1; rw [r1, q2]
          · exact oth i hi n1 fun z => by rw [z, gt] at g; cases g
        · have hi := (M.get_some g).1
          by_cases n1 : i = c
          · subst n1; exact .inl (by rw [r1, q2])
          · by_cases n2 : i = ti
            · subst n2
              rw [gt] at g
              cases g
              rw [e0] at r3
              exact .inr ⟨hc, cells, a, l, s0, s, r3, r1, ⟨ok1, h1, ok3, ok4, h2⟩, by omega⟩
            · exact .inl (oth i hi n1 n2)
      have LL : Lt μ m H μ (m.at (m.tk + 1)) H' := ⟨Lm, rfl, fun _ _ => rfl, fun y o e nn => by
        refine ⟨(L.oth y o e fun j hj => ?_).1, nn⟩
        by_cases hj0 : j = 0
        · simp only [hj0, if_true]; exact nn c hc
        · simp only [hj0, if_false]; exact nn ti hti⟩
      obtain ⟨xn, rfl⟩ : ∃ xn : Nat, x = xn := ⟨x.toNat, by omega⟩
      exact P _ _ _ _ _ LL SS .int (allB_ok t xn (by omega))
    · cases t
  · cases t
end

def absI (i : Int) : Int := match iltB i 0 with | true => -i | false => i
/-- the worlds while a tape is made -/
def T1 : M := ⟨0, 0, .e, 0⟩
def T2 (cells : List Int) : M := ⟨0, 1, .n (some (.lst ((cells.map absI).map D.int))) .e .e, 0⟩
section
variable {cells : List Int} {seed : Int}
theorem nxL_at {a : Nat} {m : M} {xs : List Int} {i : Nat} {c : List D} {ks : Bool} {ki : D → List D → Bool} (h : m.get a = some (.lst (xs.map D.int))) : nxL a i c m ks ki = match xs[i]? with | some v => ki (.int v) [] | none => ks := by
  unfold nxL
  rw [h]
  dsimp only
  rw [nthD_eq, List.getElem?_map]
  cases xs[i]? <;> rfl
theorem lcL_succ {w : Wlk} {g : SemG} {tt : SemT} {te : SemE} {ρ0 : Env} {fin : List D → M → Bool} {n i : Nat} {c acc : List D} {m : M} : lcL w g tt te ρ0 fin (n + 1) i c acc m = w i c m (fin acc m) fun d c' => g d ρ0 m fun ρ1 => tt ρ1 m (fun b m1 => match b with
    | true => te ρ1 m1 (fun v m2 => lcL w g tt te ρ0 fin n (i + 1) c' (v :: acc) m2) fun _ _ => false
    | false => lcL w g tt te ρ0 fin n (i + 1) c' acc m1) fun _ _ => false := rfl
theorem forL_succ {w : Wlk} {g : SemG} {b : SemS} {nx : KN} {rt : Kc} {kx : KX} {n i : Nat} {c : List D} {ρ : Env} {m : M} : forL w g b nx rt kx (n + 1) i c ρ m = w i c m (nx ρ m) fun d c' => g d ρ m fun ρ1 => b ρ1 m (fun ρ2 m2 => forL w g b nx rt kx n (i + 1) c' ρ2 m2) nx (fun ρ2 m2 => forL w g b nx rt kx n (i + 1) c' ρ2 m2) rt kx := rfl
theorem lc_run {fin : List D → M → Bool} {a0 a1 a2 a3 : D} : ∀ (cells : List Int) (fuel i : Nat) (acc : List D), cells.length < fuel →
    lcL nxT (gNm 3) yesT (appC absF (consC (appC intF (consC (varC 3) nilC)) nilC)) [a0, a1, a2, a3] fin fuel i (cells.map D.int) acc T1 = fin (((cells.map absI).map D.int).reverse ++ acc) T1
  | cells, 0, i, acc, h => by omega
  | [], fuel + 1, i, acc, h => by rw [lcL_succ]; rfl
  | c :: r, fuel + 1, i, acc, h => by
    rw [lcL_succ, List.map_cons]
    unfold nxT
    dsimp only
    simp only [gNm, setE, yesT, appC, consC, nilC, varC, intF, absF, List.getElem?_cons_zero, List.getElem?_cons_succ, frc_eq]
    refine (lc_run r fuel (i + 1) (.int (absI c) :: acc) (by rw [List.length_cons] at h; omega)).trans ?_
    rw [List.map_cons, List.map_cons, List.reverse_cons, List.append_assoc]; rfl
theorem for_run {nx : KN} {rt : Kc} {kx : KX} {a0 a1 : D} {m : M} {xs : List Int} (hm : m.get 0 = some (.lst (xs.map D.int))) (h : ∀ (s : Int) (x : D), 0 ≤ s → s < 2147483647 → nx [a0, a1, .int s, x] m = true) : ∀ (fuel i : Nat) (c : List D) (s : Int) (x : D), xs.length < fuel + i → i ≤ xs.length → 0 ≤ s → s < 2147483647 →
    forL (nxL 0) (gNm 3) (setC (gNm 2) (binC modD (appC intF (consC (binC addD (binC mulD (varC 2) (litC (.int 31))) (varC 3)) nilC)) (litC (.int 2147483647)))) nx rt kx fuel i c [a0, a1, .int s, x] m = true
  | 0, i, c, s, x, hl, hl', h1, h2 => by omega
  | fuel + 1, i, c, s, x, hl, hl', h1, h2 => by
    rw [forL_succ, nxL_at hm]
    by_cases hi : i < xs.length
    · rw [List.getElem?_eq_getElem hi]
      dsimp only
      have p : (2 : Nat) ^ 64 = 18446744073709551616 := by decide
      have m1 : mulOk s 31 = true := mulOk_small (by omega) (by decide)
      have e1 : ieqB 2147483647 0 = false := by decide
      simp only [gNm, setE, setC, binC, litC, modD, addD, mulD, appC, consC, nilC, varC, intF, List.getElem?_cons_zero, List.getElem?_cons_succ, frc_eq, m1, e1, Bool.not_false, Bool.true_and]
      exact for_run hm h fuel (i + 1) [] _ _ (by omega) (by omega) (Int.fmod_nonneg_of_pos _ (by decide)) (Int.fmod_lt_of_pos _ (by decide))
    · rw [List.getElem?_eq_none (by omega)]
      exact h s x h1 h2
def lcCF (F : Nat) (it : SemI) (g : SemG) (tt : SemT) (te : SemE) (own : List Nat) : SemE := fun ρ m k kx => it ρ m (fun w c m1 => lcL w g tt te (wipeE ρ own) (fun acc m2 => revK acc [] fun xs => k (.ref m2.n) (m2.alloc (.lst xs))) F 0 c [] m1) kx
def forCF (F : Nat) (it : SemI) (g : SemG) (b : SemS) : SemS := fun ρ m nx _ _ rt kx => it ρ m (fun w c m1 => forL w g b nx rt kx F 0 c ρ m1) (fun c m1 => kx c ρ m1)
def tapeBF (F : Nat) : SemS := (seqC (setC (gNm 1) (lcCF F (seqI (varC 0)) (gNm 3) yesT (appC absF (consC (appC intF (consC (varC 3) nilC)) nilC)) [3]))
  (seqC (setC (gNm 2) (litC (.int 7)))
  (seqC (forCF F (seqI (varC 1)) (gNm 3) (setC (gNm 2) (binC modD (appC intF (consC (binC addD (binC mulD (varC 2) (litC (.int 31))) (varC 3)) nilC)) (litC (.int 2147483647)))))
  (retC (dispC [(litC (.str "cells"), varC 1), (litC (.str "at"), litC (.int 0)), (litC (.str "left"), litC (.int 0)), (litC (.str "seed"), varC 2), (litC (.str "salt"), litC (.int 0))])))))
theorem tapeB_eq : tapeB = tapeBF FUEL := rfl
theorem tape_runF {F : Nat} (hF : 63 < F) {k : Kc} {kx : Kx} (hl : cells.length ≤ 63) (h : ∀ s : Int, 0 ≤ s → s < 2147483647 → k (.ref 1) (TW (cells.map absI) 0 0 s 0) = true) : mkF 1 3 (tapeBF F) [.frl (cells.map D.int)] T1 k kx = true := by
  show (true && tapeBF F [.frl (cells.map D.int), .und, .und, .und] T1 _ _ _ k _) = true
  rw [Bool.true_and]
  show lcL nxT (gNm 3) yesT (appC absF (consC (appC intF (consC (varC 3) nilC)) nilC)) [.frl (cells.map D.int), .und, .und, .und] _ F 0 (cells.map D.int) [] T1 = true
  rw [lc_run cells F 0 [] (by omega), List.append_nil, revK_eq, List.append_nil, List.reverse_reverse]
  refine for_run (nx := fun ρ1 m1 => retC (dispC [(litC (.str "cells"), varC 1), (litC (.str "at"), litC (.int 0)), (litC (.str "left"), litC (.int 0)), (litC (.str "seed"), varC 2), (litC (.str "salt"), litC (.int 0))]) ρ1 m1 (fun _ m1 => k .non m1) (fun _ _ => false) (fun _ _ => false) k fun c _ m1 => kx c m1)
    (rt := k) (kx := fun c _ m1 => kx c m1) (m := T2 cells) (a0 := .frl (cells.map D.int)) (a1 := .ref 0) (xs := cells.map absI) (by rfl) (fun s x h1 h2 => ?_) F 0 [] 7 .und (by rw [List.length_map]; omega) (by omega) (by decide) (by decide)
  exact h s h1 h2
theorem tape_run {k : Kc} {kx : Kx} (hl : cells.length ≤ 63) (h : ∀ s : Int, 0 ≤ s → s < 2147483647 → k (.ref 1) (TW (cells.map absI) 0 0 s 0) = true) : mkF 1 3 tapeB [.frl (cells.map D.int)] T1 k kx = true := by
  rw [tapeB_eq]
  exact tape_runF (by unfold FUEL; decide) hl h
end

section
variable {Z : Wd} {μ μ2 μ' : Nat → Addr} {m m2 m' : M} {H H' : Hp}
theorem Sim.adoptTape (S : Sim Z μ m H) {p : Addr} (hD : Apt μ m.n p) {c : Nat} (hc : m.get c = some .hid) (h : OHas Z (ext μ m.n p) (m.n + 1) m.tk H p (.tape c)) : Sim Z (ext μ m.n p) (m.alloc (.tape c)) H := by
  refine ⟨Nat.le_succ_of_le S.len, alloc_all S, fun i j hi hj e => ?_, fun i o' g => ?_, fun i c' g => ?_⟩
  · have hi : i < m.n + 1 := hi
    have hj : j < m.n + 1 := hj
    by_cases ei : i = m.n
    · by_cases ej : j = m.n
      · omega
      · subst ei
        rw [ext_eq, ext_lt (by omega)] at e
        exact absurd e.symm (hD j (by omega))
    · by_cases ej : j = m.n
      · subst ej
        rw [ext_eq, ext_lt (by omega)] at e
        exact absurd e (hD i (by omega))
      · rw [ext_lt (by omega), ext_lt (by omega)] at e
        exact S.inj i j (by omega) (by omega) e
  · show OHas Z (ext μ m.n p) (m.n + 1) m.tk H (ext μ m.n p i) o'
    rcases get_alloc S g with ⟨rfl, rfl⟩ | ⟨hi, g⟩
    · rw [ext_eq]; exact h
    · rw [ext_lt hi]
      exact (S.obj i o' g).kp (fun _ _ e => e) (Nat.le_succ _) (Nat.le_refl _) fun _ h => ext_lt h
  · rcases get_alloc S g with ⟨rfl, e⟩ | ⟨hi, g⟩
    · cases e
      rw [alloc_get S (M.get_some hc).1]; exact hc
    · have g2 := S.tap i c' g
      rw [alloc_get S (M.get_some g2).1]; exact g2
theorem tape_ok : ∀ vs H Q E, spF Z 1 tapeF vs H Q E → spF Z 1 (mkF 1 3 tapeB) vs H Q E := by
  rintro vs H Q E ⟨hn, μ, m, ds, k, kx, S, R, t, P, XP⟩
  refine ⟨hn, ?_⟩
  unfold tapeF at t
  split at t
  · rw [frcN_eq] at t
    cases R with
    | cons Ra Rr =>
    cases Rr
    cases Ra with
    | @scr _ cells q1 hl =>
    have S2 : Sim Z μ T1 H := ⟨Nat.zero_le _, fun i hi => absurd hi (Nat.not_lt_zero i), fun i j hi => absurd hi (Nat.not_lt_zero i), fun i o g => absurd (M.get_some g).1 (Nat.not_lt_zero i), fun i o g => absurd (M.get_some g).1 (Nat.not_lt_zero i)⟩
    classical
    let Pk : D → M → Prop := fun d m1 => ∃ s : Int, d = .ref 1 ∧ m1 = TW (cells.map absI) 0 0 s 0 ∧ 0 ≤ s ∧ s < 2147483647
    refine ⟨_, T1, [.frl (cells.map D.int)], fun d m1 => decide (Pk d m1), fun _ _ => false, S2, .cons (Rep.frl q1 (ints_rep cells)) .nil, tape_run hl fun s h1 h2 => decide_eq_true ⟨s, rfl, rfl, h1, h2⟩, fun μ' m' H' d v L S' R' e => ?_, fun _ _ _ _ _ _ z => (by cases z)⟩
    obtain ⟨s, rfl, rfl, h1, h2⟩ := of_decide_eq_true e
    cases R'
    obtain ⟨w0, ra, rb⟩ := S'.obj 0 (.lst ((cells.map absI).map D.int)) (by rfl)
    have := ints_of rb
    subst this
    obtain ⟨w1, r3, r4⟩ := S'.obj 1 (.dic _) (by rfl)
    cases r4 with
    | cons u1 r4 => cases r4 with
    | cons u2 r4 => cases r4 with
    | cons u3 r4 => cases r4 with
    | cons u4 r4 => cases r4 with
    | cons u5 r4 =>
    cases r4
    cases u1; cases u2; cases u3; cases u4; cases u5
    have Lm : Le μ m.n H μ m.n H' := ⟨Nat.le_refl _, fun _ _ => rfl, L.tup, L.frz⟩
    have no : ∀ (x : Addr) i, i < T1.n → μ i ≠ x := fun x i hi => absurd hi (Nat.not_lt_zero i)
    have apt : ∀ j, j < 2 → Apt μ m.n (μ' j) := fun j hj i hi z => by
      obtain ⟨o, ho⟩ := S.all hi
      obtain ⟨o1, ho1⟩ := S.isSome ho rfl
      exact (L.oth (μ i) o1 ho1 (no _)).2 j hj z.symm
    have same : ∀ i, i < m.n → H' (μ i) = H (μ i) := fun i hi => by
      obtain ⟨o, ho⟩ := S.all hi
      obtain ⟨o1, ho1⟩ := S.isSome ho rfl
      rw [ho1]
      exact (L.oth (μ i) o1 ho1 (no _)).1
    have fresh : ∀ j, j < 2 → H (μ' j) = none := fun j hj => by
      cases hh : H (μ' j) with
      | none => rfl
      | some o => exact absurd rfl ((L.oth (μ' j) o hh (no _)).2 j hj)
    have S1 : Sim Z μ m H' := S.upto Lm (Nat.le_refl _) (fun i g => same i (M.get_some g).1) fun i o g => .inl (same i (M.get_some g).1)
    have L1 : Lt μ m H μ m H' := ⟨Lm, rfl, fun _ _ => rfl, fun y o e nn => ⟨(L.oth y o e (no _)).1, nn⟩⟩
    have hlA : (cells.map absI).length ≤ 63 := by rw [List.length_map]; exact hl
    have S3 := S1.adopt (apt 0 (by decide)) (o := .hid) (fun _ z => by cases z) ⟨cells.map absI, ra, hlA⟩
    have L3 := L1.adopt S1 (fresh 0 (by decide)) (o := .hid)
    have ap2 : Apt (ext μ m.n (μ' 0)) (m.alloc .hid).n (μ' 1) := fun i hi z => by
      have hi : i < m.n + 1 := hi
      by_cases e : i = m.n
      · subst e
        rw [ext_eq] at z
        have := S'.inj 0 1 (show 0 < 2 by decide) (show 1 < 2 by decide) z
        omega
      · rw [ext_lt (by omega)] at z
        exact apt 1 (by decide) i (by omega) z
    have en : ext (ext μ m.n (μ' 0)) (m.n + 1) (μ' 1) m.n = μ' 0 := by rw [ext_lt (by omega), ext_eq]
    have S4 := S3.adoptTape ap2 (c := m.n) (alloc_new S1) ⟨show m.n < m.n + 1 + 1 by omega, cells.map absI, 0, 0, s, 0, by
      show H' (μ' 1) = some (.dK (tapeKvs (ext (ext μ m.n (μ' 0)) (m.n + 1) (μ' 1) m.n) 0 0 s 0))
      rw [en]; exact r3, by
      show H' (ext (ext μ m.n (μ' 0)) (m.n + 1) (μ' 1) m.n) = _
      rw [en]; exact ra, ⟨hlA, by decide, h1, h2, by decide⟩, Int.natCast_nonneg _⟩
    have L4 := L3.adopt S3 (fresh 1 (by decide)) (o := .tape m.n)
    refine P _ _ _ _ _ L4 S4 ?_ t
    have := Rep.ref (Z := Z) (μ := ext (ext μ m.n (μ' 0)) (m.n + 1) (μ' 1)) (n := m.n + 1 + 1) (H := H') (i := m.n + 1) (Nat.lt_succ_self _)
    rw [ext_eq] at this
    exact this
  · cases t
end
theorem DefOk.take {P : Program} {w : World} {K : PySem.W.Frag} {mg : Str → Option Value} {base : Heap} {Z : Wd} {lev : Nat} {a : Addr} (F : DefOk P w K mg base Z lev a 2 (mkF 2 2 takeB)) : DefOk P w K mg base Z lev a 2 takeF := by
  obtain ⟨fd, ps, h1, h2, h3⟩ := F.ex
  refine ⟨⟨fd, ps, h1.imp take_ok, h2, h3⟩, fun ds m k kx h => ?_⟩
  unfold takeF at h
  split at h
  · rfl
  · cases h
theorem DefOk.tape {P : Program} {w : World} {K : PySem.W.Frag} {mg : Str → Option Value} {base : Heap} {Z : Wd} {lev : Nat} {a : Addr} (F : DefOk P w K mg base Z lev a 1 (mkF 1 3 tapeB)) : DefOk P w K mg base Z lev a 1 tapeF := by
  obtain ⟨fd, ps, h1, h2, h3⟩ := F.ex
  refine ⟨⟨fd, ps, h1.imp tape_ok, h2, h3⟩, fun ds m k kx h => ?_⟩
  unfold tapeF at h
  split at h
  · rfl
  · cases h
end
end Ev

set_option Elab.async false
set_option linter.all false
set_option maxRecDepth 100000
set_option maxHeartbeats 2000000
/-! Ev23: blocks of draws: run for all draws, then go on once. -/
namespace Ev
open PySem PySem.Spec PyProof.Rows L2 HT
noncomputable section

/-- the same datum, seen at once -/
def sameD : D → D → Bool := fun a b => match a, b with
  | .und, _ => true
  | .non, .non => true
  | .bl a, .bl b => a == b
  | .int i, .int j => ieqB i j
  | .str a, .str b => a == b
  | .ref i, .ref j => Nat.beq i j
  | .fn i, .fn j => Nat.beq i j
  | .tup [], .tup [] => true
  | _, _ => false
theorem sameD_ok {a b : D} (h : sameD a b = true) (hu : a ≠ .und) : a = b := by
  unfold sameD at h
  split at h
  · exact absurd rfl hu
  · rfl
  · rw [eq_of_beq h]
  · rw [ieqB_eq] at h; rw [eq_of_beq h]
  · rw [eq_of_beq h]
  · rw [Nat.eq_of_beq_eq_true h]
  · rw [Nat.eq_of_beq_eq_true h]
  · rfl
  · cases h
/-- what stands in the first row stands in the second -/
def sameE : Env → Env → Bool := fun r s => match r, s with
  | [], _ => true
  | a :: r, b :: s => sameD a b && sameE r s
  | _ :: _, [] => false
theorem sameE_ok : ∀ {r s : Env}, sameE r s = true → ∀ (i : Nat) (d : D), r[i]? = some d → d ≠ .und → s[i]? = some d
  | [], _, _, i, d, e, _ => by simp at e
  | a :: r, [], h, _, _, _, _ => by cases h
  | a :: r, b :: s, h, i, d, e, hu => by
    obtain ⟨h1, h2⟩ := and2 h
    cases i with
    | zero =>
      have e : some a = some d := e
      cases e
      rw [← sameD_ok h1 hu]; rfl
    | succ i => exact sameE_ok h2 i d e hu
theorem sameE_len : ∀ {r s : Env}, sameE r s = true → r.length ≤ s.length
  | [], _, _ => Nat.zero_le _
  | a :: r, [], h => by cases h
  | a :: r, b :: s, h => by
    obtain ⟨h1, h2⟩ := and2 h
    exact Nat.succ_le_succ (sameE_len h2)
/-- a block: run in a region of its own; what it leaves is let go, but for the count of draws -/
def blkC (t : SemS) (ws : List Nat) (cnt : Nat) : SemS := fun ρ m nx _ _ rt kx =>
  t ρ m.sub (fun ρ1 m1 => Nat.ble m1.tk cnt && sameE (wipeE ρ ws) ρ1) (fun _ _ => false) (fun _ _ => false) (fun d m1 => landD d m m1 rt) (fun _ _ _ => false) && nx (wipeE ρ ws) (m.at cnt)
section
variable {Z : Wd} {W : WX} {μ μ' : Nat → Addr} {m m' : M} {H H' : Hp} {σ : L2.St} {D : Ends} {X : Cx}
theorem blk_ok {t : SemS} {ws : List Nat} {cnt : Nat} (h : tS Z W (blkC t ws cnt) D σ H) : tS Z W t D σ H := by
  obtain ⟨μ, m, ρ, nx, bk, ct, rt, kx, S, ER, e, P1, P2, P3, P4, P5⟩ := h
  obtain ⟨e1, e2⟩ := and2 e
  refine ⟨μ, m.sub, ρ, _, _, _, _, _, S.sub, ER, e1, fun μ' m' H' ρ' σ' L S' E' q => ?_, fun _ _ _ _ _ _ _ _ z => (by cases z), fun _ _ _ _ _ _ _ _ z => (by cases z), fun μ' m' H' d v L S' r q => land_ok S S' L r q P4, fun _ _ _ _ _ _ _ _ _ z => (by cases z)⟩
  obtain ⟨q1, q2⟩ := and2 q
  obtain ⟨S1, L1⟩ := S.low S' L
  have q1 : m'.tk ≤ cnt := Nat.le_of_ble_eq_true q1
  have S2 : Sim Z μ (m.at cnt) H' := ⟨S1.len, S1.rlen, S1.inj, fun i o h => (S1.obj i o h).kp (fun _ _ e => e) (Nat.le_refl _) q1 fun _ _ => rfl, S1.tap⟩
  have L2 : Lt μ m H μ (m.at cnt) H' := ⟨L1.toLe, rfl, fun _ _ => rfl, L1.oth⟩
  have EW := wipeE_rep ER ws
  refine P1 μ (m.at cnt) H' (wipeE ρ ws) σ' L2 S2 ⟨?_, fun j d hj hd => ?_⟩ e2
  · exact Nat.le_trans (sameE_len q2) E'.len
  · have hj' := sameE_ok q2 j d hj hd
    obtain ⟨v0, h0, r0⟩ := EW.at' j d hj hd
    obtain ⟨v1, h1, r1⟩ := E'.at' j d hj' hd
    exact ⟨v1, h1, r0.both (fun i hi => L.eq i hi) r1⟩
theorem seg_ok {f : Stmt → Option SemS} (h : ∀ s t, f s = some t → PS X s (tS Z W t)) {b : List Stmt} {u : TS} (hb : PSs X b u) : ∀ (a : List Stmt) (ta : SemS), stmtsT f a = some ta → PSs X (a ++ b) (fun D σ H => tS Z W ta { D with nx := u D } σ H)
  | [], ta, e => by
    cases e
    exact hb.imp fun D σ H ⟨μ, m, ρ, nx, bk, ct, rt, kx, S, ER, t, P1, _⟩ => P1 μ m H ρ σ .refl S ER t
  | s :: ss, ta, q => by
    unfold stmtsT at q
    split at q
    · rename_i a ha
      split at q
      · cases q
        exact (pss_cons (h s _ ha) hb).imp fun D σ H e => e
      · split at q
        · rename_i b2 hb2
          cases q
          refine (pss_cons (h s a ha) (seg_ok h hb _ b2 hb2)).imp fun D σ H ⟨μ, m, ρ, nx, bk, ct, rt, kx, S, ER, t, P1, P2, P3, P4, P5⟩ => ?_
          exact ⟨μ, m, ρ, _, bk, ct, rt, kx, S, ER, t, fun μ1 m1 H1 ρ1 σ1 L S1 E1 e1 => ⟨μ1, m1, ρ1, nx, bk, ct, rt, kx, S1, E1, e1, P1.after L, P2.after L, P3.after L, P4.after L, P5.after L⟩, P2, P3, P4, P5⟩
        · cases q
    · cases q
      exact pss_never.imp fun D σ H ⟨μ, m, ρ, nx, bk, ct, rt, kx, S, ER, t, _⟩ => (by cases t)
/-- a body, cut into pieces: how many statements; a block: what is wiped, the count of draws behind it -/
def trSg (c : Cfg) : List (Nat × Option (List Nat × Nat)) → List Stmt → Option SemS
  | [], ss => trB c ss
  | (k, o) :: r, ss => match trB c (ss.take k), trSg c r (ss.drop k) with
    | some a, some b => (match o with | some (ws, cnt) => some (seqC (blkC a ws cnt) b) | none => some (seqC a b))
    | _, _ => none
theorem trSg_ok {c : Cfg} (g : GdS c X Z W) : ∀ (l : List (Nat × Option (List Nat × Nat))) (b : List Stmt) (t : SemS), trSg c l b = some t → PSs X b (tS Z W t)
  | [], b, t, h => trB_ok g h
  | (k, o) :: r, b, t, h => by
    unfold trSg at h
    split at h
    · rename_i a u ha hu
      have h1 := seg_ok (fun s t q => (trN_ok 40).S g q) (trSg_ok g r _ u hu) _ a ha
      rw [List.take_append_drop] at h1
      split at h
      · cases h
        refine h1.imp fun D σ H ⟨μ, m, ρ, nx, bk, ct, rt, kx, S, ER, t, P1, P2, P3, P4, P5⟩ => ?_
        exact blk_ok (D := { D with nx := tS Z W u D }) ⟨μ, m, ρ, _, bk, ct, rt, kx, S, ER, t, fun μ1 m1 H1 ρ1 σ1 L S1 E1 e1 => ⟨μ1, m1, ρ1, nx, bk, ct, rt, kx, S1, E1, e1, P1.after L, P2.after L, P3.after L, P4.after L, P5.after L⟩, P2, P3, P4, P5⟩
      · cases h
        refine h1.imp fun D σ H ⟨μ, m, ρ, nx, bk, ct, rt, kx, S, ER, t, P1, P2, P3, P4, P5⟩ => ?_
        exact ⟨μ, m, ρ, _, bk, ct, rt, kx, S, ER, t, fun μ1 m1 H1 ρ1 σ1 L S1 E1 e1 => ⟨μ1, m1, ρ1, nx, bk, ct, rt, kx, S1, E1, e1, P1.after L, P2.after L, P3.after L, P4.after L, P5.after L⟩, P2, P3, P4, P5⟩
    · cases h
end
end
end Ev

set_option Elab.async false
set_option linter.all false
set_option maxRecDepth 100000
set_option maxHeartbeats 2000000
/-! Ev24: what a program's written part gives, fact by fact; the law's end. -/
namespace Ev
open PySem PySem.Spec PyProof.Rows L2 HT
noncomputable section

/-- a def at the top -/
structure HasDef (K : PySem.W.Frag) (mg : Str → Option Value) (x : Str) (st : Stmt) (ps : List Str) : Prop where
  ex : ∃ a fd z, L2.Fun K z z st a fd ∧ Binds K fd ps [] ∧ mg x = some (.ref a)
theorem hasDef_mk {K : PySem.W.Frag} {h : Heap} {mg : Str → Option Value} {x y : Str} {st : Stmt} {ps : List Str} {f : Addr} {oc : Value} {od an : Option Addr} {osl : Array (Option Value)} {kV doc pm cdv ct : Value} (X : K.In h) (G : h.Ns mainGlobals mg)
    (a : PySem.W.nsIn K mainGlobals y = some (some (.ref f))) (l : K.lookup f = some ⟨oc, od, .func (PySem.W.fnOf x x (defArgs st) (defBody st) (defScope st) .none kV doc pm an cdv ct), osl⟩) (c : PySem.W.codeIn K cdv x = true) (k : PySem.W.keepIn K (.ref f) = true)
    (b : ∀ (kV doc pm : Value) (an : Option Addr) (cdv ct : Value) (us : List Value), us.length = ps.length → bindArgs (PySem.W.fnOf x x (defArgs st) (defBody st) (defScope st) .none kV doc pm an cdv ct) ⟨us, []⟩ = pure (ps.zip us)) : HasDef K mg y st ps :=
  ⟨f, _, x, fun_mk l c k, (fun_mk l c k).binds b, PySem.W.mg_of X G a⟩
/-- defs and classes by number, by what their names hold -/
def Zof (K : PySem.W.Frag) (mg : Str → Option Value) (vals clss : List Str) : Wd :=
  ⟨K, fun j => match vals[j]? with | some x => (match mg x with | some (.ref a) => some a | _ => none) | none => none, fun k => match clss[k]? with | some x => (match mg x with | some v => v | none => .none) | none => .none⟩
section
variable {P : Program} {w : World} {K : PySem.W.Frag} {mg : Str → Option Value} {base : Heap} {Z : Wd} {lev lev' : Nat}
def DefAt (P : Program) (w : World) (K : PySem.W.Frag) (mg : Str → Option Value) (base : Heap) (Z : Wd) (lev : Nat) (x : Str) (f : SemF) : Prop := ∃ a n, mg x = some (.ref a) ∧ DefOk P w K mg base Z lev a n f
theorem DefAt.mono {x : Str} {f : SemF} (h : DefAt P w K mg base Z lev x f) (e : lev ≤ lev') : DefAt P w K mg base Z lev' x f := by
  obtain ⟨a, n, h1, h2⟩ := h
  exact ⟨a, n, h1, h2.mono e⟩
theorem DefAt.pure {x : Str} {f : SemF} (h : DefAt P w K mg base Z lev x f) : DefAt P w K mg base Z lev x (pureF f) := by
  obtain ⟨a, n, h1, h2⟩ := h
  exact ⟨a, n, h1, h2.pure⟩
def FnsOk (P : Program) (w : World) (K : PySem.W.Frag) (mg : Str → Option Value) (base : Heap) (Z : Wd) (lev : Nat) (l : List (Str × SemF)) : Prop := ∀ x f, l.lookup x = some f → DefAt P w K mg base Z lev x f
theorem fns_nil : FnsOk P w K mg base Z lev [] := fun x f h => by cases h
theorem fns_cons {x : Str} {f : SemF} {l : List (Str × SemF)} (h : DefAt P w K mg base Z lev x f) (r : FnsOk P w K mg base Z lev l) : FnsOk P w K mg base Z lev ((x, f) :: l) := fun y g e => by
  rw [List.lookup_cons] at e
  split at e
  · rename_i he
    cases e
    rw [eq_of_beq he]; exact h
  · exact r y g e
def CstOk (mg : Str → Option Value) (Z : Wd) (l : List (Str × D)) : Prop := ∀ x d, l.lookup x = some d → ∃ v u, mg x = some u ∧ RelV v u ∧ ∀ μ n H, Rep Z μ n H d v
theorem cst_nil : CstOk mg Z [] := fun x f h => by cases h
theorem cst_cons {x : Str} {d : D} {l : List (Str × D)} (h : ∃ v u, mg x = some u ∧ RelV v u ∧ ∀ μ n H, Rep Z μ n H d v) (r : CstOk mg Z l) : CstOk mg Z ((x, d) :: l) := fun y g e => by
  rw [List.lookup_cons] at e
  split at e
  · rename_i he
    cases e
    rw [eq_of_beq he]; exact h
  · exact r y g e
/-- a def by its text -/
theorem defAt {c : Cfg} (V : Wf P w K mg base Z c) {x : Str} {st : Stmt} {ps : List Str} (F : HasDef K mg x st ps) (pad : Nat) {b : SemS} (S : FnScope c.N ps (defScope st)) (hl : c.N.length = ps.length + pad) (hsc : c.sc = (defScope st).names) (ht : trB c (defBody st) = some b) : DefAt P w K mg base Z (c.lev + 1) x (mkF ps.length pad b) := by
  obtain ⟨a, fd, z, h1, h2, h3⟩ := F.ex
  exact ⟨a, _, h3, def_tr V h1 S h2 hl hsc ht⟩
theorem takeAt {x : Str} (h : ∃ a, mg x = some (.ref a) ∧ DefOk P w K mg base Z lev a 2 (mkF 2 2 takeB)) : DefAt P w K mg base Z lev x takeF := by
  obtain ⟨a, h1, h2⟩ := h
  exact ⟨a, 2, h1, h2.take⟩
theorem tapeAt {x : Str} (h : ∃ a, mg x = some (.ref a) ∧ DefOk P w K mg base Z lev a 1 (mkF 1 3 tapeB)) : DefAt P w K mg base Z lev x tapeF := by
  obtain ⟨a, h1, h2⟩ := h
  exact ⟨a, 1, h1, h2.tape⟩
theorem defAt0 {c : Cfg} (V : Wf P w K mg base Z c) {x : Str} {st : Stmt} {ps : List Str} (F : HasDef K mg x st ps) (pad : Nat) {b : SemS} (S : FnScope c.N ps (defScope st)) (hl : c.N.length = ps.length + pad) (hsc : c.sc = (defScope st).names) (ht : trB c (defBody st) = some b) : ∃ a, mg x = some (.ref a) ∧ DefOk P w K mg base Z (c.lev + 1) a ps.length (mkF ps.length pad b) := by
  obtain ⟨a, fd, z, h1, h2, h3⟩ := F.ex
  exact ⟨a, h3, def_tr V h1 S h2 hl hsc ht⟩

/-! ### the law's own def -/
def kT : Kc := fun d _ => match d with | .bl b => b | _ => false
def m0 : M := ⟨0, 0, .e, 0⟩
def spLaw (K : PySem.W.Frag) : Sp := fun vs H Q _ => ∃ (a : Addr) (ns : List Int), vs = [.ref a] ∧ SqL K H a (ns.map V.int) ∧ ns.length ≤ 63 ∧ Only H ∧ ∀ H', Q (.bl true) H'
theorem law_imp {f : SemF} (h : f [.scr] m0 kT (fun _ _ => false) = true) : ∀ vs H Q E, spLaw Z.K vs H Q E → spF Z 1 f vs H Q E := by
  rintro vs H Q E ⟨a, ns, rfl, hS, hl, hO, q⟩
  have hF : SqF Z.K H a (ns.map V.int) := by
    rcases hS with (hS | ⟨o, hS⟩) | hS
    · rcases hO a with e | ⟨o, xs, e⟩
      · rw [hS] at e; cases e
      · rw [hS] at e; cases e
    · exact .inl ⟨o, hS⟩
    · exact .inr hS
  refine ⟨rfl, fun _ => 0, m0, [.scr], kT, fun _ _ => false, ⟨Nat.zero_le _, fun i hi => absurd hi (Nat.not_lt_zero i), fun i j hi => absurd hi (Nat.not_lt_zero i), fun i o g => absurd (M.get_some g).1 (Nat.not_lt_zero i), fun i o g => absurd (M.get_some g).1 (Nat.not_lt_zero i)⟩, .cons (.scr hF hl) .nil, h, fun μ' m' H' d v L S R e => ?_, fun _ _ _ _ _ _ z => (by cases z)⟩
  unfold kT at e
  split at e
  · cases R
    subst e
    exact q _
  · cases e
/-- the law's def, in blocks -/
theorem lawFn {c : Cfg} (V : Wf P w K mg base Z c) {qual : Str} {st : Stmt} {f : Addr} {fd : FuncData} (F : L2.Fun K "law" qual st f fd) (pad : Nat) {b : SemS} (l : List (Nat × Option (List Nat × Nat))) (S : FnScope c.N ["script"] (defScope st)) (hl : c.N.length = 1 + pad) (hsc : c.sc = (defScope st).names) (ht : trSg c l (defBody st) = some b) (hZ : Z.K = K)
    (h : mkF 1 pad b [.scr] m0 kT (fun _ _ => false) = true) : FnOk P w K mg base (L2.CX P w) (c.lev + 1) f fd ["script"] (spLaw K) := by
  subst hZ
  exact (def_ok F S (ps := ["script"]) hl fun cdv A outer s H E hr => trSg_ok (gd_of V S hsc hr) l _ _ ht).imp (law_imp h)
end
end
end Ev

set_option Elab.async false
set_option linter.all false
set_option maxRecDepth 100000
set_option maxHeartbeats 2000000
/-! Ev25: the facts of a program's top, put together. -/
namespace Ev
open PySem PySem.Spec PyProof.Rows L2 HT
noncomputable section
section
variable {P : Program} {w : World} {K : PySem.W.Frag} {mg : Str → Option Value} {base h : Heap} {Z : Wd} {lev : Nat} {vals clss : List Str}
theorem tab_of {x : Str} {j : Nat} {f : SemF} (h : vals[j]? = some x) (d : DefAt P w K mg base Z lev x f) : ∃ a n, (Zof K mg vals clss).FT j = some a ∧ DefOk P w K mg base Z lev a n f := by
  obtain ⟨a, n, e, d⟩ := d
  refine ⟨a, n, ?_, d⟩
  show (match vals[j]? with | some x => (match mg x with | some (.ref a) => some a | _ => none) | none => none) = some a
  rw [h]
  show (match mg x with | some (.ref a) => some a | _ => none) = some a
  rw [e]
theorem fn_cst {x : Str} {j : Nat} {f : SemF} (h : vals[j]? = some x) (d : DefAt P w K mg base Z lev x f) : ∃ v u, mg x = some u ∧ RelV v u ∧ ∀ μ n H, Rep (Zof K mg vals clss) μ n H (.fn j) v := by
  obtain ⟨a, n, e, d⟩ := d
  refine ⟨.ref a, .ref a, e, rfl, fun μ n H => .fn ?_⟩
  show (match vals[j]? with | some x => (match mg x with | some (.ref a) => some a | _ => none) | none => none) = some a
  rw [h]
  show (match mg x with | some (.ref a) => some a | _ => none) = some a
  rw [e]
theorem bl_nil : ∀ y n, ([] : List (Str × Nat)).lookup y = some n → mg y = none := fun y n e => by cases e
theorem bl_cons {x : Str} {k : Nat} {l : List (Str × Nat)} (h : mg x = none) (r : ∀ y n, l.lookup y = some n → mg y = none) : ∀ y n, ((x, k) :: l).lookup y = some n → mg y = none := fun y n e => by
  rw [List.lookup_cons] at e
  split at e
  · rename_i he
    rw [eq_of_beq he]; exact h
  · exact r y n e
theorem bl_of (z0 : mg "len" = none) (z1 : mg "sum" = none) (z2 : mg "max" = none) (z3 : mg "min" = none) (z4 : mg "abs" = none) (z5 : mg "any" = none) (z6 : mg "all" = none) (z7 : mg "sorted" = none) (z8 : mg "isinstance" = none) (z9 : mg "int" = none) (z10 : mg "bool" = none) (z11 : mg "list" = none) (z12 : mg "tuple" = none) (z13 : mg "dict" = none) (z14 : mg "range" = none) (z15 : mg "enumerate" = none) (z16 : mg "zip" = none) (z17 : mg "str" = none) (z18 : mg "set" = none) : ∀ x n, bltNames.lookup x = some n → mg x = none :=
  bl_cons z0 (bl_cons z1 (bl_cons z2 (bl_cons z3 (bl_cons z4 (bl_cons z5 (bl_cons z6 (bl_cons z7 (bl_cons z8 (bl_cons z9 (bl_cons z10 (bl_cons z11 (bl_cons z12 (bl_cons z13 (bl_cons z14 (bl_cons z15 (bl_cons z16 (bl_cons z17 (bl_cons z18 bl_nil))))))))))))))))))
/-- constants -/
def intsV : List Int → List Value → Bool
  | [], [] => true
  | i :: is, .int j _ :: vs => decide (i = j) && intsV is vs
  | _, _ => false
def tupInts (is : List Int) (o : Obj) : Bool := match o.data with
  | .seq its _ => decide (o.cls = .type "tuple") && (decide (its.size ≤ sizeLine) && intsV is its.toList)
  | _ => false
theorem intsV_ok {μ : Nat → Addr} {n : Nat} {H : Hp} : ∀ {is : List Int} {vs : List Value}, intsV is vs = true → Vals (is.map V.int) vs ∧ Reps Z μ n H (is.map D.int) (is.map V.int)
  | [], [], _ => ⟨.nil, .nil⟩
  | [], _ :: _, e => by cases e
  | _ :: _, [], e => by cases e
  | i :: is, v :: vs, e => by
    unfold intsV at e
    split at e
    · rename_i e1 e2; cases e1
    · rename_i e1 e2
      cases e1; cases e2
      obtain ⟨e1, e2⟩ := and2 e
      obtain ⟨h1, h2⟩ := intsV_ok e2
      have e1 := of_decide_eq_true e1
      subst e1
      exact ⟨.cons ⟨_, rfl⟩ h1, .cons .int h2⟩
    · cases e
theorem cst_ints {x : Str} {is : List Int} {a : Addr} {o : Obj} (X : K.In h) (G : h.Ns mainGlobals mg) (ha : PySem.W.nsIn K mainGlobals x = some (some (.ref a))) (hl : K.lookup a = some o) (hc : tupInts is o = true) :
    ∃ v u, mg x = some u ∧ RelV v u ∧ ∀ μ n H, Rep (Zof K mg vals clss) μ n H (.tup (is.map D.int)) v := by
  refine ⟨.ref a, .ref a, PySem.W.mg_of X G ha, rfl, fun μ n H => ?_⟩
  unfold tupInts at hc
  split at hc
  · rename_i its m e
    obtain ⟨c1, c2⟩ := and2 hc
    obtain ⟨c2, c3⟩ := and2 c2
    obtain ⟨h1, h2⟩ := intsV_ok (Z := Zof K mg vals clss) (μ := μ) (n := n) (H := H) c3
    exact .tup (.inr ⟨o, its, m, hl, of_decide_eq_true c1, e, of_decide_eq_true c2, h1⟩) h2
  · cases hc
theorem cst_int {x : Str} {i : Int} {t : Tok} (X : K.In h) (G : h.Ns mainGlobals mg) (ha : PySem.W.nsIn K mainGlobals x = some (some (.int i t))) :
    ∃ v u, mg x = some u ∧ RelV v u ∧ ∀ μ n H, Rep (Zof K mg vals clss) μ n H (.int i) v :=
  ⟨.int i, .int i t, PySem.W.mg_of X G ha, ⟨t, rfl⟩, fun _ _ _ => .int⟩
theorem lawDef {fa f : Addr} {st : Stmt} {oc : Value} {od an : Option Addr} {osl : Array (Option Value)} {kV doc pm cdv ct : Value} (X : K.In h) (G : h.Ns mainGlobals mg) (hfa : mg "law" = some (.ref fa))
    (a : PySem.W.nsIn K mainGlobals "law" = some (some (.ref f))) (l : K.lookup f = some ⟨oc, od, .func (PySem.W.fnOf "law" "law" (defArgs st) (defBody st) (defScope st) .none kV doc pm an cdv ct), osl⟩) (c : PySem.W.codeIn K cdv "law" = true) (k : PySem.W.keepIn K (.ref f) = true)
    (b : ∀ (kV doc pm : Value) (an : Option Addr) (cdv ct : Value) (u : Value), bindArgs (PySem.W.fnOf "law" "law" (defArgs st) (defBody st) (defScope st) .none kV doc pm an cdv ct) ⟨[u], []⟩ = pure [(("script" : Str), u)]) :
    ∃ fd, L2.Fun K "law" "law" st fa fd ∧ ∀ (s : Shared) (u : Value), BindsTo s fd ⟨[u], []⟩ [("script", u)] := by
  have e := hfa.symm.trans (PySem.W.mg_of X G a)
  cases e
  exact ⟨_, fun_mk l c k, fun s u => .of_eq (b _ _ _ _ _ _ u)⟩
end
end
end Ev

set_option Elab.async false
set_option linter.all false
set_option maxRecDepth 100000
set_option maxHeartbeats 2000000
/-! Ev26: the same combinators in a form that the kernel runs quickly (bare recursors, strict lists), and that they are the same: expressions. -/
namespace Ev
open PySem PySem.Spec PyProof.Rows L2 HT
noncomputable section

/-! ### eliminators -/
def bI (c t f : Bool) : Bool := @Bool.rec (fun _ => Bool) f t c
def nB (c : Bool) : Bool := @Bool.rec (fun _ => Bool) true false c
theorem bI_m (c t f : Bool) : (match c with | true => t | false => f) = bI c t f := by cases c <;> rfl
theorem bI_and (c t : Bool) : (c && t) = bI c t false := by cases c <;> rfl
theorem bI_or (c t : Bool) : (c || t) = bI c true t := by cases c <;> rfl
theorem nB_eq (c : Bool) : (!c) = nB c := by cases c <;> rfl
def liR {α : Type} (xs : List α) (a : Bool) (f : α → List α → Bool) : Bool := @List.rec α (fun _ => Bool) a (fun x r _ => f x r) xs
def opR {α : Type} (o : Option α) (a : Bool) (f : α → Bool) : Bool := @Option.rec α (fun _ => Bool) a f o
def cD (d : D) (kb : Bool → Bool) (ki : Int → Bool) (ks : Str → Bool) (kt : List D → Bool) (kr : Nat → Bool) (ko : Bool) : Bool :=
  @D.rec (fun _ => Bool) (fun _ => Bool) ko ko kb ki ks (fun xs _ => kt xs) kr (fun _ => ko) (fun _ => ko) ko (fun _ _ => ko) false (fun _ _ _ _ => false) d
def iD (d : D) (k : Int → Bool) : Bool := @D.rec (fun _ => Bool) (fun _ => Bool) false false (fun _ => false) k (fun _ => false) (fun _ _ => false) (fun _ => false) (fun _ => false) (fun _ => false) false (fun _ _ => false) false (fun _ _ _ _ => false) d
def bD (d : D) (k : Bool → Bool) : Bool := @D.rec (fun _ => Bool) (fun _ => Bool) false false k (fun _ => false) (fun _ => false) (fun _ _ => false) (fun _ => false) (fun _ => false) (fun _ => false) false (fun _ _ => false) false (fun _ _ _ _ => false) d
def tD (d : D) (k : List D → Bool) : Bool := @D.rec (fun _ => Bool) (fun _ => Bool) false false (fun _ => false) (fun _ => false) (fun _ => false) (fun xs _ => k xs) (fun _ => false) (fun _ => false) (fun _ => false) false (fun _ _ => false) false (fun _ _ _ _ => false) d
def rD (d : D) (k : Nat → Bool) : Bool := @D.rec (fun _ => Bool) (fun _ => Bool) false false (fun _ => false) (fun _ => false) (fun _ => false) (fun _ _ => false) k (fun _ => false) (fun _ => false) false (fun _ _ => false) false (fun _ _ _ _ => false) d
/-- not without a value -/
def unR (d : D) (t : Bool) : Bool := @D.rec (fun _ => Bool) (fun _ => Bool) false t (fun _ => t) (fun _ => t) (fun _ => t) (fun _ _ => t) (fun _ => t) (fun _ => t) (fun _ => t) t (fun _ _ => t) false (fun _ _ _ _ => false) d
/-- a list that the heap has -/
def gL (o : Option O) (k : List D → Bool) : Bool := @Option.rec O (fun _ => Bool) false (fun o => @O.rec (fun _ => Bool) k (fun _ => false) (fun _ => false) (fun _ => false) (fun _ => false) false o) o
/-- a list, a dict, any other -/
def gO (o : Option O) (k : List D → Bool) (kd : List (Key × D) → Bool) (ke : List (Key × D) → Bool) (ko : Bool) : Bool := @Option.rec O (fun _ => Bool) ko (fun o => @O.rec (fun _ => Bool) k kd ke (fun _ => ko) (fun _ => ko) ko o) o

/-! ### lists -/
def lenK {α : Type} (xs : List α) : Nat → (Nat → Bool) → Bool := @List.rec α (fun _ => Nat → (Nat → Bool) → Bool) (fun n k => k n) (fun _ _ ih n k => ih (Nat.succ n) k) xs
theorem lenK_eq {α : Type} : ∀ (xs : List α) (n : Nat) (k : Nat → Bool), lenK xs n k = k (n + xs.length)
  | [], n, k => rfl
  | x :: r, n, k => by
    show lenK r (n + 1) k = _
    rw [lenK_eq r, List.length_cons]
    congr 1; omega
theorem lenK0 {α : Type} (xs : List α) (k : Nat → Bool) : k xs.length = lenK xs 0 k := by rw [lenK_eq, Nat.zero_add]
def appK {α : Type} (xs ys : List α) : (List α → Bool) → Bool := @List.rec α (fun _ => (List α → Bool) → Bool) (fun k => k ys) (fun x _ ih k => ih fun r => k (x :: r)) xs
theorem appK_eq {α : Type} : ∀ (xs ys : List α) (k : List α → Bool), appK xs ys k = k (xs ++ ys)
  | [], ys, k => rfl
  | x :: r, ys, k => appK_eq r ys fun r => k (x :: r)
def nthK (xs : List D) : Nat → Bool → (D → Bool) → Bool := @List.rec D (fun _ => Nat → Bool → (D → Bool) → Bool) (fun _ n _ => n) (fun x _ ih i n k => @Nat.rec (fun _ => Bool) (k x) (fun j _ => ih j n k) i) xs
theorem nthK_eq : ∀ (xs : List D) (i : Nat) (n : Bool) (k : D → Bool), (match nthD xs i with | some d => k d | none => n) = nthK xs i n k
  | [], _, _, _ => rfl
  | x :: r, 0, _, _ => rfl
  | x :: r, i + 1, n, k => nthK_eq r i n k
theorem nthD_lt : ∀ {xs : List D} {i : Nat}, xs.length ≤ i → nthD xs i = none
  | [], _, _ => rfl
  | x :: r, 0, h => by cases h
  | x :: r, i + 1, h => nthD_lt (xs := r) (Nat.le_of_succ_le_succ h)
def setR (xs : List D) : Nat → D → List D := @List.rec D (fun _ => Nat → D → List D) (fun _ _ => []) (fun x r ih i d => @Nat.rec (fun _ => List D) (d :: r) (fun j _ => x :: ih j d) i) xs
theorem setR_eq : ∀ (xs : List D) (i : Nat) (d : D), setE xs i d = setR xs i d
  | [], _, _ => rfl
  | x :: r, 0, d => rfl
  | x :: r, i + 1, d => by
    show x :: setE r i d = x :: setR r i d
    rw [setR_eq r i d]
def allR (p : D → Bool) (xs : List D) : Bool := @List.rec D (fun _ => Bool) true (fun x _ ih => bI (p x) ih false) xs
theorem allR_eq (p : D → Bool) : ∀ xs : List D, xs.all p = allR p xs
  | [] => rfl
  | x :: r => by
    rw [List.all_cons, allR_eq p r, bI_and]; rfl
def neR {α : Type} (xs : List α) : Bool := @List.rec α (fun _ => Bool) false (fun _ _ _ => true) xs
theorem neR_eq {α : Type} (xs : List α) : (!xs.isEmpty) = neR xs := by cases xs <;> rfl
def isortK (le : D → D → Bool) (xs : List D) : (List D → Bool) → Bool :=
  @List.rec D (fun _ => (List D → Bool) → Bool) (fun k => k []) (fun x _ ih k => ih fun r => @List.rec D (fun _ => (List D → Bool) → Bool) (fun k => k [x]) (fun y s ih k => bI (le x y) (k (x :: y :: s)) (ih fun t => k (y :: t))) r k) xs
theorem insK_eq (le : D → D → Bool) (x : D) : ∀ (r : List D) (k : List D → Bool), k (ins le x r) = @List.rec D (fun _ => (List D → Bool) → Bool) (fun k => k [x]) (fun y s ih k => bI (le x y) (k (x :: y :: s)) (ih fun t => k (y :: t))) r k
  | [], k => rfl
  | y :: s, k => by
    show k (match le x y with | true => x :: y :: s | false => y :: ins le x s) = bI (le x y) (k (x :: y :: s)) _
    rw [← insK_eq le x s fun t => k (y :: t)]
    cases le x y <;> rfl
theorem isortK_eq (le : D → D → Bool) : ∀ (xs : List D) (k : List D → Bool), k (isort le xs) = isortK le xs k
  | [], k => rfl
  | x :: xs, k => by
    show k (ins le x (isort le xs)) = isortK le xs fun r => _
    rw [← isortK_eq le xs]
    exact insK_eq le x (isort le xs) k
def popK (x : D) (r : List D) : (List D → D → Bool) → Bool := @List.rec D (fun _ => D → (List D → D → Bool) → Bool) (fun x k => k [] x) (fun y _ ih x k => ih y fun s l => k (x :: s) l) r x
theorem popK_eq : ∀ (x : D) (r : List D) (k : List D → D → Bool), (match lastD (x :: r) with | some y => k (x :: r).dropLast y | none => false) = popK x r k
  | x, [], k => rfl
  | x, y :: r, k => popK_eq y r fun s l => k (x :: s) l

/-! ### numbers -/
def natK (n : Nat) (k : Int → Bool) : Bool := @Nat.rec (fun _ => Bool) (k (.ofNat 0)) (fun q _ => k (.ofNat (Nat.succ q))) n
theorem natK_eq (n : Nat) (k : Int → Bool) : natK n k = k (.ofNat n) := by cases n <;> rfl
def negK (n : Nat) (k : Int → Bool) : Bool := @Nat.rec (fun _ => Bool) (k (.negSucc 0)) (fun q _ => k (.negSucc (Nat.succ q))) n
theorem negK_eq (n : Nat) (k : Int → Bool) : negK n k = k (.negSucc n) := by cases n <;> rfl
/-- i - j of natural numbers -/
def dfK (i j : Nat) (k : Int → Bool) : Bool := @Nat.rec (fun _ => Bool) (natK (Nat.sub i j) k) (fun q _ => negK q k) (Nat.sub j i)
theorem dfK_eq (i j : Nat) (k : Int → Bool) : dfK i j k = k (Int.subNatNat i j) := by
  unfold dfK Int.subNatNat
  show @Nat.rec (fun _ => Bool) (natK (Nat.sub i j) k) (fun q _ => negK q k) (j - i) = _
  cases j - i with
  | zero => exact natK_eq _ _
  | succ q => exact negK_eq _ _
def addI (a b : Int) (k : Int → Bool) : Bool := @Int.rec (fun _ => Bool) (fun i => @Int.rec (fun _ => Bool) (fun j => natK (Nat.add i j) k) (fun j => dfK i (Nat.succ j) k) b) (fun i => @Int.rec (fun _ => Bool) (fun j => dfK j (Nat.succ i) k) (fun j => negK (Nat.succ (Nat.add i j)) k) b) a
theorem addI_eq (a b : Int) (k : Int → Bool) : addI a b k = k (a + b) := by
  cases a with
  | ofNat i => cases b with
    | ofNat j => exact natK_eq _ _
    | negSucc j => exact dfK_eq _ _ _
  | negSucc i => cases b with
    | ofNat j => exact dfK_eq _ _ _
    | negSucc j =>
      show negK (i + j + 1) k = _
      rw [negK_eq]; congr 1
def subI (a b : Int) (k : Int → Bool) : Bool := @Int.rec (fun _ => Bool) (fun i => @Int.rec (fun _ => Bool) (fun j => dfK i j k) (fun j => natK (Nat.add i (Nat.succ j)) k) b) (fun i => @Int.rec (fun _ => Bool) (fun j => negK (Nat.add i j) k) (fun j => dfK (Nat.succ j) (Nat.succ i) k) b) a
theorem subI_eq (a b : Int) (k : Int → Bool) : subI a b k = k (a - b) := by
  cases a with
  | ofNat i => cases b with
    | ofNat j =>
      show dfK i j k = _
      rw [dfK_eq]; congr 1
      rw [Int.subNatNat_eq_coe]; rfl
    | negSucc j =>
      show natK (i + (j + 1)) k = _
      rw [natK_eq]; congr 1
  | negSucc i => cases b with
    | ofNat j =>
      show negK (i + j) k = _
      rw [negK_eq]; congr 1
      rw [Int.negSucc_eq, Int.negSucc_eq, Int.ofNat_eq_natCast]; omega
    | negSucc j =>
      show dfK (j + 1) (i + 1) k = _
      rw [dfK_eq]; congr 1
def ltI (a b : Int) : Bool := @Int.rec (fun _ => Bool) (fun i => @Int.rec (fun _ => Bool) (fun j => Nat.ble (Nat.succ i) j) (fun _ => false) b) (fun i => @Int.rec (fun _ => Bool) (fun _ => true) (fun j => Nat.ble (Nat.succ j) i) b) a
theorem ltI_eq (a b : Int) : iltB a b = ltI a b := by cases a <;> cases b <;> rfl
def eqI (a b : Int) : Bool := @Int.rec (fun _ => Bool) (fun i => @Int.rec (fun _ => Bool) (fun j => Nat.beq i j) (fun _ => false) b) (fun i => @Int.rec (fun _ => Bool) (fun _ => false) (fun j => Nat.beq i j) b) a
theorem eqI_eq (a b : Int) : ieqB a b = eqI a b := by cases a <;> cases b <;> rfl
def nzI (a : Int) : Bool := @Int.rec (fun _ => Bool) (fun n => @Nat.rec (fun _ => Bool) false (fun _ _ => true) n) (fun _ => true) a
theorem nzI_eq (a : Int) : (a != 0) = nzI a := by
  cases a with
  | ofNat n => cases n <;> rfl
  | negSucc n => rfl
def mulI (a b : Int) (k : Int → Bool) : Bool := @Int.rec (fun _ => Bool) (fun i => @Int.rec (fun _ => Bool) (fun j => bI (Nat.ble (Nat.add (Nat.log2 i) (Nat.log2 j)) 900000) (natK (Nat.mul i j) k) false) (fun j => mulOk a b && frc (a * b) k) b) (fun i => mulOk a b && frc (a * b) k) a
theorem mulI_eq (a b : Int) (k : Int → Bool) : (mulOk a b && frc (a * b) k) = mulI a b k := by
  cases a with
  | ofNat i => cases b with
    | ofNat j =>
      show (Nat.ble (i.log2 + j.log2) 900000 && frc (.ofNat (i * j)) k) = bI (Nat.ble (i.log2 + j.log2) 900000) (natK (i * j) k) false
      rw [bI_and, frc_eq, natK_eq]
    | negSucc j => rfl
  | negSucc i => rfl
def dvI (a b : Int) (k : Int → Bool) : Bool := @Int.rec (fun _ => Bool) (fun i => @Int.rec (fun _ => Bool) (fun j => bI (divOk b) (natK (Nat.div i j) k) false) (fun j => divOk b && frc (a.fdiv b) k) b) (fun i => divOk b && frc (a.fdiv b) k) a
theorem dvI_eq (a b : Int) (k : Int → Bool) : (divOk b && frc (a.fdiv b) k) = dvI a b k := by
  cases a with
  | ofNat i => cases b with
    | ofNat j =>
      show _ = bI (divOk (.ofNat j)) (natK (i / j) k) false
      rw [bI_and, frc_eq, natK_eq, show Int.fdiv (.ofNat i) (.ofNat j) = .ofNat (i / j) from (Int.ofNat_fdiv i j).symm]
    | negSucc j => rfl
  | negSucc i => rfl
def mdI (a b : Int) (k : Int → Bool) : Bool := @Int.rec (fun _ => Bool) (fun i => @Int.rec (fun _ => Bool) (fun j => @Nat.rec (fun _ => Bool) false (fun q _ => natK (Nat.mod i (Nat.succ q)) k) j) (fun j => !(ieqB b 0) && frc (a.fmod b) k) b) (fun i => !(ieqB b 0) && frc (a.fmod b) k) a
theorem mdI_eq (a b : Int) (k : Int → Bool) : (!(ieqB b 0) && frc (a.fmod b) k) = mdI a b k := by
  cases a with
  | ofNat i => cases b with
    | ofNat j => cases j with
      | zero => rfl
      | succ q =>
        show _ = natK (i % (q + 1)) k
        rw [natK_eq, frc_eq, show Int.fmod (.ofNat i) (.ofNat (q + 1)) = .ofNat (i % (q + 1)) from (Int.ofNat_fmod i (q + 1)).symm]
        rfl
    | negSucc j => rfl
  | negSucc i => rfl
def ngI (a : Int) (k : Int → Bool) : Bool := @Int.rec (fun _ => Bool) (fun i => @Nat.rec (fun _ => Bool) (k (.ofNat 0)) (fun q _ => negK q k) i) (fun i => natK (Nat.succ i) k) a
theorem ngI_eq (a : Int) (k : Int → Bool) : frc (-a) k = ngI a k := by
  rw [frc_eq]
  cases a with
  | ofNat i => cases i with
    | zero => rfl
    | succ q => exact (negK_eq q k).symm
  | negSucc i => exact (natK_eq (i + 1) k).symm
/-- a natural number of a number -/
def tnI (i : Int) (k : Nat → Bool) : Bool := @Int.rec (fun _ => Bool) k (fun _ => k 0) i
theorem tnI_eq (i : Int) (k : Nat → Bool) : toNatB i k = tnI i k := by cases i <;> rfl
def rgR (i : Int) : Bool := @Int.rec (fun _ => Bool) (fun n => Nat.ble n 1000000000) (fun n => Nat.ble n 999999999) i
theorem rgR_eq (i : Int) : rgOk i = rgR i := by
  unfold rgOk
  rw [ileB_eq, ileB_eq, Bool.eq_iff_iff]
  cases i with
  | ofNat n =>
    show _ ↔ Nat.ble n 1000000000 = true
    simp only [Bool.and_eq_true, decide_eq_true_eq, Nat.ble_eq, Int.ofNat_eq_natCast]; omega
  | negSucc n =>
    show _ ↔ Nat.ble n 999999999 = true
    simp only [Bool.and_eq_true, decide_eq_true_eq, Nat.ble_eq, Int.negSucc_eq]; omega

/-! ### data -/
def okR (f : Nat) (m : M) : D → Bool := @Nat.rec (fun _ => D → Bool)
  (fun d => cD' (fun _ => false) (fun _ => false) d)
  (fun _ ih d => cD' (fun xs => allR ih xs) (fun i => gL (m.get i) fun xs => allR ih xs) d) f
where cD' (kt : List D → Bool) (kr : Nat → Bool) (d : D) : Bool := @D.rec (fun _ => Bool) (fun _ => Bool) false true (fun _ => true) (fun _ => true) (fun x => PyData.strOk x) (fun xs _ => kt xs) kr (fun _ => false) (fun _ => false) false (fun _ _ => false) false (fun _ _ _ _ => false) d
theorem okR_eq (m : M) : ∀ (f : Nat) (d : D), okD f m d = okR f m d
  | 0, d => by cases d <;> (unfold okD; rfl)
  | f + 1, d => by
    have e : okD f m = okR f m := funext (okR_eq m f)
    cases d with
    | tup xs =>
      unfold okD
      show xs.all (okD f m) = allR (okR f m) xs
      rw [e, allR_eq]
    | ref i =>
      unfold okD
      show _ = gL (m.get i) fun xs => allR (okR f m) xs
      dsimp only
      rw [e]
      cases m.get i with
      | none => rfl
      | some o => cases o with
        | lst xs => exact allR_eq _ xs
        | _ => rfl
    | _ => unfold okD; rfl
def eqAllR (e : D → D → Bool) (xs : List D) : List D → Bool := @List.rec D (fun _ => List D → Bool) (fun ys => liR ys true fun _ _ => false) (fun x _ ih ys => liR ys false fun y s => bI (e x y) (ih s) false) xs
theorem eqAllR_eq (e : D → D → Bool) : ∀ xs ys : List D, eqAll e xs ys = eqAllR e xs ys
  | [], [] => rfl
  | [], _ :: _ => rfl
  | _ :: _, [] => rfl
  | x :: xs, y :: ys => by
    show (e x y && eqAll e xs ys) = bI (e x y) (eqAllR e xs ys) false
    rw [eqAllR_eq e xs ys, bI_and]
def nonR (d : D) : Bool := @D.rec (fun _ => Bool) (fun _ => Bool) false true (fun _ => false) (fun _ => false) (fun _ => false) (fun _ _ => false) (fun _ => false) (fun _ => false) (fun _ => false) false (fun _ _ => false) false (fun _ _ _ _ => false) d
def eqS (et : List D → List D → Bool) (er : Nat → Nat → Bool) (x y : D) : Bool := @D.rec (fun _ => Bool) (fun _ => Bool) false (nonR y)
  (fun a => cD y (fun b => a == b) (fun j => ieqB (if a then 1 else 0) j) (fun _ => false) (fun _ => false) (fun _ => false) false)
  (fun i => cD y (fun b => ieqB i (if b then 1 else 0)) (fun j => eqI i j) (fun _ => false) (fun _ => false) (fun _ => false) false)
  (fun a => cD y (fun _ => false) (fun _ => false) (fun b => a == b) (fun _ => false) (fun _ => false) false)
  (fun xs _ => tD y fun ys => et xs ys) (fun i => rD y fun j => er i j) (fun _ => false) (fun _ => false) false (fun _ _ => false) false (fun _ _ _ _ => false) x
def eqBR (f : Nat) (m : M) : D → D → Bool := @Nat.rec (fun _ => D → D → Bool) (eqS (fun _ _ => false) fun _ _ => false)
  (fun _ ih => eqS (fun xs ys => eqAllR ih xs ys) fun i j => gL (m.get i) fun xs => gL (m.get j) fun ys => eqAllR ih xs ys) f
theorem eqBR_eq (m : M) : ∀ (f : Nat) (x y : D), eqB f m x y = eqBR f m x y
  | 0, x, y => by
    cases x <;> cases y <;> (unfold eqB; first | rfl | exact eqI_eq _ _)
  | f + 1, x, y => by
    have e : eqB f m = eqBR f m := funext fun x => funext fun y => eqBR_eq m f x y
    cases x with
    | tup xs => cases y with
      | tup ys =>
        unfold eqB
        show eqAll (eqB f m) xs ys = eqAllR (eqBR f m) xs ys
        rw [e, eqAllR_eq]
      | _ => unfold eqB; rfl
    | ref i => cases y with
      | ref j =>
        unfold eqB
        show _ = gL (m.get i) fun xs => gL (m.get j) fun ys => eqAllR (eqBR f m) xs ys
        dsimp only
        rw [e]
        cases m.get i with
        | none => rfl
        | some o => cases o with
          | lst xs =>
            cases m.get j with
            | none => rfl
            | some o => cases o with
              | lst ys => exact eqAllR_eq _ xs ys
              | _ => rfl
          | _ => rfl
      | _ => unfold eqB; rfl
    | int i => cases y <;> (unfold eqB; first | rfl | exact eqI_eq _ _)
    | _ => cases y <;> (unfold eqB; rfl)
def alAllR (e : D → D → Bool) (xs : List D) : List D → Bool := @List.rec D (fun _ => List D → Bool) (fun _ => true) (fun x _ ih ys => liR ys true fun y s => bI (e x y) (ih s) false) xs
theorem alAllR_eq (e : D → D → Bool) : ∀ xs ys : List D, alAll e xs ys = alAllR e xs ys
  | [], [] => rfl
  | [], _ :: _ => rfl
  | _ :: _, [] => rfl
  | x :: xs, y :: ys => by
    show (e x y && alAll e xs ys) = bI (e x y) (alAllR e xs ys) false
    rw [alAllR_eq e xs ys, bI_and]
def alS (et : List D → List D → Bool) (x y : D) : Bool := cD x (fun _ => bD y fun _ => true) (fun _ => iD y fun _ => true) (fun _ => cD y (fun _ => false) (fun _ => false) (fun _ => true) (fun _ => false) (fun _ => false) false) (fun xs => tD y fun ys => et xs ys) (fun _ => false) false
def alR (f : Nat) : D → D → Bool := @Nat.rec (fun _ => D → D → Bool) (alS fun _ _ => false) (fun _ ih => alS fun xs ys => alAllR ih xs ys) f
theorem alR_eq : ∀ (f : Nat) (x y : D), alB f x y = alR f x y
  | 0, x, y => by cases x <;> cases y <;> (unfold alB; rfl)
  | f + 1, x, y => by
    have e : alB f = alR f := funext fun x => funext fun y => alR_eq f x y
    cases x with
    | tup xs => cases y with
      | tup ys =>
        unfold alB
        show alAll (alB f) xs ys = alAllR (alR f) xs ys
        rw [e, alAllR_eq]
      | _ => unfold alB; rfl
    | _ => cases y <;> (unfold alB; rfl)
def ltAllR (e l : D → D → Bool) (xs : List D) : List D → Bool := @List.rec D (fun _ => List D → Bool) (fun ys => neR ys) (fun x _ ih ys => liR ys false fun y s => bI (e x y) (ih s) (l x y)) xs
theorem ltAllR_eq (e l : D → D → Bool) : ∀ xs ys : List D, ltAll e l xs ys = ltAllR e l xs ys
  | [], [] => rfl
  | [], _ :: _ => rfl
  | _ :: _, [] => rfl
  | x :: xs, y :: ys => by
    show (match e x y with | true => ltAll e l xs ys | false => l x y) = bI (e x y) (ltAllR e l xs ys) (l x y)
    rw [ltAllR_eq e l xs ys, bI_m]
def ltS (et : List D → List D → Bool) (x y : D) : Bool := cD x (fun a => bD y fun b => !a && b) (fun i => iD y fun j => ltI i j) (fun a => cD y (fun _ => false) (fun _ => false) (fun b => strLtB a b) (fun _ => false) (fun _ => false) false) (fun xs => tD y fun ys => et xs ys) (fun _ => false) false
def ltR (f : Nat) (m : M) : D → D → Bool := @Nat.rec (fun _ => Nat → D → D → Bool) (fun _ => ltS fun _ _ => false) (fun _ ih q => ltS fun xs ys => ltAllR (eqBR (Nat.pred q) m) (ih (Nat.pred q)) xs ys) f f
theorem ltR_eq (m : M) : ∀ (f : Nat) (x y : D), ltB f m x y = ltR f m x y
  | 0, x, y => by cases x <;> cases y <;> (unfold ltB; first | rfl | exact ltI_eq _ _)
  | f + 1, x, y => by
    have e : ltB f m = ltR f m := funext fun x => funext fun y => ltR_eq m f x y
    have e2 : eqB f m = eqBR f m := funext fun x => funext fun y => eqBR_eq m f x y
    cases x with
    | tup xs => cases y with
      | tup ys =>
        unfold ltB
        show ltAll (eqB f m) (ltB f m) xs ys = ltAllR (eqBR f m) (ltR f m) xs ys
        rw [e, e2, ltAllR_eq]
      | _ => unfold ltB; rfl
    | int i => cases y <;> (unfold ltB; first | rfl | exact ltI_eq _ _)
    | _ => cases y <;> (unfold ltB; rfl)
def pureR (f : Nat) : D → Bool := @Nat.rec (fun _ => D → Bool)
  (fun d => @D.rec (fun _ => Bool) (fun _ => Bool) false true (fun _ => true) (fun _ => true) (fun _ => true) (fun _ _ => false) (fun _ => false) (fun _ => false) (fun _ => false) false (fun _ _ => false) false (fun _ _ _ _ => false) d)
  (fun _ ih d => @D.rec (fun _ => Bool) (fun _ => Bool) false true (fun _ => true) (fun _ => true) (fun _ => true) (fun xs _ => allR ih xs) (fun _ => false) (fun _ => false) (fun _ => false) false (fun _ _ => false) false (fun _ _ _ _ => false) d) f
theorem pureR_eq : ∀ (f : Nat) (d : D), pureB f d = pureR f d
  | 0, d => by cases d <;> (unfold pureB; rfl)
  | f + 1, d => by
    have e : pureB f = pureR f := funext (pureR_eq f)
    cases d with
    | tup xs =>
      unfold pureB
      show xs.all (pureB f) = allR (pureR f) xs
      rw [e, allR_eq]
    | _ => unfold pureB; rfl
def isIR (d : D) : Bool := iD d fun _ => true
theorem isIR_eq (d : D) : isI d = isIR d := by cases d <;> rfl
def isTIR (d : D) : Bool := tD d fun ys => allR isIR ys
theorem isTIR_eq (d : D) : isTI d = isTIR d := by
  cases d with
  | tup ys =>
    show ys.all isI = allR isIR ys
    rw [funext isIR_eq, allR_eq]
  | _ => rfl
def alkR (f : Nat) (ds : List D) : Bool := bI (allR isIR ds) true (bI (bI (Nat.blt 0 f) (allR isTIR ds) false) true (allR (fun x => allR (fun y => alR f x y) ds) ds))
theorem alkR_eq (f : Nat) (ds : List D) : alkB f ds = alkR f ds := by
  unfold alkB alkR
  rw [← bI_or, ← bI_or, ← bI_and, ← allR_eq, ← allR_eq, ← allR_eq, ← funext isIR_eq, ← funext isTIR_eq]
  simp only [← allR_eq, ← alR_eq, Bool.or_assoc]
def sbR (ds : List D) : Bool := bI (allR (fun d => tD d fun ys => neR ys) ds) true (allR (fun d => @D.rec (fun _ => Bool) (fun _ => Bool) true true (fun _ => true) (fun _ => true) (fun _ => true) (fun _ _ => false) (fun _ => false) (fun _ => true) (fun _ => true) true (fun _ _ => true) false (fun _ _ _ _ => false) d) ds)
theorem sbR_eq (ds : List D) : sortableB ds = sbR ds := by
  unfold sortableB sbR
  rw [← bI_or, ← allR_eq, ← allR_eq]
  congr 1
  · congr 1; funext d
    cases d with
    | tup xs => cases xs <;> rfl
    | _ => rfl
  · congr 1; funext d; cases d <;> rfl
end
end Ev

set_option Elab.async false
set_option linter.all false
set_option maxRecDepth 100000
set_option maxHeartbeats 2000000
/-! Ev27: the quick form: combinators. -/
namespace Ev
open PySem PySem.Spec PyProof.Rows L2 HT
noncomputable section

def varR (i : Nat) : SemE := fun ρ m k _ => @List.rec D (fun _ => Nat → Bool) (fun _ => false) (fun x _ ih i => @Nat.rec (fun _ => Bool) (unR x (k x m)) (fun j _ => ih j) i) ρ i
theorem varC_R : varC = varR := by
  funext i ρ m k kx
  unfold varC varR
  induction ρ generalizing i with
  | nil => rfl
  | cons x r ih => cases i with
    | zero => cases x <;> rfl
    | succ j => exact ih j
def tupR (a : SemA) : SemE := fun ρ m k kx => a ρ m (fun xs m1 => lenK xs (nat_lit 0) fun n => bI (Nat.ble n (nat_lit 100000)) (k (.tup xs) m1) false) kx
theorem tupC_R : tupC = tupR := by
  funext a ρ m k kx
  unfold tupC tupR
  congr 1; funext xs m1
  rw [bI_and]; exact lenK0 xs fun n => bI (Nat.ble n LIM) (k (.tup xs) m1) false
def lstR (a : SemA) : SemE := fun ρ m k kx => a ρ m (fun xs m1 => lenK xs (nat_lit 0) fun n => bI (Nat.ble n (nat_lit 100000)) (k (.ref m1.n) (m1.alloc (.lst xs))) false) kx
theorem lstC_R : lstC = lstR := by
  funext a ρ m k kx
  unfold lstC lstR
  congr 1; funext xs m1
  rw [bI_and]; exact lenK0 xs fun n => bI (Nat.ble n LIM) (k (.ref m1.n) (m1.alloc (.lst xs))) false
def ifR (t : SemT) (a b : SemE) : SemE := fun ρ m k kx => t ρ m (fun c m1 => bI c (a ρ m1 k kx) (b ρ m1 k kx)) kx
theorem ifC_R : ifC = ifR := by
  funext t a b ρ m k kx
  unfold ifC ifR
  congr 1; funext c m1; cases c <;> rfl
def blR (a : SemE) : SemT := fun ρ m k kx => a ρ m (fun x m1 => bD x fun b => k b m1) kx
theorem blT_R : blT = blR := by
  funext a ρ m k kx
  unfold blT blR
  congr 1; funext x m1; cases x <;> rfl
def notR (a : SemT) : SemT := fun ρ m k kx => a ρ m (fun b m1 => k (nB b) m1) kx
theorem notT_R : notT = notR := by
  funext a ρ m k kx
  unfold notT notR
  congr 1; funext b m1; cases b <;> rfl
def andR (a b : SemT) : SemT := fun ρ m k kx => a ρ m (fun c m1 => bI c (b ρ m1 k kx) (k false m1)) kx
theorem andT_R : andT = andR := by
  funext a b ρ m k kx
  unfold andT andR
  congr 1; funext c m1; cases c <;> rfl
def orR (a b : SemT) : SemT := fun ρ m k kx => a ρ m (fun c m1 => bI c (k true m1) (b ρ m1 k kx)) kx
theorem orT_R : orT = orR := by
  funext a b ρ m k kx
  unfold orT orR
  congr 1; funext c m1; cases c <;> rfl
def truR1 (d : D) (m : M) (k : Bool → Bool) : Bool := @D.rec (fun _ => Bool) (fun _ => Bool) false (k false) k (fun i => k (nzI i)) (fun y => Nat.ble y.length LIM && k ((y.length : Int) != 0)) (fun xs _ => k (neR xs)) (fun i => gO (m.get i) (fun xs => k (neR xs)) (fun kvs => k (neR kvs)) (fun _ => false) false) (fun _ => false) (fun _ => false) false (fun _ _ => false) false (fun _ _ _ _ => false) d
theorem truD_eq (d : D) (m : M) (k : Bool → Bool) : truD d m k = truR1 d m k := by
  cases d with
  | int i => exact congrArg k (nzI_eq i)
  | tup xs => exact congrArg k (neR_eq xs)
  | ref i =>
    show (match m.get i with | some (.lst xs) => k (!xs.isEmpty) | some (.dic xs) => k (!xs.isEmpty) | _ => false) = gO (m.get i) _ _ _ _
    cases m.get i with
    | none => rfl
    | some o => cases o with
      | lst xs => exact congrArg k (neR_eq xs)
      | dic xs => exact congrArg k (neR_eq xs)
      | _ => rfl
  | _ => rfl
def truTR (a : SemE) : SemT := fun ρ m k kx => a ρ m (fun x m1 => truR1 x m1 fun b => k b m1) kx
theorem truT_R : truT = truTR := by
  funext a ρ m k kx
  unfold truT truTR
  congr 1; funext x m1; exact truD_eq _ _ _
def orVR (a b : SemE) : SemE := fun ρ m k kx => a ρ m (fun x m1 => truR1 x m1 fun c => bI c (k x m1) (b ρ m1 k kx)) kx
theorem orV_R : orV = orVR := by
  funext a b ρ m k kx
  unfold orV orVR
  congr 1; funext x m1; rw [← truD_eq]; congr 1; funext c; cases c <;> rfl
def andVR (a b : SemE) : SemE := fun ρ m k kx => a ρ m (fun x m1 => truR1 x m1 fun c => bI c (b ρ m1 k kx) (k x m1)) kx
theorem andV_R : andV = andVR := by
  funext a b ρ m k kx
  unfold andV andVR
  congr 1; funext x m1; rw [← truD_eq]; congr 1; funext c; cases c <;> rfl
def notVR (a : SemE) : SemE := fun ρ m k kx => a ρ m (fun x m1 => truR1 x m1 fun c => k (.bl (nB c)) m1) kx
theorem notV_R : notV = notVR := by
  funext a ρ m k kx
  unfold notV notVR
  congr 1; funext x m1; rw [← truD_eq]; congr 1; funext c; cases c <;> rfl

/-! ### arithmetic -/
theorem gL_eq (o : Option O) (k : List D → Bool) : (match o with | some (.lst xs) => k xs | _ => false) = gL o k := by
  cases o with
  | none => rfl
  | some o => cases o <;> rfl
def catK (xs ys : List D) (k : List D → Bool) : Bool := lenK xs (nat_lit 0) fun n => lenK ys n fun n => bI (Nat.ble n (nat_lit 100000)) (appK xs ys k) false
theorem catK_eq (xs ys : List D) (k : List D → Bool) : (Nat.ble (xs.length + ys.length) LIM && k (xs ++ ys)) = catK xs ys k := by
  unfold catK
  rw [lenK_eq, lenK_eq, appK_eq, bI_and]
  rw [show (nat_lit 0) + xs.length + ys.length = xs.length + ys.length from by rw [show (nat_lit 0) + xs.length = xs.length from Nat.zero_add _]]
  rfl
def addR : Sem2 := fun x y m k => cD x (fun _ => false) (fun i => iD y fun j => addI i j fun c => k (.int c) m)
  (fun a => cD y (fun _ => false) (fun _ => false) (fun b => Nat.ble (a.length + b.length) LIM && k (.str (a ++ b)) m) (fun _ => false) (fun _ => false) false)
  (fun xs => tD y fun ys => catK xs ys fun zs => k (.tup zs) m)
  (fun a => rD y fun b => gL (m.get a) fun xs => gL (m.get b) fun ys => catK xs ys fun zs => k (.ref m.n) (m.alloc (.lst zs))) false
theorem addD_R : addD = addR := by
  funext x y m k
  cases x with
  | int i => cases y with
    | int j =>
      show (frc (i + j) fun c => k (.int c) m) = addI i j fun c => k (.int c) m
      rw [frc_eq, addI_eq]
    | _ => rfl
  | tup xs => cases y with
    | tup ys => exact catK_eq xs ys fun zs => k (.tup zs) m
    | _ => rfl
  | ref a => cases y with
    | ref b =>
      show (match m.get a, m.get b with | some (.lst xs), some (.lst ys) => Nat.ble (xs.length + ys.length) LIM && k (.ref m.n) (m.alloc (.lst (xs ++ ys))) | _, _ => false) = gL (m.get a) fun xs => gL (m.get b) fun ys => catK xs ys fun zs => k (.ref m.n) (m.alloc (.lst zs))
      cases m.get a with
      | none => rfl
      | some o => cases o with
        | lst xs => cases m.get b with
          | none => rfl
          | some o => cases o with
            | lst ys => exact catK_eq xs ys fun zs => k (.ref m.n) (m.alloc (.lst zs))
            | _ => rfl
        | _ => rfl
    | _ => rfl
  | _ => cases y <;> rfl
def subR : Sem2 := fun x y m k => iD x fun i => iD y fun j => subI i j fun c => k (.int c) m
theorem subD_R : subD = subR := by
  funext x y m k
  cases x with
  | int i => cases y with
    | int j =>
      show (frc (i - j) fun c => k (.int c) m) = subI i j fun c => k (.int c) m
      rw [frc_eq, subI_eq]
    | _ => rfl
  | _ => rfl
def repK (xs : List D) (n : Nat) : (List D → Bool) → Bool := @Nat.rec (fun _ => (List D → Bool) → Bool) (fun k => k []) (fun _ ih k => ih fun r => appK xs r k) n
theorem repK_eq (xs : List D) : ∀ (n : Nat) (k : List D → Bool), k (List.replicate n xs).flatten = repK xs n k
  | 0, k => rfl
  | n + 1, k => by
    show _ = repK xs n fun r => appK xs r k
    rw [← repK_eq xs n, appK_eq, List.replicate_succ, List.flatten_cons]
def mulR : Sem2 := fun x y m k => cD x (fun _ => false) (fun i => iD y fun j => mulI i j fun c => k (.int c) m) (fun _ => false)
  (fun xs => iD y fun j => !xs.isEmpty && ileB 2 j && ileB j 1000 && Nat.ble xs.length 1000 && k (.tup (List.replicate j.toNat xs).flatten) m)
  (fun a => iD y fun j => gL (m.get a) fun xs => bI (smallI j) (tnI j fun n => lenK xs (nat_lit 0) fun l => bI (Nat.ble (Nat.mul l n) (nat_lit 100000)) (repK xs n fun zs => k (.ref m.n) (m.alloc (.lst zs))) false) false) false
theorem mulD_R : mulD = mulR := by
  funext x y m k
  cases x with
  | int i => cases y with
    | int j => exact mulI_eq i j _
    | _ => rfl
  | tup xs => cases y <;> rfl
  | ref a => cases y with
    | int j =>
      show (match m.get a with | some (.lst xs) => smallI j && Nat.ble (xs.length * j.toNat) LIM && k (.ref m.n) (m.alloc (.lst (List.replicate j.toNat xs).flatten)) | _ => false) = gL (m.get a) _
      rw [← gL_eq]
      congr 1; funext xs
      rw [← tnI_eq, toNatB_eq, lenK_eq, ← bI_and, ← bI_and, ← repK_eq xs j.toNat, Bool.and_assoc, show (nat_lit 0) + xs.length = xs.length from Nat.zero_add _]
      rfl
    | _ => rfl
  | _ => cases y <;> rfl
def fdivR : Sem2 := fun x y m k => iD x fun i => iD y fun j => dvI i j fun c => k (.int c) m
theorem fdivD_R : fdivD = fdivR := by
  funext x y m k
  cases x with
  | int i => cases y with
    | int j => exact dvI_eq i j _
    | _ => rfl
  | _ => rfl
def modR : Sem2 := fun x y m k => iD x fun i => iD y fun j => mdI i j fun c => k (.int c) m
theorem modD_R : modD = modR := by
  funext x y m k
  cases x with
  | int i => cases y with
    | int j => exact mdI_eq i j _
    | _ => rfl
  | _ => rfl
def negR : Sem1 := fun x m k => iD x fun i => ngI i fun c => k (.int c) m
theorem negD_R : negD = negR := by
  funext x m k
  cases x with
  | int i => exact ngI_eq i fun c => k (.int c) m
  | _ => rfl

/-! ### comparisons -/
def eqG (x y : D) (m : M) (k : Bool → Bool) : Bool := bI (okR (nat_lit 12) m x) (bI (okR (nat_lit 12) m y) (k (eqBR (nat_lit 12) m x y)) false) false
theorem eqG_eq (x y : D) (m : M) (k : Bool → Bool) : (okD FU m x && okD FU m y && k (eqB FU m x y)) = eqG x y m k := by
  unfold eqG
  rw [← bI_and, ← bI_and, okR_eq, okR_eq, eqBR_eq, Bool.and_assoc]; rfl
def eqR : Sem2 := fun x y m k => cD x (fun _ => eqG x y m fun b => k (.bl b) m) (fun i => cD y (fun _ => eqG x y m fun b => k (.bl b) m) (fun j => k (.bl (eqI i j)) m) (fun _ => eqG x y m fun b => k (.bl b) m) (fun _ => eqG x y m fun b => k (.bl b) m) (fun _ => eqG x y m fun b => k (.bl b) m) (eqG x y m fun b => k (.bl b) m)) (fun _ => eqG x y m fun b => k (.bl b) m) (fun _ => eqG x y m fun b => k (.bl b) m) (fun _ => eqG x y m fun b => k (.bl b) m) (eqG x y m fun b => k (.bl b) m)
theorem eqD_R : eqD = eqR := by
  funext x y m k
  have g := eqG_eq x y m fun b => k (.bl b) m
  cases x with
  | int i => cases y with
    | int j => show k (.bl (ieqB i j)) m = k (.bl (eqI i j)) m; rw [eqI_eq]
    | _ => exact g
  | _ => cases y <;> exact g
def neR2 : Sem2 := fun x y m k => cD x (fun _ => eqG x y m fun b => k (.bl (nB b)) m) (fun i => cD y (fun _ => eqG x y m fun b => k (.bl (nB b)) m) (fun j => k (.bl (nB (eqI i j))) m) (fun _ => eqG x y m fun b => k (.bl (nB b)) m) (fun _ => eqG x y m fun b => k (.bl (nB b)) m) (fun _ => eqG x y m fun b => k (.bl (nB b)) m) (eqG x y m fun b => k (.bl (nB b)) m)) (fun _ => eqG x y m fun b => k (.bl (nB b)) m) (fun _ => eqG x y m fun b => k (.bl (nB b)) m) (fun _ => eqG x y m fun b => k (.bl (nB b)) m) (eqG x y m fun b => k (.bl (nB b)) m)
theorem neD_R : neD = neR2 := by
  funext x y m k
  have g := eqG_eq x y m fun b => k (.bl (nB b)) m
  have g : (okD FU m x && okD FU m y && k (.bl (!eqB FU m x y)) m) = eqG x y m fun b => k (.bl (nB b)) m := by rw [nB_eq]; exact g
  cases x with
  | int i => cases y with
    | int j => show k (.bl (!ieqB i j)) m = k (.bl (nB (eqI i j))) m; rw [eqI_eq, nB_eq]
    | _ => exact g
  | _ => cases y <;> exact g
def ltG (x y : D) (m : M) (k : Bool → Bool) : Bool := bI (okR (nat_lit 12) m x) (bI (okR (nat_lit 12) m y) (bI (alR (nat_lit 12) x y) (k (ltR (nat_lit 12) m x y)) false) false) false
theorem ltG_eq (x y : D) (m : M) (k : Bool → Bool) : (okD FU m x && okD FU m y && alB FU x y && k (ltB FU m x y)) = ltG x y m k := by
  unfold ltG
  rw [← bI_and, ← bI_and, ← bI_and, okR_eq, okR_eq, alR_eq, ltR_eq, Bool.and_assoc, Bool.and_assoc]; rfl
def ltDR : Sem2 := fun x y m k => cD x (fun _ => ltG x y m fun b => k (.bl b) m) (fun i => cD y (fun _ => ltG x y m fun b => k (.bl b) m) (fun j => k (.bl (ltI i j)) m) (fun _ => ltG x y m fun b => k (.bl b) m) (fun _ => ltG x y m fun b => k (.bl b) m) (fun _ => ltG x y m fun b => k (.bl b) m) (ltG x y m fun b => k (.bl b) m)) (fun _ => ltG x y m fun b => k (.bl b) m) (fun _ => ltG x y m fun b => k (.bl b) m) (fun _ => ltG x y m fun b => k (.bl b) m) (ltG x y m fun b => k (.bl b) m)
theorem ltD_R : ltD = ltDR := by
  funext x y m k
  have g := ltG_eq x y m fun b => k (.bl b) m
  cases x with
  | int i => cases y with
    | int j => show k (.bl (iltB i j)) m = k (.bl (ltI i j)) m; rw [ltI_eq]
    | _ => exact g
  | _ => cases y <;> exact g
def gtG (x y : D) (m : M) (k : Kc) : Bool := okD FU m x && okD FU m y && alB FU x y && alB FU y x && k (.bl (ltB FU m y x)) m
def gtR : Sem2 := fun x y m k => cD x (fun _ => gtG x y m k) (fun i => cD y (fun _ => gtG x y m k) (fun j => k (.bl (ltI j i)) m) (fun _ => gtG x y m k) (fun _ => gtG x y m k) (fun _ => gtG x y m k) (gtG x y m k)) (fun _ => gtG x y m k) (fun _ => gtG x y m k) (fun _ => gtG x y m k) (gtG x y m k)
theorem gtD_R : gtD = gtR := by
  funext x y m k
  cases x with
  | int i => cases y with
    | int j => show k (.bl (iltB j i)) m = k (.bl (ltI j i)) m; rw [ltI_eq]
    | _ => rfl
  | _ => cases y <;> rfl
def leR : Sem2 := fun x y m k => iD x fun i => iD y fun j => k (.bl (nB (ltI j i))) m
theorem leD_R : leD = leR := by
  funext x y m k
  cases x with
  | int i => cases y with
    | int j => show k (.bl (ileB i j)) m = k (.bl (nB (ltI j i))) m; rw [← ltI_eq, ← nB_eq]; rfl
    | _ => rfl
  | _ => rfl
def geR : Sem2 := fun x y m k => iD x fun i => iD y fun j => k (.bl (nB (ltI i j))) m
theorem geD_R : geD = geR := by
  funext x y m k
  cases x with
  | int i => cases y with
    | int j => show k (.bl (ileB j i)) m = k (.bl (nB (ltI i j))) m; rw [← ltI_eq, ← nB_eq]; rfl
    | _ => rfl
  | _ => rfl

/-! ### subscripts -/
def plK (xs : List D) (i : Int) (k : Nat → Bool) : Bool := @Int.rec (fun _ => Bool) (fun n => lenK xs (nat_lit 0) fun l => bI (Nat.ble (Nat.succ n) l) (k n) false) (fun n => lenK xs (nat_lit 0) fun l => bI (Nat.ble (Nat.succ n) l) (k (Nat.sub (Nat.sub l (nat_lit 1)) n)) false) i
theorem plK_eq (xs : List D) (i : Int) (k : Nat → Bool) : (match plI xs.length i with | some p => k p | none => false) = plK xs i k := by
  cases i with
  | ofNat n =>
    show (match (match Nat.blt n xs.length with | true => some n | false => none) with | some p => k p | none => false) = lenK xs 0 fun l => bI (Nat.blt n l) (k n) false
    rw [lenK_eq, Nat.zero_add]
    cases Nat.blt n xs.length <;> rfl
  | negSucc n =>
    show (match (match Nat.blt n xs.length with | true => some (xs.length - 1 - n) | false => none) with | some p => k p | none => false) = lenK xs 0 fun l => bI (Nat.blt n l) (k (l - 1 - n)) false
    rw [lenK_eq, Nat.zero_add]
    cases Nat.blt n xs.length <;> rfl
def atK (xs : List D) (i : Int) (k : D → Bool) : Bool := @Int.rec (fun _ => Bool) (fun n => nthK xs n false k) (fun n => lenK xs (nat_lit 0) fun l => bI (Nat.ble (Nat.succ n) l) (nthK xs (Nat.sub (Nat.sub l (nat_lit 1)) n) false k) false) i
theorem atK_eq (xs : List D) (i : Int) (k : D → Bool) : atD xs i k = atK xs i k := by
  cases i with
  | ofNat n =>
    show (match (match Nat.blt n xs.length with | true => some n | false => none) with | none => false | some j => (match nthD xs j with | some d => k d | none => false)) = nthK xs n false k
    rw [← nthK_eq]
    cases h : Nat.blt n xs.length with
    | true => rfl
    | false =>
      rw [blt_iff] at h
      have h : xs.length ≤ n := by simpa using h
      rw [nthD_lt h]
  | negSucc n =>
    show (match (match Nat.blt n xs.length with | true => some (xs.length - 1 - n) | false => none) with | none => false | some j => (match nthD xs j with | some d => k d | none => false)) = lenK xs 0 fun l => bI (Nat.blt n l) (nthK xs (l - 1 - n) false k) false
    rw [lenK_eq, Nat.zero_add, ← nthK_eq]
    cases Nat.blt n xs.length <;> rfl
def ixR : Sem2 := fun x y m k => cD x (fun _ => false) (fun _ => false) (fun z => ixD (.str z) y m k) (fun xs => iD y fun i => atK xs i fun d => k d m)
  (fun a => gO (m.get a) (fun xs => iD y fun i => atK xs i fun d => k d m) (fun kvs => (match keyD y with | some j => (match lookK kvs j with | some d => k d m | none => false) | none => false)) (fun kvs => (match keyD y with | some j => (match lookK kvs j with | some d => k d m | none => false) | none => false)) false) false
theorem ixD_R : ixD = ixR := by
  funext x y m k
  cases x with
  | tup xs => cases y with
    | int i => exact atK_eq xs i _
    | _ => rfl
  | ref a =>
    unfold ixD ixR
    show _ = gO (m.get a) _ _ _ _
    dsimp only
    cases m.get a with
    | none => rfl
    | some o => cases o with
      | lst xs => cases y with
        | int i => exact atK_eq xs i _
        | _ => rfl
      | _ => rfl
  | _ => rfl
def setDR (o i v : D) (m : M) (k : M → Bool) : Bool := rD o fun a => bI (Nat.ble m.rn a) (gO (m.get a) (fun xs => iD i fun j => plK xs j fun p => k (m.set a (.lst (setR xs p v)))) (fun kvs => (match keyD i with | some j => Nat.ble kvs.length LIM && k (m.set a (.dic (putD kvs j v))) | none => false)) (fun _ => false) false) false
theorem setDR_eq (o i v : D) (m : M) (k : M → Bool) : setD o i v m k = setDR o i v m k := by
  cases o with
  | ref a =>
    unfold setD setDR
    show _ = bI (Nat.ble m.rn a) (gO (m.get a) _ _ _ _) false
    rw [← bI_and]
    dsimp only
    congr 1
    cases m.get a with
    | none => rfl
    | some o => cases o with
      | lst xs => cases i with
        | int j =>
          show (match plI xs.length j with | some p => k (m.set a (.lst (xs.set p v))) | none => false) = plK xs j fun p => k (m.set a (.lst (setR xs p v)))
          rw [← plK_eq]
          cases plI xs.length j with
          | none => rfl
          | some p => show k _ = k _; rw [← setR_eq, setE_eq]
        | _ => rfl
      | _ => rfl
  | _ => rfl
def sIxR (n d : Nat) (o : Option Int) : Nat := @Option.rec Int (fun _ => Nat) d (fun v => @Int.rec (fun _ => Nat) (fun a => @Bool.rec (fun _ => Nat) n a (Nat.ble a n)) (fun a => Nat.sub n (Nat.succ a)) v) o
theorem sIxR_eq (n d : Nat) (o : Option Int) : HT.sIx n d o = sIxR n d o := by
  cases o with
  | none => rfl
  | some v => cases v with
    | ofNat a =>
      show HT.sIx n d (some (a : Int)) = @Bool.rec (fun _ => Nat) n a (Nat.ble a n)
      rw [HT.sIx_nat]
      cases h : Nat.ble a n with
      | true => exact Nat.min_eq_left (Nat.le_of_ble_eq_true h)
      | false => exact Nat.min_eq_right (Nat.le_of_lt (Nat.gt_of_not_le (Nat.not_le_of_not_ble_eq_true (by rw [h]; decide))))
    | negSucc a =>
      show (if (Int.negSucc a) < 0 then ((Int.negSucc a) + (n : Int)).toNat else _) = n - (a + 1)
      rw [if_pos (Int.negSucc_lt_zero a), Int.negSucc_eq]; omega
def dropR (xs : List D) : Nat → List D := @List.rec D (fun _ => Nat → List D) (fun _ => []) (fun x r ih i => @Nat.rec (fun _ => List D) (x :: r) (fun j _ => ih j) i) xs
theorem dropR_eq : ∀ (xs : List D) (i : Nat), xs.drop i = dropR xs i
  | [], i => by cases i <;> rfl
  | x :: r, 0 => rfl
  | x :: r, i + 1 => dropR_eq r i
def takeK (xs : List D) : Nat → (List D → Bool) → Bool := @List.rec D (fun _ => Nat → (List D → Bool) → Bool) (fun _ k => k []) (fun x _ ih i k => @Nat.rec (fun _ => Bool) (k []) (fun j _ => ih j fun r => k (x :: r)) i) xs
theorem takeK_eq : ∀ (xs : List D) (i : Nat) (k : List D → Bool), k (xs.take i) = takeK xs i k
  | [], i, k => by cases i <;> rfl
  | x :: r, 0, k => rfl
  | x :: r, i + 1, k => takeK_eq r i fun r => k (x :: r)
def cutK (xs : List D) (lo hi : Option Int) (k : List D → Bool) : Bool := lenK xs (nat_lit 0) fun n => takeK (dropR xs (sIxR n (nat_lit 0) lo)) (Nat.sub (sIxR n n hi) (sIxR n (nat_lit 0) lo)) k
theorem cutK_eq (xs : List D) (lo hi : Option Int) (k : List D → Bool) : k (cutD xs lo hi) = cutK xs lo hi k := by
  unfold cutD cutK
  rw [lenK_eq, ← takeK_eq, ← dropR_eq, ← sIxR_eq, ← sIxR_eq, show (nat_lit 0) + xs.length = xs.length from Nat.zero_add _]
  rfl
def slR (a : SemE) (lo hi : SemP) : SemE := fun ρ m k kx => a ρ m (fun x m1 => lo ρ m1 (fun l m2 => hi ρ m2 (fun u m3 => cD x (fun _ => false) (fun _ => false) (fun _ => false) (fun xs => cutK xs l u fun ys => k (.tup ys) m3) (fun a => gL (m3.get a) fun xs => cutK xs l u fun ys => k (.ref m3.n) (m3.alloc (.lst ys))) false) kx) kx) kx
theorem slC_R : slC = slR := by
  funext a lo hi ρ m k kx
  unfold slC slR
  congr 1; funext x m1; congr 1; funext l m2; congr 1; funext u m3
  cases x with
  | tup xs => exact cutK_eq xs l u fun ys => k (.tup ys) m3
  | ref a =>
    show _ = gL (m3.get a) fun xs => cutK xs l u fun ys => k (.ref m3.n) (m3.alloc (.lst ys))
    rw [← gL_eq]
    unfold slD
    dsimp only
    cases m3.get a with
    | none => rfl
    | some o => cases o with
      | lst xs => exact cutK_eq xs l u fun ys => k (.ref m3.n) (m3.alloc (.lst ys))
      | _ => rfl
  | _ => rfl
def somePR (a : SemE) : SemP := fun ρ m k kx => a ρ m (fun x m1 => iD x fun i => k (some i) m1) kx
theorem someP_R : someP = somePR := by
  funext a ρ m k kx
  unfold someP somePR
  congr 1; funext x m1; cases x <;> rfl
end
end Ev

set_option Elab.async false
set_option linter.all false
set_option maxRecDepth 100000
set_option maxHeartbeats 2000000
/-! Ev28: the quick form: built-ins, methods, turns, statements, calls. -/
namespace Ev
open PySem PySem.Spec PyProof.Rows L2 HT
noncomputable section

/-! ### built-ins -/
def seqK (d : D) (m : M) (k : List D → Bool) : Bool := cD d (fun _ => false) (fun _ => false) (fun _ => false) k (fun i => gL (m.get i) k) false
theorem seqK_eq (d : D) (m : M) (k : List D → Bool) : (match seqOf d m with | some xs => k xs | none => false) = seqK d m k := by
  cases d with
  | ref i =>
    unfold seqOf
    show _ = gL (m.get i) k
    dsimp only
    cases m.get i with
    | none => rfl
    | some o => cases o <;> rfl
  | _ => rfl
def oneR (ds : List D) (k : D → Bool) : Bool := liR ds false fun d r => liR r (k d) fun _ _ => false
def sortDR (m : M) (ds : List D) (k : List D → Bool) : Bool := liR ds (k []) fun d r => liR r (k [d]) fun _ _ => bI (allR (okR (nat_lit 11) m) ds) (bI (alkR (nat_lit 11) ds) (bI (sbR ds) (lenK ds (nat_lit 0) fun n => bI (Nat.ble n (nat_lit 100000)) (isortK (fun x y => nB (ltR (nat_lit 11) m y x)) ds k) false) false) false) false
theorem sortDR_eq (m : M) (ds : List D) (k : List D → Bool) : sortD m ds k = sortDR m ds k := by
  have key : (ds.all (okD 11 m) && alkB 11 ds && sortableB ds && Nat.ble ds.length LIM && k (isort (fun x y => !ltB 11 m y x) ds)) = bI (allR (okR (nat_lit 11) m) ds) (bI (alkR (nat_lit 11) ds) (bI (sbR ds) (lenK ds (nat_lit 0) fun n => bI (Nat.ble n (nat_lit 100000)) (isortK (fun x y => nB (ltR (nat_lit 11) m y x)) ds k) false) false) false) false := by
    rw [lenK_eq, ← isortK_eq, ← bI_and, ← bI_and, ← bI_and, ← bI_and, Bool.and_assoc, Bool.and_assoc, Bool.and_assoc, show (nat_lit 0) + ds.length = ds.length from Nat.zero_add _, ← allR_eq, ← alkR_eq, ← sbR_eq]
    rw [show okD 11 m = okR (nat_lit 11) m from funext (okR_eq m 11)]
    congr 1; congr 1; congr 1; congr 1; congr 1; congr 1
    funext x y
    rw [ltR_eq, nB_eq]
  cases ds with
  | nil => rfl
  | cons d r => cases r with
    | nil => rfl
    | cons e r => exact key
def sortedR (ds : List D) (m : M) (k : Kc) : Bool := oneR ds fun d => seqK d m fun xs => sortDR m xs fun ys => k (.ref m.n) (m.alloc (.lst ys))
theorem one_ext {f : List D → Bool} {g : D → Bool} (h0 : f [] = false) (h1 : ∀ d, f [d] = g d) (h2 : ∀ d e r, f (d :: e :: r) = false) (ds : List D) : f ds = oneR ds g := by
  cases ds with
  | nil => exact h0
  | cons d r => cases r with
    | nil => exact h1 d
    | cons e r => exact h2 d e r
theorem sortedF_R : sortedF = sortedR := by
  funext ds m k
  refine one_ext (f := fun ds => sortedF ds m k) rfl (fun d => ?_) (fun _ _ _ => rfl) ds
  show (match seqOf d m with | some xs => sortD m xs fun ys => k (.ref m.n) (m.alloc (.lst ys)) | none => false) = _
  rw [← seqK_eq]
  cases seqOf d m with
  | none => rfl
  | some xs => exact sortDR_eq m xs _
def sumK (xs : List D) : Int → (Int → Bool) → Bool := @List.rec D (fun _ => Int → (Int → Bool) → Bool) (fun acc k => k acc) (fun d _ ih acc k => iD d fun i => addI acc i fun c => ih c k) xs
theorem sumK_eq : ∀ (xs : List D) (acc : Int) (k : Int → Bool), sumD xs acc k = sumK xs acc k
  | [], acc, k => rfl
  | d :: r, acc, k => by
    cases d with
    | int i =>
      show frc (acc + i) (fun c => sumD r c k) = addI acc i fun c => sumK r c k
      rw [frc_eq, addI_eq, sumK_eq r]
    | _ => rfl
def sumR (ds : List D) (m : M) (k : Kc) : Bool := oneR ds fun d => seqK d m fun xs => sumK xs (.ofNat (nat_lit 0)) fun c => k (.int c) m
theorem sumF_R : sumF = sumR := by
  funext ds m k
  refine one_ext (f := fun ds => sumF ds m k) rfl (fun d => ?_) (fun _ _ _ => rfl) ds
  show (match seqOf d m with | some xs => sumD xs 0 fun c => k (.int c) m | none => false) = _
  rw [← seqK_eq]
  cases seqOf d m with
  | none => rfl
  | some xs => exact sumK_eq xs _ _
def bokR (m : M) (xs : List D) : Bool := bI (allR (okR (nat_lit 11) m) xs) (bI (alkR (nat_lit 11) xs) (allR (pureR (nat_lit 11)) xs) false) false
theorem bokR_eq (m : M) (xs : List D) : bestOk m xs = bokR m xs := by
  unfold bestOk bokR
  rw [← bI_and, ← bI_and, ← alkR_eq, ← allR_eq, ← allR_eq, Bool.and_assoc, show okD 11 m = okR (nat_lit 11) m from funext (okR_eq m 11), show pureB 11 = pureR (nat_lit 11) from funext (pureR_eq 11)]
def bestR (b : D → D → Bool) (xs : List D) : D → (D → Bool) → Bool := @List.rec D (fun _ => D → (D → Bool) → Bool) (fun x k => k x) (fun y _ ih x k => bI (b y x) (ih y k) (ih x k)) xs
theorem bestR_eq {b b' : D → D → Bool} (h : b = b') : ∀ (xs : List D) (x : D) (k : D → Bool), k (bestD b x xs) = bestR b' xs x k
  | [], x, k => rfl
  | y :: r, x, k => by
    show k (match b y x with | true => bestD b y r | false => bestD b x r) = bI (b' y x) (bestR b' r y k) (bestR b' r x k)
    rw [← bestR_eq h r, ← bestR_eq h r, ← h]
    cases b y x <;> rfl
def maxR (ds : List D) (m : M) (k : Kc) : Bool := liR ds false fun d r => liR r (seqK d m fun xs => liR xs false fun x s => bI (bokR m xs) (bestR (fun a b => ltR (nat_lit 11) m b a) s x fun d => k d m) false)
  fun e s => liR s (iD d fun i => iD e fun j => bI (ltI i j) (k (.int j) m) (k (.int i) m)) fun _ _ => false
theorem mx1 {d : D} {m : M} {k : Kc} {b b' : D → D → Bool} (h : b = b') : (match seqOf d m with | some (x :: xs) => bestOk m (x :: xs) && k (bestD b x xs) m | _ => false) = seqK d m fun xs => liR xs false fun x s => bI (bokR m xs) (bestR b' s x fun d => k d m) false := by
  rw [← seqK_eq]
  cases seqOf d m with
  | none => rfl
  | some xs => cases xs with
    | nil => rfl
    | cons x xs =>
      show (bestOk m (x :: xs) && k (bestD b x xs) m) = bI (bokR m (x :: xs)) (bestR b' xs x fun d => k d m) false
      rw [← bI_and, ← bokR_eq, ← bestR_eq h]
theorem maxF_R : maxF = maxR := by
  funext ds m k
  have h : (fun a b => ltB 11 m b a) = fun a b => ltR (nat_lit 11) m b a := funext fun a => funext fun b => ltR_eq m 11 b a
  cases ds with
  | nil => rfl
  | cons d r => cases r with
    | nil =>
      have hh := mx1 (d := d) (m := m) (k := k) h
      cases d <;> exact hh
    | cons e s => cases s with
      | nil => cases d with
        | int i => cases e with
          | int j =>
            show k (.int (match iltB i j with | true => j | false => i)) m = bI (ltI i j) (k (.int j) m) (k (.int i) m)
            rw [ltI_eq]
            cases ltI i j <;> rfl
          | _ => rfl
        | _ => rfl
      | cons f t => cases d <;> cases e <;> rfl
def minR (ds : List D) (m : M) (k : Kc) : Bool := liR ds false fun d r => liR r (seqK d m fun xs => liR xs false fun x s => bI (bokR m xs) (bestR (fun a b => ltR (nat_lit 11) m a b) s x fun d => k d m) false)
  fun e s => liR s (iD d fun i => iD e fun j => bI (ltI j i) (k (.int j) m) (k (.int i) m)) fun _ _ => false
theorem minF_R : minF = minR := by
  funext ds m k
  have h : (fun a b => ltB 11 m a b) = fun a b => ltR (nat_lit 11) m a b := funext fun a => funext fun b => ltR_eq m 11 a b
  cases ds with
  | nil => rfl
  | cons d r => cases r with
    | nil =>
      have hh := mx1 (d := d) (m := m) (k := k) h
      cases d <;> exact hh
    | cons e s => cases s with
      | nil => cases d with
        | int i => cases e with
          | int j =>
            show k (.int (match iltB j i with | true => j | false => i)) m = bI (ltI j i) (k (.int j) m) (k (.int i) m)
            rw [ltI_eq]
            cases ltI j i <;> rfl
          | _ => rfl
        | _ => rfl
      | cons f t => cases d <;> cases e <;> rfl
def lenFR (ds : List D) (m : M) (k : Kc) : Bool := oneR ds fun d => cD d (fun _ => false) (fun _ => false) (fun z => Nat.ble z.length LIM && natK z.length fun c => k (.int c) m) (fun xs => lenK xs (nat_lit 0) fun n => natK n fun c => k (.int c) m)
  (fun i => gO (m.get i) (fun xs => lenK xs (nat_lit 0) fun n => natK n fun c => k (.int c) m) (fun xs => lenK xs (nat_lit 0) fun n => natK n fun c => k (.int c) m) (fun _ => false) false) false
theorem lenF_R : lenF = lenFR := by
  funext ds m k
  refine one_ext (f := fun ds => lenF ds m k) rfl (fun d => ?_) (fun _ _ _ => rfl) ds
  have h : ∀ {α : Type} (xs : List α), (frc (.ofNat xs.length) fun c => k (.int c) m) = lenK xs (nat_lit 0) fun n => natK n fun c => k (.int c) m := fun xs => by
    rw [lenK_eq, natK_eq, frc_eq, show (nat_lit 0) + xs.length = xs.length from Nat.zero_add _]
  cases d with
  | str z =>
    show (Nat.ble z.length LIM && frc (.ofNat z.length) fun c => k (.int c) m) = (Nat.ble z.length LIM && natK z.length fun c => k (.int c) m)
    rw [frc_eq, natK_eq]
  | tup xs => exact h xs
  | ref i =>
    show (match m.get i with | some (.lst xs) => frc (.ofNat xs.length) fun c => k (.int c) m | some (.dic xs) => frc (.ofNat xs.length) fun c => k (.int c) m | _ => false) = gO (m.get i) _ _ _ _
    cases m.get i with
    | none => rfl
    | some o => cases o with
      | lst xs => exact h xs
      | dic xs => exact h xs
      | _ => rfl
  | _ => rfl
def absR (ds : List D) (m : M) (k : Kc) : Bool := oneR ds fun d => iD d fun i => @Int.rec (fun _ => Bool) (fun n => natK n fun c => k (.int c) m) (fun n => natK (Nat.succ n) fun c => k (.int c) m) i
theorem absF_R : absF = absR := by
  funext ds m k
  refine one_ext (f := fun ds => absF ds m k) rfl (fun d => ?_) (fun d _ _ => by cases d <;> rfl) ds
  cases d with
  | int i =>
    show (frc (match iltB i 0 with | true => -i | false => i) fun c => k (.int c) m) = _
    rw [frc_eq]
    cases i with
    | ofNat n => exact (natK_eq n fun c => k (.int c) m).symm
    | negSucc n => exact (natK_eq (n + 1) fun c => k (.int c) m).symm
  | _ => rfl
def intR (ds : List D) (m : M) (k : Kc) : Bool := oneR ds fun d => cD d (fun b => bI b (k (.int (.ofNat (nat_lit 1))) m) (k (.int (.ofNat (nat_lit 0))) m)) (fun i => k (.int i) m) (fun _ => false) (fun _ => false) (fun _ => false) false
theorem intF_R : intF = intR := by
  funext ds m k
  refine one_ext (f := fun ds => intF ds m k) rfl (fun d => ?_) (fun d _ _ => by cases d <;> rfl) ds
  cases d with
  | bl b => cases b <;> rfl
  | _ => rfl
def trR (d : D) (k : Bool → Bool) : Bool := @D.rec (fun _ => Bool) (fun _ => Bool) false (k false) k (fun i => k (nzI i)) (fun _ => false) (fun _ _ => false) (fun _ => false) (fun _ => false) (fun _ => false) false (fun _ _ => false) false (fun _ _ _ _ => false) d
theorem trR_eq (d : D) (k : Bool → Bool) : (match trD d with | none => false | some b => k b) = trR d k := by
  cases d with
  | int i => exact congrArg k (nzI_eq i)
  | _ => rfl
def anyK (xs : List D) : Bool → (Bool → Bool) → Bool := @List.rec D (fun _ => Bool → (Bool → Bool) → Bool) (fun acc k => k acc) (fun d _ ih acc k => trR d fun b => ih (bI acc true b) k) xs
theorem anyK_eq : ∀ (xs : List D) (acc : Bool) (k : Bool → Bool), (match anyD xs with | some b => k (acc || b) | none => false) = anyK xs acc k
  | [], acc, k => by show k (acc || false) = k acc; rw [Bool.or_false]
  | d :: r, acc, k => by
    show _ = trR d fun b => anyK r (bI acc true b) k
    rw [← trR_eq]
    unfold anyD
    cases trD d with
    | none => rfl
    | some b =>
      dsimp only
      rw [← anyK_eq r, ← bI_or]
      cases anyD r with
      | none => rfl
      | some c => show k (acc || (b || c)) = k ((acc || b) || c); rw [Bool.or_assoc]
def anyR (ds : List D) (m : M) (k : Kc) : Bool := oneR ds fun d => seqK d m fun xs => anyK xs false fun b => k (.bl b) m
theorem anyF_R : anyF = anyR := by
  funext ds m k
  refine one_ext (f := fun ds => anyF ds m k) rfl (fun d => ?_) (fun _ _ _ => rfl) ds
  show (match seqOf d m with | some xs => (match anyD xs with | some b => k (.bl b) m | none => false) | none => false) = _
  rw [← seqK_eq]
  cases seqOf d m with
  | none => rfl
  | some xs =>
    show (match anyD xs with | some b => k (.bl b) m | none => false) = anyK xs false fun b => k (.bl b) m
    rw [← anyK_eq]
    cases anyD xs <;> rfl
def allK (xs : List D) : Bool → (Bool → Bool) → Bool := @List.rec D (fun _ => Bool → (Bool → Bool) → Bool) (fun acc k => k acc) (fun d _ ih acc k => trR d fun b => ih (bI acc b false) k) xs
theorem allK_eq : ∀ (xs : List D) (acc : Bool) (k : Bool → Bool), (match allD xs with | some b => k (acc && b) | none => false) = allK xs acc k
  | [], acc, k => by show k (acc && true) = k acc; rw [Bool.and_true]
  | d :: r, acc, k => by
    show _ = trR d fun b => allK r (bI acc b false) k
    rw [← trR_eq]
    unfold allD
    cases trD d with
    | none => rfl
    | some b =>
      dsimp only
      rw [← allK_eq r, ← bI_and]
      cases allD r with
      | none => rfl
      | some c => show k (acc && (b && c)) = k ((acc && b) && c); rw [Bool.and_assoc]
def allFR (ds : List D) (m : M) (k : Kc) : Bool := oneR ds fun d => seqK d m fun xs => allK xs true fun b => k (.bl b) m
theorem allF_R : allF = allFR := by
  funext ds m k
  refine one_ext (f := fun ds => allF ds m k) rfl (fun d => ?_) (fun _ _ _ => rfl) ds
  show (match seqOf d m with | some xs => (match allD xs with | some b => k (.bl b) m | none => false) | none => false) = _
  rw [← seqK_eq]
  cases seqOf d m with
  | none => rfl
  | some xs =>
    show (match allD xs with | some b => k (.bl b) m | none => false) = allK xs true fun b => k (.bl b) m
    rw [← allK_eq]
    cases allD xs <;> rfl
def listR (ds : List D) (m : M) (k : Kc) : Bool := oneR ds fun d => cD d (fun _ => false) (fun _ => false) (fun _ => false) (fun xs => k (.ref m.n) (m.alloc (.lst xs)))
  (fun i => gO (m.get i) (fun xs => k (.ref m.n) (m.alloc (.lst xs))) (fun kvs => k (.ref m.n) (m.alloc (.lst (kvs.map fun p => kD p.1)))) (fun _ => false) false) false
theorem listF_R : listF = listR := by
  funext ds m k
  refine one_ext (f := fun ds => listF ds m k) rfl (fun d => ?_) (fun d _ _ => by cases d <;> rfl) ds
  cases d with
  | ref i =>
    unfold listF
    show _ = gO (m.get i) _ _ _ _
    dsimp only
    cases m.get i with
    | none => rfl
    | some o => cases o <;> rfl
  | _ => rfl
def tupleR (ds : List D) (m : M) (k : Kc) : Bool := oneR ds fun d => cD d (fun _ => false) (fun _ => false) (fun _ => false) (fun xs => k (.tup xs) m) (fun i => gL (m.get i) fun xs => k (.tup xs) m) false
theorem tupleF_R : tupleF = tupleR := by
  funext ds m k
  refine one_ext (f := fun ds => tupleF ds m k) rfl (fun d => ?_) (fun d _ _ => by cases d <;> rfl) ds
  cases d with
  | ref i => exact gL_eq (m.get i) fun xs => k (.tup xs) m
  | _ => rfl

/-! ### methods -/
def mtR (f : D → List D → M → Kc → Bool) (o : SemE) (a : SemA) : SemE := fun ρ m k kx => o ρ m (fun x m1 => rD x fun i => gL (m1.get i) fun _ => a ρ m1 (fun xs m2 => f x xs m2 k) kx) kx
theorem isLst_eq (x : D) (m : M) (t : Bool) : (isLst x m && t) = rD x fun i => gL (m.get i) fun _ => t := by
  cases x with
  | ref i =>
    unfold isLst
    show _ = gL (m.get i) fun _ => t
    dsimp only
    cases m.get i with
    | none => rfl
    | some o => cases o <;> rfl
  | _ => rfl
theorem mtC_R : mtC = mtR := by
  funext f o a ρ m k kx
  unfold mtC mtR
  congr 1; funext x m1
  exact isLst_eq _ _ _
def mt0R (f : D → List D → M → Kc → Bool) (o : SemE) : SemE := fun ρ m k kx => o ρ m (fun x m1 => rD x fun i => gL (m1.get i) fun _ => f x [] m1 k) kx
theorem mt0C_R : mt0C = mt0R := by
  funext f o ρ m k kx
  unfold mt0C mt0R
  congr 1; funext x m1
  exact isLst_eq _ _ _
def appendR (d : D) (ds : List D) (m : M) (k : Kc) : Bool := rD d fun a => oneR ds fun y => bI (Nat.ble m.rn a) (gL (m.get a) fun xs => lenK xs (nat_lit 0) fun n => bI (Nat.ble n (nat_lit 100000)) (appK xs [y] fun zs => k .non (m.set a (.lst zs))) false) false
theorem appendM_R : appendM = appendR := by
  funext d ds m k
  cases d with
  | ref a =>
    refine one_ext (f := fun ds => appendM (.ref a) ds m k) rfl (fun y => ?_) (fun _ _ _ => rfl) ds
    show (Nat.ble m.rn a && (match m.get a with | some (.lst xs) => Nat.ble xs.length LIM && k .non (m.set a (.lst (xs ++ [y]))) | _ => false)) = _
    rw [bI_and]
    congr 1
    rw [← gL_eq]
    cases m.get a with
    | none => rfl
    | some o => cases o with
      | lst xs =>
        show (Nat.ble xs.length LIM && k .non (m.set a (.lst (xs ++ [y])))) = lenK xs (nat_lit 0) _
        rw [lenK_eq, appK_eq, ← bI_and, show (nat_lit 0) + xs.length = xs.length from Nat.zero_add _]; rfl
      | _ => rfl
  | _ => rfl
def extendR (d : D) (ds : List D) (m : M) (k : Kc) : Bool := rD d fun a => oneR ds fun y => rD y fun b => bI (Nat.ble m.rn a) (gL (m.get a) fun xs => gL (m.get b) fun ys => catK xs ys fun zs => k .non (m.set a (.lst zs))) false
theorem extendM_R : extendM = extendR := by
  funext d ds m k
  cases d with
  | ref a =>
    refine one_ext (f := fun ds => extendM (.ref a) ds m k) rfl (fun y => ?_) (fun d _ _ => by cases d <;> rfl) ds
    cases y with
    | ref b =>
      show (Nat.ble m.rn a && (match m.get a, m.get b with | some (.lst xs), some (.lst ys) => Nat.ble (xs.length + ys.length) LIM && k .non (m.set a (.lst (xs ++ ys))) | _, _ => false)) = bI (Nat.ble m.rn a) (gL (m.get a) fun xs => gL (m.get b) fun ys => catK xs ys fun zs => k .non (m.set a (.lst zs))) false
      rw [bI_and]
      congr 1
      cases m.get a with
      | none => rfl
      | some o => cases o with
        | lst xs => cases m.get b with
          | none => rfl
          | some o => cases o with
            | lst ys => exact catK_eq xs ys fun zs => k .non (m.set a (.lst zs))
            | _ => rfl
        | _ => rfl
    | _ => rfl
  | _ => rfl
def popR (d : D) (ds : List D) (m : M) (k : Kc) : Bool := rD d fun a => liR ds (bI (Nat.ble m.rn a) (gL (m.get a) fun xs => liR xs false fun x r => popK x r fun s l => k l (m.set a (.lst s))) false) fun _ _ => false
theorem popM_R : popM = popR := by
  funext d ds m k
  cases d with
  | ref a => cases ds with
    | nil =>
      show (Nat.ble m.rn a && (match m.get a with | some (.lst xs) => (match lastD xs with | some y => k y (m.set a (.lst xs.dropLast)) | none => false) | _ => false)) = bI (Nat.ble m.rn a) (gL (m.get a) fun xs => liR xs false fun x r => popK x r fun s l => k l (m.set a (.lst s))) false
      rw [bI_and]
      congr 1
      cases m.get a with
      | none => rfl
      | some o => cases o with
        | lst xs => cases xs with
          | nil => rfl
          | cons x r => exact popK_eq x r fun s l => k l (m.set a (.lst s))
        | _ => rfl
    | cons _ _ => rfl
  | _ => cases ds <;> rfl

/-! ### turns -/
def nxTR : Wlk := fun _ c _ ks ki => liR c ks fun x r => ki x r
theorem nxT_R : nxT = nxTR := by
  funext i c m ks ki
  cases c <;> rfl
def nxLR (a : Nat) : Wlk := fun i _ m ks ki => gL (m.get a) fun xs => nthK xs i ks fun d => ki d []
theorem nxL_R : nxL = nxLR := by
  funext a i c m ks ki
  unfold nxL nxLR
  cases m.get a with
  | none => rfl
  | some o => cases o with
    | lst xs => exact nthK_eq xs i ks fun d => ki d []
    | _ => rfl
def nxRR (lo : Int) (n : Nat) : Wlk := fun i _ _ ks ki => bI (Nat.ble (Nat.succ i) n) (addI lo (.ofNat i) fun v => ki (.int v) []) ks
theorem nxR_R (lo : Int) : nxR lo 1 = nxRR lo := by
  funext n i c m ks ki
  show (match Nat.blt i n with | true => frc (lo + (i : Nat) * 1) (fun v => ki (.int v) []) | false => ks) = bI (Nat.blt i n) (addI lo (.ofNat i) fun v => ki (.int v) []) ks
  rw [addI_eq, frc_eq, Int.mul_one]
  cases Nat.blt i n <;> rfl
def srK (s : Sr) (m : M) (k : List D → Bool) : Bool := @Sr.rec (fun _ => Bool) (fun a => gL (m.get a) k) k s
theorem srK_eq (s : Sr) (m : M) (k : List D → Bool) : (match srGet s m with | some xs => k xs | none => false) = srK s m k := by
  cases s with
  | t xs => rfl
  | l a =>
    unfold srGet
    show _ = gL (m.get a) k
    dsimp only
    cases m.get a with
    | none => rfl
    | some o => cases o <;> rfl
def nxER (s : Sr) : Wlk := fun i _ m ks ki => srK s m fun xs => nthK xs i (lenK xs (nat_lit 0) fun n => bI (Nat.beq i n) ks false) fun d => ki (.tup [.int (.ofNat i), d]) []
theorem nxE_R : nxE = nxER := by
  funext s i c m ks ki
  unfold nxE nxER
  rw [← srK_eq]
  cases srGet s m with
  | none => rfl
  | some xs =>
    dsimp only
    rw [← nthK_eq, lenK_eq, ← bI_and, show (nat_lit 0) + xs.length = xs.length from Nat.zero_add _] <;> (cases nthD xs i <;> rfl)
def nxZR (s t : Sr) : Wlk := fun i _ m ks ki => srK s m fun xs => srK t m fun ys => nthK xs i (lenK xs (nat_lit 0) fun n => bI (Nat.ble i n) (lenK ys (nat_lit 0) fun n => bI (Nat.ble i n) ks false) false) fun x =>
  nthK ys i (lenK xs (nat_lit 0) fun n => bI (Nat.ble i n) (lenK ys (nat_lit 0) fun n => bI (Nat.ble i n) ks false) false) fun y => ki (.tup [x, y]) []
theorem nxZ_R : nxZ = nxZR := by
  funext s t i c m ks ki
  unfold nxZ nxZR
  rw [← srK_eq]
  cases srGet s m with
  | none => rfl
  | some xs =>
    dsimp only
    rw [← srK_eq]
    cases srGet t m with
    | none => rfl
    | some ys =>
      dsimp only
      rw [lenK_eq, lenK_eq, ← bI_and, ← bI_and, show (nat_lit 0) + xs.length = xs.length from Nat.zero_add _, show (nat_lit 0) + ys.length = ys.length from Nat.zero_add _, ← nthK_eq]
      cases nthD xs i with
      | none => rfl
      | some x => exact nthK_eq ys i _ fun y => ki (.tup [x, y]) []
def seqIR (e : SemE) : SemI := fun ρ m k kx => e ρ m (fun d m1 => @D.rec (fun _ => Bool) (fun _ => Bool) false false (fun _ => false) (fun _ => false) (fun _ => false) (fun xs _ => k nxTR xs m1) (fun a => gL (m1.get a) fun _ => k (nxLR a) [] m1) (fun _ => false) (fun _ => false) false (fun xs _ => k nxTR xs m1) false (fun _ _ _ _ => false) d) kx
theorem seqI_R : seqI = seqIR := by
  funext e ρ m k kx
  unfold seqI seqIR
  congr 1; funext d m1
  rw [nxT_R, nxL_R]
  cases d with
  | ref a =>
    show _ = gL (m1.get a) fun _ => k (nxLR a) [] m1
    dsimp only
    cases m1.get a with
    | none => rfl
    | some o => cases o <;> rfl
  | _ => rfl
def rng1R (a : SemA) : SemI := fun ρ m k kx => a ρ m (fun xs m1 => oneR xs fun d => iD d fun j => bI (rgR j) (tnI j fun n => k (nxRR (.ofNat (nat_lit 0)) n) [] m1) false) kx
theorem rng1I_R : rng1I = rng1R := by
  funext a ρ m k kx
  unfold rng1I rng1R
  congr 1; funext xs m1
  refine one_ext (f := fun xs => (match xs with | [.int j] => rgOk j && toNatB j fun n => k (nxR 0 1 n) [] m1 | _ => false)) rfl (fun d => ?_) (fun d _ _ => by cases d <;> rfl) xs
  cases d with
  | int j =>
    show (rgOk j && toNatB j fun n => k (nxR 0 1 n) [] m1) = bI (rgR j) (tnI j fun n => k (nxRR (.ofNat (nat_lit 0)) n) [] m1) false
    rw [bI_and, rgR_eq, tnI_eq, nxR_R]; rfl
  | _ => rfl
def rng2R (a : SemA) : SemI := fun ρ m k kx => a ρ m (fun xs m1 => liR xs false fun d r => oneR r fun e => iD d fun i => iD e fun j => bI (rgR i) (bI (rgR j) (subI j i fun z => tnI z fun n => k (nxRR i n) [] m1) false) false) kx
theorem rng2I_R : rng2I = rng2R := by
  funext a ρ m k kx
  unfold rng2I rng2R
  congr 1; funext xs m1
  cases xs with
  | nil => rfl
  | cons d r => cases r with
    | nil => cases d <;> rfl
    | cons e s => cases s with
      | nil => cases d with
        | int i => cases e with
          | int j =>
            show (rgOk i && (rgOk j && toNatB (j - i) fun n => k (nxR i 1 n) [] m1)) = bI (rgR i) (bI (rgR j) (subI j i fun z => tnI z fun n => k (nxRR i n) [] m1) false) false
            rw [bI_and, bI_and, rgR_eq, rgR_eq, subI_eq, tnI_eq, nxR_R]
          | _ => rfl
        | _ => rfl
      | cons f t => cases d <;> cases e <;> rfl
def srOK (d : D) (m : M) (k : Sr → Bool) : Bool := cD d (fun _ => false) (fun _ => false) (fun _ => false) (fun xs => k (.t xs)) (fun a => gL (m.get a) fun _ => k (.l a)) false
theorem srOK_eq (d : D) (m : M) (k : Sr → Bool) : (match srOf d m with | some s => k s | none => false) = srOK d m k := by
  cases d with
  | ref a =>
    unfold srOf
    show _ = gL (m.get a) fun _ => k (.l a)
    dsimp only
    cases m.get a with
    | none => rfl
    | some o => cases o <;> rfl
  | _ => rfl
def enuR (a : SemA) : SemI := fun ρ m k kx => a ρ m (fun xs m1 => oneR xs fun d => srOK d m1 fun s => k (nxER s) [] m1) kx
theorem enuI_R : enuI = enuR := by
  funext a ρ m k kx
  unfold enuI enuR
  congr 1; funext xs m1
  refine one_ext (f := fun xs => (match xs with | [d] => (match srOf d m1 with | some s => k (nxE s) [] m1 | none => false) | _ => false)) rfl (fun d => ?_) (fun d _ _ => rfl) xs
  rw [nxE_R]
  exact srOK_eq d m1 fun s => k (nxER s) [] m1
def zipR (a : SemA) : SemI := fun ρ m k kx => a ρ m (fun xs m1 => liR xs false fun d r => oneR r fun e => srOK d m1 fun s => srOK e m1 fun t => k (nxZR s t) [] m1) kx
theorem zipI_R : zipI = zipR := by
  funext a ρ m k kx
  unfold zipI zipR
  congr 1; funext xs m1
  cases xs with
  | nil => rfl
  | cons d r => cases r with
    | nil => rfl
    | cons e s => cases s with
      | nil =>
        show (match srOf d m1 with | some s => (match srOf e m1 with | some t => k (nxZ s t) [] m1 | none => false) | none => false) = srOK d m1 fun s => srOK e m1 fun t => k (nxZR s t) [] m1
        rw [nxZ_R, ← srOK_eq]
        cases srOf d m1 with
        | none => rfl
        | some s => exact srOK_eq e m1 fun t => k (nxZR s t) [] m1
      | cons f t => rfl

def nxEZR (s t : Sr) : Wlk := fun i c m ks ki => nxZR s t i c m ks fun d c' => ki (.tup [.int (.ofNat i), d]) c'
theorem nxEZ_R : nxEZ = nxEZR := by
  funext s t i c m ks ki
  unfold nxEZ nxEZR
  rw [nxZ_R]
def enzR (a : SemA) : SemI := fun ρ m k kx => a ρ m (fun xs m1 => liR xs false fun d r => oneR r fun e => srOK d m1 fun s => srOK e m1 fun t => k (nxEZR s t) [] m1) kx
theorem enzI_R : enzI = enzR := by
  funext a ρ m k kx
  unfold enzI enzR
  congr 1; funext xs m1
  cases xs with
  | nil => rfl
  | cons d r => cases r with
    | nil => rfl
    | cons e s => cases s with
      | nil =>
        show (match srOf d m1 with | some s => (match srOf e m1 with | some t => k (nxEZ s t) [] m1 | none => false) | none => false) = srOK d m1 fun s => srOK e m1 fun t => k (nxEZR s t) [] m1
        rw [nxEZ_R, ← srOK_eq]
        cases srOf d m1 with
        | none => rfl
        | some s => exact srOK_eq e m1 fun t => k (nxEZR s t) [] m1
      | cons f t => rfl

/-! ### statements -/
def gNR (i : Nat) : SemG := fun d ρ _ k => k (setR ρ i d)
theorem gNm_R : gNm = gNR := by
  funext i d ρ m k
  unfold gNm gNR
  rw [setR_eq]
def gTR (gs : SemGs) (n : Nat) : SemG := fun d ρ m k => cD d (fun _ => false) (fun _ => false) (fun _ => false) (fun xs => lenK xs (nat_lit 0) fun l => bI (Nat.beq l n) (gs xs ρ m k) false) (fun a => gL (m.get a) fun xs => lenK xs (nat_lit 0) fun l => bI (Nat.beq l n) (gs xs ρ m k) false) false
theorem gTp_R : gTp = gTR := by
  funext gs n d ρ m k
  have h : ∀ xs : List D, (Nat.beq xs.length n && gs xs ρ m k) = lenK xs (nat_lit 0) fun l => bI (Nat.beq l n) (gs xs ρ m k) false := fun xs => by
    rw [lenK_eq, ← bI_and, show (nat_lit 0) + xs.length = xs.length from Nat.zero_add _]
  cases d with
  | tup xs => exact h xs
  | ref a =>
    show (match m.get a with | some (.lst xs) => Nat.beq xs.length n && gs xs ρ m k | _ => false) = gL (m.get a) _
    rw [← gL_eq]
    congr 1; funext xs
    exact h xs
  | _ => rfl
def gsNR : SemGs := fun ds ρ _ k => liR ds (k ρ) fun _ _ => false
theorem gsN_R : gsN = gsNR := by
  funext ds ρ m k
  cases ds <;> rfl
def gsCR (g : SemG) (gs : SemGs) : SemGs := fun ds ρ m k => liR ds false fun d r => g d ρ m fun ρ1 => gs r ρ1 m k
theorem gsC_R : gsC = gsCR := by
  funext g gs ds ρ m k
  cases ds <;> rfl
def ifSR (t : SemT) (a b : SemS) : SemS := fun ρ m nx bk ct rt kx => t ρ m (fun c m1 => bI c (a ρ m1 nx bk ct rt kx) (b ρ m1 nx bk ct rt kx)) (fun c m1 => kx c ρ m1)
theorem ifS_R : ifS = ifSR := by
  funext t a b ρ m nx bk ct rt kx
  unfold ifS ifSR
  congr 1; funext c m1; cases c <;> rfl
def setSR (o i e : SemE) : SemS := fun ρ m nx _ _ _ kx => e ρ m (fun v m1 => o ρ m1 (fun x m2 => i ρ m2 (fun y m3 => setDR x y v m3 fun m4 => nx ρ m4) (fun c m4 => kx c ρ m4)) (fun c m4 => kx c ρ m4)) (fun c m1 => kx c ρ m1)
theorem setSC_R : setSC = setSR := by
  funext o i e ρ m nx bk ct rt kx
  unfold setSC setSR
  congr 1; funext v m1; congr 1; funext x m2; congr 1; funext y m3
  exact setDR_eq _ _ _ _ _
def sw2R (o1 i1 o2 i2 e : SemE) : SemS := fun ρ m nx _ _ _ kx => e ρ m (fun d m1 => tD d fun xs => liR xs false fun x r => oneR r fun y => o1 ρ m1 (fun p m2 => i1 ρ m2 (fun q m3 => setDR p q x m3 fun m4 => o2 ρ m4 (fun p2 m5 => i2 ρ m5 (fun q2 m6 => setDR p2 q2 y m6 fun m7 => nx ρ m7) (fun c m1 => kx c ρ m1)) (fun c m1 => kx c ρ m1)) (fun c m1 => kx c ρ m1)) (fun c m1 => kx c ρ m1)) (fun c m1 => kx c ρ m1)
theorem sw2C_R : sw2C = sw2R := by
  funext o1 i1 o2 i2 e ρ m nx bk ct rt kx
  unfold sw2C sw2R
  congr 1; funext d m1
  have hs : setD = setDR := by funext o i v m k; exact setDR_eq o i v m k
  rw [← hs]
  cases d with
  | tup xs => cases xs with
    | nil => rfl
    | cons x r => cases r with
      | nil => rfl
      | cons y s => cases s <;> rfl
  | _ => rfl
def par2R (i j : Nat) (a : SemA) : SemS := fun ρ m nx _ _ _ kx => a ρ m (fun xs m1 => liR xs false fun x r => oneR r fun y => nx (setR (setR ρ i x) j y) m1) (fun c m1 => kx c ρ m1)
theorem par2C_R : par2C = par2R := by
  funext i j a ρ m nx bk ct rt kx
  unfold par2C par2R
  congr 1; funext xs m1
  cases xs with
  | nil => rfl
  | cons x r => cases r with
    | nil => rfl
    | cons y s => cases s with
      | nil => show nx (setE (setE ρ i x) j y) m1 = nx (setR (setR ρ i x) j y) m1; rw [setR_eq, setR_eq]
      | cons _ _ => rfl
def par3R (i j l : Nat) (a : SemA) : SemS := fun ρ m nx _ _ _ kx => a ρ m (fun xs m1 => liR xs false fun x r => liR r false fun y r => oneR r fun z => nx (setR (setR (setR ρ i x) j y) l z) m1) (fun c m1 => kx c ρ m1)
theorem par3C_R : par3C = par3R := by
  funext i j l a ρ m nx bk ct rt kx
  unfold par3C par3R
  congr 1; funext xs m1
  cases xs with
  | nil => rfl
  | cons x r => cases r with
    | nil => rfl
    | cons y s => cases s with
      | nil => rfl
      | cons z u => cases u with
        | nil => show nx (setE (setE (setE ρ i x) j y) l z) m1 = nx (setR (setR (setR ρ i x) j y) l z) m1; rw [setR_eq, setR_eq, setR_eq]
        | cons _ _ => rfl
theorem unR_eq (ρ : Env) (i : Nat) (f : D → Bool) : (match ρ[i]? with | none => false | some .und => false | some x => f x) = nthK ρ i false fun x => unR x (f x) := by
  induction ρ generalizing i with
  | nil => rfl
  | cons x r ih => cases i with
    | zero => cases x <;> rfl
    | succ j => exact ih j
def augR (i : Nat) (f : Sem2) (e : SemE) : SemS := fun ρ m nx _ _ _ kx => nthK ρ i false fun x => unR x (e ρ m (fun y m1 => f x y m1 fun z m2 => nx (setR ρ i z) m2) (fun c m1 => kx c ρ m1))
theorem augC_R : augC = augR := by
  funext i f e ρ m nx bk ct rt kx
  unfold augC augR
  rw [← unR_eq]
  have h : ∀ x, (e ρ m (fun y m1 => f x y m1 fun z m2 => nx (setE ρ i z) m2) (fun c m1 => kx c ρ m1)) = (e ρ m (fun y m1 => f x y m1 fun z m2 => nx (setR ρ i z) m2) (fun c m1 => kx c ρ m1)) := fun x => by
    congr 1; funext y m1; congr 1; funext z m2; rw [setR_eq]
  cases ρ[i]? with
  | none => rfl
  | some x => cases x with
    | und => rfl
    | _ => exact h _
def augSR (o i : SemE) (f : Sem2) (e : SemE) : SemS := fun ρ m nx _ _ _ kx => o ρ m (fun x m1 => i ρ m1 (fun y m2 => rD x fun _ => ixR x y m2 fun old m3 => e ρ m3 (fun v m4 => f old v m4 fun z m5 => setDR x y z m5 fun m6 => nx ρ m6) (fun c m4 => kx c ρ m4)) (fun c m4 => kx c ρ m4)) (fun c m4 => kx c ρ m4)
theorem augSC_R : augSC = augSR := by
  funext o i f e ρ m nx bk ct rt kx
  unfold augSC augSR
  congr 1; funext x m1; congr 1; funext y m2
  rw [← ixD_R]
  cases x with
  | ref a =>
    show (ixD (.ref a) y m2 fun old m3 => e ρ m3 (fun v m4 => f old v m4 fun z m5 => setD (.ref a) y z m5 fun m6 => nx ρ m6) fun c m4 => kx c ρ m4) = ixD (.ref a) y m2 fun old m3 => e ρ m3 (fun v m4 => f old v m4 fun z m5 => setDR (.ref a) y z m5 fun m6 => nx ρ m6) fun c m4 => kx c ρ m4
    congr 1; funext old m3
    congr 1; funext v m4; congr 1; funext z m5
    exact setDR_eq _ _ _ _ _
  | _ => rfl
def forLR (w : Wlk) (g : SemG) (b : SemS) (nx : KN) (rt : Kc) (kx : KX) (n : Nat) : Nat → List D → Env → M → Bool :=
  @Nat.rec (fun _ => Nat → List D → Env → M → Bool) (fun _ _ _ _ => false) (fun _ ih i c ρ m => w i c m (nx ρ m) fun d c' => g d ρ m fun ρ1 => b ρ1 m (fun ρ2 m2 => ih (Nat.succ i) c' ρ2 m2) nx (fun ρ2 m2 => ih (Nat.succ i) c' ρ2 m2) rt kx) n
def forR (it : SemI) (g : SemG) (b : SemS) : SemS := fun ρ m nx _ _ rt kx => it ρ m (fun w c m1 => forLR w g b nx rt kx (nat_lit 100000) (nat_lit 0) c ρ m1) (fun c m1 => kx c ρ m1)
theorem forLR_eq (w : Wlk) (g : SemG) (b : SemS) (nx : KN) (rt : Kc) (kx : KX) (n : Nat) : forL w g b nx rt kx n = forLR w g b nx rt kx n := rfl
theorem forC_R' (F : Nat) (e : FUEL = F) : forC = fun (it : SemI) (g : SemG) (b : SemS) ρ m nx _ _ rt kx => it ρ m (fun w c m1 => forLR w g b nx rt kx F (nat_lit 0) c ρ m1) (fun c m1 => kx c ρ m1) := by
  show (fun (it : SemI) (g : SemG) (b : SemS) ρ m nx _ _ rt kx => it ρ m (fun w c m1 => forL w g b nx rt kx FUEL 0 c ρ m1) (fun c m1 => kx c ρ m1)) = _
  rw [e]
  rfl
theorem forC_R : forC = forR := forC_R' (nat_lit 100000) rfl
def whlLR (t : SemT) (b : SemS) (nx : KN) (rt : Kc) (kx : KX) (n : Nat) : Env → M → Bool :=
  @Nat.rec (fun _ => Env → M → Bool) (fun _ _ => false) (fun _ ih ρ m => t ρ m (fun c m1 => bI c (b ρ m1 ih nx ih rt kx) (nx ρ m1)) (fun c m1 => kx c ρ m1)) n
theorem whlLR_eq (t : SemT) (b : SemS) (nx : KN) (rt : Kc) (kx : KX) : ∀ (n : Nat), whlL t b nx rt kx n = whlLR t b nx rt kx n
  | 0 => rfl
  | n + 1 => by
    have ih := whlLR_eq t b nx rt kx n
    funext ρ m
    show t ρ m (fun c m1 => match c with | true => b ρ m1 (whlL t b nx rt kx n) nx (whlL t b nx rt kx n) rt kx | false => nx ρ m1) (fun c m1 => kx c ρ m1) = t ρ m (fun c m1 => bI c (b ρ m1 (whlLR t b nx rt kx n) nx (whlLR t b nx rt kx n) rt kx) (nx ρ m1)) (fun c m1 => kx c ρ m1)
    rw [ih]
    congr 1; funext c m1; cases c <;> rfl
def whlR (t : SemT) (b : SemS) : SemS := fun ρ m nx _ _ rt kx => whlLR t b nx rt kx (nat_lit 100000) ρ m
theorem whlC_R' (F : Nat) (e : FUEL = F) : whlC = fun (t : SemT) (b : SemS) ρ m nx _ _ rt kx => whlLR t b nx rt kx F ρ m := by
  subst e
  funext t b ρ m nx bk ct rt kx
  unfold whlC
  rw [whlLR_eq]
theorem whlC_R : whlC = whlR := whlC_R' (nat_lit 100000) rfl
def wipR (ρ : Env) (vs : List Nat) : Env := @List.rec Nat (fun _ => Env) ρ (fun v _ ih => setR ih v .und) vs
theorem wipR_eq (ρ : Env) : ∀ vs : List Nat, wipeE ρ vs = wipR ρ vs
  | [] => rfl
  | v :: vs => by
    show setE (wipeE ρ vs) v .und = setR (wipR ρ vs) v .und
    rw [setR_eq, wipR_eq ρ vs]
def lcLR (w : Wlk) (g : SemG) (tt : SemT) (te : SemE) (ρ0 : Env) (fin : List D → M → Bool) (n : Nat) : Nat → List D → List D → M → Bool :=
  @Nat.rec (fun _ => Nat → List D → List D → M → Bool) (fun _ _ _ _ => false) (fun _ ih i c acc m => w i c m (fin acc m) fun d c' => g d ρ0 m fun ρ1 => tt ρ1 m (fun b m1 => bI b (te ρ1 m1 (fun v m2 => ih (Nat.succ i) c' (v :: acc) m2) fun _ _ => false) (ih (Nat.succ i) c' acc m1)) fun _ _ => false) n
theorem lcLR_eq (w : Wlk) (g : SemG) (tt : SemT) (te : SemE) (ρ0 : Env) (fin : List D → M → Bool) : ∀ n : Nat, lcL w g tt te ρ0 fin n = lcLR w g tt te ρ0 fin n
  | 0 => rfl
  | n + 1 => by
    have ih := lcLR_eq w g tt te ρ0 fin n
    funext i c acc m
    show (w i c m (fin acc m) fun d c' => g d ρ0 m fun ρ1 => tt ρ1 m (fun b m1 => match b with | true => te ρ1 m1 (fun v m2 => lcL w g tt te ρ0 fin n (i + 1) c' (v :: acc) m2) fun _ _ => false | false => lcL w g tt te ρ0 fin n (i + 1) c' acc m1) fun _ _ => false) =
      w i c m (fin acc m) fun d c' => g d ρ0 m fun ρ1 => tt ρ1 m (fun b m1 => bI b (te ρ1 m1 (fun v m2 => lcLR w g tt te ρ0 fin n (i + 1) c' (v :: acc) m2) fun _ _ => false) (lcLR w g tt te ρ0 fin n (i + 1) c' acc m1)) fun _ _ => false
    rw [ih]
    congr 1; funext d c'; congr 1; funext ρ1; congr 1; funext b m1; cases b <;> rfl
def lcR2 (it : SemI) (g : SemG) (tt : SemT) (te : SemE) (own : List Nat) : SemE := fun ρ m k kx => it ρ m (fun w c m1 => lcLR w g tt te (wipR ρ own) (fun acc m2 => revK acc [] fun xs => k (.ref m2.n) (m2.alloc (.lst xs))) (nat_lit 100000) (nat_lit 0) c [] m1) kx
theorem lcC_R' (F : Nat) (e : FUEL = F) : lcC = fun (it : SemI) (g : SemG) (tt : SemT) (te : SemE) (own : List Nat) ρ m k kx => it ρ m (fun w c m1 => lcLR w g tt te (wipR ρ own) (fun acc m2 => revK acc [] fun xs => k (.ref m2.n) (m2.alloc (.lst xs))) F (nat_lit 0) c [] m1) kx := by
  subst e
  funext it g tt te own ρ m k kx
  unfold lcC
  congr 1; funext w c m1
  rw [lcLR_eq, wipR_eq]
theorem lcC_R : lcC = lcR2 := lcC_R' (nat_lit 100000) rfl

/-! ### calls -/
def mkR (n pad : Nat) (b : SemS) : SemF := fun ds m k kx => lenK ds (nat_lit 0) fun l => bI (Nat.beq l n) (appK ds (undN pad) fun ρ => b ρ m (fun _ m1 => k .non m1) (fun _ _ => false) (fun _ _ => false) k (fun c _ m1 => kx c m1)) false
theorem mkF_R : mkF = mkR := by
  funext n pad b ds m k kx
  unfold mkF mkR
  rw [lenK_eq, appK_eq, ← bI_and, show (nat_lit 0) + ds.length = ds.length from Nat.zero_add _]
def land1 (d : D) (m m' : M) (k : Kc) : Bool := bI (pureR (nat_lit 40) d) (k d m) (cD d (fun _ => k d (m.keep m')) (fun _ => k d (m.keep m')) (fun _ => k d (m.keep m')) (fun _ => k d (m.keep m')) (fun j => bI (Nat.ble (Nat.succ j) m.n) (k d m) (gO (m'.get j) (fun xs => bI (allR (pureR (nat_lit 40)) xs) (k (.ref m.n) (m.alloc (.lst xs))) (k d (m.keep m'))) (fun _ => k d (m.keep m')) (fun _ => k d (m.keep m')) (k d (m.keep m')))) (k d (m.keep m')))
theorem land1_eq (d : D) (m m' : M) (k : Kc) : land0 d m m' k = land1 d m m' k := by
  unfold land0 land1
  rw [← bI_m, show pureB 40 d = pureR (nat_lit 40) d from pureR_eq 40 d]
  cases pureR (nat_lit 40) d with
  | true => rfl
  | false => cases d with
    | ref j =>
      show _ = bI (Nat.blt j m.n) (k (.ref j) m) _
      dsimp only
      cases Nat.blt j m.n with
      | true => rfl
      | false =>
        show _ = gO (m'.get j) _ _ _ _
        dsimp only
        cases m'.get j with
        | none => rfl
        | some o => cases o with
          | lst xs =>
            show _ = bI (allR (pureR (nat_lit 40)) xs) (k (.ref m.n) (m.alloc (.lst xs))) (k (.ref j) (m.keep m'))
            dsimp only
            rw [allR_eq, show pureB 40 = pureR (nat_lit 40) from funext (pureR_eq 40)]
            cases allR (pureR (nat_lit 40)) xs <;> rfl
          | _ => rfl
    | _ => rfl
def landR (d : D) (m m' : M) (k : Kc) : Bool := @Nat.rec (fun _ => Bool) (land1 d (m.at (nat_lit 0)) m' k) (fun t _ => land1 d (m.at (Nat.succ t)) m' k) m'.tk
theorem landR_eq (d : D) (m m' : M) (k : Kc) : landD d m m' k = landR d m m' k := by
  unfold landD landR
  rw [frcN_eq]
  cases m'.tk with
  | zero => exact land1_eq _ _ _ _
  | succ t => exact land1_eq _ _ _ _
def pureFR (f : SemF) : SemF := fun ds m k kx => f ds m.sub (fun d m' => landR d m m' k) (fun c m' => frcN m'.tk fun t => kx c (m.at t))
theorem pureF_R : pureF = pureFR := by
  funext f ds m k kx
  unfold pureF pureFR
  congr 1; funext d m'; exact landR_eq _ _ _ _
def allBR (n : Nat) (f : Nat → Bool) : Bool := @Nat.rec (fun _ => Bool) true (fun i ih => bI (f i) ih false) n
theorem allBR_eq (f : Nat → Bool) : ∀ n : Nat, allB n f = allBR n f
  | 0 => rfl
  | n + 1 => by
    show (f n && allB n f) = bI (f n) (allBR n f) false
    rw [allBR_eq f n, bI_and]
def isTp (o : Option O) (t : Bool) : Bool := @Option.rec O (fun _ => Bool) false (fun o => @O.rec (fun _ => Bool) (fun _ => false) (fun _ => false) (fun _ => false) (fun _ => false) (fun _ => t) false o) o
def takeR : SemF := fun ds m k _ => liR ds false fun d r => oneR r fun e => rD d fun t => iD e fun i => @Int.rec (fun _ => Bool) (fun n => isTp (m.get t) (bI (Nat.ble (nat_lit 1) n) (bI (Nat.ble n (nat_lit 1000000)) (bI (Nat.ble m.tk (nat_lit 100000)) (frcN (Nat.succ m.tk) fun c => allBR n fun d => k (.int (.ofNat d)) (m.at c)) false) false) false)) (fun _ => false) i
theorem takeF_R : takeF = takeR := by
  funext ds m k kx
  cases ds with
  | nil => rfl
  | cons d r => cases r with
    | nil => cases d <;> rfl
    | cons e s => cases s with
      | nil => cases d with
        | ref t => cases e with
          | int i => cases i with
            | ofNat n =>
              show (match m.get t with | some (.tape _) => Nat.blt 0 n && (Nat.ble n 1000000 && (Nat.ble m.tk LIM && frcN (m.tk + 1) fun c => allB n fun d => k (.int (.ofNat d)) (m.at c))) | _ => false) = isTp (m.get t) _
              cases m.get t with
              | none => rfl
              | some o => cases o with
                | tape c =>
                  show (Nat.blt 0 n && (Nat.ble n 1000000 && (Nat.ble m.tk LIM && frcN (m.tk + 1) fun c => allB n fun d => k (.int (.ofNat d)) (m.at c)))) = bI (Nat.blt 0 n) (bI (Nat.ble n 1000000) (bI (Nat.ble m.tk LIM) (frcN (m.tk + 1) fun c => allBR n fun d => k (.int (.ofNat d)) (m.at c)) false) false) false
                  rw [bI_and, bI_and, bI_and]
                  congr 3
                  congr 1; funext c
                  exact allBR_eq _ n
                | _ => rfl
            | negSucc n => rfl
          | _ => rfl
        | _ => cases e <;> rfl
      | cons f t => cases d with
        | ref a => cases e with
          | int i => cases i <;> rfl
          | _ => rfl
        | _ => rfl
def blkR (t : SemS) (ws : List Nat) (cnt : Nat) : SemS := fun ρ m nx _ _ rt kx =>
  bI (t ρ m.sub (fun ρ1 m1 => bI (Nat.ble m1.tk cnt) (sameE (wipR ρ ws) ρ1) false) (fun _ _ => false) (fun _ _ => false) (fun d m1 => landR d m m1 rt) (fun _ _ _ => false)) (nx (wipR ρ ws) (m.at cnt)) false
theorem blkC_R : blkC = blkR := by
  funext t ws cnt ρ m nx bk ct rt kx
  unfold blkC blkR
  rw [bI_and]
  congr 1
  · congr 1
    · funext ρ1 m1; rw [bI_and, wipR_eq]
    · funext d m1; exact landR_eq _ _ _ _
  · rw [wipR_eq]
end
end Ev

set_option Elab.async false
set_option linter.all false
set_option maxRecDepth 100000
set_option maxHeartbeats 2000000
/-! Ev29: the quick form: in-place arithmetic. -/
namespace Ev
open PySem PySem.Spec PyProof.Rows L2 HT
noncomputable section
def iaddR : Sem2 := fun x y m k => iD x fun i => iD y fun j => addI i j fun c => k (.int c) m
theorem iaddD_R : ipT.iaddD = iaddR := by
  funext x y m k
  cases x with
  | int i => cases y with
    | int j =>
      show (frc (i + j) fun c => k (.int c) m) = addI i j fun c => k (.int c) m
      rw [frc_eq, addI_eq]
    | _ => rfl
  | _ => rfl
def imulR : Sem2 := fun x y m k => iD x fun i => iD y fun j => mulI i j fun c => k (.int c) m
theorem imulD_R : ipT.imulD = imulR := by
  funext x y m k
  cases x with
  | int i => cases y with
    | int j => exact mulI_eq i j _
    | _ => rfl
  | _ => rfl
end
end Ev

set_option Elab.async false
set_option linter.all false
set_option maxRecDepth 100000
set_option maxHeartbeats 2000000
/-! Ev30: the combinators over any form of the row of variables; that they are the same. -/
namespace Ev
open PySem PySem.Spec PyProof.Rows L2 HT
noncomputable section
abbrev XE (ε : Type) := ε → M → Kc → Kx → Bool
abbrev XA (ε : Type) := ε → M → (List D → M → Bool) → Kx → Bool
abbrev XT (ε : Type) := ε → M → (Bool → M → Bool) → Kx → Bool
abbrev XI (ε : Type) := ε → M → (Wlk → List D → M → Bool) → Kx → Bool
abbrev XP (ε : Type) := ε → M → (Option Int → M → Bool) → Kx → Bool
abbrev XG (ε : Type) := D → ε → M → (ε → Bool) → Bool
abbrev XGs (ε : Type) := List D → ε → M → (ε → Bool) → Bool
abbrev XS (ε : Type) := ε → M → (ε → M → Bool) → (ε → M → Bool) → (ε → M → Bool) → Kc → (Nat → ε → M → Bool) → Bool
abbrev XW (ε : Type) := ε → (ε → Bool) → Bool
abbrev XPr (ε : Type) := ε → M → (List (Key × D) → M → Bool) → Kx → Bool
section
variable {ε : Type} (e : Env → ε) (N : Nat)
def RE (r : SemE) (t : XE ε) : Prop := ∀ ρ : Env, ρ.length = N → t (e ρ) = r ρ
def RA (r : SemA) (t : XA ε) : Prop := ∀ ρ : Env, ρ.length = N → t (e ρ) = r ρ
def RT (r : SemT) (t : XT ε) : Prop := ∀ ρ : Env, ρ.length = N → t (e ρ) = r ρ
def RI (r : SemI) (t : XI ε) : Prop := ∀ ρ : Env, ρ.length = N → t (e ρ) = r ρ
def RP (r : SemP) (t : XP ε) : Prop := ∀ ρ : Env, ρ.length = N → t (e ρ) = r ρ
def RPr (r : SemPr) (t : XPr ε) : Prop := ∀ ρ : Env, ρ.length = N → t (e ρ) = r ρ
def RG (r : SemG) (t : XG ε) : Prop := ∀ ρ : Env, ρ.length = N → ∀ d m k k', (∀ ρ' : Env, ρ'.length = N → k' (e ρ') = k ρ') → t d (e ρ) m k' = r d ρ m k
def RGs (r : SemGs) (t : XGs ε) : Prop := ∀ ρ : Env, ρ.length = N → ∀ d m k k', (∀ ρ' : Env, ρ'.length = N → k' (e ρ') = k ρ') → t d (e ρ) m k' = r d ρ m k
def RN (k : KN) (k' : ε → M → Bool) : Prop := ∀ ρ : Env, ρ.length = N → k' (e ρ) = k ρ
def RX (k : KX) (k' : Nat → ε → M → Bool) : Prop := ∀ (c : Nat) (ρ : Env), ρ.length = N → k' c (e ρ) = k c ρ
def RS (r : SemS) (t : XS ε) : Prop := ∀ ρ : Env, ρ.length = N → ∀ m nx nx' bk bk' ct ct' rt kx kx', RN e N nx nx' → RN e N bk bk' → RN e N ct ct' → RX e N kx kx' → t (e ρ) m nx' bk' ct' rt kx' = r ρ m nx bk ct rt kx
def RW (vs : List Nat) (t : XW ε) : Prop := ∀ ρ : Env, ρ.length = N → ∀ (k : Env → Bool) (k' : ε → Bool), (∀ ρ' : Env, ρ'.length = N → k' (e ρ') = k ρ') → t (e ρ) k' = k (wipR ρ vs)
def RGt (i : Nat) (t : ε → (D → Bool) → Bool) : Prop := ∀ ρ : Env, ρ.length = N → ∀ k, t (e ρ) k = nthK ρ i false k
end
theorem setR_len {ρ : Env} {i : Nat} {d : D} : (setR ρ i d).length = ρ.length := by rw [← setR_eq, setE_eq, List.length_set]
theorem wipR_len {ρ : Env} : ∀ {vs : List Nat}, (wipR ρ vs).length = ρ.length
  | [] => rfl
  | v :: vs => by
    show (setR (wipR ρ vs) v .und).length = _
    rw [setR_len, wipR_len]

/-! ### the combinators -/
section
variable {ε : Type}
def litP (d : D) : XE ε := fun _ m k _ => k d m
def binP (f : Sem2) (a b : XE ε) : XE ε := fun ρ m k kx => a ρ m (fun x m1 => b ρ m1 (fun y m2 => f x y m2 k) kx) kx
def unP (f : Sem1) (a : XE ε) : XE ε := fun ρ m k kx => a ρ m (fun x m1 => f x m1 k) kx
def nilP : XA ε := fun _ m k _ => k [] m
def consP (a : XE ε) (r : XA ε) : XA ε := fun ρ m k kx => a ρ m (fun x m1 => r ρ m1 (fun xs m2 => k (x :: xs) m2) kx) kx
def tupP (a : XA ε) : XE ε := fun ρ m k kx => a ρ m (fun xs m1 => lenK xs (nat_lit 0) fun n => bI (Nat.ble n (nat_lit 100000)) (k (.tup xs) m1) false) kx
def lstP (a : XA ε) : XE ε := fun ρ m k kx => a ρ m (fun xs m1 => lenK xs (nat_lit 0) fun n => bI (Nat.ble n (nat_lit 100000)) (k (.ref m1.n) (m1.alloc (.lst xs))) false) kx
def appP (f : List D → M → Kc → Bool) (a : XA ε) : XE ε := fun ρ m k kx => a ρ m (fun xs m1 => f xs m1 k) kx
def callP (f : SemF) (a : XA ε) : XE ε := fun ρ m k kx => a ρ m (fun xs m1 => f xs m1 k kx) kx
def ifP (t : XT ε) (a b : XE ε) : XE ε := fun ρ m k kx => t ρ m (fun c m1 => bI c (a ρ m1 k kx) (b ρ m1 k kx)) kx
def blP (a : XE ε) : XT ε := fun ρ m k kx => a ρ m (fun x m1 => bD x fun b => k b m1) kx
def notP (a : XT ε) : XT ε := fun ρ m k kx => a ρ m (fun b m1 => k (nB b) m1) kx
def andP (a b : XT ε) : XT ε := fun ρ m k kx => a ρ m (fun c m1 => bI c (b ρ m1 k kx) (k false m1)) kx
def orP (a b : XT ε) : XT ε := fun ρ m k kx => a ρ m (fun c m1 => bI c (k true m1) (b ρ m1 k kx)) kx
def valP (t : XT ε) : XE ε := fun ρ m k kx => t ρ m (fun b m1 => k (.bl b) m1) kx
def truP (a : XE ε) : XT ε := fun ρ m k kx => a ρ m (fun x m1 => truR1 x m1 fun b => k b m1) kx
def orVP (a b : XE ε) : XE ε := fun ρ m k kx => a ρ m (fun x m1 => truR1 x m1 fun c => bI c (k x m1) (b ρ m1 k kx)) kx
def andVP (a b : XE ε) : XE ε := fun ρ m k kx => a ρ m (fun x m1 => truR1 x m1 fun c => bI c (b ρ m1 k kx) (k x m1)) kx
def notVP (a : XE ε) : XE ε := fun ρ m k kx => a ρ m (fun x m1 => truR1 x m1 fun c => k (.bl (nB c)) m1) kx
def chP (f g : Sem2) (a b c : XE ε) : XE ε := fun ρ m k kx => a ρ m (fun x m1 => b ρ m1 (fun y m2 => f x y m2 fun z m3 => bD z fun t => bI t (c ρ m3 (fun w m4 => g y w m4 k) kx) (k (.bl false) m3)) kx) kx
def noPP : XP ε := fun _ m k _ => k none m
def someQ (a : XE ε) : XP ε := fun ρ m k kx => a ρ m (fun x m1 => iD x fun i => k (some i) m1) kx
def slP (a : XE ε) (lo hi : XP ε) : XE ε := fun ρ m k kx => a ρ m (fun x m1 => lo ρ m1 (fun l m2 => hi ρ m2 (fun u m3 => cD x (fun _ => false) (fun _ => false) (fun _ => false) (fun xs => cutK xs l u fun ys => k (.tup ys) m3) (fun a => gL (m3.get a) fun xs => cutK xs l u fun ys => k (.ref m3.n) (m3.alloc (.lst ys))) false) kx) kx) kx
def slsP (a : XE ε) (lo hi st : XP ε) : XE ε := fun ρ m k kx => a ρ m (fun x m1 => lo ρ m1 (fun l m2 => hi ρ m2 (fun u m3 => st ρ m3 (fun o m4 => match o with | some i => slsD x l u i m4 k | none => false) kx) kx) kx) kx
def mtP (f : D → List D → M → Kc → Bool) (o : XE ε) (a : XA ε) : XE ε := fun ρ m k kx => o ρ m (fun x m1 => rD x fun i => gL (m1.get i) fun _ => a ρ m1 (fun xs m2 => f x xs m2 k) kx) kx
def mt0P (f : D → List D → M → Kc → Bool) (o : XE ε) : XE ε := fun ρ m k kx => o ρ m (fun x m1 => rD x fun i => gL (m1.get i) fun _ => f x [] m1 k) kx
def get1P (o a : XE ε) : XE ε := fun ρ m k kx => o ρ m (fun x m1 => isDic x m1 && a ρ m1 (fun y m2 => dlook x y m2 fun r => match r with | some d => k d m2 | none => k .non m2) kx) kx
def get2P (o a b : XE ε) : XE ε := fun ρ m k kx => o ρ m (fun x m1 => isDic x m1 && a ρ m1 (fun y m2 => b ρ m2 (fun z m3 => dlook x y m3 fun r => match r with | some d => k d m3 | none => k z m3) kx) kx) kx
def dnewP : XE ε := fun _ m k _ => k (.ref m.n) (m.alloc (.dic []))
def prsP (ps : List (XE ε × XE ε)) : XPr ε := match ps with
  | [] => fun _ m k _ => k [] m
  | (a, b) :: r => fun ρ m k kx => a ρ m (fun x m1 => match keyD x with | some j => b ρ m1 (fun y m2 => prsP r ρ m2 (fun kvs m3 => k ((j, y) :: kvs) m3) kx) kx | none => false) kx
def dispP (ps : List (XE ε × XE ε)) : XE ε := fun ρ m k kx => prsP ps ρ m (fun kvs m1 => Nat.ble kvs.length 15 && k (.ref m1.n) (m1.alloc (.dic (mergeD kvs [])))) kx
def seqIP (a : XE ε) : XI ε := fun ρ m k kx => a ρ m (fun d m1 => @D.rec (fun _ => Bool) (fun _ => Bool) false false (fun _ => false) (fun _ => false) (fun _ => false) (fun xs _ => k nxTR xs m1) (fun a => gL (m1.get a) fun _ => k (nxLR a) [] m1) (fun _ => false) (fun _ => false) false (fun xs _ => k nxTR xs m1) false (fun _ _ _ _ => false) d) kx
def rng1P (a : XA ε) : XI ε := fun ρ m k kx => a ρ m (fun xs m1 => oneR xs fun d => iD d fun j => bI (rgR j) (tnI j fun n => k (nxRR (.ofNat (nat_lit 0)) n) [] m1) false) kx
def rng2P (a : XA ε) : XI ε := fun ρ m k kx => a ρ m (fun xs m1 => liR xs false fun d r => oneR r fun e => iD d fun i => iD e fun j => bI (rgR i) (bI (rgR j) (subI j i fun z => tnI z fun n => k (nxRR i n) [] m1) false) false) kx
def rng3P (a : XA ε) : XI ε := fun ρ m k kx => a ρ m (fun xs m1 => match xs with
  | [.int i, .int j, .int (.negSucc 0)] => rgOk i && (rgOk j && toNatB (i - j) fun n => k (nxR i (-1) n) [] m1)
  | [.int i, .int j, .int (.ofNat (c + 1))] => Nat.ble c LIM && (Builtin.Range.small i j (.ofNat (c + 1)) && toNatB (Builtin.Range.rangeSize i j (.ofNat (c + 1))) fun n => k (nxR i (.ofNat (c + 1)) n) [] m1)
  | _ => false) kx
def enuP (a : XA ε) : XI ε := fun ρ m k kx => a ρ m (fun xs m1 => oneR xs fun d => srOK d m1 fun s => k (nxER s) [] m1) kx
def zipP (a : XA ε) : XI ε := fun ρ m k kx => a ρ m (fun xs m1 => liR xs false fun d r => oneR r fun e => srOK d m1 fun s => srOK e m1 fun t => k (nxZR s t) [] m1) kx
def enzP (a : XA ε) : XI ε := fun ρ m k kx => a ρ m (fun xs m1 => liR xs false fun d r => oneR r fun e => srOK d m1 fun s => srOK e m1 fun t => k (nxEZR s t) [] m1) kx
def gTP (gs : XGs ε) (n : Nat) : XG ε := fun d ρ m k => cD d (fun _ => false) (fun _ => false) (fun _ => false) (fun xs => lenK xs (nat_lit 0) fun l => bI (Nat.beq l n) (gs xs ρ m k) false) (fun a => gL (m.get a) fun xs => lenK xs (nat_lit 0) fun l => bI (Nat.beq l n) (gs xs ρ m k) false) false
def gsNP : XGs ε := fun ds ρ _ k => liR ds (k ρ) fun _ _ => false
def gsCP (g : XG ε) (gs : XGs ε) : XGs ε := fun ds ρ m k => liR ds false fun d r => g d ρ m fun ρ1 => gs r ρ1 m k
def seqP (a b : XS ε) : XS ε := fun ρ m nx bk ct rt kx => a ρ m (fun ρ1 m1 => b ρ1 m1 nx bk ct rt kx) bk ct rt kx
def passP : XS ε := fun ρ m nx _ _ _ _ => nx ρ m
def brkP : XS ε := fun ρ m _ bk _ _ _ => bk ρ m
def cntP : XS ε := fun ρ m _ _ ct _ _ => ct ρ m
def nevP : XS ε := fun _ _ _ _ _ _ _ => false
def raiseP (c : Nat) : XS ε := fun ρ m _ _ _ _ kx => kx c ρ m
def exprP (a : XE ε) : XS ε := fun ρ m nx _ _ _ kx => a ρ m (fun _ m1 => nx ρ m1) (fun c m1 => kx c ρ m1)
def retP (a : XE ε) : XS ε := fun ρ m _ _ _ rt kx => a ρ m rt (fun c m1 => kx c ρ m1)
def retNP : XS ε := fun _ m _ _ _ rt _ => rt .non m
def ifSP (t : XT ε) (a b : XS ε) : XS ε := fun ρ m nx bk ct rt kx => t ρ m (fun c m1 => bI c (a ρ m1 nx bk ct rt kx) (b ρ m1 nx bk ct rt kx)) (fun c m1 => kx c ρ m1)
def setP (g : XG ε) (a : XE ε) : XS ε := fun ρ m nx _ _ _ kx => a ρ m (fun d m1 => g d ρ m1 fun ρ1 => nx ρ1 m1) (fun c m1 => kx c ρ m1)
def setSP (o i v : XE ε) : XS ε := fun ρ m nx _ _ _ kx => v ρ m (fun v m1 => o ρ m1 (fun x m2 => i ρ m2 (fun y m3 => setDR x y v m3 fun m4 => nx ρ m4) (fun c m4 => kx c ρ m4)) (fun c m4 => kx c ρ m4)) (fun c m1 => kx c ρ m1)
def sw2P (o1 i1 o2 i2 a : XE ε) : XS ε := fun ρ m nx _ _ _ kx => a ρ m (fun d m1 => tD d fun xs => liR xs false fun x r => oneR r fun y => o1 ρ m1 (fun p m2 => i1 ρ m2 (fun q m3 => setDR p q x m3 fun m4 => o2 ρ m4 (fun p2 m5 => i2 ρ m5 (fun q2 m6 => setDR p2 q2 y m6 fun m7 => nx ρ m7) (fun c m1 => kx c ρ m1)) (fun c m1 => kx c ρ m1)) (fun c m1 => kx c ρ m1)) (fun c m1 => kx c ρ m1)) (fun c m1 => kx c ρ m1)
def par2P (si sj : XG ε) (a : XA ε) : XS ε := fun ρ m nx _ _ _ kx => a ρ m (fun xs m1 => liR xs false fun x r => oneR r fun y => si x ρ m1 fun ρ1 => sj y ρ1 m1 fun ρ2 => nx ρ2 m1) (fun c m1 => kx c ρ m1)
def par3P (si sj sl : XG ε) (a : XA ε) : XS ε := fun ρ m nx _ _ _ kx => a ρ m (fun xs m1 => liR xs false fun x r => liR r false fun y r => oneR r fun z => si x ρ m1 fun ρ1 => sj y ρ1 m1 fun ρ2 => sl z ρ2 m1 fun ρ3 => nx ρ3 m1) (fun c m1 => kx c ρ m1)
def augP (g : ε → (D → Bool) → Bool) (s : XG ε) (f : Sem2) (a : XE ε) : XS ε := fun ρ m nx _ _ _ kx => g ρ fun x => unR x (a ρ m (fun y m1 => f x y m1 fun z m2 => s z ρ m2 fun ρ1 => nx ρ1 m2) (fun c m1 => kx c ρ m1))
def augSP (o i : XE ε) (f : Sem2) (a : XE ε) : XS ε := fun ρ m nx _ _ _ kx => o ρ m (fun x m1 => i ρ m1 (fun y m2 => rD x fun _ => ixR x y m2 fun old m3 => a ρ m3 (fun v m4 => f old v m4 fun z m5 => setDR x y z m5 fun m6 => nx ρ m6) (fun c m4 => kx c ρ m4)) (fun c m4 => kx c ρ m4)) (fun c m4 => kx c ρ m4)
def forLP (w : Wlk) (g : XG ε) (b : XS ε) (nx : ε → M → Bool) (rt : Kc) (kx : Nat → ε → M → Bool) (n : Nat) : Nat → List D → ε → M → Bool :=
  @Nat.rec (fun _ => Nat → List D → ε → M → Bool) (fun _ _ _ _ => false) (fun _ ih i c ρ m => w i c m (nx ρ m) fun d c' => g d ρ m fun ρ1 => b ρ1 m (fun ρ2 m2 => ih (Nat.succ i) c' ρ2 m2) nx (fun ρ2 m2 => ih (Nat.succ i) c' ρ2 m2) rt kx) n
def forP (it : XI ε) (g : XG ε) (b : XS ε) : XS ε := fun ρ m nx _ _ rt kx => it ρ m (fun w c m1 => forLP w g b nx rt kx (nat_lit 100000) (nat_lit 0) c ρ m1) (fun c m1 => kx c ρ m1)
def whlLP (t : XT ε) (b : XS ε) (nx : ε → M → Bool) (rt : Kc) (kx : Nat → ε → M → Bool) (n : Nat) : ε → M → Bool :=
  @Nat.rec (fun _ => ε → M → Bool) (fun _ _ => false) (fun _ ih ρ m => t ρ m (fun c m1 => bI c (b ρ m1 ih nx ih rt kx) (nx ρ m1)) (fun c m1 => kx c ρ m1)) n
def whlP (t : XT ε) (b : XS ε) : XS ε := fun ρ m nx _ _ rt kx => whlLP t b nx rt kx (nat_lit 100000) ρ m
def wpN : XW ε := fun ρ k => k ρ
def wpC (s : XG ε) (w : XW ε) : XW ε := fun ρ k => w ρ fun ρ1 => s .und ρ1 ⟨nat_lit 0, nat_lit 0, .e, nat_lit 0⟩ k
def lcLP (w : Wlk) (g : XG ε) (tt : XT ε) (te : XE ε) (ρ0 : ε) (fin : List D → M → Bool) (n : Nat) : Nat → List D → List D → M → Bool :=
  @Nat.rec (fun _ => Nat → List D → List D → M → Bool) (fun _ _ _ _ => false) (fun _ ih i c acc m => w i c m (fin acc m) fun d c' => g d ρ0 m fun ρ1 => tt ρ1 m (fun b m1 => bI b (te ρ1 m1 (fun v m2 => ih (Nat.succ i) c' (v :: acc) m2) fun _ _ => false) (ih (Nat.succ i) c' acc m1)) fun _ _ => false) n
def lcP (it : XI ε) (g : XG ε) (tt : XT ε) (te : XE ε) (wp : XW ε) : XE ε := fun ρ m k kx => it ρ m (fun w c m1 => wp ρ fun ρ0 => lcLP w g tt te ρ0 (fun acc m2 => revK acc [] fun xs => k (.ref m2.n) (m2.alloc (.lst xs))) (nat_lit 100000) (nat_lit 0) c [] m1) kx
def yesP : XT ε := fun _ m k _ => k true m
def lrg1P (a : XE ε) : XE ε := fun ρ m k kx => a ρ m (fun x m1 => match x with | .int j => rgB 0 j fun xs => k (.ref m1.n) (m1.alloc (.lst xs)) | _ => false) kx
def lrg2P (a b : XE ε) : XE ε := fun ρ m k kx => a ρ m (fun x m1 => b ρ m1 (fun y m2 => match x, y with | .int i, .int j => rgB i j fun xs => k (.ref m2.n) (m2.alloc (.lst xs)) | _, _ => false) kx) kx
def trg1P (a : XE ε) : XE ε := fun ρ m k kx => a ρ m (fun x m1 => match x with | .int j => rgB 0 j fun xs => k (.tup xs) m1 | _ => false) kx
def trg2P (a b : XE ε) : XE ε := fun ρ m k kx => a ρ m (fun x m1 => b ρ m1 (fun y m2 => match x, y with | .int i, .int j => rgB i j fun xs => k (.tup xs) m2 | _, _ => false) kx) kx
def callLP (g : ε → (D → Bool) → Bool) (T : Nat → Option SemF) (a : XA ε) : XE ε := fun ρ m k kx => g ρ fun x => match x with
  | .fn j => (match T j with | some f => a ρ m (fun xs m1 => f xs m1 k kx) kx | none => false)
  | _ => false
def tryP (body : XS ε) (hit : Nat → Option Bool) (suite : XS ε) : XS ε := fun ρ m nx bk ct rt kx => body ρ m nx bk ct rt fun c ρ1 m1 => match hit c with
  | some true => suite ρ1 m1 nx bk ct rt fun _ _ _ => false
  | some false => kx c ρ1 m1
  | none => false
def blkP (t : XS ε) (wp : XW ε) (same : ε → ε → Bool) (cnt : Nat) : XS ε := fun ρ m nx _ _ rt kx =>
  wp ρ fun ρ0 => bI (t ρ m.sub (fun ρ1 m1 => bI (Nat.ble m1.tk cnt) (same ρ0 ρ1) false) (fun _ _ => false) (fun _ _ => false) (fun d m1 => landR d m m1 rt) (fun _ _ _ => false)) (nx ρ0 (m.at cnt)) false
def mkP (conv : List D → (ε → Bool) → Bool) (b : XS ε) : SemF := fun ds m k kx => conv ds fun ρ => b ρ m (fun _ m1 => k .non m1) (fun _ _ => false) (fun _ _ => false) k (fun c _ m1 => kx c m1)
end

/-! ### they are the same -/
section
variable {ε : Type} {e : Env → ε} {N : Nat} {ra rb rc : SemE} {ta tb tc : XE ε} {rs : SemA} {ts : XA ε} {rt1 rt2 : SemT} {tt1 tt2 : XT ε} {rp rq rr : SemP} {tp tq tr : XP ε}
theorem q_lit {d : D} : RE e N (litC d) (litP d) := fun ρ h => rfl
theorem q_bin {f : Sem2} (ha : RE e N ra ta) (hb : RE e N rb tb) : RE e N (binC f ra rb) (binP f ta tb) := fun ρ h => by funext m k kx; unfold binC binP; rw [ha ρ h, hb ρ h]
theorem q_un {f : Sem1} (ha : RE e N ra ta) : RE e N (unC f ra) (unP f ta) := fun ρ h => by funext m k kx; unfold unC unP; rw [ha ρ h]
theorem q_nil : RA e N nilC nilP := fun ρ h => rfl
theorem q_cons (ha : RE e N ra ta) (hs : RA e N rs ts) : RA e N (consC ra rs) (consP ta ts) := fun ρ h => by funext m k kx; unfold consC consP; rw [ha ρ h, hs ρ h]
theorem q_tup (hs : RA e N rs ts) : RE e N (tupR rs) (tupP ts) := fun ρ h => by funext m k kx; unfold tupR tupP; rw [hs ρ h]
theorem q_lst (hs : RA e N rs ts) : RE e N (lstR rs) (lstP ts) := fun ρ h => by funext m k kx; unfold lstR lstP; rw [hs ρ h]
theorem q_app {f : List D → M → Kc → Bool} (hs : RA e N rs ts) : RE e N (appC f rs) (appP f ts) := fun ρ h => by funext m k kx; unfold appC appP; rw [hs ρ h]
theorem q_call {f f' : SemF} (hf : f = f') (hs : RA e N rs ts) : RE e N (callC f rs) (callP f' ts) := fun ρ h => by subst hf; funext m k kx; unfold callC callP; rw [hs ρ h]
theorem q_if (ht : RT e N rt1 tt1) (ha : RE e N ra ta) (hb : RE e N rb tb) : RE e N (ifR rt1 ra rb) (ifP tt1 ta tb) := fun ρ h => by funext m k kx; unfold ifR ifP; rw [ht ρ h, ha ρ h, hb ρ h]
theorem q_bl (ha : RE e N ra ta) : RT e N (blR ra) (blP ta) := fun ρ h => by funext m k kx; unfold blR blP; rw [ha ρ h]
theorem q_not (ht : RT e N rt1 tt1) : RT e N (notR rt1) (notP tt1) := fun ρ h => by funext m k kx; unfold notR notP; rw [ht ρ h]
theorem q_and (ht : RT e N rt1 tt1) (hu : RT e N rt2 tt2) : RT e N (andR rt1 rt2) (andP tt1 tt2) := fun ρ h => by funext m k kx; unfold andR andP; rw [ht ρ h, hu ρ h]
theorem q_or (ht : RT e N rt1 tt1) (hu : RT e N rt2 tt2) : RT e N (orR rt1 rt2) (orP tt1 tt2) := fun ρ h => by funext m k kx; unfold orR orP; rw [ht ρ h, hu ρ h]
theorem q_val (ht : RT e N rt1 tt1) : RE e N (valT rt1) (valP tt1) := fun ρ h => by funext m k kx; unfold valT valP; rw [ht ρ h]
theorem q_tru (ha : RE e N ra ta) : RT e N (truTR ra) (truP ta) := fun ρ h => by funext m k kx; unfold truTR truP; rw [ha ρ h]
theorem q_orV (ha : RE e N ra ta) (hb : RE e N rb tb) : RE e N (orVR ra rb) (orVP ta tb) := fun ρ h => by funext m k kx; unfold orVR orVP; rw [ha ρ h, hb ρ h]
theorem q_andV (ha : RE e N ra ta) (hb : RE e N rb tb) : RE e N (andVR ra rb) (andVP ta tb) := fun ρ h => by funext m k kx; unfold andVR andVP; rw [ha ρ h, hb ρ h]
theorem q_notV (ha : RE e N ra ta) : RE e N (notVR ra) (notVP ta) := fun ρ h => by funext m k kx; unfold notVR notVP; rw [ha ρ h]
theorem q_ch {f g : Sem2} (ha : RE e N ra ta) (hb : RE e N rb tb) (hc : RE e N rc tc) : RE e N (chC f g ra rb rc) (chP f g ta tb tc) := fun ρ h => by
  funext m k kx; unfold chC chP; rw [ha ρ h, hb ρ h, hc ρ h]
  congr 1; funext x m1; congr 1; funext y m2; congr 1; funext z m3
  cases z with
  | bl b => cases b <;> rfl
  | _ => rfl
theorem q_noP : RP e N noP noPP := fun ρ h => rfl
theorem q_some (ha : RE e N ra ta) : RP e N (somePR ra) (someQ ta) := fun ρ h => by funext m k kx; unfold somePR someQ; rw [ha ρ h]
theorem q_sl (ha : RE e N ra ta) (hp : RP e N rp tp) (hq : RP e N rq tq) : RE e N (slR ra rp rq) (slP ta tp tq) := fun ρ h => by funext m k kx; unfold slR slP; rw [ha ρ h, hp ρ h, hq ρ h]
theorem q_sls (ha : RE e N ra ta) (hp : RP e N rp tp) (hq : RP e N rq tq) (hr : RP e N rr tr) : RE e N (slsC ra rp rq rr) (slsP ta tp tq tr) := fun ρ h => by funext m k kx; unfold slsC slsP; rw [ha ρ h, hp ρ h, hq ρ h, hr ρ h] <;> rfl
theorem q_mt {f : D → List D → M → Kc → Bool} (ha : RE e N ra ta) (hs : RA e N rs ts) : RE e N (mtR f ra rs) (mtP f ta ts) := fun ρ h => by funext m k kx; unfold mtR mtP; rw [ha ρ h, hs ρ h]
theorem q_mt0 {f : D → List D → M → Kc → Bool} (ha : RE e N ra ta) : RE e N (mt0R f ra) (mt0P f ta) := fun ρ h => by funext m k kx; unfold mt0R mt0P; rw [ha ρ h]
theorem q_get1 (ha : RE e N ra ta) (hb : RE e N rb tb) : RE e N (get1C ra rb) (get1P ta tb) := fun ρ h => by funext m k kx; unfold get1C get1P; rw [ha ρ h, hb ρ h] <;> rfl
theorem q_get2 (ha : RE e N ra ta) (hb : RE e N rb tb) (hc : RE e N rc tc) : RE e N (get2C ra rb rc) (get2P ta tb tc) := fun ρ h => by funext m k kx; unfold get2C get2P; rw [ha ρ h, hb ρ h, hc ρ h] <;> rfl
theorem q_dnew : RE e N dnewC dnewP := fun ρ h => rfl
theorem q_prsN : RPr e N (prsC []) (prsP []) := fun ρ h => rfl
theorem q_prsC {ps : List (SemE × SemE)} {qs : List (XE ε × XE ε)} (ha : RE e N ra ta) (hb : RE e N rb tb) (hs : RPr e N (prsC ps) (prsP qs)) : RPr e N (prsC ((ra, rb) :: ps)) (prsP ((ta, tb) :: qs)) := fun ρ h => by
  funext m k kx
  show ta (e ρ) m (fun x m1 => match keyD x with | some j => tb (e ρ) m1 (fun y m2 => prsP qs (e ρ) m2 (fun kvs m3 => k ((j, y) :: kvs) m3) kx) kx | none => false) kx = ra ρ m (fun x m1 => match keyD x with | some j => rb ρ m1 (fun y m2 => prsC ps ρ m2 (fun kvs m3 => k ((j, y) :: kvs) m3) kx) kx | none => false) kx
  rw [ha ρ h, hb ρ h, hs ρ h]
theorem q_disp {ps : List (SemE × SemE)} {qs : List (XE ε × XE ε)} (hs : RPr e N (prsC ps) (prsP qs)) : RE e N (dispC ps) (dispP qs) := fun ρ h => by funext m k kx; unfold dispC dispP; rw [hs ρ h]
variable {ri : SemI} {ti : XI ε} {rg rg2 : SemG} {tg tg2 : XG ε} {rgs : SemGs} {tgs : XGs ε} {rS rS2 : SemS} {tS1 tS2 : XS ε}
theorem q_seqI (ha : RE e N ra ta) : RI e N (seqIR ra) (seqIP ta) := fun ρ h => by funext m k kx; unfold seqIR seqIP; rw [ha ρ h]
theorem q_rng1 (hs : RA e N rs ts) : RI e N (rng1R rs) (rng1P ts) := fun ρ h => by funext m k kx; unfold rng1R rng1P; rw [hs ρ h]
theorem q_rng2 (hs : RA e N rs ts) : RI e N (rng2R rs) (rng2P ts) := fun ρ h => by funext m k kx; unfold rng2R rng2P; rw [hs ρ h]
theorem q_rng3 (hs : RA e N rs ts) : RI e N (rng3I rs) (rng3P ts) := fun ρ h => by funext m k kx; unfold rng3I rng3P; rw [hs ρ h] <;> rfl
theorem q_enu (hs : RA e N rs ts) : RI e N (enuR rs) (enuP ts) := fun ρ h => by funext m k kx; unfold enuR enuP; rw [hs ρ h]
theorem q_zip (hs : RA e N rs ts) : RI e N (zipR rs) (zipP ts) := fun ρ h => by funext m k kx; unfold zipR zipP; rw [hs ρ h]
theorem q_enz (hs : RA e N rs ts) : RI e N (enzR rs) (enzP ts) := fun ρ h => by funext m k kx; unfold enzR enzP; rw [hs ρ h]
theorem q_gT {n : Nat} (hg : RGs e N rgs tgs) : RG e N (gTR rgs n) (gTP tgs n) := fun ρ h d m k k' hk => by
  have hx : ∀ xs, tgs xs (e ρ) m k' = rgs xs ρ m k := fun xs => hg ρ h xs m k k' hk
  unfold gTR gTP
  simp only [hx]
theorem q_gsN : RGs e N gsNR gsNP := fun ρ h ds m k k' hk => by
  cases ds with
  | nil => exact hk ρ h
  | cons _ _ => rfl
theorem q_gsC (hg : RG e N rg tg) (hs : RGs e N rgs tgs) : RGs e N (gsCR rg rgs) (gsCP tg tgs) := fun ρ h ds m k k' hk => by
  cases ds with
  | nil => rfl
  | cons d r => exact hg ρ h d m _ _ fun ρ' h' => hs ρ' h' r m k k' hk
theorem q_seq (ha : RS e N rS tS1) (hb : RS e N rS2 tS2) : RS e N (seqC rS rS2) (seqP tS1 tS2) := fun ρ h m nx nx' bk bk' ct ct' rt kx kx' h1 h2 h3 h4 =>
  ha ρ h m _ _ _ _ _ _ _ _ _ (fun ρ' h' => funext fun m1 => hb ρ' h' m1 nx nx' bk bk' ct ct' rt kx kx' h1 h2 h3 h4) h2 h3 h4
theorem q_pass : RS e N passC passP := fun ρ h m nx nx' bk bk' ct ct' rt kx kx' h1 h2 h3 h4 => congrFun (h1 ρ h) m
theorem q_brk : RS e N brkC brkP := fun ρ h m nx nx' bk bk' ct ct' rt kx kx' h1 h2 h3 h4 => congrFun (h2 ρ h) m
theorem q_cnt : RS e N cntC cntP := fun ρ h m nx nx' bk bk' ct ct' rt kx kx' h1 h2 h3 h4 => congrFun (h3 ρ h) m
theorem q_nev : RS e N nevC nevP := fun ρ h m nx nx' bk bk' ct ct' rt kx kx' h1 h2 h3 h4 => rfl
theorem q_raise {c : Nat} : RS e N (raiseC c) (raiseP c) := fun ρ h m nx nx' bk bk' ct ct' rt kx kx' h1 h2 h3 h4 => congrFun (h4 c ρ h) m
theorem rx_of {kx : KX} {kx' : Nat → ε → M → Bool} (h4 : RX e N kx kx') {ρ : Env} (h : ρ.length = N) : (fun c m1 => kx' c (e ρ) m1) = fun c m1 => kx c ρ m1 := funext fun c => h4 c ρ h
theorem q_expr (ha : RE e N ra ta) : RS e N (exprC ra) (exprP ta) := fun ρ h m nx nx' bk bk' ct ct' rt kx kx' h1 h2 h3 h4 => by
  unfold exprC exprP
  rw [ha ρ h, rx_of h4 h, h1 ρ h]
theorem q_ret (ha : RE e N ra ta) : RS e N (retC ra) (retP ta) := fun ρ h m nx nx' bk bk' ct ct' rt kx kx' h1 h2 h3 h4 => by
  unfold retC retP
  rw [ha ρ h, rx_of h4 h]
theorem q_retN : RS e N retNC retNP := fun ρ h m nx nx' bk bk' ct ct' rt kx kx' h1 h2 h3 h4 => rfl
theorem q_ifS (ht : RT e N rt1 tt1) (ha : RS e N rS tS1) (hb : RS e N rS2 tS2) : RS e N (ifSR rt1 rS rS2) (ifSP tt1 tS1 tS2) := fun ρ h m nx nx' bk bk' ct ct' rt kx kx' h1 h2 h3 h4 => by
  unfold ifSR ifSP
  rw [ht ρ h, rx_of h4 h]
  congr 1; funext c m1
  rw [ha ρ h m1 nx nx' bk bk' ct ct' rt kx kx' h1 h2 h3 h4, hb ρ h m1 nx nx' bk bk' ct ct' rt kx kx' h1 h2 h3 h4]
theorem q_set (hg : RG e N rg tg) (ha : RE e N ra ta) : RS e N (setC rg ra) (setP tg ta) := fun ρ h m nx nx' bk bk' ct ct' rt kx kx' h1 h2 h3 h4 => by
  unfold setC setP
  rw [ha ρ h, rx_of h4 h]
  congr 1; funext d m1
  exact hg ρ h d m1 _ _ fun ρ' h' => congrFun (h1 ρ' h') m1
theorem q_setS (ha : RE e N ra ta) (hb : RE e N rb tb) (hc : RE e N rc tc) : RS e N (setSR ra rb rc) (setSP ta tb tc) := fun ρ h m nx nx' bk bk' ct ct' rt kx kx' h1 h2 h3 h4 => by
  unfold setSR setSP
  rw [ha ρ h, hb ρ h, hc ρ h, rx_of h4 h, h1 ρ h]
theorem q_sw2 {rd re : SemE} {td te : XE ε} (ha : RE e N ra ta) (hb : RE e N rb tb) (hc : RE e N rc tc) (hd : RE e N rd td) (he : RE e N re te) : RS e N (sw2R ra rb rc rd re) (sw2P ta tb tc td te) := fun ρ h m nx nx' bk bk' ct ct' rt kx kx' h1 h2 h3 h4 => by
  unfold sw2R sw2P
  rw [ha ρ h, hb ρ h, hc ρ h, hd ρ h, he ρ h, rx_of h4 h, h1 ρ h]
theorem g_len {i : Nat} {tg : XG ε} (hg : RG e N (gNR i) tg) {ρ : Env} (h : ρ.length = N) (d : D) (m : M) (k : Env → Bool) (k' : ε → Bool) (hk : ∀ ρ' : Env, ρ'.length = N → k' (e ρ') = k ρ') : tg d (e ρ) m k' = k (setR ρ i d) := hg ρ h d m k k' hk
theorem q_par2 {i j : Nat} (hi : RG e N (gNR i) tg) (hj : RG e N (gNR j) tg2) (hs : RA e N rs ts) : RS e N (par2R i j rs) (par2P tg tg2 ts) := fun ρ h m nx nx' bk bk' ct ct' rt kx kx' h1 h2 h3 h4 => by
  unfold par2R par2P
  rw [hs ρ h, rx_of h4 h]
  congr 1; funext xs m1; congr 1; funext x r; congr 1; funext y
  exact (hi ρ h x m1 (fun ρ1 => nx (setR ρ1 j y) m1) _ fun ρ' h' => hj ρ' h' y m1 (fun ρ2 => nx ρ2 m1) _ fun ρ2 h2 => congrFun (h1 ρ2 h2) m1)
theorem q_par3 {i j l : Nat} {tg3 : XG ε} (hi : RG e N (gNR i) tg) (hj : RG e N (gNR j) tg2) (hl : RG e N (gNR l) tg3) (hs : RA e N rs ts) : RS e N (par3R i j l rs) (par3P tg tg2 tg3 ts) := fun ρ h m nx nx' bk bk' ct ct' rt kx kx' h1 h2 h3 h4 => by
  unfold par3R par3P
  rw [hs ρ h, rx_of h4 h]
  congr 1; funext xs m1; congr 1; funext x r; congr 1; funext y r; congr 1; funext z
  exact (hi ρ h x m1 (fun ρ1 => nx (setR (setR ρ1 j y) l z) m1) _ fun ρ' h' => hj ρ' h' y m1 (fun ρ2 => nx (setR ρ2 l z) m1) _ fun ρ2 h2 => hl ρ2 h2 z m1 (fun ρ3 => nx ρ3 m1) _ fun ρ3 h3 => congrFun (h1 ρ3 h3) m1)
theorem q_aug {i : Nat} {f : Sem2} {g : ε → (D → Bool) → Bool} (ht : RGt e N i g) (hg : RG e N (gNR i) tg) (ha : RE e N ra ta) : RS e N (augR i f ra) (augP g tg f ta) := fun ρ h m nx nx' bk bk' ct ct' rt kx kx' h1 h2 h3 h4 => by
  unfold augR augP
  rw [ht ρ h, ha ρ h, rx_of h4 h]
  congr 1; funext x; congr 1; congr 1; funext y m1; congr 1; funext z m2
  exact hg ρ h z m2 (fun ρ1 => nx ρ1 m2) _ fun ρ' h' => congrFun (h1 ρ' h') m2
theorem q_augS {f : Sem2} (ha : RE e N ra ta) (hb : RE e N rb tb) (hc : RE e N rc tc) : RS e N (augSR ra rb f rc) (augSP ta tb f tc) := fun ρ h m nx nx' bk bk' ct ct' rt kx kx' h1 h2 h3 h4 => by
  unfold augSR augSP
  rw [ha ρ h, hb ρ h, hc ρ h, rx_of h4 h, h1 ρ h]
theorem forLP_eq {w : Wlk} (hg : RG e N rg tg) (hb : RS e N rS tS1) {nx nx'} {rt : Kc} {kx kx'} (h1 : RN e N nx nx') (h4 : RX e N kx kx') : ∀ (n i : Nat) (c : List D) (ρ : Env), ρ.length = N → forLP w tg tS1 nx' rt kx' n i c (e ρ) = forLR w rg rS nx rt kx n i c ρ
  | 0, i, c, ρ, h => rfl
  | n + 1, i, c, ρ, h => by
    have ih := forLP_eq (w := w) hg hb (rt := rt) h1 h4 n
    funext m
    show w i c m (nx' (e ρ) m) (fun d c' => tg d (e ρ) m fun ρ1 => tS1 ρ1 m (fun ρ2 m2 => forLP w tg tS1 nx' rt kx' n (i + 1) c' ρ2 m2) nx' (fun ρ2 m2 => forLP w tg tS1 nx' rt kx' n (i + 1) c' ρ2 m2) rt kx') = w i c m (nx ρ m) (fun d c' => rg d ρ m fun ρ1 => rS ρ1 m (fun ρ2 m2 => forLR w rg rS nx rt kx n (i + 1) c' ρ2 m2) nx (fun ρ2 m2 => forLR w rg rS nx rt kx n (i + 1) c' ρ2 m2) rt kx)
    rw [h1 ρ h]
    congr 1; funext d c'
    exact hg ρ h d m _ _ fun ρ1 h1' => hb ρ1 h1' m _ _ _ _ _ _ _ _ _ (fun ρ2 h2 => ih (i + 1) c' ρ2 h2) h1 (fun ρ2 h2 => ih (i + 1) c' ρ2 h2) h4
theorem q_for (hi : RI e N ri ti) (hg : RG e N rg tg) (hb : RS e N rS tS1) : RS e N (forR ri rg rS) (forP ti tg tS1) := fun ρ h m nx nx' bk bk' ct ct' rt kx kx' h1 h2 h3 h4 => by
  unfold forR forP
  rw [hi ρ h, rx_of h4 h]
  generalize (nat_lit 100000) = F
  congr 1; funext w c m1
  exact congrFun (forLP_eq hg hb h1 h4 F _ c ρ h) m1
theorem whlLP_eq (ht : RT e N rt1 tt1) (hb : RS e N rS tS1) {nx nx'} {rt : Kc} {kx kx'} (h1 : RN e N nx nx') (h4 : RX e N kx kx') : ∀ (n : Nat) (ρ : Env), ρ.length = N → whlLP tt1 tS1 nx' rt kx' n (e ρ) = whlLR rt1 rS nx rt kx n ρ
  | 0, ρ, h => rfl
  | n + 1, ρ, h => by
    have ih := whlLP_eq ht hb (rt := rt) h1 h4 n
    funext m
    show tt1 (e ρ) m (fun c m1 => bI c (tS1 (e ρ) m1 (whlLP tt1 tS1 nx' rt kx' n) nx' (whlLP tt1 tS1 nx' rt kx' n) rt kx') (nx' (e ρ) m1)) (fun c m1 => kx' c (e ρ) m1) = rt1 ρ m (fun c m1 => bI c (rS ρ m1 (whlLR rt1 rS nx rt kx n) nx (whlLR rt1 rS nx rt kx n) rt kx) (nx ρ m1)) (fun c m1 => kx c ρ m1)
    rw [ht ρ h, rx_of h4 h, h1 ρ h]
    congr 1; funext c m1; congr 1
    exact hb ρ h m1 _ _ _ _ _ _ _ _ _ ih h1 ih h4
theorem q_whl (ht : RT e N rt1 tt1) (hb : RS e N rS tS1) : RS e N (whlR rt1 rS) (whlP tt1 tS1) := fun ρ h m nx nx' bk bk' ct ct' rt kx kx' h1 h2 h3 h4 => by
  unfold whlR whlP
  generalize (nat_lit 100000) = F
  exact congrFun (whlLP_eq ht hb h1 h4 F ρ h) m
theorem q_wpN : RW e N [] wpN := fun ρ h k k' hk => hk ρ h
theorem q_wpC {v : Nat} {vs : List Nat} {w : XW ε} (hg : RG e N (gNR v) tg) (hw : RW e N vs w) : RW e N (v :: vs) (wpC tg w) := fun ρ h k k' hk =>
  hw ρ h (fun ρ1 => k (setR ρ1 v .und)) _ fun ρ' h' => hg ρ' h' .und _ k k' hk
theorem lcLP_eq {w : Wlk} (hg : RG e N rg tg) (ht : RT e N rt1 tt1) (ha : RE e N ra ta) {ρ : Env} (h : ρ.length = N) {fin : List D → M → Bool} : ∀ (n : Nat), lcLP w tg tt1 ta (e ρ) fin n = lcLR w rg rt1 ra ρ fin n
  | 0 => rfl
  | n + 1 => by
    have ih := lcLP_eq (w := w) hg ht ha h (fin := fin) n
    funext i c acc m
    show w i c m (fin acc m) (fun d c' => tg d (e ρ) m fun ρ1 => tt1 ρ1 m (fun b m1 => bI b (ta ρ1 m1 (fun v m2 => lcLP w tg tt1 ta (e ρ) fin n (i + 1) c' (v :: acc) m2) fun _ _ => false) (lcLP w tg tt1 ta (e ρ) fin n (i + 1) c' acc m1)) fun _ _ => false) = w i c m (fin acc m) (fun d c' => rg d ρ m fun ρ1 => rt1 ρ1 m (fun b m1 => bI b (ra ρ1 m1 (fun v m2 => lcLR w rg rt1 ra ρ fin n (i + 1) c' (v :: acc) m2) fun _ _ => false) (lcLR w rg rt1 ra ρ fin n (i + 1) c' acc m1)) fun _ _ => false)
    rw [ih]
    congr 1; funext d c'
    exact hg ρ h d m _ _ fun ρ1 h1 => by rw [ht ρ1 h1, ha ρ1 h1]
theorem q_lc {own : List Nat} {w : XW ε} (hi : RI e N ri ti) (hg : RG e N rg tg) (ht : RT e N rt1 tt1) (ha : RE e N ra ta) (hw : RW e N own w) : RE e N (lcR2 ri rg rt1 ra own) (lcP ti tg tt1 ta w) := fun ρ h => by
  funext m k kx
  unfold lcR2 lcP
  rw [hi ρ h]
  generalize (nat_lit 100000) = F
  congr 1; funext w c m1
  exact hw ρ h (fun ρ0 => lcLR w rg rt1 ra ρ0 _ F _ c [] m1) _ fun ρ0 h0 => by rw [lcLP_eq hg ht ha h0]
theorem q_yes : RT e N yesT yesP := fun ρ h => rfl
theorem q_lrg1 (ha : RE e N ra ta) : RE e N (lrg1C ra) (lrg1P ta) := fun ρ h => by funext m k kx; unfold lrg1C lrg1P; rw [ha ρ h] <;> rfl
theorem q_lrg2 (ha : RE e N ra ta) (hb : RE e N rb tb) : RE e N (lrg2C ra rb) (lrg2P ta tb) := fun ρ h => by funext m k kx; unfold lrg2C lrg2P; rw [ha ρ h, hb ρ h] <;> rfl
theorem q_trg1 (ha : RE e N ra ta) : RE e N (trg1C ra) (trg1P ta) := fun ρ h => by funext m k kx; unfold trg1C trg1P; rw [ha ρ h] <;> rfl
theorem q_trg2 (ha : RE e N ra ta) (hb : RE e N rb tb) : RE e N (trg2C ra rb) (trg2P ta tb) := fun ρ h => by funext m k kx; unfold trg2C trg2P; rw [ha ρ h, hb ρ h] <;> rfl
theorem callL_at {i : Nat} {T : Nat → Option SemF} {a : D → SemF → Bool} (ρ : Env) (f : Nat → SemF → Bool) : (match ρ[i]? with | some (.fn j) => (match T j with | some g => f j g | none => false) | _ => false) = nthK ρ i false fun x => match x with | .fn j => (match T j with | some g => f j g | none => false) | _ => false := by
  induction ρ generalizing i with
  | nil => rfl
  | cons x r ih => cases i with
    | zero => cases x <;> rfl
    | succ j => exact ih
theorem q_callL {i : Nat} {T T' : Nat → Option SemF} {g : ε → (D → Bool) → Bool} (hT : T = T') (ht : RGt e N i g) (hs : RA e N rs ts) : RE e N (callLC i T rs) (callLP g T' ts) := fun ρ h => by
  subst hT
  funext m k kx
  unfold callLC callLP
  rw [ht ρ h, hs ρ h]
  exact (callL_at (a := fun _ _ => false) ρ fun j f => rs ρ m (fun xs m1 => f xs m1 k kx) kx).symm
theorem q_try {hit : Nat → Option Bool} (ha : RS e N rS tS1) (hb : RS e N rS2 tS2) : RS e N (tryC rS hit rS2) (tryP tS1 hit tS2) := fun ρ h m nx nx' bk bk' ct ct' rt kx kx' h1 h2 h3 h4 => by
  unfold tryC tryP
  refine ha ρ h m nx nx' bk bk' ct ct' rt _ _ h1 h2 h3 fun c ρ' h' => ?_
  funext m1
  cases hit c with
  | none => rfl
  | some b => cases b with
    | true => exact hb ρ' h' m1 nx nx' bk bk' ct ct' rt _ _ h1 h2 h3 fun _ _ _ => rfl
    | false => exact congrFun (h4 c ρ' h') m1
theorem q_blk {ws : List Nat} {cnt : Nat} {w : XW ε} {same : ε → ε → Bool} (ha : RS e N rS tS1) (hw : RW e N ws w) (hsm : ∀ ρ ρ' : Env, ρ.length = N → ρ'.length = N → same (e ρ) (e ρ') = sameE ρ ρ') : RS e N (blkR rS ws cnt) (blkP tS1 w same cnt) := fun ρ h m nx nx' bk bk' ct ct' rt kx kx' h1 h2 h3 h4 => by
  unfold blkR blkP
  refine hw ρ h (fun ρ0 => bI (rS ρ m.sub (fun ρ1 m1 => bI (Nat.ble m1.tk cnt) (sameE ρ0 ρ1) false) (fun _ _ => false) (fun _ _ => false) (fun d m1 => landR d m m1 rt) (fun _ _ _ => false)) (nx ρ0 (m.at cnt)) false) _ fun ρ0 h0 => ?_
  rw [show nx' (e ρ0) = nx ρ0 from h1 ρ0 h0]
  congr 1
  exact ha ρ h m.sub _ _ _ _ _ _ _ _ _ (fun ρ1 h1' => funext fun m1 => by rw [hsm ρ0 ρ1 h0 h1']) (fun _ _ => rfl) (fun _ _ => rfl) (fun _ _ _ => rfl)
theorem q_mk {n pad : Nat} {conv : List D → (ε → Bool) → Bool} (hN : N = n + pad) (hc : ∀ ds k, ds.length = n → conv ds k = k (e (ds ++ undN pad))) (hd : ∀ ds k, ds.length ≠ n → conv ds k = false) (hb : RS e N rS tS1) : mkR n pad rS = mkP conv tS1 := by
  funext ds m k kx
  rw [← mkF_R]
  unfold mkF mkP
  by_cases h : ds.length = n
  · rw [hc ds _ h, h, Nat.beq_refl, Bool.true_and]
    have hu : ∀ p, (undN p).length = p := fun p => by
      induction p with
      | zero => rfl
      | succ p ih => show (undN p).length + 1 = p + 1; rw [ih]
    refine (hb (ds ++ undN pad) (by rw [List.length_append, hu, h, hN]) m _ _ _ _ _ _ k _ _ ?_ ?_ ?_ ?_).symm
    · exact fun _ _ => rfl
    · exact fun _ _ => rfl
    · exact fun _ _ => rfl
    · exact fun _ _ _ => rfl
  · rw [hd ds _ h, show Nat.beq ds.length n = false from by
      cases hh : Nat.beq ds.length n with
      | true => exact absurd (Nat.eq_of_beq_eq_true hh) h
      | false => rfl]
    rfl
end
end
end Ev

set_option Elab.async false
set_option linter.all false
set_option maxRecDepth 100000
set_option maxHeartbeats 2000000
/-! Ev31: the row of variables as a function: what the printed slots rest on. -/
namespace Ev
open PySem PySem.Spec PyProof.Rows L2 HT
noncomputable section
def gd (ρ : Env) (j : Nat) : D := ρ.getD j .und
def pk (ρ : Env) (i : Nat) (d : D) (j : Nat) : D := @Bool.rec (fun _ => D) (gd ρ j) d (Nat.beq j i)
theorem gd_set : ∀ {ρ : Env} {i : Nat} {d : D}, i < ρ.length → gd (setR ρ i d) = pk ρ i d
  | [], i, d, h => absurd h (Nat.not_lt_zero i)
  | x :: r, 0, d, h => by
    funext j
    cases j with
    | zero => rfl
    | succ j => rfl
  | x :: r, i + 1, d, h => by
    funext j
    cases j with
    | zero => rfl
    | succ j =>
      show gd (setR r i d) j = @Bool.rec (fun _ => D) (gd (x :: r) (j + 1)) d (Nat.beq (j + 1) (i + 1))
      rw [gd_set (Nat.lt_of_succ_lt_succ h)]
      rfl
theorem nth_gd : ∀ {ρ : Env} {i : Nat} {k : D → Bool}, i < ρ.length → nthK ρ i false k = k (gd ρ i)
  | [], i, k, h => absurd h (Nat.not_lt_zero i)
  | x :: r, 0, k, h => rfl
  | x :: r, i + 1, k, h => nth_gd (ρ := r) (Nat.lt_of_succ_lt_succ h)
theorem var_gd : ∀ {ρ : Env} {i : Nat} {m : M} {k : Kc} {kx : Kx}, i < ρ.length → varR i ρ m k kx = unR (gd ρ i) (k (gd ρ i) m)
  | [], i, m, k, kx, h => absurd h (Nat.not_lt_zero i)
  | x :: r, 0, m, k, kx, h => rfl
  | x :: r, i + 1, m, k, kx, h => var_gd (ρ := r) (kx := kx) (Nat.lt_of_succ_lt_succ h)
def sm2 (n : Nat) : Nat → (Nat → D) → (Nat → D) → Bool := @Nat.rec (fun _ => Nat → (Nat → D) → (Nat → D) → Bool) (fun _ _ _ => true) (fun _ ih j g g' => bI (sameD (g j) (g' j)) (ih (Nat.succ j) g g') false) n
theorem gd_drop {ρ : Env} {j : Nat} (h : j < ρ.length) : ρ.drop j = gd ρ j :: ρ.drop (j + 1) := by
  rw [List.drop_eq_getElem_cons h]
  congr 1
  unfold gd
  rw [List.getD_eq_getElem?_getD, List.getElem?_eq_getElem h]
  rfl
theorem sm2_eq {ρ ρ' : Env} : ∀ (n j : Nat), ρ.length = j + n → ρ'.length = j + n → sameE (ρ.drop j) (ρ'.drop j) = sm2 n j (gd ρ) (gd ρ')
  | 0, j, h, h' => by
    rw [List.drop_eq_nil_of_le (by omega)]; rfl
  | n + 1, j, h, h' => by
    rw [gd_drop (by omega), gd_drop (ρ := ρ') (by omega)]
    show (sameD (gd ρ j) (gd ρ' j) && sameE (ρ.drop (j + 1)) (ρ'.drop (j + 1))) = bI (sameD (gd ρ j) (gd ρ' j)) (sm2 n (j + 1) (gd ρ) (gd ρ')) false
    rw [sm2_eq n (j + 1) (by omega) (by omega), bI_and]
theorem same_gd {ρ ρ' : Env} {N : Nat} (h : ρ.length = N) (h' : ρ'.length = N) : sm2 N 0 (gd ρ) (gd ρ') = sameE ρ ρ' := by
  rw [← sm2_eq N 0 (by omega) (by omega)]; rfl
section
variable {ε : Type} (eF : (Nat → D) → ε) {N : Nat}
/-- the row of variables, as a function of its places -/
def enF : Env → ε := fun ρ => eF (gd ρ)
variable {eF}
theorem sl_var {i : Nat} {t : XE ε} (hi : i < N) (ht : ∀ g m k kx, t (eF g) m k kx = unR (g i) (k (g i) m)) : RE (enF eF) N (varR i) t := fun ρ h => by
  funext m k kx
  rw [var_gd (by omega)]
  exact ht (gd ρ) m k kx
theorem sl_set {i : Nat} {t : XG ε} (hi : i < N) (ht : ∀ ρ d m k, t d (enF eF ρ) m k = k (eF (pk ρ i d))) : RG (enF eF) N (gNR i) t := fun ρ h d m k k' hk => by
  rw [ht ρ d m k']
  have := hk (setR ρ i d) (setR_len.trans h)
  unfold enF at this
  rw [gd_set (by omega)] at this
  exact this
theorem sl_get {i : Nat} {t : ε → (D → Bool) → Bool} (hi : i < N) (ht : ∀ g k, t (eF g) k = k (g i)) : RGt (enF eF) N i t := fun ρ h k => by
  rw [nth_gd (by omega)]
  exact ht (gd ρ) k
end
end
end Ev

set_option Elab.async false
set_option linter.all false
set_option maxRecDepth 100000
set_option maxHeartbeats 2000000
/-! Ev32: calls with pure arguments, answered from a table whose rows were run once, each in an empty heap. -/
namespace Ev
open PySem PySem.Spec PyProof.Rows L2 HT
noncomputable section
/-- the same pure datum -/
def sameP (x : D) : D → Bool := @D.rec (fun _ => D → Bool) (fun _ => List D → Bool) (fun _ => false) (fun y => nonR y)
  (fun a y => bD y fun b => bI a b (nB b)) (fun i y => iD y fun j => eqI i j) (fun a y => cD y (fun _ => false) (fun _ => false) (fun b => a == b) (fun _ => false) (fun _ => false) false)
  (fun _ ih y => tD y fun ys => ih ys) (fun _ _ => false) (fun _ _ => false) (fun _ _ => false) (fun _ => false) (fun _ _ _ => false)
  (fun ys => liR ys true fun _ _ => false) (fun _ _ h ih ys => liR ys false fun y r => bI (h y) (ih r) false) x
/-- .. as the recursion's own part for lists -/
def samePs (xs : List D) : List D → Bool := @List.rec D (fun _ => List D → Bool) (fun ys => liR ys true fun _ _ => false) (fun x _ ih ys => liR ys false fun y r => bI (sameP x y) (ih r) false) xs
theorem sameP_tup (xs : List D) (y : D) : sameP (.tup xs) y = tD y fun ys => samePs xs ys := by
  have key : ∀ xs : List D, @D.rec_1 (fun _ => D → Bool) (fun _ => List D → Bool) (fun _ => false) (fun y => nonR y) (fun a y => bD y fun b => bI a b (nB b)) (fun i y => iD y fun j => eqI i j) (fun a y => cD y (fun _ => false) (fun _ => false) (fun b => a == b) (fun _ => false) (fun _ => false) false) (fun _ ih y => tD y fun ys => ih ys) (fun _ _ => false) (fun _ _ => false) (fun _ _ => false) (fun _ => false) (fun _ _ _ => false) (fun ys => liR ys true fun _ _ => false) (fun _ _ h ih ys => liR ys false fun y r => bI (h y) (ih r) false) xs = samePs xs := by
    intro xs
    induction xs with
    | nil => rfl
    | cons x r ih =>
      funext ys
      cases ys with
      | nil => rfl
      | cons y s =>
        show bI (sameP x y) _ false = bI (sameP x y) (samePs r s) false
        rw [← ih]
  show (tD y fun ys => @D.rec_1 (fun _ => D → Bool) (fun _ => List D → Bool) _ _ _ _ _ _ _ _ _ _ _ _ _ xs ys) = _
  rw [key]
mutual
inductive pureX : D → Prop
  | non : pureX .non
  | bl {b} : pureX (.bl b)
  | int {i} : pureX (.int i)
  | str {x} : pureX (.str x)
  | tup {xs} : pureXs xs → pureX (.tup xs)
inductive pureXs : List D → Prop
  | nil : pureXs []
  | cons {x xs} : pureX x → pureXs xs → pureXs (x :: xs)
end
mutual
theorem pureX.rep {Z : Wd} {μ μ' : Nat → Addr} {n n' : Nat} {H : Hp} : ∀ {d : D} {v : V}, pureX d → Rep Z μ n H d v → Rep Z μ' n' H d v
  | _, _, .non, .non => .non
  | _, _, .bl, .bl => .bl
  | _, _, .int, .int => .int
  | _, _, .str, .str => .str
  | _, _, .tup p, .tup h r => .tup h (pureXs.rep p r)
theorem pureXs.rep {Z : Wd} {μ μ' : Nat → Addr} {n n' : Nat} {H : Hp} : ∀ {ds : List D} {vs : List V}, pureXs ds → Reps Z μ n H ds vs → Reps Z μ' n' H ds vs
  | _, _, .nil, .nil => .nil
  | _, _, .cons p q, .cons a b => .cons (pureX.rep p a) (pureXs.rep q b)
end
mutual
theorem sameP_ok : ∀ (x : D) {y : D}, sameP x y = true → x = y ∧ pureX x
  | .und, y, h => by cases h
  | .non, y, h => by cases y <;> first | exact ⟨rfl, .non⟩ | cases h
  | .bl a, y, h => by
    cases y with
    | bl b => cases a <;> cases b <;> first | exact ⟨rfl, .bl⟩ | cases h
    | _ => cases h
  | .int i, y, h => by
    cases y with
    | int j =>
      have h : eqI i j = true := h
      rw [← eqI_eq, ieqB_eq] at h
      rw [eq_of_beq h]; exact ⟨rfl, .int⟩
    | _ => cases h
  | .str a, y, h => by
    cases y with
    | str b =>
      have h : (a == b) = true := h
      rw [eq_of_beq h]; exact ⟨rfl, .str⟩
    | _ => cases h
  | .tup xs, y, h => by
    rw [sameP_tup] at h
    cases y with
    | tup ys =>
      obtain ⟨e, p⟩ := samePs_ok xs h
      rw [e] at p ⊢; exact ⟨rfl, .tup p⟩
    | _ => cases h
  | .ref _, y, h => by cases h
  | .fn _, y, h => by cases h
  | .ty _, y, h => by cases h
  | .scr, y, h => by cases h
  | .frl _, y, h => by cases h
theorem samePs_ok : ∀ (xs : List D) {ys : List D}, samePs xs ys = true → xs = ys ∧ pureXs xs
  | [], ys, h => by cases ys with | nil => exact ⟨rfl, .nil⟩ | cons _ _ => cases h
  | x :: xs, ys, h => by
    cases ys with
    | nil => cases h
    | cons y ys =>
      have h : bI (sameP x y) (samePs xs ys) false = true := h
      rw [← bI_and] at h
      obtain ⟨h1, h2⟩ := and2 h
      obtain ⟨e1, p1⟩ := sameP_ok x h1
      obtain ⟨e2, p2⟩ := samePs_ok xs h2
      rw [e1, e2] at *
      exact ⟨rfl, .cons p1 p2⟩
end
def lookM (tb : List (List D × D)) (ds : List D) (kk : D → Bool) (els : Bool) : Bool := @List.rec (List D × D) (fun _ => Bool) els (fun p _ ih => bI (samePs p.1 ds) (kk p.2) ih) tb
/-- an answer: a datum; a frozen row stands for a new list -/
def ansM (v : D) (m : M) (k : Kc) : Bool := @D.rec (fun _ => Bool) (fun _ => Bool) (k v m) (k v m) (fun _ => k v m) (fun _ => k v m) (fun _ => k v m) (fun _ _ => k v m) (fun _ => k v m) (fun _ => k v m) (fun _ => k v m) (k v m) (fun xs _ => k (.ref m.n) (m.alloc (.lst xs))) false (fun _ _ _ _ => false) v
def chkM (v : D) (d : D) (m : M) : Bool := @D.rec (fun _ => Bool) (fun _ => Bool) false (sameP v d) (fun _ => sameP v d) (fun _ => sameP v d) (fun _ => sameP v d) (fun _ _ => sameP v d) (fun _ => false) (fun _ => false) (fun _ => false) false (fun xs _ => rD d fun j => gL (m.get j) fun ys => samePs xs ys) false (fun _ _ _ _ => false) v
/-- a call, by the table first -/
def memoF (tb : List (List D × D)) (f : SemF) : SemF := fun ds m k kx => lookM tb ds (fun v => ansM v m k) (f ds m k kx)
/-- a row of the table, run -/
def rowB (f : SemF) (ds : List D) (v : D) : Bool := f ds m0 (fun d m => chkM v d m) fun _ _ => false
inductive TbOk (f : SemF) : List (List D × D) → Prop
  | nil : TbOk f []
  | cons {ds v tb} : rowB f ds v = true → TbOk f tb → TbOk f ((ds, v) :: tb)
theorem lookM_cases {f : SemF} {ds : List D} {kk : D → Bool} {els : Bool} : ∀ {tb : List (List D × D)}, TbOk f tb → lookM tb ds kk els = true → els = true ∨ ∃ v, rowB f ds v = true ∧ pureXs ds ∧ kk v = true
  | [], _, h => .inl h
  | (es, v) :: tb, .cons h1 h2, h => by
    have h : bI (samePs es ds) (kk v) (lookM tb ds kk els) = true := h
    cases e : samePs es ds with
    | true =>
      rw [e] at h
      obtain ⟨e1, p⟩ := samePs_ok es e
      subst e1
      exact .inr ⟨v, h1, p, h⟩
    | false =>
      rw [e] at h
      exact lookM_cases h2 h
theorem DefOk.memo {P : Program} {w : World} {K : PySem.W.Frag} {mg : Str → Option Value} {base : Heap} {Z : Wd} {lev : Nat} {a : Addr} {n : Nat} {f : SemF} (F : DefOk P w K mg base Z lev a n f) {tb : List (List D × D)} (ht : TbOk f tb) : DefOk P w K mg base Z lev a n (memoF tb f) := by
  obtain ⟨fd, ps, h1, h2, h3⟩ := F.ex
  refine ⟨⟨fd, ps, h1.imp ?_, h2, h3⟩, fun ds m k kx h => ?_⟩
  · rintro vs H Q E ⟨hn, μ, m, ds, k, kx, S, R, t, Po, XP⟩
    rcases lookM_cases ht t with t | ⟨v, hr, hp, hk⟩
    · exact ⟨hn, μ, m, ds, k, kx, S, R, t, Po, XP⟩
    · have S0 : Sim Z μ m0 H := ⟨Nat.zero_le _, fun i hi => absurd hi (Nat.not_lt_zero i), fun i j hi => absurd hi (Nat.not_lt_zero i), fun i o g => absurd (M.get_some g).1 (Nat.not_lt_zero i), fun i o g => absurd (M.get_some g).1 (Nat.not_lt_zero i)⟩
      refine ⟨hn, μ, m0, ds, _, _, S0, hp.rep R, hr, fun μ' m' H' d v' L S' r e => ?_, fun _ _ _ _ _ _ z => (by cases z)⟩
      have kp : Kp H H' := fun x o q => (L.oth x o q fun i hi => absurd hi (Nat.not_lt_zero i)).1
      have S1 : Sim Z μ m H' := S.kp kp
      have L1 : Lt μ m H μ m H' := .kp kp
      by_cases hv : ∃ xs, v = .frl xs
      · obtain ⟨xs, rfl⟩ := hv
        have hk : k (.ref m.n) (m.alloc (.lst xs)) = true := hk
        have e : (rD d fun j => gL (m'.get j) fun ys => samePs xs ys) = true := e
        cases d with
        | ref j =>
          have e : (gL (m'.get j) fun ys => samePs xs ys) = true := e
          rw [← gL_eq] at e
          split at e
          · rename_i ys g
            obtain ⟨e1, p⟩ := samePs_ok xs e
            subst e1
            cases r with
            | ref hj =>
              obtain ⟨vs, e2, rs⟩ := S'.lst g
              have ap : Apt μ m.n (μ' j) := fun i hi z => by
                obtain ⟨o, ho⟩ := S.all hi
                obtain ⟨ho', q⟩ := S.isSome ho rfl
                exact (L.oth (μ i) ho' q fun i hi => absurd hi (Nat.not_lt_zero i)).2 j hj z.symm
              have S2 := S1.adopt ap (o := .lst xs) (fun _ z => by cases z) ⟨vs, e2, p.rep rs⟩
              have L2 : Lt μ m H (ext μ m.n (μ' j)) (m.alloc (.lst xs)) H' := ⟨⟨Nat.le_succ _, fun i hi => ext_lt hi, L1.tup, L1.frz⟩, rfl, fun i hi => alloc_get S1 (Nat.lt_of_lt_of_le hi S1.len), fun a o q n => by
                refine ⟨kp a o q, fun i hi => ?_⟩
                have hi : i < m.n + 1 := hi
                by_cases h2 : i = m.n
                · rw [h2, ext_eq]; exact (L.oth a o q fun i hi => absurd hi (Nat.not_lt_zero i)).2 j hj
                · rw [ext_lt (by omega)]; exact n i (by omega)⟩
              refine Po _ _ _ _ _ L2 S2 ?_ hk
              have := Rep.ref (Z := Z) (μ := ext μ m.n (μ' j)) (n := m.n + 1) (H := H') (i := m.n) (Nat.lt_succ_self _)
              rw [ext_eq] at this
              exact this
          · cases e
        | _ => cases e
      · have e : sameP v d = true := by
          cases v <;> first | exact e | cases e | exact absurd ⟨_, rfl⟩ hv
        obtain ⟨e1, p⟩ := sameP_ok v e
        subst e1
        have hk : k v m = true := by
          cases v <;> first | exact hk | exact absurd ⟨_, rfl⟩ hv
        exact Po μ m H' v v' L1 S1 (p.rep r) hk
  · rcases lookM_cases ht h with t | ⟨v, hr, _, _⟩
    · exact F.ar ds m k kx t
    · exact F.ar ds _ _ _ hr
theorem DefAt.memo {P : Program} {w : World} {K : PySem.W.Frag} {mg : Str → Option Value} {base : Heap} {Z : Wd} {lev : Nat} {x : Str} {f : SemF} (h : DefAt P w K mg base Z lev x f) {tb : List (List D × D)} (ht : TbOk f tb) : DefAt P w K mg base Z lev x (memoF tb f) := by
  obtain ⟨a, n, h1, h2⟩ := h
  exact ⟨a, n, h1, h2.memo ht⟩
end
end Ev

set_option Elab.async false
set_option linter.all false
set_option maxRecDepth 100000
set_option maxHeartbeats 2000000
/-! Ev33: a law in pieces: behind each piece the state is told outright (what is not told is let go), each piece is run by itself. -/
namespace Ev
open PySem PySem.Spec PyProof.Rows L2 HT
noncomputable section
/-- the tape alone -/
def m02 (cnt : Nat) : M := ⟨nat_lit 0, nat_lit 2, .n (some .hid) (.n (some (.tape (nat_lit 0))) .e .e) .e, cnt⟩
/-- a told state: a frozen row stands for a list of its own -/
def envG : Env → M → Env
  | [], _ => []
  | s :: r, m => match s with
    | .frl xs => .ref m.n :: envG r (m.alloc (.lst xs))
    | s => s :: envG r m
def memG : Env → M → M
  | [], m => m
  | s :: r, m => match s with
    | .frl xs => memG r (m.alloc (.lst xs))
    | _ => memG r m
def newB (i : Nat) (seen : List Nat) : Bool := match seen with
  | [] => true
  | j :: r => match Nat.beq i j with | true => false | false => newB i r
theorem newB_ok {i : Nat} : ∀ {seen : List Nat}, newB i seen = true → ∀ q ∈ seen, q ≠ i
  | [], _, q, h => by cases h
  | j :: r, h, q, hq => by
    unfold newB at h
    split at h
    · cases h
    · rename_i e
      rcases List.mem_cons.mp hq with hq | hq
      · subst hq
        intro z
        rw [z, Nat.beq_refl] at e
        cases e
      · exact newB_ok h q hq
/-- the state is as told -/
def gcW : Env → Env → M → List Nat → Bool
  | [], [], _, _ => true
  | s :: r, d :: ρ, m, seen => match s with
    | .und => gcW r ρ m seen
    | .ref n => Nat.beq n 1 && ((match d with | .ref j => Nat.beq j 1 | _ => false) && gcW r ρ m seen)
    | .frl xs => (match d with
      | .ref i => (match m.get i with
        | some (.lst ys) => newB i seen && (samePs xs ys && gcW r ρ m (i :: seen))
        | _ => false)
      | _ => false)
    | s => sameP s d && gcW r ρ m seen
  | _, _, _, _ => false
def gcB (s : Env) (cnt : Nat) (ρ : Env) (m : M) : Bool := Nat.ble m.tk cnt && ((match m.get 1 with | some (.tape 0) => true | _ => false) && gcW s ρ m [0, 1])
section
variable {Z : Wd} {μ μ1 : Nat → Addr} {m m1 : M} {H : Hp}
theorem erep_cons {d : D} {ρ : Env} {x : Option V} {σ : L2.St} {n : Nat} (h : d ≠ .und → ∃ v, x = some v ∧ Rep Z μ n H d v) (t : EnvRep Z μ n H ρ σ) : EnvRep Z μ n H (d :: ρ) (x :: σ) := by
  refine ⟨Nat.succ_le_succ t.len, fun i e he hn => ?_⟩
  cases i with
  | zero =>
    cases he
    obtain ⟨v, h1, h2⟩ := h hn
    exact ⟨v, by rw [h1]; rfl, h2⟩
  | succ i => exact t.at' i e he hn
theorem erep_tail {d : D} {ρ : Env} {x : Option V} {σ : L2.St} {n : Nat} (t : EnvRep Z μ n H (d :: ρ) (x :: σ)) : EnvRep Z μ n H ρ σ := ⟨Nat.le_of_succ_le_succ t.len, fun i e he hn => t.at' (i + 1) e he hn⟩
theorem gc_ok (S1 : Sim Z μ1 m1 H) : ∀ (s ρ : Env) (σ : L2.St) (seen : List Nat) (μ : Nat → Addr) (m : M), gcW s ρ m1 seen = true → EnvRep Z μ1 m1.n H ρ σ → Sim Z μ m H → 2 ≤ m.n → μ 1 = μ1 1 → (∀ i, i < m.n → ∃ q, q < m1.n ∧ q ∈ seen ∧ μ i = μ1 q) →
    ∃ μ', Sim Z μ' (memG s m) H ∧ EnvRep Z μ' (memG s m).n H (envG s m) σ ∧ (∀ i, i < m.n → μ' i = μ i) ∧ m.n ≤ (memG s m).n
  | [], ρ, σ, seen, μ, m, h, ER, S, h2, h3, J => by
    cases ρ with
    | nil => exact ⟨μ, S, ⟨Nat.zero_le _, fun i d e => by cases i <;> cases e⟩, fun _ _ => rfl, Nat.le_refl _⟩
    | cons _ _ => cases h
  | s :: r, [], σ, seen, μ, m, h, ER, S, h2, h3, J => by cases h
  | s :: r, d :: ρ, [], seen, μ, m, h, ER, S, h2, h3, J => by have := ER.len; exact absurd this (Nat.not_succ_le_zero _)
  | s :: r, d :: ρ, x :: σ, seen, μ, m, h, ER, S, h2, h3, J => by
    have hd := fun hn => ER.at' 0 d rfl hn
    have pureC : ∀ (hs : sameP s d = true) (hg : gcW r ρ m1 seen = true) (e1 : memG (s :: r) m = memG r m) (e2 : envG (s :: r) m = s :: envG r m), ∃ μ', Sim Z μ' (memG (s :: r) m) H ∧ EnvRep Z μ' (memG (s :: r) m).n H (envG (s :: r) m) (x :: σ) ∧ (∀ i, i < m.n → μ' i = μ i) ∧ m.n ≤ (memG (s :: r) m).n := fun hs hg e1 e2 => by
      obtain ⟨μ', S', E', q, l⟩ := gc_ok S1 r ρ σ seen μ m hg (erep_tail ER) S h2 h3 J
      obtain ⟨e, p⟩ := sameP_ok s hs
      rw [e1, e2]
      refine ⟨μ', S', erep_cons (fun hn => ?_) E', q, l⟩
      subst e
      obtain ⟨v, hv, rv⟩ := hd hn
      exact ⟨v, Option.some.inj hv, p.rep rv⟩
    cases s with
    | und =>
      obtain ⟨μ', S', E', q, l⟩ := gc_ok S1 r ρ σ seen μ m h (erep_tail ER) S h2 h3 J
      exact ⟨μ', S', erep_cons (fun hn => absurd rfl hn) E', q, l⟩
    | ref n =>
      have h : (Nat.beq n 1 && ((match (generalizing := false) d with | .ref j => Nat.beq j 1 | _ => false) && gcW r ρ m1 seen)) = true := h
      obtain ⟨h4, h5⟩ := and2 h
      obtain ⟨h6, h7⟩ := and2 h5
      have h8 := Nat.eq_of_beq_eq_true h4
      clear h h4 h5 pureC
      subst h8
      cases d with
      | ref j =>
        have h9 := Nat.eq_of_beq_eq_true (show Nat.beq j 1 = true from h6)
        clear h6
        subst h9
        obtain ⟨μ', S', E', q, l⟩ := gc_ok S1 r ρ σ seen μ m h7 (erep_tail ER) S h2 h3 J
        refine ⟨μ', S', erep_cons (fun hn => ?_) E', q, l⟩
        obtain ⟨v, hv, rv⟩ := hd (fun z => by cases z)
        cases rv with
        | ref hi =>
          refine ⟨_, Option.some.inj hv, ?_⟩
          have hq : μ' 1 = μ1 1 := (q 1 (by omega)).trans h3
          rw [← hq]
          exact .ref (Nat.lt_of_lt_of_le (show 1 < m.n by omega) l)
      | _ => cases h6
    | frl xs =>
      cases d with
      | ref i =>
        have h : (match m1.get i with | some (.lst ys) => newB i seen && (samePs xs ys && gcW r ρ m1 (i :: seen)) | _ => false) = true := h
        split at h
        · rename_i ys g
          obtain ⟨hn, h4⟩ := and2 h
          obtain ⟨hs, h5⟩ := and2 h4
          obtain ⟨e, p⟩ := samePs_ok xs hs
          clear h4 h
          subst e
          obtain ⟨hi, _⟩ := M.get_some g
          obtain ⟨vs, e2, rs⟩ := S1.lst g
          have ap : Apt μ m.n (μ1 i) := fun j hj z => by
            obtain ⟨q, hq, hqs, eq⟩ := J j hj
            have := S1.inj q i hq hi (eq.symm.trans z)
            exact newB_ok hn q hqs this
          have S2 := S.adopt ap (o := .lst xs) (fun _ z => by cases z) ⟨vs, e2, p.rep rs⟩
          obtain ⟨μ', S', E', q, l⟩ := gc_ok S1 r ρ σ (i :: seen) (ext μ m.n (μ1 i)) (m.alloc (.lst xs)) h5 (erep_tail ER) S2 (Nat.le_succ_of_le h2) (by rw [ext_lt (by omega)]; exact h3) (fun j hj => by
            have hj : j < m.n + 1 := hj
            by_cases ej : j = m.n
            · exact ⟨i, hi, List.mem_cons_self, by rw [ej, ext_eq]⟩
            · obtain ⟨q, hq, hqs, eq⟩ := J j (by omega)
              exact ⟨q, hq, List.mem_cons_of_mem _ hqs, by rw [ext_lt (by omega)]; exact eq⟩)
          refine ⟨μ', S', erep_cons (fun _ => ?_) E', fun j hj => ?_, ?_⟩
          · obtain ⟨v, hv, rv⟩ := hd (fun z => by cases z)
            cases rv with
            | ref hi2 =>
              refine ⟨_, Option.some.inj hv, ?_⟩
              have hq : μ' m.n = μ1 i := by
                rw [q m.n (show m.n < m.n + 1 by omega), ext_eq]
              rw [← hq]
              exact .ref (Nat.lt_of_lt_of_le (show m.n < m.n + 1 by omega) l)
          · rw [q j (show j < m.n + 1 by omega), ext_lt hj]
          · exact Nat.le_trans (Nat.le_succ m.n) l
        · cases h
      | _ => cases h
    | non => have h : (sameP (.non) d && gcW r ρ m1 seen) = true := h; obtain ⟨a, b⟩ := and2 h; exact pureC a b rfl rfl
    | bl _ => have h : (sameP (.bl _) d && gcW r ρ m1 seen) = true := h; obtain ⟨a, b⟩ := and2 h; exact pureC a b rfl rfl
    | int _ => have h : (sameP (.int _) d && gcW r ρ m1 seen) = true := h; obtain ⟨a, b⟩ := and2 h; exact pureC a b rfl rfl
    | str _ => have h : (sameP (.str _) d && gcW r ρ m1 seen) = true := h; obtain ⟨a, b⟩ := and2 h; exact pureC a b rfl rfl
    | tup _ => have h : (sameP (.tup _) d && gcW r ρ m1 seen) = true := h; obtain ⟨a, b⟩ := and2 h; exact pureC a b rfl rfl
    | fn q => have h : (sameP (.fn q) d && gcW r ρ m1 seen) = true := h; obtain ⟨a, b⟩ := and2 h; cases a
    | ty q => have h : (sameP (.ty q) d && gcW r ρ m1 seen) = true := h; obtain ⟨a, b⟩ := and2 h; cases a
    | scr => have h : (sameP (.scr) d && gcW r ρ m1 seen) = true := h; obtain ⟨a, b⟩ := and2 h; cases a
theorem gcB_ok (S1 : Sim Z μ1 m1 H) {s ρ : Env} {cnt : Nat} {σ : L2.St} (h : gcB s cnt ρ m1 = true) (ER : EnvRep Z μ1 m1.n H ρ σ) : ∃ μ', Sim Z μ' (memG s (m02 cnt)) H ∧ EnvRep Z μ' (memG s (m02 cnt)).n H (envG s (m02 cnt)) σ := by
  obtain ⟨h1, h⟩ := and2 h
  obtain ⟨h2, h3⟩ := and2 h
  have gt : m1.get 1 = some (.tape 0) := by
    split at h2
    · assumption
    · cases h2
  have gh := S1.tap 1 0 gt
  have n1 : 1 < m1.n := (M.get_some gt).1
  have S : Sim Z μ1 (m02 cnt) H := by
    refine ⟨Nat.zero_le _, fun i hi => (match i, hi with | 0, _ => ⟨_, rfl⟩ | 1, _ => ⟨_, rfl⟩ | i + 2, hi => absurd hi (by show ¬ (i + 2 < 2); omega)), fun i j hi hj e => ?_, fun i o g => ?_, fun i c g => ?_⟩
    · have hi : i < 2 := hi
      have hj : j < 2 := hj
      exact S1.inj i j (by omega) (by omega) e
    · have hi : i < 2 := (M.get_some g).1
      match i, hi with
      | 0, _ =>
        have g : some O.hid = some o := g
        cases g
        exact S1.obj 0 _ gh
      | 1, _ =>
        have g : some (O.tape 0) = some o := g
        cases g
        obtain ⟨_, cells, a1, a2, a3, a4, q1, q2, ok, hs⟩ := S1.obj 1 _ gt
        have := Nat.le_of_ble_eq_true h1
        exact ⟨show 0 < 2 by decide, cells, a1, a2, a3, a4, q1, q2, ok, show a4 ≤ (cnt : Int) by omega⟩
    · have hi : i < 2 := (M.get_some g).1
      match i, hi with
      | 0, _ => have g : some O.hid = some (O.tape c) := g; cases g
      | 1, _ =>
        have g : some (O.tape 0) = some (O.tape c) := g
        cases g
        rfl
  obtain ⟨μ', S', E', _, _⟩ := gc_ok S1 s ρ σ [0, 1] μ1 (m02 cnt) h3 ER S (Nat.le_refl 2) rfl fun i hi => by
    have hi : i < 2 := hi
    exact ⟨i, by omega, by match i, hi with | 0, _ => simp | 1, _ => simp, rfl⟩
  exact ⟨μ', S', E'⟩
end
/-- one of some told states -/
def altB (l : List (Env × Nat)) (ρ : Env) (m : M) : Bool := match l with
  | [] => false
  | p :: r => (match gcB p.1 p.2 ρ m with | true => true | false => altB r ρ m)
theorem altB_ok : ∀ {l : List (Env × Nat)} {ρ : Env} {m : M}, altB l ρ m = true → ∃ p ∈ l, gcB p.1 p.2 ρ m = true
  | [], ρ, m, h => by cases h
  | p :: r, ρ, m, h => by
    unfold altB at h
    split at h
    · rename_i e; exact ⟨p, List.mem_cons_self, e⟩
    · obtain ⟨q, hq, e⟩ := altB_ok h
      exact ⟨q, List.mem_cons_of_mem _ hq, e⟩
/-- a body from a state, piece by piece: how many statements, the state told behind, the count of draws -/
inductive Chain (c : Cfg) : List Stmt → Env → M → Prop
  | last {ss ρ m t} : trB c ss = some t → t ρ m (fun _ _ => false) (fun _ _ => false) (fun _ _ => false) kT (fun _ _ _ => false) = true → Chain c ss ρ m
  | seg {ss ρ m t} (k : Nat) (s : Env) (cnt : Nat) : trB c (ss.take k) = some t → t ρ m (fun ρ1 m1 => gcB s cnt ρ1 m1) (fun _ _ => false) (fun _ _ => false) kT (fun _ _ _ => false) = true →
      Chain c (ss.drop k) (envG s (m02 cnt)) (memG s (m02 cnt)) → Chain c ss ρ m
  | alt {ss ρ m t} (k : Nat) (l : List (Env × Nat)) : trB c (ss.take k) = some t → t ρ m (fun ρ1 m1 => altB l ρ1 m1) (fun _ _ => false) (fun _ _ => false) kT (fun _ _ _ => false) = true →
      (∀ p, p ∈ l → Chain c (ss.drop k) (envG p.1 (m02 p.2)) (memG p.1 (m02 p.2))) → Chain c ss ρ m
theorem alt_nil {F : Env × Nat → Prop} : ∀ p, p ∈ ([] : List (Env × Nat)) → F p := fun p h => by cases h
theorem alt_cons {F : Env × Nat → Prop} {q : Env × Nat} {l : List (Env × Nat)} (h : F q) (t : ∀ p, p ∈ l → F p) : ∀ p, p ∈ q :: l → F p := fun p hp => by
  rcases List.mem_cons.mp hp with e | hp
  · subst e; exact h
  · exact t p hp
section
variable {X : Cx} {Z : Wd} {W : WX} {c : Cfg}
def tC (Z : Wd) (ρ : Env) (m : M) : TS := fun D σ H => ∃ μ, Sim Z μ m H ∧ EnvRep Z μ m.n H ρ σ ∧ ∀ H', D.rt (.bl true) H'
theorem kT_ok {μ : Nat → Addr} {m : M} {H : Hp} {En : Ends} (q : ∀ H', En.rt (.bl true) H') : ∀ (μ' : Nat → Addr) (m' : M) (H' : Hp) (d : D) (v : V), Lt μ m H μ' m' H' → Sim Z μ' m' H' → Rep Z μ' m'.n H' d v → kT d m' = true → En.rt v H' := by
  intro μ' m' H' d v L S r e
  unfold kT at e
  split at e
  · cases r
    subst e
    exact q _
  · cases e
theorem chain_ok (g : GdS c X Z W) : ∀ {ss : List Stmt} {ρ : Env} {m : M}, Chain c ss ρ m → PSs X ss (tC Z ρ m)
  | ss, ρ, m, .last ht h => (trB_ok g ht).imp fun D σ H ⟨μ, S, ER, q⟩ => ⟨μ, m, ρ, _, _, _, _, _, S, ER, h, fun _ _ _ _ _ _ _ _ z => (by cases z), fun _ _ _ _ _ _ _ _ z => (by cases z), fun _ _ _ _ _ _ _ _ z => (by cases z), kT_ok q, fun _ _ _ _ _ _ _ _ _ z => (by cases z)⟩
  | ss, ρ, m, .seg k s cnt ht h r => by
    have h1 := seg_ok (fun s t q => (trN_ok 40).S g q) (chain_ok g r) _ _ ht
    rw [List.take_append_drop] at h1
    refine h1.imp fun D σ H ⟨μ, S, ER, q⟩ => ⟨μ, m, ρ, _, _, _, _, _, S, ER, h, fun μ1 m1 H1 ρ1 σ1 L S1 E1 e1 => ?_, fun _ _ _ _ _ _ _ _ z => (by cases z), fun _ _ _ _ _ _ _ _ z => (by cases z), kT_ok q, fun _ _ _ _ _ _ _ _ _ z => (by cases z)⟩
    obtain ⟨μ', S', E'⟩ := gcB_ok S1 e1 E1
    exact ⟨μ', S', E', q⟩
  | ss, ρ, m, .alt k l ht h r => by
    have rest : PSs X (ss.drop k) (fun D σ H => ∃ p, p ∈ l ∧ tC Z (envG p.1 (m02 p.2)) (memG p.1 (m02 p.2)) D σ H) :=
      ⟨fun pins s σ H D I ⟨p, hp, q⟩ => (chain_ok g (r p hp)).run pins s σ H D I q⟩
    have h1 := seg_ok (fun s t q => (trN_ok 40).S g q) rest _ _ ht
    rw [List.take_append_drop] at h1
    refine h1.imp fun D σ H ⟨μ, S, ER, q⟩ => ⟨μ, m, ρ, _, _, _, _, _, S, ER, h, fun μ1 m1 H1 ρ1 σ1 L S1 E1 e1 => ?_, fun _ _ _ _ _ _ _ _ z => (by cases z), fun _ _ _ _ _ _ _ _ z => (by cases z), kT_ok q, fun _ _ _ _ _ _ _ _ _ z => (by cases z)⟩
    obtain ⟨p, hp, e1⟩ := altB_ok e1
    obtain ⟨μ', S', E'⟩ := gcB_ok S1 e1 E1
    exact ⟨p, hp, μ', S', E', q⟩
end
section
variable {P : Program} {w : World} {K : PySem.W.Frag} {mg : Str → Option Value} {base : Heap} {Z : Wd} {c : Cfg}
/-- the law's def, in pieces -/
theorem lawChain (Vf : Wf P w K mg base Z c) {qual : Str} {st : Stmt} {f : Addr} {fd : FuncData} (F : L2.Fun K "law" qual st f fd) (pad : Nat) (S : FnScope c.N ["script"] (defScope st)) (hl : c.N.length = 1 + pad) (hsc : c.sc = (defScope st).names) (hZ : Z.K = K)
    (h : Chain c (defBody st) (.scr :: undN pad) m0) : FnOk P w K mg base (L2.CX P w) (c.lev + 1) f fd ["script"] (spLaw K) := by
  subst hZ
  refine Fun.okX F S (fun vs H Q E h => ?_) fun cdv A outer s H vs Q E hr h1 => ⟨_, chain_ok (gd_of Vf S hsc hr) h, ?_⟩
  · obtain ⟨a, ns, rfl, _⟩ := h
    rfl
  · obtain ⟨a, ns, rfl, hS, hl2, hO, q⟩ := h1
    have hF : SqF Z.K H a (ns.map V.int) := by
      rcases hS with (hS | ⟨o, hS⟩) | hS
      · rcases hO a with e | ⟨o, xs, e⟩
        · rw [hS] at e; cases e
        · rw [hS] at e; cases e
      · exact .inl ⟨o, hS⟩
      · exact .inr hS
    have S0 : Sim Z (fun _ => 0) m0 H := ⟨Nat.zero_le _, fun i hi => absurd hi (Nat.not_lt_zero i), fun i j hi => absurd hi (Nat.not_lt_zero i), fun i o g => absurd (M.get_some g).1 (Nat.not_lt_zero i), fun i o g => absurd (M.get_some g).1 (Nat.not_lt_zero i)⟩
    have R : Reps Z (fun _ => 0) m0.n H [.scr] [.ref a] := .cons (.scr hF hl2) .nil
    exact ⟨fun _ => 0, S0, start_rep R (by rw [hl]; rfl), q⟩
end
/-! ### a piece, quickly -/
def tab (n : Nat) : Nat → (Nat → D) → List D := @Nat.rec (fun _ => Nat → (Nat → D) → List D) (fun _ _ => []) (fun _ ih j g => g j :: ih (Nat.succ j) g) n
theorem tab_eq {ρ : Env} : ∀ (n j : Nat), ρ.length = j + n → ρ.drop j = tab n j (gd ρ)
  | 0, j, h => by rw [List.drop_eq_nil_of_le (by omega)]; rfl
  | n + 1, j, h => by
    rw [gd_drop (by omega), tab_eq n (j + 1) (by omega)]
    rfl
theorem tab_all {ρ : Env} {N : Nat} (h : ρ.length = N) : tab N 0 (gd ρ) = ρ := by
  rw [← tab_eq N 0 (by omega)]; rfl
section
variable {ε : Type} {eF : (Nat → D) → ε} {N : Nat} {r : SemS} {t : XS ε} {ρ : Env} {m : M} {a : ε} {m' : M}
/-- a piece that is not the last -/
theorem piece {post : Env → M → Bool} {ls : ε → (Env → Bool) → Bool} (z : RS (enF eF) N r t) (hρ : ρ.length = N) (hl : ∀ g k, ls (eF g) k = k (tab N 0 g)) (ha : a = enF eF ρ) (hm : m' = m)
    (h : t a m' (fun a m => ls a fun ρ => post ρ m) (fun _ _ => false) (fun _ _ => false) kT (fun _ _ _ => false) = true) : r ρ m (fun ρ1 m1 => post ρ1 m1) (fun _ _ => false) (fun _ _ => false) kT (fun _ _ _ => false) = true := by
  subst ha hm
  refine (z ρ hρ m' (fun ρ1 m1 => post ρ1 m1) _ _ _ _ _ kT _ _ (fun ρ' h' => ?_) (fun _ _ => rfl) (fun _ _ => rfl) (fun _ _ _ => rfl)).symm.trans h
  funext m1
  show ls (eF (gd ρ')) (fun ρ => post ρ m1) = _
  rw [hl, tab_all h']
/-- the last piece -/
theorem pieceL (z : RS (enF eF) N r t) (hρ : ρ.length = N) (ha : a = enF eF ρ) (hm : m' = m)
    (h : t a m' (fun _ _ => false) (fun _ _ => false) (fun _ _ => false) kT (fun _ _ _ => false) = true) : r ρ m (fun _ _ => false) (fun _ _ => false) (fun _ _ => false) kT (fun _ _ _ => false) = true := by
  subst ha hm
  exact (z ρ hρ m' _ _ _ _ _ _ kT _ _ (fun _ _ => rfl) (fun _ _ => rfl) (fun _ _ => rfl) (fun _ _ _ => rfl)).symm.trans h
end
end
end Ev

set_option Elab.async false
set_option linter.all false
set_option maxRecDepth 100000
set_option maxHeartbeats 2000000
/-! Ev34: exceptions of a program's own, recursion. -/
namespace Ev
open PySem PySem.Spec PyProof.Rows L2 HT
noncomputable section
section
variable {P : Program} {w : World} {K : PySem.W.Frag} {mg : Str → Option Value} {base h : Heap} {Z : Wd} {lev : Nat} {vals clss : List Str}
def ExsAt (K : PySem.W.Frag) (mg : Str → Option Value) (Z : Wd) (x : Str) (k : Nat) : Prop := ∃ C bmB B newId initId, Z.cls k = .ref C ∧ ExcBaseFacts B newId initId bmB ∧ PySem.W.excIn K C bmB newId = true ∧ mg x = some (.ref C) ∧ PySem.W.keepIn K (.ref C) = true ∧
    PySem.W.subIn K (.ref C) (.type "BaseException") = some true ∧ PySem.W.typeIn K (.ref C) = some (.type "type")
theorem exs_nil : ∀ x k, ([] : List (Str × Nat)).lookup x = some k → ExsAt K mg Z x k := fun x k h => by cases h
theorem exs_cons {x : Str} {k : Nat} {l : List (Str × Nat)} (h : ExsAt K mg Z x k) (r : ∀ x k, l.lookup x = some k → ExsAt K mg Z x k) : ∀ y j, ((x, k) :: l).lookup y = some j → ExsAt K mg Z y j := fun y g e => by
  rw [List.lookup_cons] at e
  split at e
  · rename_i he
    cases e
    rw [eq_of_beq he]; exact h
  · exact r y g e
theorem cls_of {x : Str} {j : Nat} {C : Addr} (h : clss[j]? = some x) (a : mg x = some (.ref C)) : (Zof K mg vals clss).cls j = .ref C := by
  show (match clss[j]? with | some x => (match mg x with | some v => v | none => .none) | none => .none) = _
  rw [h]
  show (match mg x with | some v => v | none => .none) = _
  rw [a]
theorem exs_mk {x : Str} {j : Nat} {C : Addr} {bmB : List Value} {B newId initId : String} (hj : clss[j]? = some x) (F : ExcBaseFacts B newId initId bmB) (X : K.In h) (G : h.Ns mainGlobals mg) (a : PySem.W.nsIn K mainGlobals x = some (some (.ref C))) (q : PySem.W.excIn K C bmB newId = true)
    (k : PySem.W.keepIn K (.ref C) = true) (s : PySem.W.subIn K (.ref C) (.type "BaseException") = some true) (t : PySem.W.typeIn K (.ref C) = some (.type "type")) : ExsAt K mg (Zof K mg vals clss) x j :=
  ⟨C, bmB, B, newId, initId, cls_of hj (PySem.W.mg_of X G a), F, q, PySem.W.mg_of X G a, k, s, t⟩
def HitAt (mg : Str → Option Value) (Z : Wd) (x : Str) (h : Nat → Option Bool) : Prop := ∃ C, mg x = some C ∧ ∀ k b, h k = some b → PySem.W.exmOne Z.K (Z.cls k) C = some b
theorem hit_nil : ∀ x h, ([] : List (Str × (Nat → Option Bool))).lookup x = some h → HitAt mg Z x h := fun x k h => by cases h
theorem hit_cons {x : Str} {k : Nat → Option Bool} {l : List (Str × (Nat → Option Bool))} (h : HitAt mg Z x k) (r : ∀ x k, l.lookup x = some k → HitAt mg Z x k) : ∀ y j, ((x, k) :: l).lookup y = some j → HitAt mg Z y j := fun y g e => by
  rw [List.lookup_cons] at e
  split at e
  · rename_i he
    cases e
    rw [eq_of_beq he]; exact h
  · exact r y g e
theorem exm_any {C S : Addr} {b : Bool} (h1 : PySem.W.subIn K (.ref S) (.type "BaseException") = some true) (h2 : PySem.W.isClsIn K S = true) (h3 : PySem.W.typeIn K (.ref S) = some (.type "type")) (h4 : PySem.W.subIn K (.ref C) (.ref S) = some b) : PySem.W.exmOne K (.ref C) (.ref S) = some b := by
  unfold PySem.W.exmOne
  rw [h1, if_pos (by decide)]
  unfold PySem.W.kitCls
  dsimp only
  rw [h3]
  have h2' : (PySem.W.clsIn K S).isSome = true := by
    unfold PySem.W.isClsIn at h2
    exact h2
  rw [h2', if_pos (by decide)]
  exact h4
theorem hit_mk {x : Str} {S : Addr} {f : Nat → Option Bool} (X : K.In h) (G : h.Ns mainGlobals mg) (a : PySem.W.nsIn K mainGlobals x = some (some (.ref S))) (h1 : PySem.W.subIn K (.ref S) (.type "BaseException") = some true) (h2 : PySem.W.isClsIn K S = true) (h3 : PySem.W.typeIn K (.ref S) = some (.type "type"))
    (hk : ∀ k b, f k = some b → ∃ y C, clss[k]? = some y ∧ mg y = some (.ref C) ∧ PySem.W.subIn K (.ref C) (.ref S) = some b) : HitAt mg (Zof K mg vals clss) x f := by
  refine ⟨.ref S, PySem.W.mg_of X G a, fun k b e => ?_⟩
  obtain ⟨y, C, e1, e2, e3⟩ := hk k b e
  rw [cls_of e1 e2]
  exact exm_any h1 h2 h3 e3
/-- one raised class and a caught one -/
theorem sub_mk {y : Str} {C S : Addr} {b : Bool} {k : Nat} (X : K.In h) (G : h.Ns mainGlobals mg) (hk : clss[k]? = some y) (a : PySem.W.nsIn K mainGlobals y = some (some (.ref C))) (s : PySem.W.subIn K (.ref C) (.ref S) = some b) : ∃ y C, clss[k]? = some y ∧ mg y = some (.ref C) ∧ PySem.W.subIn K (.ref C) (.ref S) = some b :=
  ⟨y, C, hk, PySem.W.mg_of X G a, s⟩
/-- a def of which nothing is asked -/
def neverF : SemF := fun _ _ _ _ => false
theorem never_at {x : Str} {st : Stmt} {ps : List Str} (F : HasDef K mg x st ps) : DefAt P w K mg base Z lev x neverF := by
  obtain ⟨a, fd, z, h1, h2, h3⟩ := F.ex
  have no : ∀ vs H Q E, ¬ spF Z ps.length neverF vs H Q E := fun vs H Q E ⟨_, _, _, _, _, _, _, _, z, _⟩ => by cases z
  exact ⟨a, ps.length, h3, ⟨fd, ps, ⟨fun vs H Q E h => absurd h (no _ _ _ _), fun A outer s H args us vs Q E _ _ _ _ h => absurd h (no _ _ _ _)⟩, h1.kp, h2⟩, fun ds m k kx h => by cases h⟩
end
end
end Ev

set_option Elab.async false
set_option linter.all false
set_option maxRecDepth 100000
set_option maxHeartbeats 0
namespace Lw
open PySem PySem.Spec PyProof.Rows L2 HT Ev
noncomputable section
def i0 : D := .int (.ofNat (nat_lit 0))
def i1 : D := .int (.ofNat (nat_lit 1))
def i2 : D := .int (.ofNat (nat_lit 2))
def i3 : D := .int (.ofNat (nat_lit 3))
def i4 : D := .int (.ofNat (nat_lit 4))
def i5 : D := .int (.ofNat (nat_lit 5))
def i9 : D := .int (.ofNat (nat_lit 9))
def st (i : Nat) : Stmt := PySem.Challenge.pw_countedbypapers_k16_whole_permutations.main.body.getD i (.Pass ⟨0, 0, 0, 0⟩)
def hit_NoShape : Nat → Option Bool := fun k => match k with | 0 => some true | _ => none
/- _law_count -/
def c__law_count_ : Cfg := ⟨["values", "size", "k", "x"], (defScope (st 40)).names, true, 0, [], [], [], [], fun _ => none⟩
def b__law_count : SemS := (retC (appC tupleF (consC (lcC (rng1I (consC (varC 1) nilC)) (gNm 2) yesT (appC lenF (consC (lcC (seqI (varC 0)) (gNm 3) (blT (binC eqD (varC 3) (varC 2))) (varC 3) [3]) nilC)) [2]) nilC)))
def f__law_count : SemF := mkF 2 2 b__law_count
def r__law_count : SemS := (retC (appC tupleR (consC (lcR2 (rng1R (consC (varR 1) nilC)) (gNR 2) yesT (appC lenFR (consC (lcR2 (seqIR (varR 0)) (gNR 3) (blR (binC eqR (varR 3) (varR 2))) (varR 3) [3]) nilC)) [2]) nilC)))
def g__law_count : SemF := pureFR (mkR 2 2 r__law_count)
abbrev E4 : Type := (D → D → D → D → Bool) → Bool
def eF4 (g : Nat → D) : E4 := fun f => f (g 0) (g 1) (g 2) (g 3)
def V4_0 : XE E4 := fun ρ m k _ => ρ fun v0 _ _ _ => unR v0 (k v0 m)
theorem qV4_0 : RE (enF eF4) 4 (varR 0) V4_0 := sl_var (by decide) fun _ _ _ _ => rfl
def V4_1 : XE E4 := fun ρ m k _ => ρ fun _ v1 _ _ => unR v1 (k v1 m)
theorem qV4_1 : RE (enF eF4) 4 (varR 1) V4_1 := sl_var (by decide) fun _ _ _ _ => rfl
def V4_2 : XE E4 := fun ρ m k _ => ρ fun _ _ v2 _ => unR v2 (k v2 m)
theorem qV4_2 : RE (enF eF4) 4 (varR 2) V4_2 := sl_var (by decide) fun _ _ _ _ => rfl
def V4_3 : XE E4 := fun ρ m k _ => ρ fun _ _ _ v3 => unR v3 (k v3 m)
theorem qV4_3 : RE (enF eF4) 4 (varR 3) V4_3 := sl_var (by decide) fun _ _ _ _ => rfl
def S4_2 : XG E4 := fun d ρ _ k => ρ fun v0 v1 _ v3 => k fun f => f v0 v1 d v3
theorem qS4_2 : RG (enF eF4) 4 (gNR 2) S4_2 := sl_set (by decide) fun _ _ _ _ => rfl
def S4_3 : XG E4 := fun d ρ _ k => ρ fun v0 v1 v2 _ => k fun f => f v0 v1 v2 d
theorem qS4_3 : RG (enF eF4) 4 (gNR 3) S4_3 := sl_set (by decide) fun _ _ _ _ => rfl
def cv2_4 : List D → (E4 → Bool) → Bool := fun ds k => liR ds false fun x0 r => liR r false fun x1 r => liR r (k fun f => f x0 x1 .und .und) fun _ _ => false
theorem cvh2_4 (ds : List D) (k : E4 → Bool) (h : ds.length = 2) : cv2_4 ds k = k (enF eF4 (ds ++ undN 2)) := match ds, h with | [_, _], _ => rfl
theorem cvd2_4 (r0 : List D) (k : E4 → Bool) (h : r0.length ≠ 2) : cv2_4 r0 k = false := by
  cases r0 with
  | nil => rfl
  | cons x0 r1 =>
    cases r1 with
    | nil => rfl
    | cons x1 r2 =>
      cases r2 with
      | nil => exact absurd rfl h
      | cons _ _ => rfl

def t__law_count_ : XS E4 := (retP (appP tupleR (consP (lcP (rng1P (consP V4_1 nilP)) S4_2 yesP (appP lenFR (consP (lcP (seqIP V4_0) S4_3 (blP (binP eqR V4_3 V4_2)) V4_3 (wpC S4_3 wpN)) nilP)) (wpC S4_2 wpN)) nilP)))
theorem z__law_count : RS (enF eF4) 4 r__law_count t__law_count_ := by delta r__law_count t__law_count_; exact (q_ret (q_app (q_cons (q_lc (q_rng1 (q_cons qV4_1 q_nil)) qS4_2 q_yes (q_app (q_cons (q_lc (q_seqI qV4_0) qS4_3 (q_bl (q_bin qV4_3 qV4_2)) qV4_3 (q_wpC qS4_3 q_wpN)) q_nil)) (q_wpC qS4_2 q_wpN)) q_nil)))
def h__law_count : SemF := pureFR (mkP cv2_4 t__law_count_)
theorem H__law_count : g__law_count = h__law_count := by delta g__law_count h__law_count; rw [q_mk (e := enF eF4) rfl cvh2_4 cvd2_4 z__law_count]
theorem q__law_count : b__law_count = r__law_count := by delta b__law_count r__law_count; rw [tupleF_R, lcC_R, rng1I_R, varC_R, gNm_R, lenF_R, seqI_R, blT_R, eqD_R]
def p__law_count : SemF := pureF f__law_count
theorem G__law_count : p__law_count = g__law_count := by delta p__law_count f__law_count g__law_count; rw [pureF_R, mkF_R, q__law_count]
theorem s__law_count : FnScope ["values", "size", "k", "x"] ["values", "size"] (defScope (st 40)) := ⟨rfl, rfl, rfl, by decide +kernel, rfl, by decide +kernel, by decide +kernel⟩
theorem t__law_count : trB c__law_count_ (defBody (st 40)) = some b__law_count := by kernel_rfl
/- _law_des -/
def c__law_des_ : Cfg := ⟨["row", "k"], (defScope (st 36)).names, true, 0, [], [], [], [], fun _ => none⟩
def b__law_des : SemS := (retC (appC tupleF (consC (lcC (rng2I (consC (litC (.int 1)) (consC (appC lenF (consC (varC 0) nilC)) nilC))) (gNm 1) (blT (binC gtD (binC ixD (varC 0) (binC subD (varC 1) (litC (.int 1)))) (binC ixD (varC 0) (varC 1)))) (varC 1) [1]) nilC)))
def f__law_des : SemF := mkF 1 1 b__law_des
def r__law_des : SemS := (retC (appC tupleR (consC (lcR2 (rng2R (consC (litC (.int 1)) (consC (appC lenFR (consC (varR 0) nilC)) nilC))) (gNR 1) (blR (binC gtR (binC ixR (varR 0) (binC subR (varR 1) (litC (.int 1)))) (binC ixR (varR 0) (varR 1)))) (varR 1) [1]) nilC)))
def g__law_des : SemF := pureFR (mkR 1 1 r__law_des)
abbrev E2 : Type := (D → D → Bool) → Bool
def eF2 (g : Nat → D) : E2 := fun f => f (g 0) (g 1)
def V2_0 : XE E2 := fun ρ m k _ => ρ fun v0 _ => unR v0 (k v0 m)
theorem qV2_0 : RE (enF eF2) 2 (varR 0) V2_0 := sl_var (by decide) fun _ _ _ _ => rfl
def V2_1 : XE E2 := fun ρ m k _ => ρ fun _ v1 => unR v1 (k v1 m)
theorem qV2_1 : RE (enF eF2) 2 (varR 1) V2_1 := sl_var (by decide) fun _ _ _ _ => rfl
def S2_1 : XG E2 := fun d ρ _ k => ρ fun v0 _ => k fun f => f v0 d
theorem qS2_1 : RG (enF eF2) 2 (gNR 1) S2_1 := sl_set (by decide) fun _ _ _ _ => rfl
def cv1_2 : List D → (E2 → Bool) → Bool := fun ds k => liR ds false fun x0 r => liR r (k fun f => f x0 .und) fun _ _ => false
theorem cvh1_2 (ds : List D) (k : E2 → Bool) (h : ds.length = 1) : cv1_2 ds k = k (enF eF2 (ds ++ undN 1)) := match ds, h with | [_], _ => rfl
theorem cvd1_2 (r0 : List D) (k : E2 → Bool) (h : r0.length ≠ 1) : cv1_2 r0 k = false := by
  cases r0 with
  | nil => rfl
  | cons x0 r1 =>
    cases r1 with
    | nil => exact absurd rfl h
    | cons _ _ => rfl

def t__law_des_ : XS E2 := (retP (appP tupleR (consP (lcP (rng2P (consP (litP (.int 1)) (consP (appP lenFR (consP V2_0 nilP)) nilP))) S2_1 (blP (binP gtR (binP ixR V2_0 (binP subR V2_1 (litP (.int 1)))) (binP ixR V2_0 V2_1))) V2_1 (wpC S2_1 wpN)) nilP)))
theorem z__law_des : RS (enF eF2) 2 r__law_des t__law_des_ := by delta r__law_des t__law_des_; exact (q_ret (q_app (q_cons (q_lc (q_rng2 (q_cons q_lit (q_cons (q_app (q_cons qV2_0 q_nil)) q_nil))) qS2_1 (q_bl (q_bin (q_bin qV2_0 (q_bin qV2_1 q_lit)) (q_bin qV2_0 qV2_1))) qV2_1 (q_wpC qS2_1 q_wpN)) q_nil)))
def h__law_des : SemF := pureFR (mkP cv1_2 t__law_des_)
theorem H__law_des : g__law_des = h__law_des := by delta g__law_des h__law_des; rw [q_mk (e := enF eF2) rfl cvh1_2 cvd1_2 z__law_des]
theorem q__law_des : b__law_des = r__law_des := by delta b__law_des r__law_des; rw [tupleF_R, lcC_R, rng2I_R, lenF_R, varC_R, gNm_R, blT_R, gtD_R, ixD_R, subD_R]
def p__law_des : SemF := pureF f__law_des
theorem G__law_des : p__law_des = g__law_des := by delta p__law_des f__law_des g__law_des; rw [pureF_R, mkF_R, q__law_des]
theorem s__law_des : FnScope ["row", "k"] ["row"] (defScope (st 36)) := ⟨rfl, rfl, rfl, by decide +kernel, rfl, by decide +kernel, by decide +kernel⟩
theorem t__law_des : trB c__law_des_ (defBody (st 36)) = some b__law_des := by kernel_rfl
/- _law_foata -/
def c__law_foata_ : Cfg := ⟨["row", "found", "x", "low", "pieces", "piece", "y", "one"], (defScope (st 39)).names, true, 0, [], [], [], [], fun _ => none⟩
def b__law_foata : SemS := (seqC (setC (gNm 1) (lstC nilC))
  (seqC (forC (seqI (varC 0)) (gNm 2) (seqC (ifS (blT (binC neD (varC 1) (lstC nilC))) (seqC (par3C 3 4 5 (consC (binC ltD (binC ixD (varC 1) (unC negD (litC (.int 1)))) (varC 2)) (consC (lstC nilC) (consC (lstC nilC) nilC))))
  (seqC (forC (seqI (varC 1)) (gNm 6) (seqC (setC (gNm 5) (binC addD (varC 5) (lstC (consC (varC 6) nilC))))
  (ifS (blT (binC eqD (binC ltD (varC 6) (varC 2)) (varC 3))) (par2C 4 5 (consC (binC addD (varC 4) (lstC (consC (varC 5) nilC))) (consC (lstC nilC) nilC))) passC)))
  (seqC (setC (gNm 1) (lstC nilC))
  (forC (seqI (varC 4)) (gNm 7) (setC (gNm 1) (binC addD (binC addD (varC 1) (slC (varC 7) (someP (unC negD (litC (.int 1)))) noP)) (slC (varC 7) noP (someP (unC negD (litC (.int 1))))))))))) passC)
  (setC (gNm 1) (binC addD (varC 1) (lstC (consC (varC 2) nilC))))))
  (retC (appC tupleF (consC (varC 1) nilC)))))
def f__law_foata : SemF := mkF 1 7 b__law_foata
def r__law_foata : SemS := (seqC (setC (gNR 1) (lstR nilC))
  (seqC (forR (seqIR (varR 0)) (gNR 2) (seqC (ifSR (blR (binC neR2 (varR 1) (lstR nilC))) (seqC (par3R 3 4 5 (consC (binC ltDR (binC ixR (varR 1) (unC negR (litC (.int 1)))) (varR 2)) (consC (lstR nilC) (consC (lstR nilC) nilC))))
  (seqC (forR (seqIR (varR 1)) (gNR 6) (seqC (setC (gNR 5) (binC addR (varR 5) (lstR (consC (varR 6) nilC))))
  (ifSR (blR (binC eqR (binC ltDR (varR 6) (varR 2)) (varR 3))) (par2R 4 5 (consC (binC addR (varR 4) (lstR (consC (varR 5) nilC))) (consC (lstR nilC) nilC))) passC)))
  (seqC (setC (gNR 1) (lstR nilC))
  (forR (seqIR (varR 4)) (gNR 7) (setC (gNR 1) (binC addR (binC addR (varR 1) (slR (varR 7) (somePR (unC negR (litC (.int 1)))) noP)) (slR (varR 7) noP (somePR (unC negR (litC (.int 1))))))))))) passC)
  (setC (gNR 1) (binC addR (varR 1) (lstR (consC (varR 2) nilC))))))
  (retC (appC tupleR (consC (varR 1) nilC)))))
def g__law_foata : SemF := pureFR (mkR 1 7 r__law_foata)
abbrev E8 : Type := (D → D → D → D → D → D → D → D → Bool) → Bool
def eF8 (g : Nat → D) : E8 := fun f => f (g 0) (g 1) (g 2) (g 3) (g 4) (g 5) (g 6) (g 7)
def V8_0 : XE E8 := fun ρ m k _ => ρ fun v0 _ _ _ _ _ _ _ => unR v0 (k v0 m)
theorem qV8_0 : RE (enF eF8) 8 (varR 0) V8_0 := sl_var (by decide) fun _ _ _ _ => rfl
def V8_1 : XE E8 := fun ρ m k _ => ρ fun _ v1 _ _ _ _ _ _ => unR v1 (k v1 m)
theorem qV8_1 : RE (enF eF8) 8 (varR 1) V8_1 := sl_var (by decide) fun _ _ _ _ => rfl
def V8_2 : XE E8 := fun ρ m k _ => ρ fun _ _ v2 _ _ _ _ _ => unR v2 (k v2 m)
theorem qV8_2 : RE (enF eF8) 8 (varR 2) V8_2 := sl_var (by decide) fun _ _ _ _ => rfl
def V8_3 : XE E8 := fun ρ m k _ => ρ fun _ _ _ v3 _ _ _ _ => unR v3 (k v3 m)
theorem qV8_3 : RE (enF eF8) 8 (varR 3) V8_3 := sl_var (by decide) fun _ _ _ _ => rfl
def V8_4 : XE E8 := fun ρ m k _ => ρ fun _ _ _ _ v4 _ _ _ => unR v4 (k v4 m)
theorem qV8_4 : RE (enF eF8) 8 (varR 4) V8_4 := sl_var (by decide) fun _ _ _ _ => rfl
def V8_5 : XE E8 := fun ρ m k _ => ρ fun _ _ _ _ _ v5 _ _ => unR v5 (k v5 m)
theorem qV8_5 : RE (enF eF8) 8 (varR 5) V8_5 := sl_var (by decide) fun _ _ _ _ => rfl
def V8_6 : XE E8 := fun ρ m k _ => ρ fun _ _ _ _ _ _ v6 _ => unR v6 (k v6 m)
theorem qV8_6 : RE (enF eF8) 8 (varR 6) V8_6 := sl_var (by decide) fun _ _ _ _ => rfl
def V8_7 : XE E8 := fun ρ m k _ => ρ fun _ _ _ _ _ _ _ v7 => unR v7 (k v7 m)
theorem qV8_7 : RE (enF eF8) 8 (varR 7) V8_7 := sl_var (by decide) fun _ _ _ _ => rfl
def S8_1 : XG E8 := fun d ρ _ k => ρ fun v0 _ v2 v3 v4 v5 v6 v7 => k fun f => f v0 d v2 v3 v4 v5 v6 v7
theorem qS8_1 : RG (enF eF8) 8 (gNR 1) S8_1 := sl_set (by decide) fun _ _ _ _ => rfl
def S8_2 : XG E8 := fun d ρ _ k => ρ fun v0 v1 _ v3 v4 v5 v6 v7 => k fun f => f v0 v1 d v3 v4 v5 v6 v7
theorem qS8_2 : RG (enF eF8) 8 (gNR 2) S8_2 := sl_set (by decide) fun _ _ _ _ => rfl
def S8_3 : XG E8 := fun d ρ _ k => ρ fun v0 v1 v2 _ v4 v5 v6 v7 => k fun f => f v0 v1 v2 d v4 v5 v6 v7
theorem qS8_3 : RG (enF eF8) 8 (gNR 3) S8_3 := sl_set (by decide) fun _ _ _ _ => rfl
def S8_4 : XG E8 := fun d ρ _ k => ρ fun v0 v1 v2 v3 _ v5 v6 v7 => k fun f => f v0 v1 v2 v3 d v5 v6 v7
theorem qS8_4 : RG (enF eF8) 8 (gNR 4) S8_4 := sl_set (by decide) fun _ _ _ _ => rfl
def S8_5 : XG E8 := fun d ρ _ k => ρ fun v0 v1 v2 v3 v4 _ v6 v7 => k fun f => f v0 v1 v2 v3 v4 d v6 v7
theorem qS8_5 : RG (enF eF8) 8 (gNR 5) S8_5 := sl_set (by decide) fun _ _ _ _ => rfl
def S8_6 : XG E8 := fun d ρ _ k => ρ fun v0 v1 v2 v3 v4 v5 _ v7 => k fun f => f v0 v1 v2 v3 v4 v5 d v7
theorem qS8_6 : RG (enF eF8) 8 (gNR 6) S8_6 := sl_set (by decide) fun _ _ _ _ => rfl
def S8_7 : XG E8 := fun d ρ _ k => ρ fun v0 v1 v2 v3 v4 v5 v6 _ => k fun f => f v0 v1 v2 v3 v4 v5 v6 d
theorem qS8_7 : RG (enF eF8) 8 (gNR 7) S8_7 := sl_set (by decide) fun _ _ _ _ => rfl
def cv1_8 : List D → (E8 → Bool) → Bool := fun ds k => liR ds false fun x0 r => liR r (k fun f => f x0 .und .und .und .und .und .und .und) fun _ _ => false
theorem cvh1_8 (ds : List D) (k : E8 → Bool) (h : ds.length = 1) : cv1_8 ds k = k (enF eF8 (ds ++ undN 7)) := match ds, h with | [_], _ => rfl
theorem cvd1_8 (r0 : List D) (k : E8 → Bool) (h : r0.length ≠ 1) : cv1_8 r0 k = false := by
  cases r0 with
  | nil => rfl
  | cons x0 r1 =>
    cases r1 with
    | nil => exact absurd rfl h
    | cons _ _ => rfl

def t__law_foata_ : XS E8 := (seqP (setP S8_1 (lstP nilP)) (seqP (forP (seqIP V8_0) S8_2 (seqP (ifSP (blP (binP neR2 V8_1 (lstP nilP))) (seqP (par3P S8_3 S8_4 S8_5 (consP (binP ltDR (binP ixR V8_1 (unP negR (litP (.int 1)))) V8_2) (consP (lstP nilP) (consP (lstP nilP) nilP)))) (seqP (forP (seqIP V8_1) S8_6 (seqP (setP S8_5 (binP addR V8_5 (lstP (consP V8_6 nilP)))) (ifSP (blP (binP eqR (binP ltDR V8_6 V8_2) V8_3)) (par2P S8_4 S8_5 (consP (binP addR V8_4 (lstP (consP V8_5 nilP))) (consP (lstP nilP) nilP))) passP))) (seqP (setP S8_1 (lstP nilP)) (forP (seqIP V8_4) S8_7 (setP S8_1 (binP addR (binP addR V8_1 (slP V8_7 (someQ (unP negR (litP (.int 1)))) noPP)) (slP V8_7 noPP (someQ (unP negR (litP (.int 1))))))))))) passP) (setP S8_1 (binP addR V8_1 (lstP (consP V8_2 nilP)))))) (retP (appP tupleR (consP V8_1 nilP)))))
theorem z__law_foata : RS (enF eF8) 8 r__law_foata t__law_foata_ := by delta r__law_foata t__law_foata_; exact (q_seq (q_set qS8_1 (q_lst q_nil)) (q_seq (q_for (q_seqI qV8_0) qS8_2 (q_seq (q_ifS (q_bl (q_bin qV8_1 (q_lst q_nil))) (q_seq (q_par3 qS8_3 qS8_4 qS8_5 (q_cons (q_bin (q_bin qV8_1 (q_un q_lit)) qV8_2) (q_cons (q_lst q_nil) (q_cons (q_lst q_nil) q_nil)))) (q_seq (q_for (q_seqI qV8_1) qS8_6 (q_seq (q_set qS8_5 (q_bin qV8_5 (q_lst (q_cons qV8_6 q_nil)))) (q_ifS (q_bl (q_bin (q_bin qV8_6 qV8_2) qV8_3)) (q_par2 qS8_4 qS8_5 (q_cons (q_bin qV8_4 (q_lst (q_cons qV8_5 q_nil))) (q_cons (q_lst q_nil) q_nil))) q_pass))) (q_seq (q_set qS8_1 (q_lst q_nil)) (q_for (q_seqI qV8_4) qS8_7 (q_set qS8_1 (q_bin (q_bin qV8_1 (q_sl qV8_7 (q_some (q_un q_lit)) q_noP)) (q_sl qV8_7 q_noP (q_some (q_un q_lit))))))))) q_pass) (q_set qS8_1 (q_bin qV8_1 (q_lst (q_cons qV8_2 q_nil)))))) (q_ret (q_app (q_cons qV8_1 q_nil)))))
def h__law_foata : SemF := pureFR (mkP cv1_8 t__law_foata_)
theorem H__law_foata : g__law_foata = h__law_foata := by delta g__law_foata h__law_foata; rw [q_mk (e := enF eF8) rfl cvh1_8 cvd1_8 z__law_foata]
theorem q__law_foata : b__law_foata = r__law_foata := by delta b__law_foata r__law_foata; rw [gNm_R, lstC_R, forC_R, seqI_R, varC_R, ifS_R, blT_R, neD_R, par3C_R, ltD_R, ixD_R, negD_R, addD_R, eqD_R, par2C_R, slC_R, someP_R, tupleF_R]
def p__law_foata : SemF := pureF f__law_foata
theorem G__law_foata : p__law_foata = g__law_foata := by delta p__law_foata f__law_foata g__law_foata; rw [pureF_R, mkF_R, q__law_foata]
theorem s__law_foata : FnScope ["row", "found", "x", "low", "pieces", "piece", "y", "one"] ["row"] (defScope (st 39)) := ⟨rfl, rfl, rfl, by decide +kernel, rfl, by decide +kernel, by decide +kernel⟩
theorem t__law_foata : trB c__law_foata_ (defBody (st 39)) = some b__law_foata := by kernel_rfl
/- _law_inv -/
def c__law_inv_ : Cfg := ⟨["row", "j", "k"], (defScope (st 35)).names, true, 0, [], [], [], [], fun _ => none⟩
def b__law_inv : SemS := (retC (appC sumF (consC (lcC (rng1I (consC (appC lenF (consC (varC 0) nilC)) nilC)) (gNm 1) yesT (appC lenF (consC (lcC (rng1I (consC (varC 1) nilC)) (gNm 2) (blT (binC gtD (binC ixD (varC 0) (varC 2)) (binC ixD (varC 0) (varC 1)))) (varC 2) [2]) nilC)) [1]) nilC)))
def f__law_inv : SemF := mkF 1 2 b__law_inv
def r__law_inv : SemS := (retC (appC sumR (consC (lcR2 (rng1R (consC (appC lenFR (consC (varR 0) nilC)) nilC)) (gNR 1) yesT (appC lenFR (consC (lcR2 (rng1R (consC (varR 1) nilC)) (gNR 2) (blR (binC gtR (binC ixR (varR 0) (varR 2)) (binC ixR (varR 0) (varR 1)))) (varR 2) [2]) nilC)) [1]) nilC)))
def g__law_inv : SemF := pureFR (mkR 1 2 r__law_inv)
abbrev E3 : Type := (D → D → D → Bool) → Bool
def eF3 (g : Nat → D) : E3 := fun f => f (g 0) (g 1) (g 2)
def V3_0 : XE E3 := fun ρ m k _ => ρ fun v0 _ _ => unR v0 (k v0 m)
theorem qV3_0 : RE (enF eF3) 3 (varR 0) V3_0 := sl_var (by decide) fun _ _ _ _ => rfl
def V3_1 : XE E3 := fun ρ m k _ => ρ fun _ v1 _ => unR v1 (k v1 m)
theorem qV3_1 : RE (enF eF3) 3 (varR 1) V3_1 := sl_var (by decide) fun _ _ _ _ => rfl
def V3_2 : XE E3 := fun ρ m k _ => ρ fun _ _ v2 => unR v2 (k v2 m)
theorem qV3_2 : RE (enF eF3) 3 (varR 2) V3_2 := sl_var (by decide) fun _ _ _ _ => rfl
def S3_1 : XG E3 := fun d ρ _ k => ρ fun v0 _ v2 => k fun f => f v0 d v2
theorem qS3_1 : RG (enF eF3) 3 (gNR 1) S3_1 := sl_set (by decide) fun _ _ _ _ => rfl
def S3_2 : XG E3 := fun d ρ _ k => ρ fun v0 v1 _ => k fun f => f v0 v1 d
theorem qS3_2 : RG (enF eF3) 3 (gNR 2) S3_2 := sl_set (by decide) fun _ _ _ _ => rfl
def cv1_3 : List D → (E3 → Bool) → Bool := fun ds k => liR ds false fun x0 r => liR r (k fun f => f x0 .und .und) fun _ _ => false
theorem cvh1_3 (ds : List D) (k : E3 → Bool) (h : ds.length = 1) : cv1_3 ds k = k (enF eF3 (ds ++ undN 2)) := match ds, h with | [_], _ => rfl
theorem cvd1_3 (r0 : List D) (k : E3 → Bool) (h : r0.length ≠ 1) : cv1_3 r0 k = false := by
  cases r0 with
  | nil => rfl
  | cons x0 r1 =>
    cases r1 with
    | nil => exact absurd rfl h
    | cons _ _ => rfl

def t__law_inv_ : XS E3 := (retP (appP sumR (consP (lcP (rng1P (consP (appP lenFR (consP V3_0 nilP)) nilP)) S3_1 yesP (appP lenFR (consP (lcP (rng1P (consP V3_1 nilP)) S3_2 (blP (binP gtR (binP ixR V3_0 V3_2) (binP ixR V3_0 V3_1))) V3_2 (wpC S3_2 wpN)) nilP)) (wpC S3_1 wpN)) nilP)))
theorem z__law_inv : RS (enF eF3) 3 r__law_inv t__law_inv_ := by delta r__law_inv t__law_inv_; exact (q_ret (q_app (q_cons (q_lc (q_rng1 (q_cons (q_app (q_cons qV3_0 q_nil)) q_nil)) qS3_1 q_yes (q_app (q_cons (q_lc (q_rng1 (q_cons qV3_1 q_nil)) qS3_2 (q_bl (q_bin (q_bin qV3_0 qV3_2) (q_bin qV3_0 qV3_1))) qV3_2 (q_wpC qS3_2 q_wpN)) q_nil)) (q_wpC qS3_1 q_wpN)) q_nil)))
def h__law_inv : SemF := pureFR (mkP cv1_3 t__law_inv_)
theorem H__law_inv : g__law_inv = h__law_inv := by delta g__law_inv h__law_inv; rw [q_mk (e := enF eF3) rfl cvh1_3 cvd1_3 z__law_inv]
theorem q__law_inv : b__law_inv = r__law_inv := by delta b__law_inv r__law_inv; rw [sumF_R, lcC_R, rng1I_R, lenF_R, varC_R, gNm_R, blT_R, gtD_R, ixD_R]
def p__law_inv : SemF := pureF f__law_inv
theorem G__law_inv : p__law_inv = g__law_inv := by delta p__law_inv f__law_inv g__law_inv; rw [pureF_R, mkF_R, q__law_inv]
theorem s__law_inv : FnScope ["row", "j", "k"] ["row"] (defScope (st 35)) := ⟨rfl, rfl, rfl, by decide +kernel, rfl, by decide +kernel, by decide +kernel⟩
theorem t__law_inv : trB c__law_inv_ (defBody (st 35)) = some b__law_inv := by kernel_rfl
/- _law_perms -/
def c__law_perms_ : Cfg := ⟨["size", "rows", "k", "longer", "row", "j"], (defScope (st 34)).names, true, 0, [], [], [], [], fun _ => none⟩
def b__law_perms : SemS := (seqC (setC (gNm 1) (lstC (consC (tupC nilC) nilC)))
  (seqC (forC (rng1I (consC (varC 0) nilC)) (gNm 2) (seqC (setC (gNm 3) (lstC nilC))
  (seqC (forC (seqI (varC 1)) (gNm 4) (setC (gNm 3) (binC addD (varC 3) (lcC (rng1I (consC (binC addD (appC lenF (consC (varC 4) nilC)) (litC (.int 1))) nilC)) (gNm 5) yesT (binC addD (binC addD (slC (varC 4) noP (someP (varC 5))) (tupC (consC (varC 2) nilC))) (slC (varC 4) (someP (varC 5)) noP)) [5]))))
  (setC (gNm 1) (varC 3)))))
  (retC (appC sortedF (consC (varC 1) nilC)))))
def f__law_perms : SemF := mkF 1 5 b__law_perms
def r__law_perms : SemS := (seqC (setC (gNR 1) (lstR (consC (tupR nilC) nilC)))
  (seqC (forR (rng1R (consC (varR 0) nilC)) (gNR 2) (seqC (setC (gNR 3) (lstR nilC))
  (seqC (forR (seqIR (varR 1)) (gNR 4) (setC (gNR 3) (binC addR (varR 3) (lcR2 (rng1R (consC (binC addR (appC lenFR (consC (varR 4) nilC)) (litC (.int 1))) nilC)) (gNR 5) yesT (binC addR (binC addR (slR (varR 4) noP (somePR (varR 5))) (tupR (consC (varR 2) nilC))) (slR (varR 4) (somePR (varR 5)) noP)) [5]))))
  (setC (gNR 1) (varR 3)))))
  (retC (appC sortedR (consC (varR 1) nilC)))))
def gu__law_perms : SemF := pureFR (mkR 1 5 r__law_perms)
abbrev E6 : Type := (D → D → D → D → D → D → Bool) → Bool
def eF6 (g : Nat → D) : E6 := fun f => f (g 0) (g 1) (g 2) (g 3) (g 4) (g 5)
def V6_0 : XE E6 := fun ρ m k _ => ρ fun v0 _ _ _ _ _ => unR v0 (k v0 m)
theorem qV6_0 : RE (enF eF6) 6 (varR 0) V6_0 := sl_var (by decide) fun _ _ _ _ => rfl
def V6_1 : XE E6 := fun ρ m k _ => ρ fun _ v1 _ _ _ _ => unR v1 (k v1 m)
theorem qV6_1 : RE (enF eF6) 6 (varR 1) V6_1 := sl_var (by decide) fun _ _ _ _ => rfl
def V6_2 : XE E6 := fun ρ m k _ => ρ fun _ _ v2 _ _ _ => unR v2 (k v2 m)
theorem qV6_2 : RE (enF eF6) 6 (varR 2) V6_2 := sl_var (by decide) fun _ _ _ _ => rfl
def V6_3 : XE E6 := fun ρ m k _ => ρ fun _ _ _ v3 _ _ => unR v3 (k v3 m)
theorem qV6_3 : RE (enF eF6) 6 (varR 3) V6_3 := sl_var (by decide) fun _ _ _ _ => rfl
def V6_4 : XE E6 := fun ρ m k _ => ρ fun _ _ _ _ v4 _ => unR v4 (k v4 m)
theorem qV6_4 : RE (enF eF6) 6 (varR 4) V6_4 := sl_var (by decide) fun _ _ _ _ => rfl
def V6_5 : XE E6 := fun ρ m k _ => ρ fun _ _ _ _ _ v5 => unR v5 (k v5 m)
theorem qV6_5 : RE (enF eF6) 6 (varR 5) V6_5 := sl_var (by decide) fun _ _ _ _ => rfl
def S6_1 : XG E6 := fun d ρ _ k => ρ fun v0 _ v2 v3 v4 v5 => k fun f => f v0 d v2 v3 v4 v5
theorem qS6_1 : RG (enF eF6) 6 (gNR 1) S6_1 := sl_set (by decide) fun _ _ _ _ => rfl
def S6_2 : XG E6 := fun d ρ _ k => ρ fun v0 v1 _ v3 v4 v5 => k fun f => f v0 v1 d v3 v4 v5
theorem qS6_2 : RG (enF eF6) 6 (gNR 2) S6_2 := sl_set (by decide) fun _ _ _ _ => rfl
def S6_3 : XG E6 := fun d ρ _ k => ρ fun v0 v1 v2 _ v4 v5 => k fun f => f v0 v1 v2 d v4 v5
theorem qS6_3 : RG (enF eF6) 6 (gNR 3) S6_3 := sl_set (by decide) fun _ _ _ _ => rfl
def S6_4 : XG E6 := fun d ρ _ k => ρ fun v0 v1 v2 v3 _ v5 => k fun f => f v0 v1 v2 v3 d v5
theorem qS6_4 : RG (enF eF6) 6 (gNR 4) S6_4 := sl_set (by decide) fun _ _ _ _ => rfl
def S6_5 : XG E6 := fun d ρ _ k => ρ fun v0 v1 v2 v3 v4 _ => k fun f => f v0 v1 v2 v3 v4 d
theorem qS6_5 : RG (enF eF6) 6 (gNR 5) S6_5 := sl_set (by decide) fun _ _ _ _ => rfl
def cv1_6 : List D → (E6 → Bool) → Bool := fun ds k => liR ds false fun x0 r => liR r (k fun f => f x0 .und .und .und .und .und) fun _ _ => false
theorem cvh1_6 (ds : List D) (k : E6 → Bool) (h : ds.length = 1) : cv1_6 ds k = k (enF eF6 (ds ++ undN 5)) := match ds, h with | [_], _ => rfl
theorem cvd1_6 (r0 : List D) (k : E6 → Bool) (h : r0.length ≠ 1) : cv1_6 r0 k = false := by
  cases r0 with
  | nil => rfl
  | cons x0 r1 =>
    cases r1 with
    | nil => exact absurd rfl h
    | cons _ _ => rfl

def t__law_perms_ : XS E6 := (seqP (setP S6_1 (lstP (consP (tupP nilP) nilP))) (seqP (forP (rng1P (consP V6_0 nilP)) S6_2 (seqP (setP S6_3 (lstP nilP)) (seqP (forP (seqIP V6_1) S6_4 (setP S6_3 (binP addR V6_3 (lcP (rng1P (consP (binP addR (appP lenFR (consP V6_4 nilP)) (litP (.int 1))) nilP)) S6_5 yesP (binP addR (binP addR (slP V6_4 noPP (someQ V6_5)) (tupP (consP V6_2 nilP))) (slP V6_4 (someQ V6_5) noPP)) (wpC S6_5 wpN))))) (setP S6_1 V6_3)))) (retP (appP sortedR (consP V6_1 nilP)))))
theorem z__law_perms : RS (enF eF6) 6 r__law_perms t__law_perms_ := by delta r__law_perms t__law_perms_; exact (q_seq (q_set qS6_1 (q_lst (q_cons (q_tup q_nil) q_nil))) (q_seq (q_for (q_rng1 (q_cons qV6_0 q_nil)) qS6_2 (q_seq (q_set qS6_3 (q_lst q_nil)) (q_seq (q_for (q_seqI qV6_1) qS6_4 (q_set qS6_3 (q_bin qV6_3 (q_lc (q_rng1 (q_cons (q_bin (q_app (q_cons qV6_4 q_nil)) q_lit) q_nil)) qS6_5 q_yes (q_bin (q_bin (q_sl qV6_4 q_noP (q_some qV6_5)) (q_tup (q_cons qV6_2 q_nil))) (q_sl qV6_4 (q_some qV6_5) q_noP)) (q_wpC qS6_5 q_wpN))))) (q_set qS6_1 qV6_3)))) (q_ret (q_app (q_cons qV6_1 q_nil)))))
def hu__law_perms : SemF := pureFR (mkP cv1_6 t__law_perms_)
theorem Hu__law_perms : gu__law_perms = hu__law_perms := by delta gu__law_perms hu__law_perms; rw [q_mk (e := enF eF6) rfl cvh1_6 cvd1_6 z__law_perms]
theorem q__law_perms : b__law_perms = r__law_perms := by delta b__law_perms r__law_perms; rw [gNm_R, lstC_R, tupC_R, forC_R, rng1I_R, varC_R, seqI_R, addD_R, lcC_R, lenF_R, slC_R, someP_R, sortedF_R]
def pu__law_perms : SemF := pureF f__law_perms
theorem Gu__law_perms : pu__law_perms = gu__law_perms := by delta pu__law_perms f__law_perms gu__law_perms; rw [pureF_R, mkF_R, q__law_perms]
theorem s__law_perms : FnScope ["size", "rows", "k", "longer", "row", "j"] ["size"] (defScope (st 34)) := ⟨rfl, rfl, rfl, by decide +kernel, rfl, by decide +kernel, by decide +kernel⟩
theorem t__law_perms : trB c__law_perms_ (defBody (st 34)) = some b__law_perms := by kernel_rfl
def v__law_perms_0 : D := (.frl [(.tup [i0, i1, i2, i3, i4]), (.tup [i0, i1, i2, i4, i3]), (.tup [i0, i1, i3, i2, i4]), (.tup [i0, i1, i3, i4, i2]), (.tup [i0, i1, i4, i2, i3]), (.tup [i0, i1, i4, i3, i2]), (.tup [i0, i2, i1, i3, i4]), (.tup [i0, i2, i1, i4, i3]), (.tup [i0, i2, i3, i1, i4]), (.tup [i0, i2, i3, i4, i1]), (.tup [i0, i2, i4, i1, i3]), (.tup [i0, i2, i4, i3, i1]), (.tup [i0, i3, i1, i2, i4]), (.tup [i0, i3, i1, i4, i2]), (.tup [i0, i3, i2, i1, i4]), (.tup [i0, i3, i2, i4, i1]), (.tup [i0, i3, i4, i1, i2]), (.tup [i0, i3, i4, i2, i1]), (.tup [i0, i4, i1, i2, i3]), (.tup [i0, i4, i1, i3, i2]), (.tup [i0, i4, i2, i1, i3]), (.tup [i0, i4, i2, i3, i1]), (.tup [i0, i4, i3, i1, i2]), (.tup [i0, i4, i3, i2, i1]), (.tup [i1, i0, i2, i3, i4]), (.tup [i1, i0, i2, i4, i3]), (.tup [i1, i0, i3, i2, i4]), (.tup [i1, i0, i3, i4, i2]), (.tup [i1, i0, i4, i2, i3]), (.tup [i1, i0, i4, i3, i2]), (.tup [i1, i2, i0, i3, i4]), (.tup [i1, i2, i0, i4, i3]), (.tup [i1, i2, i3, i0, i4]), (.tup [i1, i2, i3, i4, i0]), (.tup [i1, i2, i4, i0, i3]), (.tup [i1, i2, i4, i3, i0]), (.tup [i1, i3, i0, i2, i4]), (.tup [i1, i3, i0, i4, i2]), (.tup [i1, i3, i2, i0, i4]), (.tup [i1, i3, i2, i4, i0]), (.tup [i1, i3, i4, i0, i2]), (.tup [i1, i3, i4, i2, i0]), (.tup [i1, i4, i0, i2, i3]), (.tup [i1, i4, i0, i3, i2]), (.tup [i1, i4, i2, i0, i3]), (.tup [i1, i4, i2, i3, i0]), (.tup [i1, i4, i3, i0, i2]), (.tup [i1, i4, i3, i2, i0]), (.tup [i2, i0, i1, i3, i4]), (.tup [i2, i0, i1, i4, i3]), (.tup [i2, i0, i3, i1, i4]), (.tup [i2, i0, i3, i4, i1]), (.tup [i2, i0, i4, i1, i3]), (.tup [i2, i0, i4, i3, i1]), (.tup [i2, i1, i0, i3, i4]), (.tup [i2, i1, i0, i4, i3]), (.tup [i2, i1, i3, i0, i4]), (.tup [i2, i1, i3, i4, i0]), (.tup [i2, i1, i4, i0, i3]), (.tup [i2, i1, i4, i3, i0]), (.tup [i2, i3, i0, i1, i4]), (.tup [i2, i3, i0, i4, i1]), (.tup [i2, i3, i1, i0, i4]), (.tup [i2, i3, i1, i4, i0]), (.tup [i2, i3, i4, i0, i1]), (.tup [i2, i3, i4, i1, i0]), (.tup [i2, i4, i0, i1, i3]), (.tup [i2, i4, i0, i3, i1]), (.tup [i2, i4, i1, i0, i3]), (.tup [i2, i4, i1, i3, i0]), (.tup [i2, i4, i3, i0, i1]), (.tup [i2, i4, i3, i1, i0]), (.tup [i3, i0, i1, i2, i4]), (.tup [i3, i0, i1, i4, i2]), (.tup [i3, i0, i2, i1, i4]), (.tup [i3, i0, i2, i4, i1]), (.tup [i3, i0, i4, i1, i2]), (.tup [i3, i0, i4, i2, i1]), (.tup [i3, i1, i0, i2, i4]), (.tup [i3, i1, i0, i4, i2]), (.tup [i3, i1, i2, i0, i4]), (.tup [i3, i1, i2, i4, i0]), (.tup [i3, i1, i4, i0, i2]), (.tup [i3, i1, i4, i2, i0]), (.tup [i3, i2, i0, i1, i4]), (.tup [i3, i2, i0, i4, i1]), (.tup [i3, i2, i1, i0, i4]), (.tup [i3, i2, i1, i4, i0]), (.tup [i3, i2, i4, i0, i1]), (.tup [i3, i2, i4, i1, i0]), (.tup [i3, i4, i0, i1, i2]), (.tup [i3, i4, i0, i2, i1]), (.tup [i3, i4, i1, i0, i2]), (.tup [i3, i4, i1, i2, i0]), (.tup [i3, i4, i2, i0, i1]), (.tup [i3, i4, i2, i1, i0]), (.tup [i4, i0, i1, i2, i3]), (.tup [i4, i0, i1, i3, i2]), (.tup [i4, i0, i2, i1, i3]), (.tup [i4, i0, i2, i3, i1]), (.tup [i4, i0, i3, i1, i2]), (.tup [i4, i0, i3, i2, i1]), (.tup [i4, i1, i0, i2, i3]), (.tup [i4, i1, i0, i3, i2]), (.tup [i4, i1, i2, i0, i3]), (.tup [i4, i1, i2, i3, i0]), (.tup [i4, i1, i3, i0, i2]), (.tup [i4, i1, i3, i2, i0]), (.tup [i4, i2, i0, i1, i3]), (.tup [i4, i2, i0, i3, i1]), (.tup [i4, i2, i1, i0, i3]), (.tup [i4, i2, i1, i3, i0]), (.tup [i4, i2, i3, i0, i1]), (.tup [i4, i2, i3, i1, i0]), (.tup [i4, i3, i0, i1, i2]), (.tup [i4, i3, i0, i2, i1]), (.tup [i4, i3, i1, i0, i2]), (.tup [i4, i3, i1, i2, i0]), (.tup [i4, i3, i2, i0, i1]), (.tup [i4, i3, i2, i1, i0])])
theorem e__law_perms_0 : rowB hu__law_perms [i5] v__law_perms_0 = true := by kernel_rfl
def v__law_perms_1 : D := (.frl [(.tup [i0, i1, i2, i3]), (.tup [i0, i1, i3, i2]), (.tup [i0, i2, i1, i3]), (.tup [i0, i2, i3, i1]), (.tup [i0, i3, i1, i2]), (.tup [i0, i3, i2, i1]), (.tup [i1, i0, i2, i3]), (.tup [i1, i0, i3, i2]), (.tup [i1, i2, i0, i3]), (.tup [i1, i2, i3, i0]), (.tup [i1, i3, i0, i2]), (.tup [i1, i3, i2, i0]), (.tup [i2, i0, i1, i3]), (.tup [i2, i0, i3, i1]), (.tup [i2, i1, i0, i3]), (.tup [i2, i1, i3, i0]), (.tup [i2, i3, i0, i1]), (.tup [i2, i3, i1, i0]), (.tup [i3, i0, i1, i2]), (.tup [i3, i0, i2, i1]), (.tup [i3, i1, i0, i2]), (.tup [i3, i1, i2, i0]), (.tup [i3, i2, i0, i1]), (.tup [i3, i2, i1, i0])])
theorem e__law_perms_1 : rowB hu__law_perms [i4] v__law_perms_1 = true := by kernel_rfl
def tb__law_perms : List (List D × D) := [([i5], v__law_perms_0), ([i4], v__law_perms_1)]
theorem tok__law_perms : TbOk pu__law_perms tb__law_perms := by rw [Gu__law_perms, Hu__law_perms]; exact .cons e__law_perms_0 (.cons e__law_perms_1 (.nil))
def p__law_perms : SemF := memoF tb__law_perms pu__law_perms
def g__law_perms : SemF := memoF tb__law_perms gu__law_perms
def h__law_perms : SemF := memoF tb__law_perms hu__law_perms
theorem G__law_perms : p__law_perms = g__law_perms := by delta p__law_perms g__law_perms; rw [Gu__law_perms]
theorem H__law_perms : g__law_perms = h__law_perms := by delta g__law_perms h__law_perms; rw [Hu__law_perms]
/- _law_rec -/
def c__law_rec_ : Cfg := ⟨["row", "k", "x"], (defScope (st 37)).names, true, 0, [], [], [], [], fun _ => none⟩
def b__law_rec : SemS := (retC (appC lenF (consC (lcC (rng1I (consC (appC lenF (consC (varC 0) nilC)) nilC)) (gNm 1) (truT (appC allF (consC (lcC (seqI (slC (varC 0) noP (someP (varC 1)))) (gNm 2) yesT (binC ltD (varC 2) (binC ixD (varC 0) (varC 1))) [2]) nilC))) (varC 1) [1]) nilC)))
def f__law_rec : SemF := mkF 1 2 b__law_rec
def r__law_rec : SemS := (retC (appC lenFR (consC (lcR2 (rng1R (consC (appC lenFR (consC (varR 0) nilC)) nilC)) (gNR 1) (truTR (appC allFR (consC (lcR2 (seqIR (slR (varR 0) noP (somePR (varR 1)))) (gNR 2) yesT (binC ltDR (varR 2) (binC ixR (varR 0) (varR 1))) [2]) nilC))) (varR 1) [1]) nilC)))
def g__law_rec : SemF := pureFR (mkR 1 2 r__law_rec)
def t__law_rec_ : XS E3 := (retP (appP lenFR (consP (lcP (rng1P (consP (appP lenFR (consP V3_0 nilP)) nilP)) S3_1 (truP (appP allFR (consP (lcP (seqIP (slP V3_0 noPP (someQ V3_1))) S3_2 yesP (binP ltDR V3_2 (binP ixR V3_0 V3_1)) (wpC S3_2 wpN)) nilP))) V3_1 (wpC S3_1 wpN)) nilP)))
theorem z__law_rec : RS (enF eF3) 3 r__law_rec t__law_rec_ := by delta r__law_rec t__law_rec_; exact (q_ret (q_app (q_cons (q_lc (q_rng1 (q_cons (q_app (q_cons qV3_0 q_nil)) q_nil)) qS3_1 (q_tru (q_app (q_cons (q_lc (q_seqI (q_sl qV3_0 q_noP (q_some qV3_1))) qS3_2 q_yes (q_bin qV3_2 (q_bin qV3_0 qV3_1)) (q_wpC qS3_2 q_wpN)) q_nil))) qV3_1 (q_wpC qS3_1 q_wpN)) q_nil)))
def h__law_rec : SemF := pureFR (mkP cv1_3 t__law_rec_)
theorem H__law_rec : g__law_rec = h__law_rec := by delta g__law_rec h__law_rec; rw [q_mk (e := enF eF3) rfl cvh1_3 cvd1_3 z__law_rec]
theorem q__law_rec : b__law_rec = r__law_rec := by delta b__law_rec r__law_rec; rw [lenF_R, lcC_R, rng1I_R, varC_R, gNm_R, truT_R, allF_R, seqI_R, slC_R, someP_R, ltD_R, ixD_R]
def p__law_rec : SemF := pureF f__law_rec
theorem G__law_rec : p__law_rec = g__law_rec := by delta p__law_rec f__law_rec g__law_rec; rw [pureF_R, mkF_R, q__law_rec]
theorem s__law_rec : FnScope ["row", "k", "x"] ["row"] (defScope (st 37)) := ⟨rfl, rfl, rfl, by decide +kernel, rfl, by decide +kernel, by decide +kernel⟩
theorem t__law_rec : trB c__law_rec_ (defBody (st 37)) = some b__law_rec := by kernel_rfl
/- _law_rings -/
def c__law_rings_ : Cfg := ⟨["row", "left", "found", "ring", "x"], (defScope (st 38)).names, true, 0, [], [], [], [], fun _ => none⟩
def b__law_rings : SemS := (seqC (par2C 1 2 (consC (lrg1C (appC lenF (consC (varC 0) nilC))) (consC (lstC nilC) nilC)))
  (seqC (whlC (blT (binC neD (varC 1) (lstC nilC))) (seqC (setC (gNm 3) (lstC (consC (appC maxF (consC (varC 1) nilC)) nilC)))
  (seqC (whlC (blT (binC neD (binC ixD (varC 0) (binC ixD (varC 3) (unC negD (litC (.int 1))))) (binC ixD (varC 3) (litC (.int 0))))) (exprC (mtC appendM (varC 3) (consC (binC ixD (varC 0) (binC ixD (varC 3) (unC negD (litC (.int 1))))) nilC))))
  (seqC (setC (gNm 1) (lcC (seqI (varC 1)) (gNm 4) (blT (binC ninD (varC 4) (varC 3))) (varC 4) [4]))
  (exprC (mtC appendM (varC 2) (consC (appC tupleF (consC (varC 3) nilC)) nilC)))))))
  (retC (appC sortedF (consC (varC 2) nilC)))))
def f__law_rings : SemF := mkF 1 4 b__law_rings
def r__law_rings : SemS := (seqC (par2R 1 2 (consC (lrg1C (appC lenFR (consC (varR 0) nilC))) (consC (lstR nilC) nilC)))
  (seqC (whlR (blR (binC neR2 (varR 1) (lstR nilC))) (seqC (setC (gNR 3) (lstR (consC (appC maxR (consC (varR 1) nilC)) nilC)))
  (seqC (whlR (blR (binC neR2 (binC ixR (varR 0) (binC ixR (varR 3) (unC negR (litC (.int 1))))) (binC ixR (varR 3) (litC (.int 0))))) (exprC (mtR appendR (varR 3) (consC (binC ixR (varR 0) (binC ixR (varR 3) (unC negR (litC (.int 1))))) nilC))))
  (seqC (setC (gNR 1) (lcR2 (seqIR (varR 1)) (gNR 4) (blR (binC ninD (varR 4) (varR 3))) (varR 4) [4]))
  (exprC (mtR appendR (varR 2) (consC (appC tupleR (consC (varR 3) nilC)) nilC)))))))
  (retC (appC sortedR (consC (varR 2) nilC)))))
def g__law_rings : SemF := pureFR (mkR 1 4 r__law_rings)
abbrev E5 : Type := (D → D → D → D → D → Bool) → Bool
def eF5 (g : Nat → D) : E5 := fun f => f (g 0) (g 1) (g 2) (g 3) (g 4)
def V5_0 : XE E5 := fun ρ m k _ => ρ fun v0 _ _ _ _ => unR v0 (k v0 m)
theorem qV5_0 : RE (enF eF5) 5 (varR 0) V5_0 := sl_var (by decide) fun _ _ _ _ => rfl
def V5_1 : XE E5 := fun ρ m k _ => ρ fun _ v1 _ _ _ => unR v1 (k v1 m)
theorem qV5_1 : RE (enF eF5) 5 (varR 1) V5_1 := sl_var (by decide) fun _ _ _ _ => rfl
def V5_2 : XE E5 := fun ρ m k _ => ρ fun _ _ v2 _ _ => unR v2 (k v2 m)
theorem qV5_2 : RE (enF eF5) 5 (varR 2) V5_2 := sl_var (by decide) fun _ _ _ _ => rfl
def V5_3 : XE E5 := fun ρ m k _ => ρ fun _ _ _ v3 _ => unR v3 (k v3 m)
theorem qV5_3 : RE (enF eF5) 5 (varR 3) V5_3 := sl_var (by decide) fun _ _ _ _ => rfl
def V5_4 : XE E5 := fun ρ m k _ => ρ fun _ _ _ _ v4 => unR v4 (k v4 m)
theorem qV5_4 : RE (enF eF5) 5 (varR 4) V5_4 := sl_var (by decide) fun _ _ _ _ => rfl
def S5_1 : XG E5 := fun d ρ _ k => ρ fun v0 _ v2 v3 v4 => k fun f => f v0 d v2 v3 v4
theorem qS5_1 : RG (enF eF5) 5 (gNR 1) S5_1 := sl_set (by decide) fun _ _ _ _ => rfl
def S5_2 : XG E5 := fun d ρ _ k => ρ fun v0 v1 _ v3 v4 => k fun f => f v0 v1 d v3 v4
theorem qS5_2 : RG (enF eF5) 5 (gNR 2) S5_2 := sl_set (by decide) fun _ _ _ _ => rfl
def S5_3 : XG E5 := fun d ρ _ k => ρ fun v0 v1 v2 _ v4 => k fun f => f v0 v1 v2 d v4
theorem qS5_3 : RG (enF eF5) 5 (gNR 3) S5_3 := sl_set (by decide) fun _ _ _ _ => rfl
def S5_4 : XG E5 := fun d ρ _ k => ρ fun v0 v1 v2 v3 _ => k fun f => f v0 v1 v2 v3 d
theorem qS5_4 : RG (enF eF5) 5 (gNR 4) S5_4 := sl_set (by decide) fun _ _ _ _ => rfl
def cv1_5 : List D → (E5 → Bool) → Bool := fun ds k => liR ds false fun x0 r => liR r (k fun f => f x0 .und .und .und .und) fun _ _ => false
theorem cvh1_5 (ds : List D) (k : E5 → Bool) (h : ds.length = 1) : cv1_5 ds k = k (enF eF5 (ds ++ undN 4)) := match ds, h with | [_], _ => rfl
theorem cvd1_5 (r0 : List D) (k : E5 → Bool) (h : r0.length ≠ 1) : cv1_5 r0 k = false := by
  cases r0 with
  | nil => rfl
  | cons x0 r1 =>
    cases r1 with
    | nil => exact absurd rfl h
    | cons _ _ => rfl

def t__law_rings_ : XS E5 := (seqP (par2P S5_1 S5_2 (consP (lrg1P (appP lenFR (consP V5_0 nilP))) (consP (lstP nilP) nilP))) (seqP (whlP (blP (binP neR2 V5_1 (lstP nilP))) (seqP (setP S5_3 (lstP (consP (appP maxR (consP V5_1 nilP)) nilP))) (seqP (whlP (blP (binP neR2 (binP ixR V5_0 (binP ixR V5_3 (unP negR (litP (.int 1))))) (binP ixR V5_3 (litP (.int 0))))) (exprP (mtP appendR V5_3 (consP (binP ixR V5_0 (binP ixR V5_3 (unP negR (litP (.int 1))))) nilP)))) (seqP (setP S5_1 (lcP (seqIP V5_1) S5_4 (blP (binP ninD V5_4 V5_3)) V5_4 (wpC S5_4 wpN))) (exprP (mtP appendR V5_2 (consP (appP tupleR (consP V5_3 nilP)) nilP))))))) (retP (appP sortedR (consP V5_2 nilP)))))
theorem z__law_rings : RS (enF eF5) 5 r__law_rings t__law_rings_ := by delta r__law_rings t__law_rings_; exact (q_seq (q_par2 qS5_1 qS5_2 (q_cons (q_lrg1 (q_app (q_cons qV5_0 q_nil))) (q_cons (q_lst q_nil) q_nil))) (q_seq (q_whl (q_bl (q_bin qV5_1 (q_lst q_nil))) (q_seq (q_set qS5_3 (q_lst (q_cons (q_app (q_cons qV5_1 q_nil)) q_nil))) (q_seq (q_whl (q_bl (q_bin (q_bin qV5_0 (q_bin qV5_3 (q_un q_lit))) (q_bin qV5_3 q_lit))) (q_expr (q_mt qV5_3 (q_cons (q_bin qV5_0 (q_bin qV5_3 (q_un q_lit))) q_nil)))) (q_seq (q_set qS5_1 (q_lc (q_seqI qV5_1) qS5_4 (q_bl (q_bin qV5_4 qV5_3)) qV5_4 (q_wpC qS5_4 q_wpN))) (q_expr (q_mt qV5_2 (q_cons (q_app (q_cons qV5_3 q_nil)) q_nil))))))) (q_ret (q_app (q_cons qV5_2 q_nil)))))
def h__law_rings : SemF := pureFR (mkP cv1_5 t__law_rings_)
theorem H__law_rings : g__law_rings = h__law_rings := by delta g__law_rings h__law_rings; rw [q_mk (e := enF eF5) rfl cvh1_5 cvd1_5 z__law_rings]
theorem q__law_rings : b__law_rings = r__law_rings := by delta b__law_rings r__law_rings; rw [par2C_R, lenF_R, varC_R, lstC_R, whlC_R, blT_R, neD_R, gNm_R, maxF_R, ixD_R, negD_R, mtC_R, appendM_R, lcC_R, seqI_R, tupleF_R, sortedF_R]
def p__law_rings : SemF := pureF f__law_rings
theorem G__law_rings : p__law_rings = g__law_rings := by delta p__law_rings f__law_rings g__law_rings; rw [pureF_R, mkF_R, q__law_rings]
theorem s__law_rings : FnScope ["row", "left", "found", "ring", "x"] ["row"] (defScope (st 38)) := ⟨rfl, rfl, rfl, by decide +kernel, rfl, by decide +kernel, by decide +kernel⟩
theorem t__law_rings : trB c__law_rings_ (defBody (st 38)) = some b__law_rings := by kernel_rfl
/- _law_is_integer -/
def c__law_is_integer_ : Cfg := ⟨["actual"], (defScope (st 31)).names, true, 0, [], [], [], [], fun _ => none⟩
def b__law_is_integer : SemS := (retC (andV (appC isiF (consC (varC 0) (consC (litC (.ty 0)) nilC))) (notV (appC isiF (consC (varC 0) (consC (litC (.ty 1)) nilC))))))
def f__law_is_integer : SemF := mkF 1 0 b__law_is_integer
def r__law_is_integer : SemS := (retC (andVR (appC isiF (consC (varR 0) (consC (litC (.ty 0)) nilC))) (notVR (appC isiF (consC (varR 0) (consC (litC (.ty 1)) nilC))))))
def g__law_is_integer : SemF := pureFR (mkR 1 0 r__law_is_integer)
abbrev E1 : Type := (D → Bool) → Bool
def eF1 (g : Nat → D) : E1 := fun f => f (g 0)
def V1_0 : XE E1 := fun ρ m k _ => ρ fun v0 => unR v0 (k v0 m)
theorem qV1_0 : RE (enF eF1) 1 (varR 0) V1_0 := sl_var (by decide) fun _ _ _ _ => rfl
def cv1_1 : List D → (E1 → Bool) → Bool := fun ds k => liR ds false fun x0 r => liR r (k fun f => f x0) fun _ _ => false
theorem cvh1_1 (ds : List D) (k : E1 → Bool) (h : ds.length = 1) : cv1_1 ds k = k (enF eF1 (ds ++ undN 0)) := match ds, h with | [_], _ => rfl
theorem cvd1_1 (r0 : List D) (k : E1 → Bool) (h : r0.length ≠ 1) : cv1_1 r0 k = false := by
  cases r0 with
  | nil => rfl
  | cons x0 r1 =>
    cases r1 with
    | nil => exact absurd rfl h
    | cons _ _ => rfl

def t__law_is_integer_ : XS E1 := (retP (andVP (appP isiF (consP V1_0 (consP (litP (.ty 0)) nilP))) (notVP (appP isiF (consP V1_0 (consP (litP (.ty 1)) nilP))))))
theorem z__law_is_integer : RS (enF eF1) 1 r__law_is_integer t__law_is_integer_ := by delta r__law_is_integer t__law_is_integer_; exact (q_ret (q_andV (q_app (q_cons qV1_0 (q_cons q_lit q_nil))) (q_notV (q_app (q_cons qV1_0 (q_cons q_lit q_nil))))))
def h__law_is_integer : SemF := pureFR (mkP cv1_1 t__law_is_integer_)
theorem H__law_is_integer : g__law_is_integer = h__law_is_integer := by delta g__law_is_integer h__law_is_integer; rw [q_mk (e := enF eF1) rfl cvh1_1 cvd1_1 z__law_is_integer]
theorem q__law_is_integer : b__law_is_integer = r__law_is_integer := by delta b__law_is_integer r__law_is_integer; rw [andV_R, varC_R, notV_R]
def p__law_is_integer : SemF := pureF f__law_is_integer
theorem G__law_is_integer : p__law_is_integer = g__law_is_integer := by delta p__law_is_integer f__law_is_integer g__law_is_integer; rw [pureF_R, mkF_R, q__law_is_integer]
theorem s__law_is_integer : FnScope ["actual"] ["actual"] (defScope (st 31)) := ⟨rfl, rfl, rfl, by decide +kernel, rfl, by decide +kernel, by decide +kernel⟩
theorem t__law_is_integer : trB c__law_is_integer_ (defBody (st 31)) = some b__law_is_integer := by kernel_rfl
def p__law_same__0 : SemF := neverF
def g__law_same__0 : SemF := neverF
def h__law_same__0 : SemF := neverF
theorem G__law_same__0 : p__law_same__0 = g__law_same__0 := rfl
theorem H__law_same__0 : g__law_same__0 = h__law_same__0 := rfl
/- _law_same_items__1 -/
def c__law_same_items__1_ : Cfg := ⟨["actual", "expected", "k"], (defScope (st 32)).names, true, 1, [("_law_same", p__law_same__0)], [], [], [], fun _ => none⟩
def b__law_same_items__1 : SemS := (seqC (ifS (blT (binC neD (appC lenF (consC (varC 0) nilC)) (appC lenF (consC (varC 1) nilC)))) (retC (litC (.bl false))) passC)
  (seqC (forC (rng1I (consC (appC lenF (consC (varC 1) nilC)) nilC)) (gNm 2) (ifS (notT (truT (callC p__law_same__0 (consC (binC ixD (varC 0) (varC 2)) (consC (binC ixD (varC 1) (varC 2)) nilC))))) (retC (litC (.bl false))) passC))
  (retC (litC (.bl true)))))
def f__law_same_items__1 : SemF := mkF 2 1 b__law_same_items__1
def r__law_same_items__1 : SemS := (seqC (ifSR (blR (binC neR2 (appC lenFR (consC (varR 0) nilC)) (appC lenFR (consC (varR 1) nilC)))) (retC (litC (.bl false))) passC)
  (seqC (forR (rng1R (consC (appC lenFR (consC (varR 1) nilC)) nilC)) (gNR 2) (ifSR (notR (truTR (callC g__law_same__0 (consC (binC ixR (varR 0) (varR 2)) (consC (binC ixR (varR 1) (varR 2)) nilC))))) (retC (litC (.bl false))) passC))
  (retC (litC (.bl true)))))
def g__law_same_items__1 : SemF := pureFR (mkR 2 1 r__law_same_items__1)
def cv2_3 : List D → (E3 → Bool) → Bool := fun ds k => liR ds false fun x0 r => liR r false fun x1 r => liR r (k fun f => f x0 x1 .und) fun _ _ => false
theorem cvh2_3 (ds : List D) (k : E3 → Bool) (h : ds.length = 2) : cv2_3 ds k = k (enF eF3 (ds ++ undN 1)) := match ds, h with | [_, _], _ => rfl
theorem cvd2_3 (r0 : List D) (k : E3 → Bool) (h : r0.length ≠ 2) : cv2_3 r0 k = false := by
  cases r0 with
  | nil => rfl
  | cons x0 r1 =>
    cases r1 with
    | nil => rfl
    | cons x1 r2 =>
      cases r2 with
      | nil => exact absurd rfl h
      | cons _ _ => rfl

def t__law_same_items__1_ : XS E3 := (seqP (ifSP (blP (binP neR2 (appP lenFR (consP V3_0 nilP)) (appP lenFR (consP V3_1 nilP)))) (retP (litP (.bl false))) passP) (seqP (forP (rng1P (consP (appP lenFR (consP V3_1 nilP)) nilP)) S3_2 (ifSP (notP (truP (callP h__law_same__0 (consP (binP ixR V3_0 V3_2) (consP (binP ixR V3_1 V3_2) nilP))))) (retP (litP (.bl false))) passP)) (retP (litP (.bl true)))))
theorem z__law_same_items__1 : RS (enF eF3) 3 r__law_same_items__1 t__law_same_items__1_ := by delta r__law_same_items__1 t__law_same_items__1_; exact (q_seq (q_ifS (q_bl (q_bin (q_app (q_cons qV3_0 q_nil)) (q_app (q_cons qV3_1 q_nil)))) (q_ret q_lit) q_pass) (q_seq (q_for (q_rng1 (q_cons (q_app (q_cons qV3_1 q_nil)) q_nil)) qS3_2 (q_ifS (q_not (q_tru (q_call H__law_same__0 (q_cons (q_bin qV3_0 qV3_2) (q_cons (q_bin qV3_1 qV3_2) q_nil))))) (q_ret q_lit) q_pass)) (q_ret q_lit)))
def h__law_same_items__1 : SemF := pureFR (mkP cv2_3 t__law_same_items__1_)
theorem H__law_same_items__1 : g__law_same_items__1 = h__law_same_items__1 := by delta g__law_same_items__1 h__law_same_items__1; rw [q_mk (e := enF eF3) rfl cvh2_3 cvd2_3 z__law_same_items__1]
theorem q__law_same_items__1 : b__law_same_items__1 = r__law_same_items__1 := by delta b__law_same_items__1 r__law_same_items__1; rw [ifS_R, blT_R, neD_R, lenF_R, varC_R, forC_R, rng1I_R, gNm_R, notT_R, truT_R, ixD_R, G__law_same__0]
def p__law_same_items__1 : SemF := pureF f__law_same_items__1
theorem G__law_same_items__1 : p__law_same_items__1 = g__law_same_items__1 := by delta p__law_same_items__1 f__law_same_items__1 g__law_same_items__1; rw [pureF_R, mkF_R, q__law_same_items__1]
theorem s__law_same_items__1 : FnScope ["actual", "expected", "k"] ["actual", "expected"] (defScope (st 32)) := ⟨rfl, rfl, rfl, by decide +kernel, rfl, by decide +kernel, by decide +kernel⟩
theorem t__law_same_items__1 : trB c__law_same_items__1_ (defBody (st 32)) = some b__law_same_items__1 := by kernel_rfl
/- _law_same__1 -/
def c__law_same__1_ : Cfg := ⟨["actual", "expected", "key"], (defScope (st 33)).names, true, 2, [("_law_is_integer", p__law_is_integer), ("_law_same", p__law_same__0), ("_law_same_items", p__law_same_items__1)], [], [], [], fun _ => none⟩
def b__law_same__1 : SemS := (seqC (ifS (blT (binC isD (varC 1) (litC .non))) (retC (binC isD (varC 0) (litC .non))) passC)
  (seqC (ifS (truT (appC isiF (consC (varC 1) (consC (litC (.ty 1)) nilC)))) (retC (andV (appC isiF (consC (varC 0) (consC (litC (.ty 1)) nilC))) (binC eqD (varC 0) (varC 1)))) passC)
  (seqC (ifS (truT (appC isiF (consC (varC 1) (consC (litC (.ty 0)) nilC)))) (retC (andV (callC p__law_is_integer (consC (varC 0) nilC)) (binC eqD (varC 0) (varC 1)))) passC)
  (seqC (ifS (truT (appC isiF (consC (varC 1) (consC (litC (.ty 2)) nilC)))) (retC (andV (appC isiF (consC (varC 0) (consC (litC (.ty 2)) nilC))) (binC eqD (varC 0) (varC 1)))) passC)
  (seqC (ifS (truT (appC isiF (consC (varC 1) (consC (litC (.ty 3)) nilC)))) (retC (andV (appC isiF (consC (varC 0) (consC (litC (.ty 3)) nilC))) (callC p__law_same_items__1 (consC (varC 0) (consC (varC 1) nilC))))) passC)
  (seqC (ifS (truT (appC isiF (consC (varC 1) (consC (litC (.ty 4)) nilC)))) (retC (andV (appC isiF (consC (varC 0) (consC (litC (.ty 4)) nilC))) (callC p__law_same_items__1 (consC (varC 0) (consC (varC 1) nilC))))) passC)
  (seqC (ifS (orT (notT (truT (appC isiF (consC (varC 0) (consC (litC (.ty 5)) nilC))))) (blT (binC neD (appC lenF (consC (varC 0) nilC)) (appC lenF (consC (varC 1) nilC))))) (retC (litC (.bl false))) passC)
  (seqC (forC (seqI (varC 1)) (gNm 2) (ifS (orT (blT (binC ninD (varC 2) (varC 0))) (notT (truT (callC p__law_same__0 (consC (binC ixD (varC 0) (varC 2)) (consC (binC ixD (varC 1) (varC 2)) nilC)))))) (retC (litC (.bl false))) passC))
  (seqC (forC (seqI (varC 0)) (gNm 2) (ifS (truT (appC isiF (consC (varC 2) (consC (litC (.ty 1)) nilC)))) (retC (litC (.bl false))) passC))
  (retC (litC (.bl true))))))))))))
def f__law_same__1 : SemF := mkF 2 1 b__law_same__1
def r__law_same__1 : SemS := (seqC (ifSR (blR (binC isD (varR 1) (litC .non))) (retC (binC isD (varR 0) (litC .non))) passC)
  (seqC (ifSR (truTR (appC isiF (consC (varR 1) (consC (litC (.ty 1)) nilC)))) (retC (andVR (appC isiF (consC (varR 0) (consC (litC (.ty 1)) nilC))) (binC eqR (varR 0) (varR 1)))) passC)
  (seqC (ifSR (truTR (appC isiF (consC (varR 1) (consC (litC (.ty 0)) nilC)))) (retC (andVR (callC g__law_is_integer (consC (varR 0) nilC)) (binC eqR (varR 0) (varR 1)))) passC)
  (seqC (ifSR (truTR (appC isiF (consC (varR 1) (consC (litC (.ty 2)) nilC)))) (retC (andVR (appC isiF (consC (varR 0) (consC (litC (.ty 2)) nilC))) (binC eqR (varR 0) (varR 1)))) passC)
  (seqC (ifSR (truTR (appC isiF (consC (varR 1) (consC (litC (.ty 3)) nilC)))) (retC (andVR (appC isiF (consC (varR 0) (consC (litC (.ty 3)) nilC))) (callC g__law_same_items__1 (consC (varR 0) (consC (varR 1) nilC))))) passC)
  (seqC (ifSR (truTR (appC isiF (consC (varR 1) (consC (litC (.ty 4)) nilC)))) (retC (andVR (appC isiF (consC (varR 0) (consC (litC (.ty 4)) nilC))) (callC g__law_same_items__1 (consC (varR 0) (consC (varR 1) nilC))))) passC)
  (seqC (ifSR (orR (notR (truTR (appC isiF (consC (varR 0) (consC (litC (.ty 5)) nilC))))) (blR (binC neR2 (appC lenFR (consC (varR 0) nilC)) (appC lenFR (consC (varR 1) nilC))))) (retC (litC (.bl false))) passC)
  (seqC (forR (seqIR (varR 1)) (gNR 2) (ifSR (orR (blR (binC ninD (varR 2) (varR 0))) (notR (truTR (callC g__law_same__0 (consC (binC ixR (varR 0) (varR 2)) (consC (binC ixR (varR 1) (varR 2)) nilC)))))) (retC (litC (.bl false))) passC))
  (seqC (forR (seqIR (varR 0)) (gNR 2) (ifSR (truTR (appC isiF (consC (varR 2) (consC (litC (.ty 1)) nilC)))) (retC (litC (.bl false))) passC))
  (retC (litC (.bl true))))))))))))
def g__law_same__1 : SemF := pureFR (mkR 2 1 r__law_same__1)
def t__law_same__1_ : XS E3 := (seqP (ifSP (blP (binP isD V3_1 (litP .non))) (retP (binP isD V3_0 (litP .non))) passP) (seqP (ifSP (truP (appP isiF (consP V3_1 (consP (litP (.ty 1)) nilP)))) (retP (andVP (appP isiF (consP V3_0 (consP (litP (.ty 1)) nilP))) (binP eqR V3_0 V3_1))) passP) (seqP (ifSP (truP (appP isiF (consP V3_1 (consP (litP (.ty 0)) nilP)))) (retP (andVP (callP h__law_is_integer (consP V3_0 nilP)) (binP eqR V3_0 V3_1))) passP) (seqP (ifSP (truP (appP isiF (consP V3_1 (consP (litP (.ty 2)) nilP)))) (retP (andVP (appP isiF (consP V3_0 (consP (litP (.ty 2)) nilP))) (binP eqR V3_0 V3_1))) passP) (seqP (ifSP (truP (appP isiF (consP V3_1 (consP (litP (.ty 3)) nilP)))) (retP (andVP (appP isiF (consP V3_0 (consP (litP (.ty 3)) nilP))) (callP h__law_same_items__1 (consP V3_0 (consP V3_1 nilP))))) passP) (seqP (ifSP (truP (appP isiF (consP V3_1 (consP (litP (.ty 4)) nilP)))) (retP (andVP (appP isiF (consP V3_0 (consP (litP (.ty 4)) nilP))) (callP h__law_same_items__1 (consP V3_0 (consP V3_1 nilP))))) passP) (seqP (ifSP (orP (notP (truP (appP isiF (consP V3_0 (consP (litP (.ty 5)) nilP))))) (blP (binP neR2 (appP lenFR (consP V3_0 nilP)) (appP lenFR (consP V3_1 nilP))))) (retP (litP (.bl false))) passP) (seqP (forP (seqIP V3_1) S3_2 (ifSP (orP (blP (binP ninD V3_2 V3_0)) (notP (truP (callP h__law_same__0 (consP (binP ixR V3_0 V3_2) (consP (binP ixR V3_1 V3_2) nilP)))))) (retP (litP (.bl false))) passP)) (seqP (forP (seqIP V3_0) S3_2 (ifSP (truP (appP isiF (consP V3_2 (consP (litP (.ty 1)) nilP)))) (retP (litP (.bl false))) passP)) (retP (litP (.bl true))))))))))))
theorem z__law_same__1 : RS (enF eF3) 3 r__law_same__1 t__law_same__1_ := by delta r__law_same__1 t__law_same__1_; exact (q_seq (q_ifS (q_bl (q_bin qV3_1 q_lit)) (q_ret (q_bin qV3_0 q_lit)) q_pass) (q_seq (q_ifS (q_tru (q_app (q_cons qV3_1 (q_cons q_lit q_nil)))) (q_ret (q_andV (q_app (q_cons qV3_0 (q_cons q_lit q_nil))) (q_bin qV3_0 qV3_1))) q_pass) (q_seq (q_ifS (q_tru (q_app (q_cons qV3_1 (q_cons q_lit q_nil)))) (q_ret (q_andV (q_call H__law_is_integer (q_cons qV3_0 q_nil)) (q_bin qV3_0 qV3_1))) q_pass) (q_seq (q_ifS (q_tru (q_app (q_cons qV3_1 (q_cons q_lit q_nil)))) (q_ret (q_andV (q_app (q_cons qV3_0 (q_cons q_lit q_nil))) (q_bin qV3_0 qV3_1))) q_pass) (q_seq (q_ifS (q_tru (q_app (q_cons qV3_1 (q_cons q_lit q_nil)))) (q_ret (q_andV (q_app (q_cons qV3_0 (q_cons q_lit q_nil))) (q_call H__law_same_items__1 (q_cons qV3_0 (q_cons qV3_1 q_nil))))) q_pass) (q_seq (q_ifS (q_tru (q_app (q_cons qV3_1 (q_cons q_lit q_nil)))) (q_ret (q_andV (q_app (q_cons qV3_0 (q_cons q_lit q_nil))) (q_call H__law_same_items__1 (q_cons qV3_0 (q_cons qV3_1 q_nil))))) q_pass) (q_seq (q_ifS (q_or (q_not (q_tru (q_app (q_cons qV3_0 (q_cons q_lit q_nil))))) (q_bl (q_bin (q_app (q_cons qV3_0 q_nil)) (q_app (q_cons qV3_1 q_nil))))) (q_ret q_lit) q_pass) (q_seq (q_for (q_seqI qV3_1) qS3_2 (q_ifS (q_or (q_bl (q_bin qV3_2 qV3_0)) (q_not (q_tru (q_call H__law_same__0 (q_cons (q_bin qV3_0 qV3_2) (q_cons (q_bin qV3_1 qV3_2) q_nil)))))) (q_ret q_lit) q_pass)) (q_seq (q_for (q_seqI qV3_0) qS3_2 (q_ifS (q_tru (q_app (q_cons qV3_2 (q_cons q_lit q_nil)))) (q_ret q_lit) q_pass)) (q_ret q_lit))))))))))
def h__law_same__1 : SemF := pureFR (mkP cv2_3 t__law_same__1_)
theorem H__law_same__1 : g__law_same__1 = h__law_same__1 := by delta g__law_same__1 h__law_same__1; rw [q_mk (e := enF eF3) rfl cvh2_3 cvd2_3 z__law_same__1]
theorem q__law_same__1 : b__law_same__1 = r__law_same__1 := by delta b__law_same__1 r__law_same__1; rw [ifS_R, blT_R, varC_R, truT_R, andV_R, eqD_R, orT_R, notT_R, neD_R, lenF_R, forC_R, seqI_R, gNm_R, ixD_R, G__law_is_integer, G__law_same_items__1, G__law_same__0]
def p__law_same__1 : SemF := pureF f__law_same__1
theorem G__law_same__1 : p__law_same__1 = g__law_same__1 := by delta p__law_same__1 f__law_same__1 g__law_same__1; rw [pureF_R, mkF_R, q__law_same__1]
theorem s__law_same__1 : FnScope ["actual", "expected", "key"] ["actual", "expected"] (defScope (st 33)) := ⟨rfl, rfl, rfl, by decide +kernel, rfl, by decide +kernel, by decide +kernel⟩
theorem t__law_same__1 : trB c__law_same__1_ (defBody (st 33)) = some b__law_same__1 := by kernel_rfl
/- _law_same_items__2 -/
def c__law_same_items__2_ : Cfg := ⟨["actual", "expected", "k"], (defScope (st 32)).names, true, 3, [("_law_same", p__law_same__1)], [], [], [], fun _ => none⟩
def b__law_same_items__2 : SemS := (seqC (ifS (blT (binC neD (appC lenF (consC (varC 0) nilC)) (appC lenF (consC (varC 1) nilC)))) (retC (litC (.bl false))) passC)
  (seqC (forC (rng1I (consC (appC lenF (consC (varC 1) nilC)) nilC)) (gNm 2) (ifS (notT (truT (callC p__law_same__1 (consC (binC ixD (varC 0) (varC 2)) (consC (binC ixD (varC 1) (varC 2)) nilC))))) (retC (litC (.bl false))) passC))
  (retC (litC (.bl true)))))
def f__law_same_items__2 : SemF := mkF 2 1 b__law_same_items__2
def r__law_same_items__2 : SemS := (seqC (ifSR (blR (binC neR2 (appC lenFR (consC (varR 0) nilC)) (appC lenFR (consC (varR 1) nilC)))) (retC (litC (.bl false))) passC)
  (seqC (forR (rng1R (consC (appC lenFR (consC (varR 1) nilC)) nilC)) (gNR 2) (ifSR (notR (truTR (callC g__law_same__1 (consC (binC ixR (varR 0) (varR 2)) (consC (binC ixR (varR 1) (varR 2)) nilC))))) (retC (litC (.bl false))) passC))
  (retC (litC (.bl true)))))
def g__law_same_items__2 : SemF := pureFR (mkR 2 1 r__law_same_items__2)
def t__law_same_items__2_ : XS E3 := (seqP (ifSP (blP (binP neR2 (appP lenFR (consP V3_0 nilP)) (appP lenFR (consP V3_1 nilP)))) (retP (litP (.bl false))) passP) (seqP (forP (rng1P (consP (appP lenFR (consP V3_1 nilP)) nilP)) S3_2 (ifSP (notP (truP (callP h__law_same__1 (consP (binP ixR V3_0 V3_2) (consP (binP ixR V3_1 V3_2) nilP))))) (retP (litP (.bl false))) passP)) (retP (litP (.bl true)))))
theorem z__law_same_items__2 : RS (enF eF3) 3 r__law_same_items__2 t__law_same_items__2_ := by delta r__law_same_items__2 t__law_same_items__2_; exact (q_seq (q_ifS (q_bl (q_bin (q_app (q_cons qV3_0 q_nil)) (q_app (q_cons qV3_1 q_nil)))) (q_ret q_lit) q_pass) (q_seq (q_for (q_rng1 (q_cons (q_app (q_cons qV3_1 q_nil)) q_nil)) qS3_2 (q_ifS (q_not (q_tru (q_call H__law_same__1 (q_cons (q_bin qV3_0 qV3_2) (q_cons (q_bin qV3_1 qV3_2) q_nil))))) (q_ret q_lit) q_pass)) (q_ret q_lit)))
def h__law_same_items__2 : SemF := pureFR (mkP cv2_3 t__law_same_items__2_)
theorem H__law_same_items__2 : g__law_same_items__2 = h__law_same_items__2 := by delta g__law_same_items__2 h__law_same_items__2; rw [q_mk (e := enF eF3) rfl cvh2_3 cvd2_3 z__law_same_items__2]
theorem q__law_same_items__2 : b__law_same_items__2 = r__law_same_items__2 := by delta b__law_same_items__2 r__law_same_items__2; rw [ifS_R, blT_R, neD_R, lenF_R, varC_R, forC_R, rng1I_R, gNm_R, notT_R, truT_R, ixD_R, G__law_same__1]
def p__law_same_items__2 : SemF := pureF f__law_same_items__2
theorem G__law_same_items__2 : p__law_same_items__2 = g__law_same_items__2 := by delta p__law_same_items__2 f__law_same_items__2 g__law_same_items__2; rw [pureF_R, mkF_R, q__law_same_items__2]
theorem s__law_same_items__2 : FnScope ["actual", "expected", "k"] ["actual", "expected"] (defScope (st 32)) := ⟨rfl, rfl, rfl, by decide +kernel, rfl, by decide +kernel, by decide +kernel⟩
theorem t__law_same_items__2 : trB c__law_same_items__2_ (defBody (st 32)) = some b__law_same_items__2 := by kernel_rfl
/- _law_same__2 -/
def c__law_same__2_ : Cfg := ⟨["actual", "expected", "key"], (defScope (st 33)).names, true, 4, [("_law_is_integer", p__law_is_integer), ("_law_same", p__law_same__1), ("_law_same_items", p__law_same_items__2)], [], [], [], fun _ => none⟩
def b__law_same__2 : SemS := (seqC (ifS (blT (binC isD (varC 1) (litC .non))) (retC (binC isD (varC 0) (litC .non))) passC)
  (seqC (ifS (truT (appC isiF (consC (varC 1) (consC (litC (.ty 1)) nilC)))) (retC (andV (appC isiF (consC (varC 0) (consC (litC (.ty 1)) nilC))) (binC eqD (varC 0) (varC 1)))) passC)
  (seqC (ifS (truT (appC isiF (consC (varC 1) (consC (litC (.ty 0)) nilC)))) (retC (andV (callC p__law_is_integer (consC (varC 0) nilC)) (binC eqD (varC 0) (varC 1)))) passC)
  (seqC (ifS (truT (appC isiF (consC (varC 1) (consC (litC (.ty 2)) nilC)))) (retC (andV (appC isiF (consC (varC 0) (consC (litC (.ty 2)) nilC))) (binC eqD (varC 0) (varC 1)))) passC)
  (seqC (ifS (truT (appC isiF (consC (varC 1) (consC (litC (.ty 3)) nilC)))) (retC (andV (appC isiF (consC (varC 0) (consC (litC (.ty 3)) nilC))) (callC p__law_same_items__2 (consC (varC 0) (consC (varC 1) nilC))))) passC)
  (seqC (ifS (truT (appC isiF (consC (varC 1) (consC (litC (.ty 4)) nilC)))) (retC (andV (appC isiF (consC (varC 0) (consC (litC (.ty 4)) nilC))) (callC p__law_same_items__2 (consC (varC 0) (consC (varC 1) nilC))))) passC)
  (seqC (ifS (orT (notT (truT (appC isiF (consC (varC 0) (consC (litC (.ty 5)) nilC))))) (blT (binC neD (appC lenF (consC (varC 0) nilC)) (appC lenF (consC (varC 1) nilC))))) (retC (litC (.bl false))) passC)
  (seqC (forC (seqI (varC 1)) (gNm 2) (ifS (orT (blT (binC ninD (varC 2) (varC 0))) (notT (truT (callC p__law_same__1 (consC (binC ixD (varC 0) (varC 2)) (consC (binC ixD (varC 1) (varC 2)) nilC)))))) (retC (litC (.bl false))) passC))
  (seqC (forC (seqI (varC 0)) (gNm 2) (ifS (truT (appC isiF (consC (varC 2) (consC (litC (.ty 1)) nilC)))) (retC (litC (.bl false))) passC))
  (retC (litC (.bl true))))))))))))
def f__law_same__2 : SemF := mkF 2 1 b__law_same__2
def r__law_same__2 : SemS := (seqC (ifSR (blR (binC isD (varR 1) (litC .non))) (retC (binC isD (varR 0) (litC .non))) passC)
  (seqC (ifSR (truTR (appC isiF (consC (varR 1) (consC (litC (.ty 1)) nilC)))) (retC (andVR (appC isiF (consC (varR 0) (consC (litC (.ty 1)) nilC))) (binC eqR (varR 0) (varR 1)))) passC)
  (seqC (ifSR (truTR (appC isiF (consC (varR 1) (consC (litC (.ty 0)) nilC)))) (retC (andVR (callC g__law_is_integer (consC (varR 0) nilC)) (binC eqR (varR 0) (varR 1)))) passC)
  (seqC (ifSR (truTR (appC isiF (consC (varR 1) (consC (litC (.ty 2)) nilC)))) (retC (andVR (appC isiF (consC (varR 0) (consC (litC (.ty 2)) nilC))) (binC eqR (varR 0) (varR 1)))) passC)
  (seqC (ifSR (truTR (appC isiF (consC (varR 1) (consC (litC (.ty 3)) nilC)))) (retC (andVR (appC isiF (consC (varR 0) (consC (litC (.ty 3)) nilC))) (callC g__law_same_items__2 (consC (varR 0) (consC (varR 1) nilC))))) passC)
  (seqC (ifSR (truTR (appC isiF (consC (varR 1) (consC (litC (.ty 4)) nilC)))) (retC (andVR (appC isiF (consC (varR 0) (consC (litC (.ty 4)) nilC))) (callC g__law_same_items__2 (consC (varR 0) (consC (varR 1) nilC))))) passC)
  (seqC (ifSR (orR (notR (truTR (appC isiF (consC (varR 0) (consC (litC (.ty 5)) nilC))))) (blR (binC neR2 (appC lenFR (consC (varR 0) nilC)) (appC lenFR (consC (varR 1) nilC))))) (retC (litC (.bl false))) passC)
  (seqC (forR (seqIR (varR 1)) (gNR 2) (ifSR (orR (blR (binC ninD (varR 2) (varR 0))) (notR (truTR (callC g__law_same__1 (consC (binC ixR (varR 0) (varR 2)) (consC (binC ixR (varR 1) (varR 2)) nilC)))))) (retC (litC (.bl false))) passC))
  (seqC (forR (seqIR (varR 0)) (gNR 2) (ifSR (truTR (appC isiF (consC (varR 2) (consC (litC (.ty 1)) nilC)))) (retC (litC (.bl false))) passC))
  (retC (litC (.bl true))))))))))))
def g__law_same__2 : SemF := pureFR (mkR 2 1 r__law_same__2)
def t__law_same__2_ : XS E3 := (seqP (ifSP (blP (binP isD V3_1 (litP .non))) (retP (binP isD V3_0 (litP .non))) passP) (seqP (ifSP (truP (appP isiF (consP V3_1 (consP (litP (.ty 1)) nilP)))) (retP (andVP (appP isiF (consP V3_0 (consP (litP (.ty 1)) nilP))) (binP eqR V3_0 V3_1))) passP) (seqP (ifSP (truP (appP isiF (consP V3_1 (consP (litP (.ty 0)) nilP)))) (retP (andVP (callP h__law_is_integer (consP V3_0 nilP)) (binP eqR V3_0 V3_1))) passP) (seqP (ifSP (truP (appP isiF (consP V3_1 (consP (litP (.ty 2)) nilP)))) (retP (andVP (appP isiF (consP V3_0 (consP (litP (.ty 2)) nilP))) (binP eqR V3_0 V3_1))) passP) (seqP (ifSP (truP (appP isiF (consP V3_1 (consP (litP (.ty 3)) nilP)))) (retP (andVP (appP isiF (consP V3_0 (consP (litP (.ty 3)) nilP))) (callP h__law_same_items__2 (consP V3_0 (consP V3_1 nilP))))) passP) (seqP (ifSP (truP (appP isiF (consP V3_1 (consP (litP (.ty 4)) nilP)))) (retP (andVP (appP isiF (consP V3_0 (consP (litP (.ty 4)) nilP))) (callP h__law_same_items__2 (consP V3_0 (consP V3_1 nilP))))) passP) (seqP (ifSP (orP (notP (truP (appP isiF (consP V3_0 (consP (litP (.ty 5)) nilP))))) (blP (binP neR2 (appP lenFR (consP V3_0 nilP)) (appP lenFR (consP V3_1 nilP))))) (retP (litP (.bl false))) passP) (seqP (forP (seqIP V3_1) S3_2 (ifSP (orP (blP (binP ninD V3_2 V3_0)) (notP (truP (callP h__law_same__1 (consP (binP ixR V3_0 V3_2) (consP (binP ixR V3_1 V3_2) nilP)))))) (retP (litP (.bl false))) passP)) (seqP (forP (seqIP V3_0) S3_2 (ifSP (truP (appP isiF (consP V3_2 (consP (litP (.ty 1)) nilP)))) (retP (litP (.bl false))) passP)) (retP (litP (.bl true))))))))))))
theorem z__law_same__2 : RS (enF eF3) 3 r__law_same__2 t__law_same__2_ := by delta r__law_same__2 t__law_same__2_; exact (q_seq (q_ifS (q_bl (q_bin qV3_1 q_lit)) (q_ret (q_bin qV3_0 q_lit)) q_pass) (q_seq (q_ifS (q_tru (q_app (q_cons qV3_1 (q_cons q_lit q_nil)))) (q_ret (q_andV (q_app (q_cons qV3_0 (q_cons q_lit q_nil))) (q_bin qV3_0 qV3_1))) q_pass) (q_seq (q_ifS (q_tru (q_app (q_cons qV3_1 (q_cons q_lit q_nil)))) (q_ret (q_andV (q_call H__law_is_integer (q_cons qV3_0 q_nil)) (q_bin qV3_0 qV3_1))) q_pass) (q_seq (q_ifS (q_tru (q_app (q_cons qV3_1 (q_cons q_lit q_nil)))) (q_ret (q_andV (q_app (q_cons qV3_0 (q_cons q_lit q_nil))) (q_bin qV3_0 qV3_1))) q_pass) (q_seq (q_ifS (q_tru (q_app (q_cons qV3_1 (q_cons q_lit q_nil)))) (q_ret (q_andV (q_app (q_cons qV3_0 (q_cons q_lit q_nil))) (q_call H__law_same_items__2 (q_cons qV3_0 (q_cons qV3_1 q_nil))))) q_pass) (q_seq (q_ifS (q_tru (q_app (q_cons qV3_1 (q_cons q_lit q_nil)))) (q_ret (q_andV (q_app (q_cons qV3_0 (q_cons q_lit q_nil))) (q_call H__law_same_items__2 (q_cons qV3_0 (q_cons qV3_1 q_nil))))) q_pass) (q_seq (q_ifS (q_or (q_not (q_tru (q_app (q_cons qV3_0 (q_cons q_lit q_nil))))) (q_bl (q_bin (q_app (q_cons qV3_0 q_nil)) (q_app (q_cons qV3_1 q_nil))))) (q_ret q_lit) q_pass) (q_seq (q_for (q_seqI qV3_1) qS3_2 (q_ifS (q_or (q_bl (q_bin qV3_2 qV3_0)) (q_not (q_tru (q_call H__law_same__1 (q_cons (q_bin qV3_0 qV3_2) (q_cons (q_bin qV3_1 qV3_2) q_nil)))))) (q_ret q_lit) q_pass)) (q_seq (q_for (q_seqI qV3_0) qS3_2 (q_ifS (q_tru (q_app (q_cons qV3_2 (q_cons q_lit q_nil)))) (q_ret q_lit) q_pass)) (q_ret q_lit))))))))))
def h__law_same__2 : SemF := pureFR (mkP cv2_3 t__law_same__2_)
theorem H__law_same__2 : g__law_same__2 = h__law_same__2 := by delta g__law_same__2 h__law_same__2; rw [q_mk (e := enF eF3) rfl cvh2_3 cvd2_3 z__law_same__2]
theorem q__law_same__2 : b__law_same__2 = r__law_same__2 := by delta b__law_same__2 r__law_same__2; rw [ifS_R, blT_R, varC_R, truT_R, andV_R, eqD_R, orT_R, notT_R, neD_R, lenF_R, forC_R, seqI_R, gNm_R, ixD_R, G__law_is_integer, G__law_same_items__2, G__law_same__1]
def p__law_same__2 : SemF := pureF f__law_same__2
theorem G__law_same__2 : p__law_same__2 = g__law_same__2 := by delta p__law_same__2 f__law_same__2 g__law_same__2; rw [pureF_R, mkF_R, q__law_same__2]
theorem s__law_same__2 : FnScope ["actual", "expected", "key"] ["actual", "expected"] (defScope (st 33)) := ⟨rfl, rfl, rfl, by decide +kernel, rfl, by decide +kernel, by decide +kernel⟩
theorem t__law_same__2 : trB c__law_same__2_ (defBody (st 33)) = some b__law_same__2 := by kernel_rfl
/- _law_same_items__3 -/
def c__law_same_items__3_ : Cfg := ⟨["actual", "expected", "k"], (defScope (st 32)).names, true, 5, [("_law_same", p__law_same__2)], [], [], [], fun _ => none⟩
def b__law_same_items__3 : SemS := (seqC (ifS (blT (binC neD (appC lenF (consC (varC 0) nilC)) (appC lenF (consC (varC 1) nilC)))) (retC (litC (.bl false))) passC)
  (seqC (forC (rng1I (consC (appC lenF (consC (varC 1) nilC)) nilC)) (gNm 2) (ifS (notT (truT (callC p__law_same__2 (consC (binC ixD (varC 0) (varC 2)) (consC (binC ixD (varC 1) (varC 2)) nilC))))) (retC (litC (.bl false))) passC))
  (retC (litC (.bl true)))))
def f__law_same_items__3 : SemF := mkF 2 1 b__law_same_items__3
def r__law_same_items__3 : SemS := (seqC (ifSR (blR (binC neR2 (appC lenFR (consC (varR 0) nilC)) (appC lenFR (consC (varR 1) nilC)))) (retC (litC (.bl false))) passC)
  (seqC (forR (rng1R (consC (appC lenFR (consC (varR 1) nilC)) nilC)) (gNR 2) (ifSR (notR (truTR (callC g__law_same__2 (consC (binC ixR (varR 0) (varR 2)) (consC (binC ixR (varR 1) (varR 2)) nilC))))) (retC (litC (.bl false))) passC))
  (retC (litC (.bl true)))))
def g__law_same_items__3 : SemF := pureFR (mkR 2 1 r__law_same_items__3)
def t__law_same_items__3_ : XS E3 := (seqP (ifSP (blP (binP neR2 (appP lenFR (consP V3_0 nilP)) (appP lenFR (consP V3_1 nilP)))) (retP (litP (.bl false))) passP) (seqP (forP (rng1P (consP (appP lenFR (consP V3_1 nilP)) nilP)) S3_2 (ifSP (notP (truP (callP h__law_same__2 (consP (binP ixR V3_0 V3_2) (consP (binP ixR V3_1 V3_2) nilP))))) (retP (litP (.bl false))) passP)) (retP (litP (.bl true)))))
theorem z__law_same_items__3 : RS (enF eF3) 3 r__law_same_items__3 t__law_same_items__3_ := by delta r__law_same_items__3 t__law_same_items__3_; exact (q_seq (q_ifS (q_bl (q_bin (q_app (q_cons qV3_0 q_nil)) (q_app (q_cons qV3_1 q_nil)))) (q_ret q_lit) q_pass) (q_seq (q_for (q_rng1 (q_cons (q_app (q_cons qV3_1 q_nil)) q_nil)) qS3_2 (q_ifS (q_not (q_tru (q_call H__law_same__2 (q_cons (q_bin qV3_0 qV3_2) (q_cons (q_bin qV3_1 qV3_2) q_nil))))) (q_ret q_lit) q_pass)) (q_ret q_lit)))
def h__law_same_items__3 : SemF := pureFR (mkP cv2_3 t__law_same_items__3_)
theorem H__law_same_items__3 : g__law_same_items__3 = h__law_same_items__3 := by delta g__law_same_items__3 h__law_same_items__3; rw [q_mk (e := enF eF3) rfl cvh2_3 cvd2_3 z__law_same_items__3]
theorem q__law_same_items__3 : b__law_same_items__3 = r__law_same_items__3 := by delta b__law_same_items__3 r__law_same_items__3; rw [ifS_R, blT_R, neD_R, lenF_R, varC_R, forC_R, rng1I_R, gNm_R, notT_R, truT_R, ixD_R, G__law_same__2]
def p__law_same_items__3 : SemF := pureF f__law_same_items__3
theorem G__law_same_items__3 : p__law_same_items__3 = g__law_same_items__3 := by delta p__law_same_items__3 f__law_same_items__3 g__law_same_items__3; rw [pureF_R, mkF_R, q__law_same_items__3]
theorem s__law_same_items__3 : FnScope ["actual", "expected", "k"] ["actual", "expected"] (defScope (st 32)) := ⟨rfl, rfl, rfl, by decide +kernel, rfl, by decide +kernel, by decide +kernel⟩
theorem t__law_same_items__3 : trB c__law_same_items__3_ (defBody (st 32)) = some b__law_same_items__3 := by kernel_rfl
/- _law_same__3 -/
def c__law_same__3_ : Cfg := ⟨["actual", "expected", "key"], (defScope (st 33)).names, true, 6, [("_law_is_integer", p__law_is_integer), ("_law_same", p__law_same__2), ("_law_same_items", p__law_same_items__3)], [], [], [], fun _ => none⟩
def b__law_same__3 : SemS := (seqC (ifS (blT (binC isD (varC 1) (litC .non))) (retC (binC isD (varC 0) (litC .non))) passC)
  (seqC (ifS (truT (appC isiF (consC (varC 1) (consC (litC (.ty 1)) nilC)))) (retC (andV (appC isiF (consC (varC 0) (consC (litC (.ty 1)) nilC))) (binC eqD (varC 0) (varC 1)))) passC)
  (seqC (ifS (truT (appC isiF (consC (varC 1) (consC (litC (.ty 0)) nilC)))) (retC (andV (callC p__law_is_integer (consC (varC 0) nilC)) (binC eqD (varC 0) (varC 1)))) passC)
  (seqC (ifS (truT (appC isiF (consC (varC 1) (consC (litC (.ty 2)) nilC)))) (retC (andV (appC isiF (consC (varC 0) (consC (litC (.ty 2)) nilC))) (binC eqD (varC 0) (varC 1)))) passC)
  (seqC (ifS (truT (appC isiF (consC (varC 1) (consC (litC (.ty 3)) nilC)))) (retC (andV (appC isiF (consC (varC 0) (consC (litC (.ty 3)) nilC))) (callC p__law_same_items__3 (consC (varC 0) (consC (varC 1) nilC))))) passC)
  (seqC (ifS (truT (appC isiF (consC (varC 1) (consC (litC (.ty 4)) nilC)))) (retC (andV (appC isiF (consC (varC 0) (consC (litC (.ty 4)) nilC))) (callC p__law_same_items__3 (consC (varC 0) (consC (varC 1) nilC))))) passC)
  (seqC (ifS (orT (notT (truT (appC isiF (consC (varC 0) (consC (litC (.ty 5)) nilC))))) (blT (binC neD (appC lenF (consC (varC 0) nilC)) (appC lenF (consC (varC 1) nilC))))) (retC (litC (.bl false))) passC)
  (seqC (forC (seqI (varC 1)) (gNm 2) (ifS (orT (blT (binC ninD (varC 2) (varC 0))) (notT (truT (callC p__law_same__2 (consC (binC ixD (varC 0) (varC 2)) (consC (binC ixD (varC 1) (varC 2)) nilC)))))) (retC (litC (.bl false))) passC))
  (seqC (forC (seqI (varC 0)) (gNm 2) (ifS (truT (appC isiF (consC (varC 2) (consC (litC (.ty 1)) nilC)))) (retC (litC (.bl false))) passC))
  (retC (litC (.bl true))))))))))))
def f__law_same__3 : SemF := mkF 2 1 b__law_same__3
def r__law_same__3 : SemS := (seqC (ifSR (blR (binC isD (varR 1) (litC .non))) (retC (binC isD (varR 0) (litC .non))) passC)
  (seqC (ifSR (truTR (appC isiF (consC (varR 1) (consC (litC (.ty 1)) nilC)))) (retC (andVR (appC isiF (consC (varR 0) (consC (litC (.ty 1)) nilC))) (binC eqR (varR 0) (varR 1)))) passC)
  (seqC (ifSR (truTR (appC isiF (consC (varR 1) (consC (litC (.ty 0)) nilC)))) (retC (andVR (callC g__law_is_integer (consC (varR 0) nilC)) (binC eqR (varR 0) (varR 1)))) passC)
  (seqC (ifSR (truTR (appC isiF (consC (varR 1) (consC (litC (.ty 2)) nilC)))) (retC (andVR (appC isiF (consC (varR 0) (consC (litC (.ty 2)) nilC))) (binC eqR (varR 0) (varR 1)))) passC)
  (seqC (ifSR (truTR (appC isiF (consC (varR 1) (consC (litC (.ty 3)) nilC)))) (retC (andVR (appC isiF (consC (varR 0) (consC (litC (.ty 3)) nilC))) (callC g__law_same_items__3 (consC (varR 0) (consC (varR 1) nilC))))) passC)
  (seqC (ifSR (truTR (appC isiF (consC (varR 1) (consC (litC (.ty 4)) nilC)))) (retC (andVR (appC isiF (consC (varR 0) (consC (litC (.ty 4)) nilC))) (callC g__law_same_items__3 (consC (varR 0) (consC (varR 1) nilC))))) passC)
  (seqC (ifSR (orR (notR (truTR (appC isiF (consC (varR 0) (consC (litC (.ty 5)) nilC))))) (blR (binC neR2 (appC lenFR (consC (varR 0) nilC)) (appC lenFR (consC (varR 1) nilC))))) (retC (litC (.bl false))) passC)
  (seqC (forR (seqIR (varR 1)) (gNR 2) (ifSR (orR (blR (binC ninD (varR 2) (varR 0))) (notR (truTR (callC g__law_same__2 (consC (binC ixR (varR 0) (varR 2)) (consC (binC ixR (varR 1) (varR 2)) nilC)))))) (retC (litC (.bl false))) passC))
  (seqC (forR (seqIR (varR 0)) (gNR 2) (ifSR (truTR (appC isiF (consC (varR 2) (consC (litC (.ty 1)) nilC)))) (retC (litC (.bl false))) passC))
  (retC (litC (.bl true))))))))))))
def g__law_same__3 : SemF := pureFR (mkR 2 1 r__law_same__3)
def t__law_same__3_ : XS E3 := (seqP (ifSP (blP (binP isD V3_1 (litP .non))) (retP (binP isD V3_0 (litP .non))) passP) (seqP (ifSP (truP (appP isiF (consP V3_1 (consP (litP (.ty 1)) nilP)))) (retP (andVP (appP isiF (consP V3_0 (consP (litP (.ty 1)) nilP))) (binP eqR V3_0 V3_1))) passP) (seqP (ifSP (truP (appP isiF (consP V3_1 (consP (litP (.ty 0)) nilP)))) (retP (andVP (callP h__law_is_integer (consP V3_0 nilP)) (binP eqR V3_0 V3_1))) passP) (seqP (ifSP (truP (appP isiF (consP V3_1 (consP (litP (.ty 2)) nilP)))) (retP (andVP (appP isiF (consP V3_0 (consP (litP (.ty 2)) nilP))) (binP eqR V3_0 V3_1))) passP) (seqP (ifSP (truP (appP isiF (consP V3_1 (consP (litP (.ty 3)) nilP)))) (retP (andVP (appP isiF (consP V3_0 (consP (litP (.ty 3)) nilP))) (callP h__law_same_items__3 (consP V3_0 (consP V3_1 nilP))))) passP) (seqP (ifSP (truP (appP isiF (consP V3_1 (consP (litP (.ty 4)) nilP)))) (retP (andVP (appP isiF (consP V3_0 (consP (litP (.ty 4)) nilP))) (callP h__law_same_items__3 (consP V3_0 (consP V3_1 nilP))))) passP) (seqP (ifSP (orP (notP (truP (appP isiF (consP V3_0 (consP (litP (.ty 5)) nilP))))) (blP (binP neR2 (appP lenFR (consP V3_0 nilP)) (appP lenFR (consP V3_1 nilP))))) (retP (litP (.bl false))) passP) (seqP (forP (seqIP V3_1) S3_2 (ifSP (orP (blP (binP ninD V3_2 V3_0)) (notP (truP (callP h__law_same__2 (consP (binP ixR V3_0 V3_2) (consP (binP ixR V3_1 V3_2) nilP)))))) (retP (litP (.bl false))) passP)) (seqP (forP (seqIP V3_0) S3_2 (ifSP (truP (appP isiF (consP V3_2 (consP (litP (.ty 1)) nilP)))) (retP (litP (.bl false))) passP)) (retP (litP (.bl true))))))))))))
theorem z__law_same__3 : RS (enF eF3) 3 r__law_same__3 t__law_same__3_ := by delta r__law_same__3 t__law_same__3_; exact (q_seq (q_ifS (q_bl (q_bin qV3_1 q_lit)) (q_ret (q_bin qV3_0 q_lit)) q_pass) (q_seq (q_ifS (q_tru (q_app (q_cons qV3_1 (q_cons q_lit q_nil)))) (q_ret (q_andV (q_app (q_cons qV3_0 (q_cons q_lit q_nil))) (q_bin qV3_0 qV3_1))) q_pass) (q_seq (q_ifS (q_tru (q_app (q_cons qV3_1 (q_cons q_lit q_nil)))) (q_ret (q_andV (q_call H__law_is_integer (q_cons qV3_0 q_nil)) (q_bin qV3_0 qV3_1))) q_pass) (q_seq (q_ifS (q_tru (q_app (q_cons qV3_1 (q_cons q_lit q_nil)))) (q_ret (q_andV (q_app (q_cons qV3_0 (q_cons q_lit q_nil))) (q_bin qV3_0 qV3_1))) q_pass) (q_seq (q_ifS (q_tru (q_app (q_cons qV3_1 (q_cons q_lit q_nil)))) (q_ret (q_andV (q_app (q_cons qV3_0 (q_cons q_lit q_nil))) (q_call H__law_same_items__3 (q_cons qV3_0 (q_cons qV3_1 q_nil))))) q_pass) (q_seq (q_ifS (q_tru (q_app (q_cons qV3_1 (q_cons q_lit q_nil)))) (q_ret (q_andV (q_app (q_cons qV3_0 (q_cons q_lit q_nil))) (q_call H__law_same_items__3 (q_cons qV3_0 (q_cons qV3_1 q_nil))))) q_pass) (q_seq (q_ifS (q_or (q_not (q_tru (q_app (q_cons qV3_0 (q_cons q_lit q_nil))))) (q_bl (q_bin (q_app (q_cons qV3_0 q_nil)) (q_app (q_cons qV3_1 q_nil))))) (q_ret q_lit) q_pass) (q_seq (q_for (q_seqI qV3_1) qS3_2 (q_ifS (q_or (q_bl (q_bin qV3_2 qV3_0)) (q_not (q_tru (q_call H__law_same__2 (q_cons (q_bin qV3_0 qV3_2) (q_cons (q_bin qV3_1 qV3_2) q_nil)))))) (q_ret q_lit) q_pass)) (q_seq (q_for (q_seqI qV3_0) qS3_2 (q_ifS (q_tru (q_app (q_cons qV3_2 (q_cons q_lit q_nil)))) (q_ret q_lit) q_pass)) (q_ret q_lit))))))))))
def h__law_same__3 : SemF := pureFR (mkP cv2_3 t__law_same__3_)
theorem H__law_same__3 : g__law_same__3 = h__law_same__3 := by delta g__law_same__3 h__law_same__3; rw [q_mk (e := enF eF3) rfl cvh2_3 cvd2_3 z__law_same__3]
theorem q__law_same__3 : b__law_same__3 = r__law_same__3 := by delta b__law_same__3 r__law_same__3; rw [ifS_R, blT_R, varC_R, truT_R, andV_R, eqD_R, orT_R, notT_R, neD_R, lenF_R, forC_R, seqI_R, gNm_R, ixD_R, G__law_is_integer, G__law_same_items__3, G__law_same__2]
def p__law_same__3 : SemF := pureF f__law_same__3
theorem G__law_same__3 : p__law_same__3 = g__law_same__3 := by delta p__law_same__3 f__law_same__3 g__law_same__3; rw [pureF_R, mkF_R, q__law_same__3]
theorem s__law_same__3 : FnScope ["actual", "expected", "key"] ["actual", "expected"] (defScope (st 33)) := ⟨rfl, rfl, rfl, by decide +kernel, rfl, by decide +kernel, by decide +kernel⟩
theorem t__law_same__3 : trB c__law_same__3_ (defBody (st 33)) = some b__law_same__3 := by kernel_rfl
/- _law_take -/
def c__law_take_ : Cfg := ⟨["tape", "many", "drawn", "mixed"], (defScope (st 30)).names, true, 0, [], [], [], [], fun _ => none⟩
def b__law_take : SemS := takeB
def f__law_take : SemF := mkF 2 2 b__law_take
def p__law_take : SemF := pureF f__law_take
theorem s__law_take : FnScope ["tape", "many", "drawn", "mixed"] ["tape", "many"] (defScope (st 30)) := ⟨rfl, rfl, rfl, by decide +kernel, rfl, by decide +kernel, by decide +kernel⟩
theorem t__law_take : trB c__law_take_ (defBody (st 30)) = some b__law_take := by kernel_rfl
/- _law_tape -/
def c__law_tape_ : Cfg := ⟨["script", "cells", "seed", "cell"], (defScope (st 29)).names, true, 0, [], [], [], [], fun _ => none⟩
def b__law_tape : SemS := tapeB
def f__law_tape : SemF := mkF 1 3 b__law_tape
def p__law_tape : SemF := pureF f__law_tape
theorem s__law_tape : FnScope ["script", "cells", "seed", "cell"] ["script"] (defScope (st 29)) := ⟨rfl, rfl, rfl, by decide +kernel, rfl, by decide +kernel, by decide +kernel⟩
theorem t__law_tape : trB c__law_tape_ (defBody (st 29)) = some b__law_tape := by kernel_rfl
/- all_rows -/
def c_all_rows_ : Cfg := ⟨["size", "found", "number", "longer", "row", "place"], (defScope (st 7)).names, true, 0, [], [], [], [], fun _ => none⟩
def b_all_rows : SemS := (seqC (setC (gNm 1) (lstC (consC (tupC nilC) nilC)))
  (seqC (forC (rng1I (consC (varC 0) nilC)) (gNm 2) (seqC (setC (gNm 3) (lstC nilC))
  (seqC (forC (seqI (varC 1)) (gNm 4) (exprC (mtC extendM (varC 3) (consC (lcC (rng1I (consC (binC addD (appC lenF (consC (varC 4) nilC)) (litC (.int 1))) nilC)) (gNm 5) yesT (binC addD (binC addD (slC (varC 4) noP (someP (varC 5))) (tupC (consC (varC 2) nilC))) (slC (varC 4) (someP (varC 5)) noP)) [5]) nilC))))
  (setC (gNm 1) (varC 3)))))
  (retC (appC sortedF (consC (varC 1) nilC)))))
def f_all_rows : SemF := mkF 1 5 b_all_rows
def r_all_rows : SemS := (seqC (setC (gNR 1) (lstR (consC (tupR nilC) nilC)))
  (seqC (forR (rng1R (consC (varR 0) nilC)) (gNR 2) (seqC (setC (gNR 3) (lstR nilC))
  (seqC (forR (seqIR (varR 1)) (gNR 4) (exprC (mtR extendR (varR 3) (consC (lcR2 (rng1R (consC (binC addR (appC lenFR (consC (varR 4) nilC)) (litC (.int 1))) nilC)) (gNR 5) yesT (binC addR (binC addR (slR (varR 4) noP (somePR (varR 5))) (tupR (consC (varR 2) nilC))) (slR (varR 4) (somePR (varR 5)) noP)) [5]) nilC))))
  (setC (gNR 1) (varR 3)))))
  (retC (appC sortedR (consC (varR 1) nilC)))))
def gu_all_rows : SemF := pureFR (mkR 1 5 r_all_rows)
def t_all_rows_ : XS E6 := (seqP (setP S6_1 (lstP (consP (tupP nilP) nilP))) (seqP (forP (rng1P (consP V6_0 nilP)) S6_2 (seqP (setP S6_3 (lstP nilP)) (seqP (forP (seqIP V6_1) S6_4 (exprP (mtP extendR V6_3 (consP (lcP (rng1P (consP (binP addR (appP lenFR (consP V6_4 nilP)) (litP (.int 1))) nilP)) S6_5 yesP (binP addR (binP addR (slP V6_4 noPP (someQ V6_5)) (tupP (consP V6_2 nilP))) (slP V6_4 (someQ V6_5) noPP)) (wpC S6_5 wpN)) nilP)))) (setP S6_1 V6_3)))) (retP (appP sortedR (consP V6_1 nilP)))))
theorem z_all_rows : RS (enF eF6) 6 r_all_rows t_all_rows_ := by delta r_all_rows t_all_rows_; exact (q_seq (q_set qS6_1 (q_lst (q_cons (q_tup q_nil) q_nil))) (q_seq (q_for (q_rng1 (q_cons qV6_0 q_nil)) qS6_2 (q_seq (q_set qS6_3 (q_lst q_nil)) (q_seq (q_for (q_seqI qV6_1) qS6_4 (q_expr (q_mt qV6_3 (q_cons (q_lc (q_rng1 (q_cons (q_bin (q_app (q_cons qV6_4 q_nil)) q_lit) q_nil)) qS6_5 q_yes (q_bin (q_bin (q_sl qV6_4 q_noP (q_some qV6_5)) (q_tup (q_cons qV6_2 q_nil))) (q_sl qV6_4 (q_some qV6_5) q_noP)) (q_wpC qS6_5 q_wpN)) q_nil)))) (q_set qS6_1 qV6_3)))) (q_ret (q_app (q_cons qV6_1 q_nil)))))
def hu_all_rows : SemF := pureFR (mkP cv1_6 t_all_rows_)
theorem Hu_all_rows : gu_all_rows = hu_all_rows := by delta gu_all_rows hu_all_rows; rw [q_mk (e := enF eF6) rfl cvh1_6 cvd1_6 z_all_rows]
theorem q_all_rows : b_all_rows = r_all_rows := by delta b_all_rows r_all_rows; rw [gNm_R, lstC_R, tupC_R, forC_R, rng1I_R, varC_R, seqI_R, mtC_R, extendM_R, lcC_R, addD_R, lenF_R, slC_R, someP_R, sortedF_R]
def pu_all_rows : SemF := pureF f_all_rows
theorem Gu_all_rows : pu_all_rows = gu_all_rows := by delta pu_all_rows f_all_rows gu_all_rows; rw [pureF_R, mkF_R, q_all_rows]
theorem s_all_rows : FnScope ["size", "found", "number", "longer", "row", "place"] ["size"] (defScope (st 7)) := ⟨rfl, rfl, rfl, by decide +kernel, rfl, by decide +kernel, by decide +kernel⟩
theorem t_all_rows : trB c_all_rows_ (defBody (st 7)) = some b_all_rows := by kernel_rfl
def v_all_rows_0 : D := (.frl [(.tup [i0, i1, i2, i3, i4]), (.tup [i0, i1, i2, i4, i3]), (.tup [i0, i1, i3, i2, i4]), (.tup [i0, i1, i3, i4, i2]), (.tup [i0, i1, i4, i2, i3]), (.tup [i0, i1, i4, i3, i2]), (.tup [i0, i2, i1, i3, i4]), (.tup [i0, i2, i1, i4, i3]), (.tup [i0, i2, i3, i1, i4]), (.tup [i0, i2, i3, i4, i1]), (.tup [i0, i2, i4, i1, i3]), (.tup [i0, i2, i4, i3, i1]), (.tup [i0, i3, i1, i2, i4]), (.tup [i0, i3, i1, i4, i2]), (.tup [i0, i3, i2, i1, i4]), (.tup [i0, i3, i2, i4, i1]), (.tup [i0, i3, i4, i1, i2]), (.tup [i0, i3, i4, i2, i1]), (.tup [i0, i4, i1, i2, i3]), (.tup [i0, i4, i1, i3, i2]), (.tup [i0, i4, i2, i1, i3]), (.tup [i0, i4, i2, i3, i1]), (.tup [i0, i4, i3, i1, i2]), (.tup [i0, i4, i3, i2, i1]), (.tup [i1, i0, i2, i3, i4]), (.tup [i1, i0, i2, i4, i3]), (.tup [i1, i0, i3, i2, i4]), (.tup [i1, i0, i3, i4, i2]), (.tup [i1, i0, i4, i2, i3]), (.tup [i1, i0, i4, i3, i2]), (.tup [i1, i2, i0, i3, i4]), (.tup [i1, i2, i0, i4, i3]), (.tup [i1, i2, i3, i0, i4]), (.tup [i1, i2, i3, i4, i0]), (.tup [i1, i2, i4, i0, i3]), (.tup [i1, i2, i4, i3, i0]), (.tup [i1, i3, i0, i2, i4]), (.tup [i1, i3, i0, i4, i2]), (.tup [i1, i3, i2, i0, i4]), (.tup [i1, i3, i2, i4, i0]), (.tup [i1, i3, i4, i0, i2]), (.tup [i1, i3, i4, i2, i0]), (.tup [i1, i4, i0, i2, i3]), (.tup [i1, i4, i0, i3, i2]), (.tup [i1, i4, i2, i0, i3]), (.tup [i1, i4, i2, i3, i0]), (.tup [i1, i4, i3, i0, i2]), (.tup [i1, i4, i3, i2, i0]), (.tup [i2, i0, i1, i3, i4]), (.tup [i2, i0, i1, i4, i3]), (.tup [i2, i0, i3, i1, i4]), (.tup [i2, i0, i3, i4, i1]), (.tup [i2, i0, i4, i1, i3]), (.tup [i2, i0, i4, i3, i1]), (.tup [i2, i1, i0, i3, i4]), (.tup [i2, i1, i0, i4, i3]), (.tup [i2, i1, i3, i0, i4]), (.tup [i2, i1, i3, i4, i0]), (.tup [i2, i1, i4, i0, i3]), (.tup [i2, i1, i4, i3, i0]), (.tup [i2, i3, i0, i1, i4]), (.tup [i2, i3, i0, i4, i1]), (.tup [i2, i3, i1, i0, i4]), (.tup [i2, i3, i1, i4, i0]), (.tup [i2, i3, i4, i0, i1]), (.tup [i2, i3, i4, i1, i0]), (.tup [i2, i4, i0, i1, i3]), (.tup [i2, i4, i0, i3, i1]), (.tup [i2, i4, i1, i0, i3]), (.tup [i2, i4, i1, i3, i0]), (.tup [i2, i4, i3, i0, i1]), (.tup [i2, i4, i3, i1, i0]), (.tup [i3, i0, i1, i2, i4]), (.tup [i3, i0, i1, i4, i2]), (.tup [i3, i0, i2, i1, i4]), (.tup [i3, i0, i2, i4, i1]), (.tup [i3, i0, i4, i1, i2]), (.tup [i3, i0, i4, i2, i1]), (.tup [i3, i1, i0, i2, i4]), (.tup [i3, i1, i0, i4, i2]), (.tup [i3, i1, i2, i0, i4]), (.tup [i3, i1, i2, i4, i0]), (.tup [i3, i1, i4, i0, i2]), (.tup [i3, i1, i4, i2, i0]), (.tup [i3, i2, i0, i1, i4]), (.tup [i3, i2, i0, i4, i1]), (.tup [i3, i2, i1, i0, i4]), (.tup [i3, i2, i1, i4, i0]), (.tup [i3, i2, i4, i0, i1]), (.tup [i3, i2, i4, i1, i0]), (.tup [i3, i4, i0, i1, i2]), (.tup [i3, i4, i0, i2, i1]), (.tup [i3, i4, i1, i0, i2]), (.tup [i3, i4, i1, i2, i0]), (.tup [i3, i4, i2, i0, i1]), (.tup [i3, i4, i2, i1, i0]), (.tup [i4, i0, i1, i2, i3]), (.tup [i4, i0, i1, i3, i2]), (.tup [i4, i0, i2, i1, i3]), (.tup [i4, i0, i2, i3, i1]), (.tup [i4, i0, i3, i1, i2]), (.tup [i4, i0, i3, i2, i1]), (.tup [i4, i1, i0, i2, i3]), (.tup [i4, i1, i0, i3, i2]), (.tup [i4, i1, i2, i0, i3]), (.tup [i4, i1, i2, i3, i0]), (.tup [i4, i1, i3, i0, i2]), (.tup [i4, i1, i3, i2, i0]), (.tup [i4, i2, i0, i1, i3]), (.tup [i4, i2, i0, i3, i1]), (.tup [i4, i2, i1, i0, i3]), (.tup [i4, i2, i1, i3, i0]), (.tup [i4, i2, i3, i0, i1]), (.tup [i4, i2, i3, i1, i0]), (.tup [i4, i3, i0, i1, i2]), (.tup [i4, i3, i0, i2, i1]), (.tup [i4, i3, i1, i0, i2]), (.tup [i4, i3, i1, i2, i0]), (.tup [i4, i3, i2, i0, i1]), (.tup [i4, i3, i2, i1, i0])])
theorem e_all_rows_0 : rowB hu_all_rows [i5] v_all_rows_0 = true := by kernel_rfl
def v_all_rows_1 : D := (.frl [(.tup [i0, i1, i2, i3]), (.tup [i0, i1, i3, i2]), (.tup [i0, i2, i1, i3]), (.tup [i0, i2, i3, i1]), (.tup [i0, i3, i1, i2]), (.tup [i0, i3, i2, i1]), (.tup [i1, i0, i2, i3]), (.tup [i1, i0, i3, i2]), (.tup [i1, i2, i0, i3]), (.tup [i1, i2, i3, i0]), (.tup [i1, i3, i0, i2]), (.tup [i1, i3, i2, i0]), (.tup [i2, i0, i1, i3]), (.tup [i2, i0, i3, i1]), (.tup [i2, i1, i0, i3]), (.tup [i2, i1, i3, i0]), (.tup [i2, i3, i0, i1]), (.tup [i2, i3, i1, i0]), (.tup [i3, i0, i1, i2]), (.tup [i3, i0, i2, i1]), (.tup [i3, i1, i0, i2]), (.tup [i3, i1, i2, i0]), (.tup [i3, i2, i0, i1]), (.tup [i3, i2, i1, i0])])
theorem e_all_rows_1 : rowB hu_all_rows [i4] v_all_rows_1 = true := by kernel_rfl
def tb_all_rows : List (List D × D) := [([i5], v_all_rows_0), ([i4], v_all_rows_1)]
theorem tok_all_rows : TbOk pu_all_rows tb_all_rows := by rw [Gu_all_rows, Hu_all_rows]; exact .cons e_all_rows_0 (.cons e_all_rows_1 (.nil))
def p_all_rows : SemF := memoF tb_all_rows pu_all_rows
def g_all_rows : SemF := memoF tb_all_rows gu_all_rows
def h_all_rows : SemF := memoF tb_all_rows hu_all_rows
theorem G_all_rows : p_all_rows = g_all_rows := by delta p_all_rows g_all_rows; rw [Gu_all_rows]
theorem H_all_rows : g_all_rows = h_all_rows := by delta g_all_rows h_all_rows; rw [Hu_all_rows]
/- alternating_count -/
def c_alternating_count_ : Cfg := ⟨["size", "row", "_", "sums", "value", "one"], (defScope (st 26)).names, true, 0, [], [], [], [], fun _ => none⟩
def b_alternating_count : SemS := (seqC (setC (gNm 1) (lstC (consC (litC (.int 1)) nilC)))
  (seqC (forC (rng1I (consC (varC 0) nilC)) (gNm 2) (seqC (par2C 3 4 (consC (lstC (consC (litC (.int 0)) nilC)) (consC (litC (.int 0)) nilC)))
  (seqC (forC (seqI (slsC (varC 1) noP noP (someP (unC negD (litC (.int 1)))))) (gNm 5) (seqC (augC 4 ipT.iaddD (varC 5))
  (exprC (mtC appendM (varC 3) (consC (varC 4) nilC)))))
  (setC (gNm 1) (varC 3)))))
  (retC (binC ixD (varC 1) (unC negD (litC (.int 1)))))))
def f_alternating_count : SemF := mkF 1 5 b_alternating_count
def r_alternating_count : SemS := (seqC (setC (gNR 1) (lstR (consC (litC (.int 1)) nilC)))
  (seqC (forR (rng1R (consC (varR 0) nilC)) (gNR 2) (seqC (par2R 3 4 (consC (lstR (consC (litC (.int 0)) nilC)) (consC (litC (.int 0)) nilC)))
  (seqC (forR (seqIR (slsC (varR 1) noP noP (somePR (unC negR (litC (.int 1)))))) (gNR 5) (seqC (augR 4 iaddR (varR 5))
  (exprC (mtR appendR (varR 3) (consC (varR 4) nilC)))))
  (setC (gNR 1) (varR 3)))))
  (retC (binC ixR (varR 1) (unC negR (litC (.int 1)))))))
def g_alternating_count : SemF := pureFR (mkR 1 5 r_alternating_count)
def G6_4 : E6 → (D → Bool) → Bool := fun ρ k => ρ fun _ _ _ _ v4 _ => k v4
theorem qG6_4 : RGt (enF eF6) 6 4 G6_4 := sl_get (by decide) fun _ _ => rfl
def t_alternating_count_ : XS E6 := (seqP (setP S6_1 (lstP (consP (litP (.int 1)) nilP))) (seqP (forP (rng1P (consP V6_0 nilP)) S6_2 (seqP (par2P S6_3 S6_4 (consP (lstP (consP (litP (.int 0)) nilP)) (consP (litP (.int 0)) nilP))) (seqP (forP (seqIP (slsP V6_1 noPP noPP (someQ (unP negR (litP (.int 1)))))) S6_5 (seqP (augP G6_4 S6_4 iaddR V6_5) (exprP (mtP appendR V6_3 (consP V6_4 nilP))))) (setP S6_1 V6_3)))) (retP (binP ixR V6_1 (unP negR (litP (.int 1)))))))
theorem z_alternating_count : RS (enF eF6) 6 r_alternating_count t_alternating_count_ := by delta r_alternating_count t_alternating_count_; exact (q_seq (q_set qS6_1 (q_lst (q_cons q_lit q_nil))) (q_seq (q_for (q_rng1 (q_cons qV6_0 q_nil)) qS6_2 (q_seq (q_par2 qS6_3 qS6_4 (q_cons (q_lst (q_cons q_lit q_nil)) (q_cons q_lit q_nil))) (q_seq (q_for (q_seqI (q_sls qV6_1 q_noP q_noP (q_some (q_un q_lit)))) qS6_5 (q_seq (q_aug qG6_4 qS6_4 qV6_5) (q_expr (q_mt qV6_3 (q_cons qV6_4 q_nil))))) (q_set qS6_1 qV6_3)))) (q_ret (q_bin qV6_1 (q_un q_lit)))))
def h_alternating_count : SemF := pureFR (mkP cv1_6 t_alternating_count_)
theorem H_alternating_count : g_alternating_count = h_alternating_count := by delta g_alternating_count h_alternating_count; rw [q_mk (e := enF eF6) rfl cvh1_6 cvd1_6 z_alternating_count]
theorem q_alternating_count : b_alternating_count = r_alternating_count := by delta b_alternating_count r_alternating_count; rw [gNm_R, lstC_R, forC_R, rng1I_R, varC_R, par2C_R, seqI_R, someP_R, negD_R, augC_R, iaddD_R, mtC_R, appendM_R, ixD_R]
def p_alternating_count : SemF := pureF f_alternating_count
theorem G_alternating_count : p_alternating_count = g_alternating_count := by delta p_alternating_count f_alternating_count g_alternating_count; rw [pureF_R, mkF_R, q_alternating_count]
theorem s_alternating_count : FnScope ["size", "row", "_", "sums", "value", "one"] ["size"] (defScope (st 26)) := ⟨rfl, rfl, rfl, by decide +kernel, rfl, by decide +kernel, by decide +kernel⟩
theorem t_alternating_count : trB c_alternating_count_ (defBody (st 26)) = some b_alternating_count := by kernel_rfl
/- check -/
def c_check_ : Cfg := ⟨["row"], (defScope (st 6)).names, true, 0, [], [], [("NoShape", 0)], [], fun _ => none⟩
def b_check : SemS := (ifS (blT (binC neD (appC sortedF (consC (varC 0) nilC)) (lrg1C (appC lenF (consC (varC 0) nilC))))) (raiseC 0) passC)
def f_check : SemF := mkF 1 0 b_check
def r_check : SemS := (ifSR (blR (binC neR2 (appC sortedR (consC (varR 0) nilC)) (lrg1C (appC lenFR (consC (varR 0) nilC))))) (raiseC 0) passC)
def g_check : SemF := pureFR (mkR 1 0 r_check)
def t_check_ : XS E1 := (ifSP (blP (binP neR2 (appP sortedR (consP V1_0 nilP)) (lrg1P (appP lenFR (consP V1_0 nilP))))) (raiseP 0) passP)
theorem z_check : RS (enF eF1) 1 r_check t_check_ := by delta r_check t_check_; exact (q_ifS (q_bl (q_bin (q_app (q_cons qV1_0 q_nil)) (q_lrg1 (q_app (q_cons qV1_0 q_nil))))) q_raise q_pass)
def h_check : SemF := pureFR (mkP cv1_1 t_check_)
theorem H_check : g_check = h_check := by delta g_check h_check; rw [q_mk (e := enF eF1) rfl cvh1_1 cvd1_1 z_check]
theorem q_check : b_check = r_check := by delta b_check r_check; rw [ifS_R, blT_R, neD_R, sortedF_R, varC_R, lenF_R]
def p_check : SemF := pureF f_check
theorem G_check : p_check = g_check := by delta p_check f_check g_check; rw [pureF_R, mkF_R, q_check]
theorem s_check : FnScope ["row"] ["row"] (defScope (st 6)) := ⟨rfl, rfl, rfl, by decide +kernel, rfl, by decide +kernel, by decide +kernel⟩
theorem t_check : trB c_check_ (defBody (st 6)) = some b_check := by kernel_rfl
/- code -/
def c_code_ : Cfg := ⟨["row", "index", "one"], (defScope (st 16)).names, true, 1, [("check", p_check)], [("check", .fn 0)], [], [], fun _ => none⟩
def b_code : SemS := (seqC (exprC (callC p_check (consC (varC 0) nilC)))
  (retC (appC tupleF (consC (lcC (rng1I (consC (appC lenF (consC (varC 0) nilC)) nilC)) (gNm 1) yesT (appC lenF (consC (lcC (seqI (slC (varC 0) (someP (binC addD (varC 1) (litC (.int 1)))) noP)) (gNm 2) (blT (binC ltD (varC 2) (binC ixD (varC 0) (varC 1)))) (varC 2) [2]) nilC)) [1]) nilC))))
def f_code : SemF := mkF 1 2 b_code
def r_code : SemS := (seqC (exprC (callC g_check (consC (varR 0) nilC)))
  (retC (appC tupleR (consC (lcR2 (rng1R (consC (appC lenFR (consC (varR 0) nilC)) nilC)) (gNR 1) yesT (appC lenFR (consC (lcR2 (seqIR (slR (varR 0) (somePR (binC addR (varR 1) (litC (.int 1)))) noP)) (gNR 2) (blR (binC ltDR (varR 2) (binC ixR (varR 0) (varR 1)))) (varR 2) [2]) nilC)) [1]) nilC))))
def g_code : SemF := pureFR (mkR 1 2 r_code)
def t_code_ : XS E3 := (seqP (exprP (callP h_check (consP V3_0 nilP))) (retP (appP tupleR (consP (lcP (rng1P (consP (appP lenFR (consP V3_0 nilP)) nilP)) S3_1 yesP (appP lenFR (consP (lcP (seqIP (slP V3_0 (someQ (binP addR V3_1 (litP (.int 1)))) noPP)) S3_2 (blP (binP ltDR V3_2 (binP ixR V3_0 V3_1))) V3_2 (wpC S3_2 wpN)) nilP)) (wpC S3_1 wpN)) nilP))))
theorem z_code : RS (enF eF3) 3 r_code t_code_ := by delta r_code t_code_; exact (q_seq (q_expr (q_call H_check (q_cons qV3_0 q_nil))) (q_ret (q_app (q_cons (q_lc (q_rng1 (q_cons (q_app (q_cons qV3_0 q_nil)) q_nil)) qS3_1 q_yes (q_app (q_cons (q_lc (q_seqI (q_sl qV3_0 (q_some (q_bin qV3_1 q_lit)) q_noP)) qS3_2 (q_bl (q_bin qV3_2 (q_bin qV3_0 qV3_1))) qV3_2 (q_wpC qS3_2 q_wpN)) q_nil)) (q_wpC qS3_1 q_wpN)) q_nil))))
def h_code : SemF := pureFR (mkP cv1_3 t_code_)
theorem H_code : g_code = h_code := by delta g_code h_code; rw [q_mk (e := enF eF3) rfl cvh1_3 cvd1_3 z_code]
theorem q_code : b_code = r_code := by delta b_code r_code; rw [varC_R, tupleF_R, lcC_R, rng1I_R, lenF_R, gNm_R, seqI_R, slC_R, someP_R, addD_R, blT_R, ltD_R, ixD_R, G_check]
def p_code : SemF := pureF f_code
theorem G_code : p_code = g_code := by delta p_code f_code g_code; rw [pureF_R, mkF_R, q_code]
theorem s_code : FnScope ["row", "index", "one"] ["row"] (defScope (st 16)) := ⟨rfl, rfl, rfl, by decide +kernel, rfl, by decide +kernel, by decide +kernel⟩
theorem t_code : trB c_code_ (defBody (st 16)) = some b_code := by kernel_rfl
/- cycles -/
def c_cycles_ : Cfg := ⟨["row", "met", "found", "start", "ring", "here", "place"], (defScope (st 13)).names, true, 0, [], [], [], [], fun _ => none⟩
def b_cycles : SemS := (seqC (par2C 1 2 (consC dnewC (consC (lstC nilC) nilC)))
  (seqC (forC (rng1I (consC (appC lenF (consC (varC 0) nilC)) nilC)) (gNm 3) (seqC (setC (gNm 4) (lstC nilC))
  (seqC (setC (gNm 5) (varC 3))
  (seqC (whlC (blT (binC ninD (varC 5) (varC 1))) (seqC (setSC (varC 1) (varC 5) (litC (.bl true)))
  (seqC (exprC (mtC appendM (varC 4) (consC (varC 5) nilC)))
  (setC (gNm 5) (binC ixD (varC 0) (varC 5))))))
  (ifS (truT (varC 4)) (seqC (setC (gNm 6) (mtC indexM (varC 4) (consC (appC maxF (consC (varC 4) nilC)) nilC)))
  (exprC (mtC appendM (varC 2) (consC (appC tupleF (consC (binC addD (slC (varC 4) (someP (varC 6)) noP) (slC (varC 4) noP (someP (varC 6)))) nilC)) nilC)))) passC)))))
  (retC (appC sortedF (consC (varC 2) nilC)))))
def f_cycles : SemF := mkF 1 6 b_cycles
def r_cycles : SemS := (seqC (par2R 1 2 (consC dnewC (consC (lstR nilC) nilC)))
  (seqC (forR (rng1R (consC (appC lenFR (consC (varR 0) nilC)) nilC)) (gNR 3) (seqC (setC (gNR 4) (lstR nilC))
  (seqC (setC (gNR 5) (varR 3))
  (seqC (whlR (blR (binC ninD (varR 5) (varR 1))) (seqC (setSR (varR 1) (varR 5) (litC (.bl true)))
  (seqC (exprC (mtR appendR (varR 4) (consC (varR 5) nilC)))
  (setC (gNR 5) (binC ixR (varR 0) (varR 5))))))
  (ifSR (truTR (varR 4)) (seqC (setC (gNR 6) (mtR indexM (varR 4) (consC (appC maxR (consC (varR 4) nilC)) nilC)))
  (exprC (mtR appendR (varR 2) (consC (appC tupleR (consC (binC addR (slR (varR 4) (somePR (varR 6)) noP) (slR (varR 4) noP (somePR (varR 6)))) nilC)) nilC)))) passC)))))
  (retC (appC sortedR (consC (varR 2) nilC)))))
def g_cycles : SemF := pureFR (mkR 1 6 r_cycles)
abbrev E7 : Type := (D → D → D → D → D → D → D → Bool) → Bool
def eF7 (g : Nat → D) : E7 := fun f => f (g 0) (g 1) (g 2) (g 3) (g 4) (g 5) (g 6)
def V7_0 : XE E7 := fun ρ m k _ => ρ fun v0 _ _ _ _ _ _ => unR v0 (k v0 m)
theorem qV7_0 : RE (enF eF7) 7 (varR 0) V7_0 := sl_var (by decide) fun _ _ _ _ => rfl
def V7_1 : XE E7 := fun ρ m k _ => ρ fun _ v1 _ _ _ _ _ => unR v1 (k v1 m)
theorem qV7_1 : RE (enF eF7) 7 (varR 1) V7_1 := sl_var (by decide) fun _ _ _ _ => rfl
def V7_2 : XE E7 := fun ρ m k _ => ρ fun _ _ v2 _ _ _ _ => unR v2 (k v2 m)
theorem qV7_2 : RE (enF eF7) 7 (varR 2) V7_2 := sl_var (by decide) fun _ _ _ _ => rfl
def V7_3 : XE E7 := fun ρ m k _ => ρ fun _ _ _ v3 _ _ _ => unR v3 (k v3 m)
theorem qV7_3 : RE (enF eF7) 7 (varR 3) V7_3 := sl_var (by decide) fun _ _ _ _ => rfl
def V7_4 : XE E7 := fun ρ m k _ => ρ fun _ _ _ _ v4 _ _ => unR v4 (k v4 m)
theorem qV7_4 : RE (enF eF7) 7 (varR 4) V7_4 := sl_var (by decide) fun _ _ _ _ => rfl
def V7_5 : XE E7 := fun ρ m k _ => ρ fun _ _ _ _ _ v5 _ => unR v5 (k v5 m)
theorem qV7_5 : RE (enF eF7) 7 (varR 5) V7_5 := sl_var (by decide) fun _ _ _ _ => rfl
def V7_6 : XE E7 := fun ρ m k _ => ρ fun _ _ _ _ _ _ v6 => unR v6 (k v6 m)
theorem qV7_6 : RE (enF eF7) 7 (varR 6) V7_6 := sl_var (by decide) fun _ _ _ _ => rfl
def S7_1 : XG E7 := fun d ρ _ k => ρ fun v0 _ v2 v3 v4 v5 v6 => k fun f => f v0 d v2 v3 v4 v5 v6
theorem qS7_1 : RG (enF eF7) 7 (gNR 1) S7_1 := sl_set (by decide) fun _ _ _ _ => rfl
def S7_2 : XG E7 := fun d ρ _ k => ρ fun v0 v1 _ v3 v4 v5 v6 => k fun f => f v0 v1 d v3 v4 v5 v6
theorem qS7_2 : RG (enF eF7) 7 (gNR 2) S7_2 := sl_set (by decide) fun _ _ _ _ => rfl
def S7_3 : XG E7 := fun d ρ _ k => ρ fun v0 v1 v2 _ v4 v5 v6 => k fun f => f v0 v1 v2 d v4 v5 v6
theorem qS7_3 : RG (enF eF7) 7 (gNR 3) S7_3 := sl_set (by decide) fun _ _ _ _ => rfl
def S7_4 : XG E7 := fun d ρ _ k => ρ fun v0 v1 v2 v3 _ v5 v6 => k fun f => f v0 v1 v2 v3 d v5 v6
theorem qS7_4 : RG (enF eF7) 7 (gNR 4) S7_4 := sl_set (by decide) fun _ _ _ _ => rfl
def S7_5 : XG E7 := fun d ρ _ k => ρ fun v0 v1 v2 v3 v4 _ v6 => k fun f => f v0 v1 v2 v3 v4 d v6
theorem qS7_5 : RG (enF eF7) 7 (gNR 5) S7_5 := sl_set (by decide) fun _ _ _ _ => rfl
def S7_6 : XG E7 := fun d ρ _ k => ρ fun v0 v1 v2 v3 v4 v5 _ => k fun f => f v0 v1 v2 v3 v4 v5 d
theorem qS7_6 : RG (enF eF7) 7 (gNR 6) S7_6 := sl_set (by decide) fun _ _ _ _ => rfl
def cv1_7 : List D → (E7 → Bool) → Bool := fun ds k => liR ds false fun x0 r => liR r (k fun f => f x0 .und .und .und .und .und .und) fun _ _ => false
theorem cvh1_7 (ds : List D) (k : E7 → Bool) (h : ds.length = 1) : cv1_7 ds k = k (enF eF7 (ds ++ undN 6)) := match ds, h with | [_], _ => rfl
theorem cvd1_7 (r0 : List D) (k : E7 → Bool) (h : r0.length ≠ 1) : cv1_7 r0 k = false := by
  cases r0 with
  | nil => rfl
  | cons x0 r1 =>
    cases r1 with
    | nil => exact absurd rfl h
    | cons _ _ => rfl

def t_cycles_ : XS E7 := (seqP (par2P S7_1 S7_2 (consP dnewP (consP (lstP nilP) nilP))) (seqP (forP (rng1P (consP (appP lenFR (consP V7_0 nilP)) nilP)) S7_3 (seqP (setP S7_4 (lstP nilP)) (seqP (setP S7_5 V7_3) (seqP (whlP (blP (binP ninD V7_5 V7_1)) (seqP (setSP V7_1 V7_5 (litP (.bl true))) (seqP (exprP (mtP appendR V7_4 (consP V7_5 nilP))) (setP S7_5 (binP ixR V7_0 V7_5))))) (ifSP (truP V7_4) (seqP (setP S7_6 (mtP indexM V7_4 (consP (appP maxR (consP V7_4 nilP)) nilP))) (exprP (mtP appendR V7_2 (consP (appP tupleR (consP (binP addR (slP V7_4 (someQ V7_6) noPP) (slP V7_4 noPP (someQ V7_6))) nilP)) nilP)))) passP))))) (retP (appP sortedR (consP V7_2 nilP)))))
theorem z_cycles : RS (enF eF7) 7 r_cycles t_cycles_ := by delta r_cycles t_cycles_; exact (q_seq (q_par2 qS7_1 qS7_2 (q_cons q_dnew (q_cons (q_lst q_nil) q_nil))) (q_seq (q_for (q_rng1 (q_cons (q_app (q_cons qV7_0 q_nil)) q_nil)) qS7_3 (q_seq (q_set qS7_4 (q_lst q_nil)) (q_seq (q_set qS7_5 qV7_3) (q_seq (q_whl (q_bl (q_bin qV7_5 qV7_1)) (q_seq (q_setS qV7_1 qV7_5 q_lit) (q_seq (q_expr (q_mt qV7_4 (q_cons qV7_5 q_nil))) (q_set qS7_5 (q_bin qV7_0 qV7_5))))) (q_ifS (q_tru qV7_4) (q_seq (q_set qS7_6 (q_mt qV7_4 (q_cons (q_app (q_cons qV7_4 q_nil)) q_nil))) (q_expr (q_mt qV7_2 (q_cons (q_app (q_cons (q_bin (q_sl qV7_4 (q_some qV7_6) q_noP) (q_sl qV7_4 q_noP (q_some qV7_6))) q_nil)) q_nil)))) q_pass))))) (q_ret (q_app (q_cons qV7_2 q_nil)))))
def h_cycles : SemF := pureFR (mkP cv1_7 t_cycles_)
theorem H_cycles : g_cycles = h_cycles := by delta g_cycles h_cycles; rw [q_mk (e := enF eF7) rfl cvh1_7 cvd1_7 z_cycles]
theorem q_cycles : b_cycles = r_cycles := by delta b_cycles r_cycles; rw [par2C_R, lstC_R, forC_R, rng1I_R, lenF_R, varC_R, gNm_R, whlC_R, blT_R, setSC_R, mtC_R, appendM_R, ixD_R, ifS_R, truT_R, maxF_R, tupleF_R, addD_R, slC_R, someP_R, sortedF_R]
def p_cycles : SemF := pureF f_cycles
theorem G_cycles : p_cycles = g_cycles := by delta p_cycles f_cycles g_cycles; rw [pureF_R, mkF_R, q_cycles]
theorem s_cycles : FnScope ["row", "met", "found", "start", "ring", "here", "place"] ["row"] (defScope (st 13)) := ⟨rfl, rfl, rfl, by decide +kernel, rfl, by decide +kernel, by decide +kernel⟩
theorem t_cycles : trB c_cycles_ (defBody (st 13)) = some b_cycles := by kernel_rfl
/- choose -/
def c_choose_ : Cfg := ⟨["top", "part", "found", "index"], (defScope (st 4)).names, true, 0, [], [], [], [], fun _ => none⟩
def b_choose : SemS := (seqC (ifS (blT (binC ltD (varC 1) (litC (.int 0)))) (retC (litC (.int 0))) passC)
  (seqC (setC (gNm 2) (litC (.int 1)))
  (seqC (forC (rng1I (consC (varC 1) nilC)) (gNm 3) (setC (gNm 2) (binC fdivD (binC mulD (varC 2) (binC subD (varC 0) (varC 3))) (binC addD (varC 3) (litC (.int 1))))))
  (retC (varC 2)))))
def f_choose : SemF := mkF 2 2 b_choose
def r_choose : SemS := (seqC (ifSR (blR (binC ltDR (varR 1) (litC (.int 0)))) (retC (litC (.int 0))) passC)
  (seqC (setC (gNR 2) (litC (.int 1)))
  (seqC (forR (rng1R (consC (varR 1) nilC)) (gNR 3) (setC (gNR 2) (binC fdivR (binC mulR (varR 2) (binC subR (varR 0) (varR 3))) (binC addR (varR 3) (litC (.int 1))))))
  (retC (varR 2)))))
def g_choose : SemF := pureFR (mkR 2 2 r_choose)
def t_choose_ : XS E4 := (seqP (ifSP (blP (binP ltDR V4_1 (litP (.int 0)))) (retP (litP (.int 0))) passP) (seqP (setP S4_2 (litP (.int 1))) (seqP (forP (rng1P (consP V4_1 nilP)) S4_3 (setP S4_2 (binP fdivR (binP mulR V4_2 (binP subR V4_0 V4_3)) (binP addR V4_3 (litP (.int 1)))))) (retP V4_2))))
theorem z_choose : RS (enF eF4) 4 r_choose t_choose_ := by delta r_choose t_choose_; exact (q_seq (q_ifS (q_bl (q_bin qV4_1 q_lit)) (q_ret q_lit) q_pass) (q_seq (q_set qS4_2 q_lit) (q_seq (q_for (q_rng1 (q_cons qV4_1 q_nil)) qS4_3 (q_set qS4_2 (q_bin (q_bin qV4_2 (q_bin qV4_0 qV4_3)) (q_bin qV4_3 q_lit)))) (q_ret qV4_2))))
def h_choose : SemF := pureFR (mkP cv2_4 t_choose_)
theorem H_choose : g_choose = h_choose := by delta g_choose h_choose; rw [q_mk (e := enF eF4) rfl cvh2_4 cvd2_4 z_choose]
theorem q_choose : b_choose = r_choose := by delta b_choose r_choose; rw [ifS_R, blT_R, ltD_R, varC_R, gNm_R, forC_R, rng1I_R, fdivD_R, mulD_R, subD_R, addD_R]
def p_choose : SemF := pureF f_choose
theorem G_choose : p_choose = g_choose := by delta p_choose f_choose g_choose; rw [pureF_R, mkF_R, q_choose]
theorem s_choose : FnScope ["top", "part", "found", "index"] ["top", "part"] (defScope (st 4)) := ⟨rfl, rfl, rfl, by decide +kernel, rfl, by decide +kernel, by decide +kernel⟩
theorem t_choose : trB c_choose_ (defBody (st 4)) = some b_choose := by kernel_rfl
/- subsets -/
def c_subsets_ : Cfg := ⟨["numbers", "found", "number", "row"], (defScope (st 25)).names, true, 0, [], [], [], [], fun _ => none⟩
def b_subsets : SemS := (seqC (setC (gNm 1) (lstC (consC (tupC nilC) nilC)))
  (seqC (forC (seqI (varC 0)) (gNm 2) (exprC (mtC extendM (varC 1) (consC (lcC (seqI (varC 1)) (gNm 3) yesT (binC addD (varC 3) (tupC (consC (varC 2) nilC))) [3]) nilC))))
  (retC (varC 1))))
def f_subsets : SemF := mkF 1 3 b_subsets
def r_subsets : SemS := (seqC (setC (gNR 1) (lstR (consC (tupR nilC) nilC)))
  (seqC (forR (seqIR (varR 0)) (gNR 2) (exprC (mtR extendR (varR 1) (consC (lcR2 (seqIR (varR 1)) (gNR 3) yesT (binC addR (varR 3) (tupR (consC (varR 2) nilC))) [3]) nilC))))
  (retC (varR 1))))
def g_subsets : SemF := pureFR (mkR 1 3 r_subsets)
def S4_1 : XG E4 := fun d ρ _ k => ρ fun v0 _ v2 v3 => k fun f => f v0 d v2 v3
theorem qS4_1 : RG (enF eF4) 4 (gNR 1) S4_1 := sl_set (by decide) fun _ _ _ _ => rfl
def cv1_4 : List D → (E4 → Bool) → Bool := fun ds k => liR ds false fun x0 r => liR r (k fun f => f x0 .und .und .und) fun _ _ => false
theorem cvh1_4 (ds : List D) (k : E4 → Bool) (h : ds.length = 1) : cv1_4 ds k = k (enF eF4 (ds ++ undN 3)) := match ds, h with | [_], _ => rfl
theorem cvd1_4 (r0 : List D) (k : E4 → Bool) (h : r0.length ≠ 1) : cv1_4 r0 k = false := by
  cases r0 with
  | nil => rfl
  | cons x0 r1 =>
    cases r1 with
    | nil => exact absurd rfl h
    | cons _ _ => rfl

def t_subsets_ : XS E4 := (seqP (setP S4_1 (lstP (consP (tupP nilP) nilP))) (seqP (forP (seqIP V4_0) S4_2 (exprP (mtP extendR V4_1 (consP (lcP (seqIP V4_1) S4_3 yesP (binP addR V4_3 (tupP (consP V4_2 nilP))) (wpC S4_3 wpN)) nilP)))) (retP V4_1)))
theorem z_subsets : RS (enF eF4) 4 r_subsets t_subsets_ := by delta r_subsets t_subsets_; exact (q_seq (q_set qS4_1 (q_lst (q_cons (q_tup q_nil) q_nil))) (q_seq (q_for (q_seqI qV4_0) qS4_2 (q_expr (q_mt qV4_1 (q_cons (q_lc (q_seqI qV4_1) qS4_3 q_yes (q_bin qV4_3 (q_tup (q_cons qV4_2 q_nil))) (q_wpC qS4_3 q_wpN)) q_nil)))) (q_ret qV4_1)))
def h_subsets : SemF := pureFR (mkP cv1_4 t_subsets_)
theorem H_subsets : g_subsets = h_subsets := by delta g_subsets h_subsets; rw [q_mk (e := enF eF4) rfl cvh1_4 cvd1_4 z_subsets]
theorem q_subsets : b_subsets = r_subsets := by delta b_subsets r_subsets; rw [gNm_R, lstC_R, tupC_R, forC_R, seqI_R, varC_R, mtC_R, extendM_R, lcC_R, addD_R]
def p_subsets : SemF := pureF f_subsets
theorem G_subsets : p_subsets = g_subsets := by delta p_subsets f_subsets g_subsets; rw [pureF_R, mkF_R, q_subsets]
theorem s_subsets : FnScope ["numbers", "found", "number", "row"] ["numbers"] (defScope (st 25)) := ⟨rfl, rfl, rfl, by decide +kernel, rfl, by decide +kernel, by decide +kernel⟩
theorem t_subsets : trB c_subsets_ (defBody (st 25)) = some b_subsets := by kernel_rfl
/- descent_set_count -/
def c_descent_set_count_ : Cfg := ⟨["size", "places", "found", "part", "total", "start", "end"], (defScope (st 24)).names, true, 1, [("choose", p_choose), ("subsets", p_subsets)], [], [], [], fun _ => none⟩
def b_descent_set_count : SemS := (seqC (setC (gNm 2) (litC (.int 0)))
  (seqC (forC (seqI (callC p_subsets (consC (varC 1) nilC))) (gNm 3) (seqC (setC (gTp (gsC (gNm 4) (gsC (gNm 5) gsN)) 2) (tupC (consC (litC (.int 1)) (consC (litC (.int 0)) nilC))))
  (seqC (forC (seqI (binC addD (appC listF (consC (varC 3) nilC)) (lstC (consC (varC 0) nilC)))) (gNm 6) (seqC (setC (gNm 4) (binC mulD (varC 4) (callC p_choose (consC (binC subD (varC 0) (varC 5)) (consC (binC subD (varC 6) (varC 5)) nilC)))))
  (setC (gNm 5) (varC 6))))
  (augC 2 ipT.iaddD (ifC (blT (binC eqD (binC modD (binC subD (appC lenF (consC (varC 1) nilC)) (appC lenF (consC (varC 3) nilC))) (litC (.int 2))) (litC (.int 0)))) (varC 4) (unC negD (varC 4)))))))
  (retC (varC 2))))
def f_descent_set_count : SemF := mkF 2 5 b_descent_set_count
def r_descent_set_count : SemS := (seqC (setC (gNR 2) (litC (.int 0)))
  (seqC (forR (seqIR (callC g_subsets (consC (varR 1) nilC))) (gNR 3) (seqC (setC (gTR (gsCR (gNR 4) (gsCR (gNR 5) gsNR)) 2) (tupR (consC (litC (.int 1)) (consC (litC (.int 0)) nilC))))
  (seqC (forR (seqIR (binC addR (appC listR (consC (varR 3) nilC)) (lstR (consC (varR 0) nilC)))) (gNR 6) (seqC (setC (gNR 4) (binC mulR (varR 4) (callC g_choose (consC (binC subR (varR 0) (varR 5)) (consC (binC subR (varR 6) (varR 5)) nilC)))))
  (setC (gNR 5) (varR 6))))
  (augR 2 iaddR (ifR (blR (binC eqR (binC modR (binC subR (appC lenFR (consC (varR 1) nilC)) (appC lenFR (consC (varR 3) nilC))) (litC (.int 2))) (litC (.int 0)))) (varR 4) (unC negR (varR 4)))))))
  (retC (varR 2))))
def gu_descent_set_count : SemF := pureFR (mkR 2 5 r_descent_set_count)
def G7_2 : E7 → (D → Bool) → Bool := fun ρ k => ρ fun _ _ v2 _ _ _ _ => k v2
theorem qG7_2 : RGt (enF eF7) 7 2 G7_2 := sl_get (by decide) fun _ _ => rfl
def cv2_7 : List D → (E7 → Bool) → Bool := fun ds k => liR ds false fun x0 r => liR r false fun x1 r => liR r (k fun f => f x0 x1 .und .und .und .und .und) fun _ _ => false
theorem cvh2_7 (ds : List D) (k : E7 → Bool) (h : ds.length = 2) : cv2_7 ds k = k (enF eF7 (ds ++ undN 5)) := match ds, h with | [_, _], _ => rfl
theorem cvd2_7 (r0 : List D) (k : E7 → Bool) (h : r0.length ≠ 2) : cv2_7 r0 k = false := by
  cases r0 with
  | nil => rfl
  | cons x0 r1 =>
    cases r1 with
    | nil => rfl
    | cons x1 r2 =>
      cases r2 with
      | nil => exact absurd rfl h
      | cons _ _ => rfl

def t_descent_set_count_ : XS E7 := (seqP (setP S7_2 (litP (.int 0))) (seqP (forP (seqIP (callP h_subsets (consP V7_1 nilP))) S7_3 (seqP (setP (gTP (gsCP S7_4 (gsCP S7_5 gsNP)) 2) (tupP (consP (litP (.int 1)) (consP (litP (.int 0)) nilP)))) (seqP (forP (seqIP (binP addR (appP listR (consP V7_3 nilP)) (lstP (consP V7_0 nilP)))) S7_6 (seqP (setP S7_4 (binP mulR V7_4 (callP h_choose (consP (binP subR V7_0 V7_5) (consP (binP subR V7_6 V7_5) nilP))))) (setP S7_5 V7_6))) (augP G7_2 S7_2 iaddR (ifP (blP (binP eqR (binP modR (binP subR (appP lenFR (consP V7_1 nilP)) (appP lenFR (consP V7_3 nilP))) (litP (.int 2))) (litP (.int 0)))) V7_4 (unP negR V7_4)))))) (retP V7_2)))
theorem z_descent_set_count : RS (enF eF7) 7 r_descent_set_count t_descent_set_count_ := by delta r_descent_set_count t_descent_set_count_; exact (q_seq (q_set qS7_2 q_lit) (q_seq (q_for (q_seqI (q_call H_subsets (q_cons qV7_1 q_nil))) qS7_3 (q_seq (q_set (q_gT (q_gsC qS7_4 (q_gsC qS7_5 q_gsN))) (q_tup (q_cons q_lit (q_cons q_lit q_nil)))) (q_seq (q_for (q_seqI (q_bin (q_app (q_cons qV7_3 q_nil)) (q_lst (q_cons qV7_0 q_nil)))) qS7_6 (q_seq (q_set qS7_4 (q_bin qV7_4 (q_call H_choose (q_cons (q_bin qV7_0 qV7_5) (q_cons (q_bin qV7_6 qV7_5) q_nil))))) (q_set qS7_5 qV7_6))) (q_aug qG7_2 qS7_2 (q_if (q_bl (q_bin (q_bin (q_bin (q_app (q_cons qV7_1 q_nil)) (q_app (q_cons qV7_3 q_nil))) q_lit) q_lit)) qV7_4 (q_un qV7_4)))))) (q_ret qV7_2)))
def hu_descent_set_count : SemF := pureFR (mkP cv2_7 t_descent_set_count_)
theorem Hu_descent_set_count : gu_descent_set_count = hu_descent_set_count := by delta gu_descent_set_count hu_descent_set_count; rw [q_mk (e := enF eF7) rfl cvh2_7 cvd2_7 z_descent_set_count]
theorem q_descent_set_count : b_descent_set_count = r_descent_set_count := by delta b_descent_set_count r_descent_set_count; rw [gNm_R, forC_R, seqI_R, varC_R, gTp_R, gsC_R, gsN_R, tupC_R, addD_R, listF_R, lstC_R, mulD_R, subD_R, augC_R, iaddD_R, ifC_R, blT_R, eqD_R, modD_R, lenF_R, negD_R, G_subsets, G_choose]
def pu_descent_set_count : SemF := pureF f_descent_set_count
theorem Gu_descent_set_count : pu_descent_set_count = gu_descent_set_count := by delta pu_descent_set_count f_descent_set_count gu_descent_set_count; rw [pureF_R, mkF_R, q_descent_set_count]
theorem s_descent_set_count : FnScope ["size", "places", "found", "part", "total", "start", "end"] ["size", "places"] (defScope (st 24)) := ⟨rfl, rfl, rfl, by decide +kernel, rfl, by decide +kernel, by decide +kernel⟩
theorem t_descent_set_count : trB c_descent_set_count_ (defBody (st 24)) = some b_descent_set_count := by kernel_rfl
def v_descent_set_count_0 : D := i1
theorem e_descent_set_count_0 : rowB hu_descent_set_count [i4, (.tup [i1, i2, i3])] v_descent_set_count_0 = true := by kernel_rfl
def v_descent_set_count_1 : D := i4
theorem e_descent_set_count_1 : rowB hu_descent_set_count [i5, (.tup [i1, i2, i3])] v_descent_set_count_1 = true := by kernel_rfl
def v_descent_set_count_2 : D := i1
theorem e_descent_set_count_2 : rowB hu_descent_set_count [i5, (.tup [i1, i2, i3, i4])] v_descent_set_count_2 = true := by kernel_rfl
def v_descent_set_count_3 : D := i9
theorem e_descent_set_count_3 : rowB hu_descent_set_count [i5, (.tup [i1, i2, i4])] v_descent_set_count_3 = true := by kernel_rfl
def v_descent_set_count_4 : D := i9
theorem e_descent_set_count_4 : rowB hu_descent_set_count [i5, (.tup [i1, i3, i4])] v_descent_set_count_4 = true := by kernel_rfl
def v_descent_set_count_5 : D := i4
theorem e_descent_set_count_5 : rowB hu_descent_set_count [i5, (.tup [i2, i3, i4])] v_descent_set_count_5 = true := by kernel_rfl
def tb_descent_set_count : List (List D × D) := [([i4, (.tup [i1, i2, i3])], v_descent_set_count_0), ([i5, (.tup [i1, i2, i3])], v_descent_set_count_1), ([i5, (.tup [i1, i2, i3, i4])], v_descent_set_count_2), ([i5, (.tup [i1, i2, i4])], v_descent_set_count_3), ([i5, (.tup [i1, i3, i4])], v_descent_set_count_4), ([i5, (.tup [i2, i3, i4])], v_descent_set_count_5)]
theorem tok_descent_set_count : TbOk pu_descent_set_count tb_descent_set_count := by rw [Gu_descent_set_count, Hu_descent_set_count]; exact .cons e_descent_set_count_0 (.cons e_descent_set_count_1 (.cons e_descent_set_count_2 (.cons e_descent_set_count_3 (.cons e_descent_set_count_4 (.cons e_descent_set_count_5 (.nil))))))
def p_descent_set_count : SemF := memoF tb_descent_set_count pu_descent_set_count
def g_descent_set_count : SemF := memoF tb_descent_set_count gu_descent_set_count
def h_descent_set_count : SemF := memoF tb_descent_set_count hu_descent_set_count
theorem G_descent_set_count : p_descent_set_count = g_descent_set_count := by delta p_descent_set_count g_descent_set_count; rw [Gu_descent_set_count]
theorem H_descent_set_count : g_descent_set_count = h_descent_set_count := by delta g_descent_set_count h_descent_set_count; rw [Hu_descent_set_count]
/- descents -/
def c_descents_ : Cfg := ⟨["row", "index"], (defScope (st 9)).names, true, 0, [], [], [], [], fun _ => none⟩
def b_descents : SemS := (retC (appC tupleF (consC (lcC (rng2I (consC (litC (.int 1)) (consC (appC lenF (consC (varC 0) nilC)) nilC))) (gNm 1) (blT (binC gtD (binC ixD (varC 0) (binC subD (varC 1) (litC (.int 1)))) (binC ixD (varC 0) (varC 1)))) (varC 1) [1]) nilC)))
def f_descents : SemF := mkF 1 1 b_descents
def r_descents : SemS := (retC (appC tupleR (consC (lcR2 (rng2R (consC (litC (.int 1)) (consC (appC lenFR (consC (varR 0) nilC)) nilC))) (gNR 1) (blR (binC gtR (binC ixR (varR 0) (binC subR (varR 1) (litC (.int 1)))) (binC ixR (varR 0) (varR 1)))) (varR 1) [1]) nilC)))
def g_descents : SemF := pureFR (mkR 1 1 r_descents)
def t_descents_ : XS E2 := (retP (appP tupleR (consP (lcP (rng2P (consP (litP (.int 1)) (consP (appP lenFR (consP V2_0 nilP)) nilP))) S2_1 (blP (binP gtR (binP ixR V2_0 (binP subR V2_1 (litP (.int 1)))) (binP ixR V2_0 V2_1))) V2_1 (wpC S2_1 wpN)) nilP)))
theorem z_descents : RS (enF eF2) 2 r_descents t_descents_ := by delta r_descents t_descents_; exact (q_ret (q_app (q_cons (q_lc (q_rng2 (q_cons q_lit (q_cons (q_app (q_cons qV2_0 q_nil)) q_nil))) qS2_1 (q_bl (q_bin (q_bin qV2_0 (q_bin qV2_1 q_lit)) (q_bin qV2_0 qV2_1))) qV2_1 (q_wpC qS2_1 q_wpN)) q_nil)))
def h_descents : SemF := pureFR (mkP cv1_2 t_descents_)
theorem H_descents : g_descents = h_descents := by delta g_descents h_descents; rw [q_mk (e := enF eF2) rfl cvh1_2 cvd1_2 z_descents]
theorem q_descents : b_descents = r_descents := by delta b_descents r_descents; rw [tupleF_R, lcC_R, rng2I_R, lenF_R, varC_R, gNm_R, blT_R, gtD_R, ixD_R, subD_R]
def p_descents : SemF := pureF f_descents
theorem G_descents : p_descents = g_descents := by delta p_descents f_descents g_descents; rw [pureF_R, mkF_R, q_descents]
theorem s_descents : FnScope ["row", "index"] ["row"] (defScope (st 9)) := ⟨rfl, rfl, rfl, by decide +kernel, rfl, by decide +kernel, by decide +kernel⟩
theorem t_descents : trB c_descents_ (defBody (st 9)) = some b_descents := by kernel_rfl
/- eulerian -/
def c_eulerian_ : Cfg := ⟨["size", "row", "count", "longer", "index", "number"], (defScope (st 20)).names, true, 0, [], [], [], [], fun _ => none⟩
def b_eulerian : SemS := (seqC (setC (gNm 1) (lstC (consC (litC (.int 1)) nilC)))
  (seqC (forC (rng2I (consC (litC (.int 2)) (consC (binC addD (varC 0) (litC (.int 1))) nilC))) (gNm 2) (seqC (setC (gNm 3) (binC mulD (lstC (consC (litC (.int 0)) nilC)) (varC 2)))
  (seqC (forC (enuI (consC (varC 1) nilC)) (gTp (gsC (gNm 4) (gsC (gNm 5) gsN)) 2) (seqC (augSC (varC 3) (varC 4) ipT.iaddD (binC mulD (binC addD (varC 4) (litC (.int 1))) (varC 5)))
  (augSC (varC 3) (binC addD (varC 4) (litC (.int 1))) ipT.iaddD (binC mulD (binC subD (binC subD (varC 2) (varC 4)) (litC (.int 1))) (varC 5)))))
  (setC (gNm 1) (varC 3)))))
  (retC (appC tupleF (consC (varC 1) nilC)))))
def f_eulerian : SemF := mkF 1 5 b_eulerian
def r_eulerian : SemS := (seqC (setC (gNR 1) (lstR (consC (litC (.int 1)) nilC)))
  (seqC (forR (rng2R (consC (litC (.int 2)) (consC (binC addR (varR 0) (litC (.int 1))) nilC))) (gNR 2) (seqC (setC (gNR 3) (binC mulR (lstR (consC (litC (.int 0)) nilC)) (varR 2)))
  (seqC (forR (enuR (consC (varR 1) nilC)) (gTR (gsCR (gNR 4) (gsCR (gNR 5) gsNR)) 2) (seqC (augSR (varR 3) (varR 4) iaddR (binC mulR (binC addR (varR 4) (litC (.int 1))) (varR 5)))
  (augSR (varR 3) (binC addR (varR 4) (litC (.int 1))) iaddR (binC mulR (binC subR (binC subR (varR 2) (varR 4)) (litC (.int 1))) (varR 5)))))
  (setC (gNR 1) (varR 3)))))
  (retC (appC tupleR (consC (varR 1) nilC)))))
def g_eulerian : SemF := pureFR (mkR 1 5 r_eulerian)
def t_eulerian_ : XS E6 := (seqP (setP S6_1 (lstP (consP (litP (.int 1)) nilP))) (seqP (forP (rng2P (consP (litP (.int 2)) (consP (binP addR V6_0 (litP (.int 1))) nilP))) S6_2 (seqP (setP S6_3 (binP mulR (lstP (consP (litP (.int 0)) nilP)) V6_2)) (seqP (forP (enuP (consP V6_1 nilP)) (gTP (gsCP S6_4 (gsCP S6_5 gsNP)) 2) (seqP (augSP V6_3 V6_4 iaddR (binP mulR (binP addR V6_4 (litP (.int 1))) V6_5)) (augSP V6_3 (binP addR V6_4 (litP (.int 1))) iaddR (binP mulR (binP subR (binP subR V6_2 V6_4) (litP (.int 1))) V6_5)))) (setP S6_1 V6_3)))) (retP (appP tupleR (consP V6_1 nilP)))))
theorem z_eulerian : RS (enF eF6) 6 r_eulerian t_eulerian_ := by delta r_eulerian t_eulerian_; exact (q_seq (q_set qS6_1 (q_lst (q_cons q_lit q_nil))) (q_seq (q_for (q_rng2 (q_cons q_lit (q_cons (q_bin qV6_0 q_lit) q_nil))) qS6_2 (q_seq (q_set qS6_3 (q_bin (q_lst (q_cons q_lit q_nil)) qV6_2)) (q_seq (q_for (q_enu (q_cons qV6_1 q_nil)) (q_gT (q_gsC qS6_4 (q_gsC qS6_5 q_gsN))) (q_seq (q_augS qV6_3 qV6_4 (q_bin (q_bin qV6_4 q_lit) qV6_5)) (q_augS qV6_3 (q_bin qV6_4 q_lit) (q_bin (q_bin (q_bin qV6_2 qV6_4) q_lit) qV6_5)))) (q_set qS6_1 qV6_3)))) (q_ret (q_app (q_cons qV6_1 q_nil)))))
def h_eulerian : SemF := pureFR (mkP cv1_6 t_eulerian_)
theorem H_eulerian : g_eulerian = h_eulerian := by delta g_eulerian h_eulerian; rw [q_mk (e := enF eF6) rfl cvh1_6 cvd1_6 z_eulerian]
theorem q_eulerian : b_eulerian = r_eulerian := by delta b_eulerian r_eulerian; rw [gNm_R, lstC_R, forC_R, rng2I_R, addD_R, varC_R, mulD_R, enuI_R, gTp_R, gsC_R, gsN_R, augSC_R, iaddD_R, subD_R, tupleF_R]
def p_eulerian : SemF := pureF f_eulerian
theorem G_eulerian : p_eulerian = g_eulerian := by delta p_eulerian f_eulerian g_eulerian; rw [pureF_R, mkF_R, q_eulerian]
theorem s_eulerian : FnScope ["size", "row", "count", "longer", "index", "number"] ["size"] (defScope (st 20)) := ⟨rfl, rfl, rfl, by decide +kernel, rfl, by decide +kernel, by decide +kernel⟩
theorem t_eulerian : trB c_eulerian_ (defBody (st 20)) = some b_eulerian := by kernel_rfl
/- excedances -/
def c_excedances_ : Cfg := ⟨["row", "index", "one"], (defScope (st 11)).names, true, 0, [], [], [], [], fun _ => none⟩
def b_excedances : SemS := (retC (appC lenF (consC (lcC (enuI (consC (varC 0) nilC)) (gTp (gsC (gNm 1) (gsC (gNm 2) gsN)) 2) (blT (binC gtD (varC 2) (varC 1))) (varC 1) [1, 2]) nilC)))
def f_excedances : SemF := mkF 1 2 b_excedances
def r_excedances : SemS := (retC (appC lenFR (consC (lcR2 (enuR (consC (varR 0) nilC)) (gTR (gsCR (gNR 1) (gsCR (gNR 2) gsNR)) 2) (blR (binC gtR (varR 2) (varR 1))) (varR 1) [1, 2]) nilC)))
def g_excedances : SemF := pureFR (mkR 1 2 r_excedances)
def t_excedances_ : XS E3 := (retP (appP lenFR (consP (lcP (enuP (consP V3_0 nilP)) (gTP (gsCP S3_1 (gsCP S3_2 gsNP)) 2) (blP (binP gtR V3_2 V3_1)) V3_1 (wpC S3_1 (wpC S3_2 wpN))) nilP)))
theorem z_excedances : RS (enF eF3) 3 r_excedances t_excedances_ := by delta r_excedances t_excedances_; exact (q_ret (q_app (q_cons (q_lc (q_enu (q_cons qV3_0 q_nil)) (q_gT (q_gsC qS3_1 (q_gsC qS3_2 q_gsN))) (q_bl (q_bin qV3_2 qV3_1)) qV3_1 (q_wpC qS3_1 (q_wpC qS3_2 q_wpN))) q_nil)))
def h_excedances : SemF := pureFR (mkP cv1_3 t_excedances_)
theorem H_excedances : g_excedances = h_excedances := by delta g_excedances h_excedances; rw [q_mk (e := enF eF3) rfl cvh1_3 cvd1_3 z_excedances]
theorem q_excedances : b_excedances = r_excedances := by delta b_excedances r_excedances; rw [lenF_R, lcC_R, enuI_R, varC_R, gTp_R, gsC_R, gNm_R, gsN_R, blT_R, gtD_R]
def p_excedances : SemF := pureF f_excedances
theorem G_excedances : p_excedances = g_excedances := by delta p_excedances f_excedances g_excedances; rw [pureF_R, mkF_R, q_excedances]
theorem s_excedances : FnScope ["row", "index", "one"] ["row"] (defScope (st 11)) := ⟨rfl, rfl, rfl, by decide +kernel, rfl, by decide +kernel, by decide +kernel⟩
theorem t_excedances : trB c_excedances_ (defBody (st 11)) = some b_excedances := by kernel_rfl
/- foata -/
def c_foata_ : Cfg := ⟨["row", "found", "number", "low", "parts", "part", "one"], (defScope (st 18)).names, true, 1, [("check", p_check)], [("check", .fn 0)], [], [], fun _ => none⟩
def b_foata : SemS := (seqC (exprC (callC p_check (consC (varC 0) nilC)))
  (seqC (setC (gNm 1) (lstC nilC))
  (seqC (forC (seqI (varC 0)) (gNm 2) (seqC (ifS (truT (varC 1)) (seqC (setC (gNm 3) (binC ltD (binC ixD (varC 1) (unC negD (litC (.int 1)))) (varC 2)))
  (seqC (par2C 4 5 (consC (lstC nilC) (consC (lstC nilC) nilC)))
  (seqC (forC (seqI (varC 1)) (gNm 6) (seqC (exprC (mtC appendM (varC 5) (consC (varC 6) nilC)))
  (ifS (blT (binC eqD (binC ltD (varC 6) (varC 2)) (varC 3))) (seqC (exprC (mtC appendM (varC 4) (consC (varC 5) nilC)))
  (setC (gNm 5) (lstC nilC))) passC)))
  (seqC (setC (gNm 1) (lstC nilC))
  (forC (seqI (varC 4)) (gNm 6) (exprC (mtC extendM (varC 1) (consC (binC addD (lstC (consC (binC ixD (varC 6) (unC negD (litC (.int 1)))) nilC)) (slC (varC 6) noP (someP (unC negD (litC (.int 1)))))) nilC)))))))) passC)
  (exprC (mtC appendM (varC 1) (consC (varC 2) nilC)))))
  (retC (appC tupleF (consC (varC 1) nilC))))))
def f_foata : SemF := mkF 1 6 b_foata
def r_foata : SemS := (seqC (exprC (callC g_check (consC (varR 0) nilC)))
  (seqC (setC (gNR 1) (lstR nilC))
  (seqC (forR (seqIR (varR 0)) (gNR 2) (seqC (ifSR (truTR (varR 1)) (seqC (setC (gNR 3) (binC ltDR (binC ixR (varR 1) (unC negR (litC (.int 1)))) (varR 2)))
  (seqC (par2R 4 5 (consC (lstR nilC) (consC (lstR nilC) nilC)))
  (seqC (forR (seqIR (varR 1)) (gNR 6) (seqC (exprC (mtR appendR (varR 5) (consC (varR 6) nilC)))
  (ifSR (blR (binC eqR (binC ltDR (varR 6) (varR 2)) (varR 3))) (seqC (exprC (mtR appendR (varR 4) (consC (varR 5) nilC)))
  (setC (gNR 5) (lstR nilC))) passC)))
  (seqC (setC (gNR 1) (lstR nilC))
  (forR (seqIR (varR 4)) (gNR 6) (exprC (mtR extendR (varR 1) (consC (binC addR (lstR (consC (binC ixR (varR 6) (unC negR (litC (.int 1)))) nilC)) (slR (varR 6) noP (somePR (unC negR (litC (.int 1)))))) nilC)))))))) passC)
  (exprC (mtR appendR (varR 1) (consC (varR 2) nilC)))))
  (retC (appC tupleR (consC (varR 1) nilC))))))
def g_foata : SemF := pureFR (mkR 1 6 r_foata)
def t_foata_ : XS E7 := (seqP (exprP (callP h_check (consP V7_0 nilP))) (seqP (setP S7_1 (lstP nilP)) (seqP (forP (seqIP V7_0) S7_2 (seqP (ifSP (truP V7_1) (seqP (setP S7_3 (binP ltDR (binP ixR V7_1 (unP negR (litP (.int 1)))) V7_2)) (seqP (par2P S7_4 S7_5 (consP (lstP nilP) (consP (lstP nilP) nilP))) (seqP (forP (seqIP V7_1) S7_6 (seqP (exprP (mtP appendR V7_5 (consP V7_6 nilP))) (ifSP (blP (binP eqR (binP ltDR V7_6 V7_2) V7_3)) (seqP (exprP (mtP appendR V7_4 (consP V7_5 nilP))) (setP S7_5 (lstP nilP))) passP))) (seqP (setP S7_1 (lstP nilP)) (forP (seqIP V7_4) S7_6 (exprP (mtP extendR V7_1 (consP (binP addR (lstP (consP (binP ixR V7_6 (unP negR (litP (.int 1)))) nilP)) (slP V7_6 noPP (someQ (unP negR (litP (.int 1)))))) nilP)))))))) passP) (exprP (mtP appendR V7_1 (consP V7_2 nilP))))) (retP (appP tupleR (consP V7_1 nilP))))))
theorem z_foata : RS (enF eF7) 7 r_foata t_foata_ := by delta r_foata t_foata_; exact (q_seq (q_expr (q_call H_check (q_cons qV7_0 q_nil))) (q_seq (q_set qS7_1 (q_lst q_nil)) (q_seq (q_for (q_seqI qV7_0) qS7_2 (q_seq (q_ifS (q_tru qV7_1) (q_seq (q_set qS7_3 (q_bin (q_bin qV7_1 (q_un q_lit)) qV7_2)) (q_seq (q_par2 qS7_4 qS7_5 (q_cons (q_lst q_nil) (q_cons (q_lst q_nil) q_nil))) (q_seq (q_for (q_seqI qV7_1) qS7_6 (q_seq (q_expr (q_mt qV7_5 (q_cons qV7_6 q_nil))) (q_ifS (q_bl (q_bin (q_bin qV7_6 qV7_2) qV7_3)) (q_seq (q_expr (q_mt qV7_4 (q_cons qV7_5 q_nil))) (q_set qS7_5 (q_lst q_nil))) q_pass))) (q_seq (q_set qS7_1 (q_lst q_nil)) (q_for (q_seqI qV7_4) qS7_6 (q_expr (q_mt qV7_1 (q_cons (q_bin (q_lst (q_cons (q_bin qV7_6 (q_un q_lit)) q_nil)) (q_sl qV7_6 q_noP (q_some (q_un q_lit)))) q_nil)))))))) q_pass) (q_expr (q_mt qV7_1 (q_cons qV7_2 q_nil))))) (q_ret (q_app (q_cons qV7_1 q_nil))))))
def h_foata : SemF := pureFR (mkP cv1_7 t_foata_)
theorem H_foata : g_foata = h_foata := by delta g_foata h_foata; rw [q_mk (e := enF eF7) rfl cvh1_7 cvd1_7 z_foata]
theorem q_foata : b_foata = r_foata := by delta b_foata r_foata; rw [varC_R, gNm_R, lstC_R, forC_R, seqI_R, ifS_R, truT_R, ltD_R, ixD_R, negD_R, par2C_R, mtC_R, appendM_R, blT_R, eqD_R, extendM_R, addD_R, slC_R, someP_R, tupleF_R, G_check]
def p_foata : SemF := pureF f_foata
theorem G_foata : p_foata = g_foata := by delta p_foata f_foata g_foata; rw [pureF_R, mkF_R, q_foata]
theorem s_foata : FnScope ["row", "found", "number", "low", "parts", "part", "one"] ["row"] (defScope (st 18)) := ⟨rfl, rfl, rfl, by decide +kernel, rfl, by decide +kernel, by decide +kernel⟩
theorem t_foata : trB c_foata_ (defBody (st 18)) = some b_foata := by kernel_rfl
/- foata_back -/
def c_foata_back_ : Cfg := ⟨["row", "left", "found", "number", "low", "parts", "part", "one"], (defScope (st 19)).names, true, 1, [("check", p_check)], [("check", .fn 0)], [], [], fun _ => none⟩
def b_foata_back : SemS := (seqC (exprC (callC p_check (consC (varC 0) nilC)))
  (seqC (par2C 1 2 (consC (appC listF (consC (varC 0) nilC)) (consC (lstC nilC) nilC)))
  (seqC (whlC (truT (varC 1)) (seqC (setC (gNm 3) (mt0C popM (varC 1)))
  (seqC (exprC (mtC appendM (varC 2) (consC (varC 3) nilC)))
  (ifS (truT (varC 1)) (seqC (setC (gNm 4) (binC ltD (binC ixD (varC 1) (litC (.int 0))) (varC 3)))
  (seqC (par2C 5 6 (consC (lstC nilC) (consC (lstC nilC) nilC)))
  (seqC (forC (seqI (slsC (varC 1) noP noP (someP (unC negD (litC (.int 1)))))) (gNm 7) (seqC (exprC (mtC insertM (varC 6) (consC (litC (.int 0)) (consC (varC 7) nilC))))
  (ifS (blT (binC eqD (binC ltD (varC 7) (varC 3)) (varC 4))) (seqC (exprC (mtC insertM (varC 5) (consC (litC (.int 0)) (consC (varC 6) nilC))))
  (setC (gNm 6) (lstC nilC))) passC)))
  (seqC (setC (gNm 1) (lstC nilC))
  (forC (seqI (varC 5)) (gNm 7) (exprC (mtC extendM (varC 1) (consC (binC addD (slC (varC 7) (someP (litC (.int 1))) noP) (lstC (consC (binC ixD (varC 7) (litC (.int 0))) nilC))) nilC)))))))) passC))))
  (retC (appC tupleF (consC (slsC (varC 2) noP noP (someP (unC negD (litC (.int 1))))) nilC))))))
def f_foata_back : SemF := mkF 1 7 b_foata_back
def r_foata_back : SemS := (seqC (exprC (callC g_check (consC (varR 0) nilC)))
  (seqC (par2R 1 2 (consC (appC listR (consC (varR 0) nilC)) (consC (lstR nilC) nilC)))
  (seqC (whlR (truTR (varR 1)) (seqC (setC (gNR 3) (mt0R popR (varR 1)))
  (seqC (exprC (mtR appendR (varR 2) (consC (varR 3) nilC)))
  (ifSR (truTR (varR 1)) (seqC (setC (gNR 4) (binC ltDR (binC ixR (varR 1) (litC (.int 0))) (varR 3)))
  (seqC (par2R 5 6 (consC (lstR nilC) (consC (lstR nilC) nilC)))
  (seqC (forR (seqIR (slsC (varR 1) noP noP (somePR (unC negR (litC (.int 1)))))) (gNR 7) (seqC (exprC (mtR insertM (varR 6) (consC (litC (.int 0)) (consC (varR 7) nilC))))
  (ifSR (blR (binC eqR (binC ltDR (varR 7) (varR 3)) (varR 4))) (seqC (exprC (mtR insertM (varR 5) (consC (litC (.int 0)) (consC (varR 6) nilC))))
  (setC (gNR 6) (lstR nilC))) passC)))
  (seqC (setC (gNR 1) (lstR nilC))
  (forR (seqIR (varR 5)) (gNR 7) (exprC (mtR extendR (varR 1) (consC (binC addR (slR (varR 7) (somePR (litC (.int 1))) noP) (lstR (consC (binC ixR (varR 7) (litC (.int 0))) nilC))) nilC)))))))) passC))))
  (retC (appC tupleR (consC (slsC (varR 2) noP noP (somePR (unC negR (litC (.int 1))))) nilC))))))
def gu_foata_back : SemF := pureFR (mkR 1 7 r_foata_back)
def t_foata_back_ : XS E8 := (seqP (exprP (callP h_check (consP V8_0 nilP))) (seqP (par2P S8_1 S8_2 (consP (appP listR (consP V8_0 nilP)) (consP (lstP nilP) nilP))) (seqP (whlP (truP V8_1) (seqP (setP S8_3 (mt0P popR V8_1)) (seqP (exprP (mtP appendR V8_2 (consP V8_3 nilP))) (ifSP (truP V8_1) (seqP (setP S8_4 (binP ltDR (binP ixR V8_1 (litP (.int 0))) V8_3)) (seqP (par2P S8_5 S8_6 (consP (lstP nilP) (consP (lstP nilP) nilP))) (seqP (forP (seqIP (slsP V8_1 noPP noPP (someQ (unP negR (litP (.int 1)))))) S8_7 (seqP (exprP (mtP insertM V8_6 (consP (litP (.int 0)) (consP V8_7 nilP)))) (ifSP (blP (binP eqR (binP ltDR V8_7 V8_3) V8_4)) (seqP (exprP (mtP insertM V8_5 (consP (litP (.int 0)) (consP V8_6 nilP)))) (setP S8_6 (lstP nilP))) passP))) (seqP (setP S8_1 (lstP nilP)) (forP (seqIP V8_5) S8_7 (exprP (mtP extendR V8_1 (consP (binP addR (slP V8_7 (someQ (litP (.int 1))) noPP) (lstP (consP (binP ixR V8_7 (litP (.int 0))) nilP))) nilP)))))))) passP)))) (retP (appP tupleR (consP (slsP V8_2 noPP noPP (someQ (unP negR (litP (.int 1))))) nilP))))))
theorem z_foata_back : RS (enF eF8) 8 r_foata_back t_foata_back_ := by delta r_foata_back t_foata_back_; exact (q_seq (q_expr (q_call H_check (q_cons qV8_0 q_nil))) (q_seq (q_par2 qS8_1 qS8_2 (q_cons (q_app (q_cons qV8_0 q_nil)) (q_cons (q_lst q_nil) q_nil))) (q_seq (q_whl (q_tru qV8_1) (q_seq (q_set qS8_3 (q_mt0 qV8_1)) (q_seq (q_expr (q_mt qV8_2 (q_cons qV8_3 q_nil))) (q_ifS (q_tru qV8_1) (q_seq (q_set qS8_4 (q_bin (q_bin qV8_1 q_lit) qV8_3)) (q_seq (q_par2 qS8_5 qS8_6 (q_cons (q_lst q_nil) (q_cons (q_lst q_nil) q_nil))) (q_seq (q_for (q_seqI (q_sls qV8_1 q_noP q_noP (q_some (q_un q_lit)))) qS8_7 (q_seq (q_expr (q_mt qV8_6 (q_cons q_lit (q_cons qV8_7 q_nil)))) (q_ifS (q_bl (q_bin (q_bin qV8_7 qV8_3) qV8_4)) (q_seq (q_expr (q_mt qV8_5 (q_cons q_lit (q_cons qV8_6 q_nil)))) (q_set qS8_6 (q_lst q_nil))) q_pass))) (q_seq (q_set qS8_1 (q_lst q_nil)) (q_for (q_seqI qV8_5) qS8_7 (q_expr (q_mt qV8_1 (q_cons (q_bin (q_sl qV8_7 (q_some q_lit) q_noP) (q_lst (q_cons (q_bin qV8_7 q_lit) q_nil))) q_nil)))))))) q_pass)))) (q_ret (q_app (q_cons (q_sls qV8_2 q_noP q_noP (q_some (q_un q_lit))) q_nil))))))
def hu_foata_back : SemF := pureFR (mkP cv1_8 t_foata_back_)
theorem Hu_foata_back : gu_foata_back = hu_foata_back := by delta gu_foata_back hu_foata_back; rw [q_mk (e := enF eF8) rfl cvh1_8 cvd1_8 z_foata_back]
theorem q_foata_back : b_foata_back = r_foata_back := by delta b_foata_back r_foata_back; rw [varC_R, par2C_R, listF_R, lstC_R, whlC_R, truT_R, gNm_R, mt0C_R, popM_R, mtC_R, appendM_R, ifS_R, ltD_R, ixD_R, forC_R, seqI_R, someP_R, negD_R, blT_R, eqD_R, extendM_R, addD_R, slC_R, tupleF_R, G_check]
def pu_foata_back : SemF := pureF f_foata_back
theorem Gu_foata_back : pu_foata_back = gu_foata_back := by delta pu_foata_back f_foata_back gu_foata_back; rw [pureF_R, mkF_R, q_foata_back]
theorem s_foata_back : FnScope ["row", "left", "found", "number", "low", "parts", "part", "one"] ["row"] (defScope (st 19)) := ⟨rfl, rfl, rfl, by decide +kernel, rfl, by decide +kernel, by decide +kernel⟩
theorem t_foata_back : trB c_foata_back_ (defBody (st 19)) = some b_foata_back := by kernel_rfl
def v_foata_back_0 : D := (.tup [i0, i1, i2, i3, i4])
theorem e_foata_back_0 : rowB hu_foata_back [(.tup [i0, i1, i2, i3, i4])] v_foata_back_0 = true := by kernel_rfl
def v_foata_back_1 : D := (.tup [i2, i1, i3, i0, i4])
theorem e_foata_back_1 : rowB hu_foata_back [(.tup [i2, i1, i3, i0, i4])] v_foata_back_1 = true := by kernel_rfl
def v_foata_back_2 : D := (.tup [i2, i3, i1, i4, i0])
theorem e_foata_back_2 : rowB hu_foata_back [(.tup [i2, i3, i1, i4, i0])] v_foata_back_2 = true := by kernel_rfl
def v_foata_back_3 : D := (.tup [i4, i3, i2, i1, i0])
theorem e_foata_back_3 : rowB hu_foata_back [(.tup [i4, i3, i2, i1, i0])] v_foata_back_3 = true := by kernel_rfl
def tb_foata_back : List (List D × D) := [([(.tup [i0, i1, i2, i3, i4])], v_foata_back_0), ([(.tup [i2, i1, i3, i0, i4])], v_foata_back_1), ([(.tup [i2, i3, i1, i4, i0])], v_foata_back_2), ([(.tup [i4, i3, i2, i1, i0])], v_foata_back_3)]
theorem tok_foata_back : TbOk pu_foata_back tb_foata_back := by rw [Gu_foata_back, Hu_foata_back]; exact .cons e_foata_back_0 (.cons e_foata_back_1 (.cons e_foata_back_2 (.cons e_foata_back_3 (.nil))))
def p_foata_back : SemF := memoF tb_foata_back pu_foata_back
def g_foata_back : SemF := memoF tb_foata_back gu_foata_back
def h_foata_back : SemF := memoF tb_foata_back hu_foata_back
theorem G_foata_back : p_foata_back = g_foata_back := by delta p_foata_back g_foata_back; rw [Gu_foata_back]
theorem H_foata_back : g_foata_back = h_foata_back := by delta g_foata_back h_foata_back; rw [Hu_foata_back]
/- from_code -/
def c_from_code_ : Cfg := ⟨["numbers", "left", "found", "number"], (defScope (st 17)).names, true, 0, [], [], [("NoShape", 0)], [], fun _ => none⟩
def b_from_code : SemS := (seqC (setC (gNm 1) (lrg1C (appC lenF (consC (varC 0) nilC))))
  (seqC (setC (gNm 2) (lstC nilC))
  (seqC (forC (seqI (varC 0)) (gNm 3) (seqC (ifS (notT (blT (chC leD ltD (litC (.int 0)) (varC 3) (appC lenF (consC (varC 1) nilC))))) (raiseC 0) passC)
  (exprC (mtC appendM (varC 2) (consC (mtC popAtM (varC 1) (consC (varC 3) nilC)) nilC)))))
  (retC (appC tupleF (consC (varC 2) nilC))))))
def f_from_code : SemF := mkF 1 3 b_from_code
def r_from_code : SemS := (seqC (setC (gNR 1) (lrg1C (appC lenFR (consC (varR 0) nilC))))
  (seqC (setC (gNR 2) (lstR nilC))
  (seqC (forR (seqIR (varR 0)) (gNR 3) (seqC (ifSR (notR (blR (chC leR ltDR (litC (.int 0)) (varR 3) (appC lenFR (consC (varR 1) nilC))))) (raiseC 0) passC)
  (exprC (mtR appendR (varR 2) (consC (mtR popAtM (varR 1) (consC (varR 3) nilC)) nilC)))))
  (retC (appC tupleR (consC (varR 2) nilC))))))
def g_from_code : SemF := pureFR (mkR 1 3 r_from_code)
def t_from_code_ : XS E4 := (seqP (setP S4_1 (lrg1P (appP lenFR (consP V4_0 nilP)))) (seqP (setP S4_2 (lstP nilP)) (seqP (forP (seqIP V4_0) S4_3 (seqP (ifSP (notP (blP (chP leR ltDR (litP (.int 0)) V4_3 (appP lenFR (consP V4_1 nilP))))) (raiseP 0) passP) (exprP (mtP appendR V4_2 (consP (mtP popAtM V4_1 (consP V4_3 nilP)) nilP))))) (retP (appP tupleR (consP V4_2 nilP))))))
theorem z_from_code : RS (enF eF4) 4 r_from_code t_from_code_ := by delta r_from_code t_from_code_; exact (q_seq (q_set qS4_1 (q_lrg1 (q_app (q_cons qV4_0 q_nil)))) (q_seq (q_set qS4_2 (q_lst q_nil)) (q_seq (q_for (q_seqI qV4_0) qS4_3 (q_seq (q_ifS (q_not (q_bl (q_ch q_lit qV4_3 (q_app (q_cons qV4_1 q_nil))))) q_raise q_pass) (q_expr (q_mt qV4_2 (q_cons (q_mt qV4_1 (q_cons qV4_3 q_nil)) q_nil))))) (q_ret (q_app (q_cons qV4_2 q_nil))))))
def h_from_code : SemF := pureFR (mkP cv1_4 t_from_code_)
theorem H_from_code : g_from_code = h_from_code := by delta g_from_code h_from_code; rw [q_mk (e := enF eF4) rfl cvh1_4 cvd1_4 z_from_code]
theorem q_from_code : b_from_code = r_from_code := by delta b_from_code r_from_code; rw [gNm_R, lenF_R, varC_R, lstC_R, forC_R, seqI_R, ifS_R, notT_R, blT_R, leD_R, ltD_R, mtC_R, appendM_R, tupleF_R]
def p_from_code : SemF := pureF f_from_code
theorem G_from_code : p_from_code = g_from_code := by delta p_from_code f_from_code g_from_code; rw [pureF_R, mkF_R, q_from_code]
theorem s_from_code : FnScope ["numbers", "left", "found", "number"] ["numbers"] (defScope (st 17)) := ⟨rfl, rfl, rfl, by decide +kernel, rfl, by decide +kernel, by decide +kernel⟩
theorem t_from_code : trB c_from_code_ (defBody (st 17)) = some b_from_code := by kernel_rfl
/- from_records -/
def c_from_records_ : Cfg := ⟨["row", "found", "ring", "number", "index", "one"], (defScope (st 15)).names, true, 1, [("check", p_check)], [("check", .fn 0)], [], [], fun _ => none⟩
def b_from_records : SemS := (seqC (exprC (callC p_check (consC (varC 0) nilC)))
  (seqC (setC (gNm 1) (binC mulD (lstC (consC (litC (.int 0)) nilC)) (appC lenF (consC (varC 0) nilC))))
  (seqC (setC (gNm 2) (lstC nilC))
  (seqC (forC (seqI (binC addD (appC listF (consC (varC 0) nilC)) (lstC (consC (appC lenF (consC (varC 0) nilC)) nilC)))) (gNm 3) (seqC (ifS (andT (truT (varC 2)) (blT (binC gtD (varC 3) (binC ixD (varC 2) (litC (.int 0)))))) (seqC (forC (enuI (consC (varC 2) nilC)) (gTp (gsC (gNm 4) (gsC (gNm 5) gsN)) 2) (setSC (varC 1) (varC 5) (binC ixD (varC 2) (binC modD (binC addD (varC 4) (litC (.int 1))) (appC lenF (consC (varC 2) nilC))))))
  (setC (gNm 2) (lstC nilC))) passC)
  (exprC (mtC appendM (varC 2) (consC (varC 3) nilC)))))
  (retC (appC tupleF (consC (varC 1) nilC)))))))
def f_from_records : SemF := mkF 1 5 b_from_records
def r_from_records : SemS := (seqC (exprC (callC g_check (consC (varR 0) nilC)))
  (seqC (setC (gNR 1) (binC mulR (lstR (consC (litC (.int 0)) nilC)) (appC lenFR (consC (varR 0) nilC))))
  (seqC (setC (gNR 2) (lstR nilC))
  (seqC (forR (seqIR (binC addR (appC listR (consC (varR 0) nilC)) (lstR (consC (appC lenFR (consC (varR 0) nilC)) nilC)))) (gNR 3) (seqC (ifSR (andR (truTR (varR 2)) (blR (binC gtR (varR 3) (binC ixR (varR 2) (litC (.int 0)))))) (seqC (forR (enuR (consC (varR 2) nilC)) (gTR (gsCR (gNR 4) (gsCR (gNR 5) gsNR)) 2) (setSR (varR 1) (varR 5) (binC ixR (varR 2) (binC modR (binC addR (varR 4) (litC (.int 1))) (appC lenFR (consC (varR 2) nilC))))))
  (setC (gNR 2) (lstR nilC))) passC)
  (exprC (mtR appendR (varR 2) (consC (varR 3) nilC)))))
  (retC (appC tupleR (consC (varR 1) nilC)))))))
def g_from_records : SemF := pureFR (mkR 1 5 r_from_records)
def t_from_records_ : XS E6 := (seqP (exprP (callP h_check (consP V6_0 nilP))) (seqP (setP S6_1 (binP mulR (lstP (consP (litP (.int 0)) nilP)) (appP lenFR (consP V6_0 nilP)))) (seqP (setP S6_2 (lstP nilP)) (seqP (forP (seqIP (binP addR (appP listR (consP V6_0 nilP)) (lstP (consP (appP lenFR (consP V6_0 nilP)) nilP)))) S6_3 (seqP (ifSP (andP (truP V6_2) (blP (binP gtR V6_3 (binP ixR V6_2 (litP (.int 0)))))) (seqP (forP (enuP (consP V6_2 nilP)) (gTP (gsCP S6_4 (gsCP S6_5 gsNP)) 2) (setSP V6_1 V6_5 (binP ixR V6_2 (binP modR (binP addR V6_4 (litP (.int 1))) (appP lenFR (consP V6_2 nilP)))))) (setP S6_2 (lstP nilP))) passP) (exprP (mtP appendR V6_2 (consP V6_3 nilP))))) (retP (appP tupleR (consP V6_1 nilP)))))))
theorem z_from_records : RS (enF eF6) 6 r_from_records t_from_records_ := by delta r_from_records t_from_records_; exact (q_seq (q_expr (q_call H_check (q_cons qV6_0 q_nil))) (q_seq (q_set qS6_1 (q_bin (q_lst (q_cons q_lit q_nil)) (q_app (q_cons qV6_0 q_nil)))) (q_seq (q_set qS6_2 (q_lst q_nil)) (q_seq (q_for (q_seqI (q_bin (q_app (q_cons qV6_0 q_nil)) (q_lst (q_cons (q_app (q_cons qV6_0 q_nil)) q_nil)))) qS6_3 (q_seq (q_ifS (q_and (q_tru qV6_2) (q_bl (q_bin qV6_3 (q_bin qV6_2 q_lit)))) (q_seq (q_for (q_enu (q_cons qV6_2 q_nil)) (q_gT (q_gsC qS6_4 (q_gsC qS6_5 q_gsN))) (q_setS qV6_1 qV6_5 (q_bin qV6_2 (q_bin (q_bin qV6_4 q_lit) (q_app (q_cons qV6_2 q_nil)))))) (q_set qS6_2 (q_lst q_nil))) q_pass) (q_expr (q_mt qV6_2 (q_cons qV6_3 q_nil))))) (q_ret (q_app (q_cons qV6_1 q_nil)))))))
def h_from_records : SemF := pureFR (mkP cv1_6 t_from_records_)
theorem H_from_records : g_from_records = h_from_records := by delta g_from_records h_from_records; rw [q_mk (e := enF eF6) rfl cvh1_6 cvd1_6 z_from_records]
theorem q_from_records : b_from_records = r_from_records := by delta b_from_records r_from_records; rw [varC_R, gNm_R, mulD_R, lstC_R, lenF_R, forC_R, seqI_R, addD_R, listF_R, ifS_R, andT_R, truT_R, blT_R, gtD_R, ixD_R, enuI_R, gTp_R, gsC_R, gsN_R, setSC_R, modD_R, mtC_R, appendM_R, tupleF_R, G_check]
def p_from_records : SemF := pureF f_from_records
theorem G_from_records : p_from_records = g_from_records := by delta p_from_records f_from_records g_from_records; rw [pureF_R, mkF_R, q_from_records]
theorem s_from_records : FnScope ["row", "found", "ring", "number", "index", "one"] ["row"] (defScope (st 15)) := ⟨rfl, rfl, rfl, by decide +kernel, rfl, by decide +kernel, by decide +kernel⟩
theorem t_from_records : trB c_from_records_ (defBody (st 15)) = some b_from_records := by kernel_rfl
/- inversions -/
def c_inversions_ : Cfg := ⟨["row", "index", "one"], (defScope (st 8)).names, true, 0, [], [], [], [], fun _ => none⟩
def b_inversions : SemS := (retC (appC sumF (consC (lcC (rng1I (consC (appC lenF (consC (varC 0) nilC)) nilC)) (gNm 1) yesT (appC lenF (consC (lcC (seqI (slC (varC 0) noP (someP (varC 1)))) (gNm 2) (blT (binC gtD (varC 2) (binC ixD (varC 0) (varC 1)))) (varC 2) [2]) nilC)) [1]) nilC)))
def f_inversions : SemF := mkF 1 2 b_inversions
def r_inversions : SemS := (retC (appC sumR (consC (lcR2 (rng1R (consC (appC lenFR (consC (varR 0) nilC)) nilC)) (gNR 1) yesT (appC lenFR (consC (lcR2 (seqIR (slR (varR 0) noP (somePR (varR 1)))) (gNR 2) (blR (binC gtR (varR 2) (binC ixR (varR 0) (varR 1)))) (varR 2) [2]) nilC)) [1]) nilC)))
def g_inversions : SemF := pureFR (mkR 1 2 r_inversions)
def t_inversions_ : XS E3 := (retP (appP sumR (consP (lcP (rng1P (consP (appP lenFR (consP V3_0 nilP)) nilP)) S3_1 yesP (appP lenFR (consP (lcP (seqIP (slP V3_0 noPP (someQ V3_1))) S3_2 (blP (binP gtR V3_2 (binP ixR V3_0 V3_1))) V3_2 (wpC S3_2 wpN)) nilP)) (wpC S3_1 wpN)) nilP)))
theorem z_inversions : RS (enF eF3) 3 r_inversions t_inversions_ := by delta r_inversions t_inversions_; exact (q_ret (q_app (q_cons (q_lc (q_rng1 (q_cons (q_app (q_cons qV3_0 q_nil)) q_nil)) qS3_1 q_yes (q_app (q_cons (q_lc (q_seqI (q_sl qV3_0 q_noP (q_some qV3_1))) qS3_2 (q_bl (q_bin qV3_2 (q_bin qV3_0 qV3_1))) qV3_2 (q_wpC qS3_2 q_wpN)) q_nil)) (q_wpC qS3_1 q_wpN)) q_nil)))
def h_inversions : SemF := pureFR (mkP cv1_3 t_inversions_)
theorem H_inversions : g_inversions = h_inversions := by delta g_inversions h_inversions; rw [q_mk (e := enF eF3) rfl cvh1_3 cvd1_3 z_inversions]
theorem q_inversions : b_inversions = r_inversions := by delta b_inversions r_inversions; rw [sumF_R, lcC_R, rng1I_R, lenF_R, varC_R, gNm_R, seqI_R, slC_R, someP_R, blT_R, gtD_R, ixD_R]
def p_inversions : SemF := pureF f_inversions
theorem G_inversions : p_inversions = g_inversions := by delta p_inversions f_inversions g_inversions; rw [pureF_R, mkF_R, q_inversions]
theorem s_inversions : FnScope ["row", "index", "one"] ["row"] (defScope (st 8)) := ⟨rfl, rfl, rfl, by decide +kernel, rfl, by decide +kernel, by decide +kernel⟩
theorem t_inversions : trB c_inversions_ (defBody (st 8)) = some b_inversions := by kernel_rfl
/- mahonian -/
def c_mahonian_ : Cfg := ⟨["size", "row", "count", "longer", "index", "number", "step"], (defScope (st 23)).names, true, 0, [], [], [], [], fun _ => none⟩
def b_mahonian : SemS := (seqC (setC (gNm 1) (lstC (consC (litC (.int 1)) nilC)))
  (seqC (forC (rng2I (consC (litC (.int 2)) (consC (binC addD (varC 0) (litC (.int 1))) nilC))) (gNm 2) (seqC (setC (gNm 3) (binC mulD (lstC (consC (litC (.int 0)) nilC)) (binC subD (binC addD (appC lenF (consC (varC 1) nilC)) (varC 2)) (litC (.int 1)))))
  (seqC (forC (enuI (consC (varC 1) nilC)) (gTp (gsC (gNm 4) (gsC (gNm 5) gsN)) 2) (forC (rng1I (consC (varC 2) nilC)) (gNm 6) (augSC (varC 3) (binC addD (varC 4) (varC 6)) ipT.iaddD (varC 5))))
  (setC (gNm 1) (varC 3)))))
  (retC (appC tupleF (consC (varC 1) nilC)))))
def f_mahonian : SemF := mkF 1 6 b_mahonian
def r_mahonian : SemS := (seqC (setC (gNR 1) (lstR (consC (litC (.int 1)) nilC)))
  (seqC (forR (rng2R (consC (litC (.int 2)) (consC (binC addR (varR 0) (litC (.int 1))) nilC))) (gNR 2) (seqC (setC (gNR 3) (binC mulR (lstR (consC (litC (.int 0)) nilC)) (binC subR (binC addR (appC lenFR (consC (varR 1) nilC)) (varR 2)) (litC (.int 1)))))
  (seqC (forR (enuR (consC (varR 1) nilC)) (gTR (gsCR (gNR 4) (gsCR (gNR 5) gsNR)) 2) (forR (rng1R (consC (varR 2) nilC)) (gNR 6) (augSR (varR 3) (binC addR (varR 4) (varR 6)) iaddR (varR 5))))
  (setC (gNR 1) (varR 3)))))
  (retC (appC tupleR (consC (varR 1) nilC)))))
def g_mahonian : SemF := pureFR (mkR 1 6 r_mahonian)
def t_mahonian_ : XS E7 := (seqP (setP S7_1 (lstP (consP (litP (.int 1)) nilP))) (seqP (forP (rng2P (consP (litP (.int 2)) (consP (binP addR V7_0 (litP (.int 1))) nilP))) S7_2 (seqP (setP S7_3 (binP mulR (lstP (consP (litP (.int 0)) nilP)) (binP subR (binP addR (appP lenFR (consP V7_1 nilP)) V7_2) (litP (.int 1))))) (seqP (forP (enuP (consP V7_1 nilP)) (gTP (gsCP S7_4 (gsCP S7_5 gsNP)) 2) (forP (rng1P (consP V7_2 nilP)) S7_6 (augSP V7_3 (binP addR V7_4 V7_6) iaddR V7_5))) (setP S7_1 V7_3)))) (retP (appP tupleR (consP V7_1 nilP)))))
theorem z_mahonian : RS (enF eF7) 7 r_mahonian t_mahonian_ := by delta r_mahonian t_mahonian_; exact (q_seq (q_set qS7_1 (q_lst (q_cons q_lit q_nil))) (q_seq (q_for (q_rng2 (q_cons q_lit (q_cons (q_bin qV7_0 q_lit) q_nil))) qS7_2 (q_seq (q_set qS7_3 (q_bin (q_lst (q_cons q_lit q_nil)) (q_bin (q_bin (q_app (q_cons qV7_1 q_nil)) qV7_2) q_lit))) (q_seq (q_for (q_enu (q_cons qV7_1 q_nil)) (q_gT (q_gsC qS7_4 (q_gsC qS7_5 q_gsN))) (q_for (q_rng1 (q_cons qV7_2 q_nil)) qS7_6 (q_augS qV7_3 (q_bin qV7_4 qV7_6) qV7_5))) (q_set qS7_1 qV7_3)))) (q_ret (q_app (q_cons qV7_1 q_nil)))))
def h_mahonian : SemF := pureFR (mkP cv1_7 t_mahonian_)
theorem H_mahonian : g_mahonian = h_mahonian := by delta g_mahonian h_mahonian; rw [q_mk (e := enF eF7) rfl cvh1_7 cvd1_7 z_mahonian]
theorem q_mahonian : b_mahonian = r_mahonian := by delta b_mahonian r_mahonian; rw [gNm_R, lstC_R, forC_R, rng2I_R, addD_R, varC_R, mulD_R, subD_R, lenF_R, enuI_R, gTp_R, gsC_R, gsN_R, rng1I_R, augSC_R, iaddD_R, tupleF_R]
def p_mahonian : SemF := pureF f_mahonian
theorem G_mahonian : p_mahonian = g_mahonian := by delta p_mahonian f_mahonian g_mahonian; rw [pureF_R, mkF_R, q_mahonian]
theorem s_mahonian : FnScope ["size", "row", "count", "longer", "index", "number", "step"] ["size"] (defScope (st 23)) := ⟨rfl, rfl, rfl, by decide +kernel, rfl, by decide +kernel, by decide +kernel⟩
theorem t_mahonian : trB c_mahonian_ (defBody (st 23)) = some b_mahonian := by kernel_rfl
/- major -/
def c_major_ : Cfg := ⟨["row"], (defScope (st 10)).names, true, 1, [("descents", p_descents)], [], [], [], fun _ => none⟩
def b_major : SemS := (retC (appC sumF (consC (callC p_descents (consC (varC 0) nilC)) nilC)))
def f_major : SemF := mkF 1 0 b_major
def r_major : SemS := (retC (appC sumR (consC (callC g_descents (consC (varR 0) nilC)) nilC)))
def g_major : SemF := pureFR (mkR 1 0 r_major)
def t_major_ : XS E1 := (retP (appP sumR (consP (callP h_descents (consP V1_0 nilP)) nilP)))
theorem z_major : RS (enF eF1) 1 r_major t_major_ := by delta r_major t_major_; exact (q_ret (q_app (q_cons (q_call H_descents (q_cons qV1_0 q_nil)) q_nil)))
def h_major : SemF := pureFR (mkP cv1_1 t_major_)
theorem H_major : g_major = h_major := by delta g_major h_major; rw [q_mk (e := enF eF1) rfl cvh1_1 cvd1_1 z_major]
theorem q_major : b_major = r_major := by delta b_major r_major; rw [sumF_R, varC_R, G_descents]
def p_major : SemF := pureF f_major
theorem G_major : p_major = g_major := by delta p_major f_major g_major; rw [pureF_R, mkF_R, q_major]
theorem s_major : FnScope ["row"] ["row"] (defScope (st 10)) := ⟨rfl, rfl, rfl, by decide +kernel, rfl, by decide +kernel, by decide +kernel⟩
theorem t_major : trB c_major_ (defBody (st 10)) = some b_major := by kernel_rfl
/- records -/
def c_records_ : Cfg := ⟨["row", "index", "one", "other"], (defScope (st 12)).names, true, 0, [], [], [], [], fun _ => none⟩
def b_records : SemS := (retC (appC lenF (consC (lcC (enuI (consC (varC 0) nilC)) (gTp (gsC (gNm 1) (gsC (gNm 2) gsN)) 2) (truT (appC allF (consC (lcC (seqI (slC (varC 0) noP (someP (varC 1)))) (gNm 3) yesT (binC ltD (varC 3) (varC 2)) [3]) nilC))) (varC 1) [1, 2]) nilC)))
def f_records : SemF := mkF 1 3 b_records
def r_records : SemS := (retC (appC lenFR (consC (lcR2 (enuR (consC (varR 0) nilC)) (gTR (gsCR (gNR 1) (gsCR (gNR 2) gsNR)) 2) (truTR (appC allFR (consC (lcR2 (seqIR (slR (varR 0) noP (somePR (varR 1)))) (gNR 3) yesT (binC ltDR (varR 3) (varR 2)) [3]) nilC))) (varR 1) [1, 2]) nilC)))
def g_records : SemF := pureFR (mkR 1 3 r_records)
def t_records_ : XS E4 := (retP (appP lenFR (consP (lcP (enuP (consP V4_0 nilP)) (gTP (gsCP S4_1 (gsCP S4_2 gsNP)) 2) (truP (appP allFR (consP (lcP (seqIP (slP V4_0 noPP (someQ V4_1))) S4_3 yesP (binP ltDR V4_3 V4_2) (wpC S4_3 wpN)) nilP))) V4_1 (wpC S4_1 (wpC S4_2 wpN))) nilP)))
theorem z_records : RS (enF eF4) 4 r_records t_records_ := by delta r_records t_records_; exact (q_ret (q_app (q_cons (q_lc (q_enu (q_cons qV4_0 q_nil)) (q_gT (q_gsC qS4_1 (q_gsC qS4_2 q_gsN))) (q_tru (q_app (q_cons (q_lc (q_seqI (q_sl qV4_0 q_noP (q_some qV4_1))) qS4_3 q_yes (q_bin qV4_3 qV4_2) (q_wpC qS4_3 q_wpN)) q_nil))) qV4_1 (q_wpC qS4_1 (q_wpC qS4_2 q_wpN))) q_nil)))
def h_records : SemF := pureFR (mkP cv1_4 t_records_)
theorem H_records : g_records = h_records := by delta g_records h_records; rw [q_mk (e := enF eF4) rfl cvh1_4 cvd1_4 z_records]
theorem q_records : b_records = r_records := by delta b_records r_records; rw [lenF_R, lcC_R, enuI_R, varC_R, gTp_R, gsC_R, gNm_R, gsN_R, truT_R, allF_R, seqI_R, slC_R, someP_R, ltD_R]
def p_records : SemF := pureF f_records
theorem G_records : p_records = g_records := by delta p_records f_records g_records; rw [pureF_R, mkF_R, q_records]
theorem s_records : FnScope ["row", "index", "one", "other"] ["row"] (defScope (st 12)) := ⟨rfl, rfl, rfl, by decide +kernel, rfl, by decide +kernel, by decide +kernel⟩
theorem t_records : trB c_records_ (defBody (st 12)) = some b_records := by kernel_rfl
/- stirling_cycles -/
def c_stirling_cycles_ : Cfg := ⟨["size", "row", "count", "one", "two"], (defScope (st 21)).names, true, 0, [], [], [], [], fun _ => none⟩
def b_stirling_cycles : SemS := (seqC (setC (gNm 1) (lstC (consC (litC (.int 1)) nilC)))
  (seqC (forC (rng1I (consC (varC 0) nilC)) (gNm 2) (setC (gNm 1) (lcC (zipI (consC (binC addD (lstC (consC (litC (.int 0)) nilC)) (varC 1)) (consC (binC addD (varC 1) (lstC (consC (litC (.int 0)) nilC))) nilC))) (gTp (gsC (gNm 3) (gsC (gNm 4) gsN)) 2) yesT (binC addD (varC 3) (binC mulD (varC 2) (varC 4))) [3, 4])))
  (retC (appC tupleF (consC (varC 1) nilC)))))
def f_stirling_cycles : SemF := mkF 1 4 b_stirling_cycles
def r_stirling_cycles : SemS := (seqC (setC (gNR 1) (lstR (consC (litC (.int 1)) nilC)))
  (seqC (forR (rng1R (consC (varR 0) nilC)) (gNR 2) (setC (gNR 1) (lcR2 (zipR (consC (binC addR (lstR (consC (litC (.int 0)) nilC)) (varR 1)) (consC (binC addR (varR 1) (lstR (consC (litC (.int 0)) nilC))) nilC))) (gTR (gsCR (gNR 3) (gsCR (gNR 4) gsNR)) 2) yesT (binC addR (varR 3) (binC mulR (varR 2) (varR 4))) [3, 4])))
  (retC (appC tupleR (consC (varR 1) nilC)))))
def g_stirling_cycles : SemF := pureFR (mkR 1 4 r_stirling_cycles)
def t_stirling_cycles_ : XS E5 := (seqP (setP S5_1 (lstP (consP (litP (.int 1)) nilP))) (seqP (forP (rng1P (consP V5_0 nilP)) S5_2 (setP S5_1 (lcP (zipP (consP (binP addR (lstP (consP (litP (.int 0)) nilP)) V5_1) (consP (binP addR V5_1 (lstP (consP (litP (.int 0)) nilP))) nilP))) (gTP (gsCP S5_3 (gsCP S5_4 gsNP)) 2) yesP (binP addR V5_3 (binP mulR V5_2 V5_4)) (wpC S5_3 (wpC S5_4 wpN))))) (retP (appP tupleR (consP V5_1 nilP)))))
theorem z_stirling_cycles : RS (enF eF5) 5 r_stirling_cycles t_stirling_cycles_ := by delta r_stirling_cycles t_stirling_cycles_; exact (q_seq (q_set qS5_1 (q_lst (q_cons q_lit q_nil))) (q_seq (q_for (q_rng1 (q_cons qV5_0 q_nil)) qS5_2 (q_set qS5_1 (q_lc (q_zip (q_cons (q_bin (q_lst (q_cons q_lit q_nil)) qV5_1) (q_cons (q_bin qV5_1 (q_lst (q_cons q_lit q_nil))) q_nil))) (q_gT (q_gsC qS5_3 (q_gsC qS5_4 q_gsN))) q_yes (q_bin qV5_3 (q_bin qV5_2 qV5_4)) (q_wpC qS5_3 (q_wpC qS5_4 q_wpN))))) (q_ret (q_app (q_cons qV5_1 q_nil)))))
def h_stirling_cycles : SemF := pureFR (mkP cv1_5 t_stirling_cycles_)
theorem H_stirling_cycles : g_stirling_cycles = h_stirling_cycles := by delta g_stirling_cycles h_stirling_cycles; rw [q_mk (e := enF eF5) rfl cvh1_5 cvd1_5 z_stirling_cycles]
theorem q_stirling_cycles : b_stirling_cycles = r_stirling_cycles := by delta b_stirling_cycles r_stirling_cycles; rw [gNm_R, lstC_R, forC_R, rng1I_R, varC_R, lcC_R, zipI_R, addD_R, gTp_R, gsC_R, gsN_R, mulD_R, tupleF_R]
def p_stirling_cycles : SemF := pureF f_stirling_cycles
theorem G_stirling_cycles : p_stirling_cycles = g_stirling_cycles := by delta p_stirling_cycles f_stirling_cycles g_stirling_cycles; rw [pureF_R, mkF_R, q_stirling_cycles]
theorem s_stirling_cycles : FnScope ["size", "row", "count", "one", "two"] ["size"] (defScope (st 21)) := ⟨rfl, rfl, rfl, by decide +kernel, rfl, by decide +kernel, by decide +kernel⟩
theorem t_stirling_cycles : trB c_stirling_cycles_ (defBody (st 21)) = some b_stirling_cycles := by kernel_rfl
/- stirling_parts -/
def c_stirling_parts_ : Cfg := ⟨["size", "row", "_", "index", "one", "two"], (defScope (st 22)).names, true, 0, [], [], [], [], fun _ => none⟩
def b_stirling_parts : SemS := (seqC (setC (gNm 1) (lstC (consC (litC (.int 1)) nilC)))
  (seqC (forC (rng1I (consC (varC 0) nilC)) (gNm 2) (setC (gNm 1) (lcC (enzI (consC (binC addD (lstC (consC (litC (.int 0)) nilC)) (varC 1)) (consC (binC addD (varC 1) (lstC (consC (litC (.int 0)) nilC))) nilC))) (gTp (gsC (gNm 3) (gsC (gTp (gsC (gNm 4) (gsC (gNm 5) gsN)) 2) gsN)) 2) yesT (binC addD (varC 4) (binC mulD (varC 3) (varC 5))) [3, 4, 5])))
  (retC (appC tupleF (consC (varC 1) nilC)))))
def f_stirling_parts : SemF := mkF 1 5 b_stirling_parts
def r_stirling_parts : SemS := (seqC (setC (gNR 1) (lstR (consC (litC (.int 1)) nilC)))
  (seqC (forR (rng1R (consC (varR 0) nilC)) (gNR 2) (setC (gNR 1) (lcR2 (enzR (consC (binC addR (lstR (consC (litC (.int 0)) nilC)) (varR 1)) (consC (binC addR (varR 1) (lstR (consC (litC (.int 0)) nilC))) nilC))) (gTR (gsCR (gNR 3) (gsCR (gTR (gsCR (gNR 4) (gsCR (gNR 5) gsNR)) 2) gsNR)) 2) yesT (binC addR (varR 4) (binC mulR (varR 3) (varR 5))) [3, 4, 5])))
  (retC (appC tupleR (consC (varR 1) nilC)))))
def g_stirling_parts : SemF := pureFR (mkR 1 5 r_stirling_parts)
def t_stirling_parts_ : XS E6 := (seqP (setP S6_1 (lstP (consP (litP (.int 1)) nilP))) (seqP (forP (rng1P (consP V6_0 nilP)) S6_2 (setP S6_1 (lcP (enzP (consP (binP addR (lstP (consP (litP (.int 0)) nilP)) V6_1) (consP (binP addR V6_1 (lstP (consP (litP (.int 0)) nilP))) nilP))) (gTP (gsCP S6_3 (gsCP (gTP (gsCP S6_4 (gsCP S6_5 gsNP)) 2) gsNP)) 2) yesP (binP addR V6_4 (binP mulR V6_3 V6_5)) (wpC S6_3 (wpC S6_4 (wpC S6_5 wpN)))))) (retP (appP tupleR (consP V6_1 nilP)))))
theorem z_stirling_parts : RS (enF eF6) 6 r_stirling_parts t_stirling_parts_ := by delta r_stirling_parts t_stirling_parts_; exact (q_seq (q_set qS6_1 (q_lst (q_cons q_lit q_nil))) (q_seq (q_for (q_rng1 (q_cons qV6_0 q_nil)) qS6_2 (q_set qS6_1 (q_lc (q_enz (q_cons (q_bin (q_lst (q_cons q_lit q_nil)) qV6_1) (q_cons (q_bin qV6_1 (q_lst (q_cons q_lit q_nil))) q_nil))) (q_gT (q_gsC qS6_3 (q_gsC (q_gT (q_gsC qS6_4 (q_gsC qS6_5 q_gsN))) q_gsN))) q_yes (q_bin qV6_4 (q_bin qV6_3 qV6_5)) (q_wpC qS6_3 (q_wpC qS6_4 (q_wpC qS6_5 q_wpN)))))) (q_ret (q_app (q_cons qV6_1 q_nil)))))
def h_stirling_parts : SemF := pureFR (mkP cv1_6 t_stirling_parts_)
theorem H_stirling_parts : g_stirling_parts = h_stirling_parts := by delta g_stirling_parts h_stirling_parts; rw [q_mk (e := enF eF6) rfl cvh1_6 cvd1_6 z_stirling_parts]
theorem q_stirling_parts : b_stirling_parts = r_stirling_parts := by delta b_stirling_parts r_stirling_parts; rw [gNm_R, lstC_R, forC_R, rng1I_R, varC_R, lcC_R, enzI_R, addD_R, gTp_R, gsC_R, gsN_R, mulD_R, tupleF_R]
def p_stirling_parts : SemF := pureF f_stirling_parts
theorem G_stirling_parts : p_stirling_parts = g_stirling_parts := by delta p_stirling_parts f_stirling_parts g_stirling_parts; rw [pureF_R, mkF_R, q_stirling_parts]
theorem s_stirling_parts : FnScope ["size", "row", "_", "index", "one", "two"] ["size"] (defScope (st 22)) := ⟨rfl, rfl, rfl, by decide +kernel, rfl, by decide +kernel, by decide +kernel⟩
theorem t_stirling_parts : trB c_stirling_parts_ (defBody (st 22)) = some b_stirling_parts := by kernel_rfl
/- to_records -/
def c_to_records_ : Cfg := ⟨["row", "found", "ring"], (defScope (st 14)).names, true, 1, [("cycles", p_cycles)], [], [], [], fun _ => none⟩
def b_to_records : SemS := (seqC (setC (gNm 1) (lstC nilC))
  (seqC (forC (seqI (callC p_cycles (consC (varC 0) nilC))) (gNm 2) (exprC (mtC extendM (varC 1) (consC (appC listF (consC (varC 2) nilC)) nilC))))
  (retC (appC tupleF (consC (varC 1) nilC)))))
def f_to_records : SemF := mkF 1 2 b_to_records
def r_to_records : SemS := (seqC (setC (gNR 1) (lstR nilC))
  (seqC (forR (seqIR (callC g_cycles (consC (varR 0) nilC))) (gNR 2) (exprC (mtR extendR (varR 1) (consC (appC listR (consC (varR 2) nilC)) nilC))))
  (retC (appC tupleR (consC (varR 1) nilC)))))
def g_to_records : SemF := pureFR (mkR 1 2 r_to_records)
def t_to_records_ : XS E3 := (seqP (setP S3_1 (lstP nilP)) (seqP (forP (seqIP (callP h_cycles (consP V3_0 nilP))) S3_2 (exprP (mtP extendR V3_1 (consP (appP listR (consP V3_2 nilP)) nilP)))) (retP (appP tupleR (consP V3_1 nilP)))))
theorem z_to_records : RS (enF eF3) 3 r_to_records t_to_records_ := by delta r_to_records t_to_records_; exact (q_seq (q_set qS3_1 (q_lst q_nil)) (q_seq (q_for (q_seqI (q_call H_cycles (q_cons qV3_0 q_nil))) qS3_2 (q_expr (q_mt qV3_1 (q_cons (q_app (q_cons qV3_2 q_nil)) q_nil)))) (q_ret (q_app (q_cons qV3_1 q_nil)))))
def h_to_records : SemF := pureFR (mkP cv1_3 t_to_records_)
theorem H_to_records : g_to_records = h_to_records := by delta g_to_records h_to_records; rw [q_mk (e := enF eF3) rfl cvh1_3 cvd1_3 z_to_records]
theorem q_to_records : b_to_records = r_to_records := by delta b_to_records r_to_records; rw [gNm_R, lstC_R, forC_R, seqI_R, varC_R, mtC_R, extendM_R, listF_R, tupleF_R, G_cycles]
def p_to_records : SemF := pureF f_to_records
theorem G_to_records : p_to_records = g_to_records := by delta p_to_records f_to_records g_to_records; rw [pureF_R, mkF_R, q_to_records]
theorem s_to_records : FnScope ["row", "found", "ring"] ["row"] (defScope (st 14)) := ⟨rfl, rfl, rfl, by decide +kernel, rfl, by decide +kernel, by decide +kernel⟩
theorem t_to_records : trB c_to_records_ (defBody (st 14)) = some b_to_records := by kernel_rfl
/- worpitzky -/
def c_worpitzky_ : Cfg := ⟨["size", "place", "index", "number"], (defScope (st 27)).names, true, 1, [("choose", p_choose), ("eulerian", p_eulerian)], [], [], [], fun _ => none⟩
def b_worpitzky : SemS := (retC (appC sumF (consC (lcC (enuI (consC (callC p_eulerian (consC (varC 0) nilC)) nilC)) (gTp (gsC (gNm 2) (gsC (gNm 3) gsN)) 2) yesT (binC mulD (varC 3) (callC p_choose (consC (binC addD (varC 1) (varC 2)) (consC (varC 0) nilC)))) [2, 3]) nilC)))
def f_worpitzky : SemF := mkF 2 2 b_worpitzky
def r_worpitzky : SemS := (retC (appC sumR (consC (lcR2 (enuR (consC (callC g_eulerian (consC (varR 0) nilC)) nilC)) (gTR (gsCR (gNR 2) (gsCR (gNR 3) gsNR)) 2) yesT (binC mulR (varR 3) (callC g_choose (consC (binC addR (varR 1) (varR 2)) (consC (varR 0) nilC)))) [2, 3]) nilC)))
def g_worpitzky : SemF := pureFR (mkR 2 2 r_worpitzky)
def t_worpitzky_ : XS E4 := (retP (appP sumR (consP (lcP (enuP (consP (callP h_eulerian (consP V4_0 nilP)) nilP)) (gTP (gsCP S4_2 (gsCP S4_3 gsNP)) 2) yesP (binP mulR V4_3 (callP h_choose (consP (binP addR V4_1 V4_2) (consP V4_0 nilP)))) (wpC S4_2 (wpC S4_3 wpN))) nilP)))
theorem z_worpitzky : RS (enF eF4) 4 r_worpitzky t_worpitzky_ := by delta r_worpitzky t_worpitzky_; exact (q_ret (q_app (q_cons (q_lc (q_enu (q_cons (q_call H_eulerian (q_cons qV4_0 q_nil)) q_nil)) (q_gT (q_gsC qS4_2 (q_gsC qS4_3 q_gsN))) q_yes (q_bin qV4_3 (q_call H_choose (q_cons (q_bin qV4_1 qV4_2) (q_cons qV4_0 q_nil)))) (q_wpC qS4_2 (q_wpC qS4_3 q_wpN))) q_nil)))
def h_worpitzky : SemF := pureFR (mkP cv2_4 t_worpitzky_)
theorem H_worpitzky : g_worpitzky = h_worpitzky := by delta g_worpitzky h_worpitzky; rw [q_mk (e := enF eF4) rfl cvh2_4 cvd2_4 z_worpitzky]
theorem q_worpitzky : b_worpitzky = r_worpitzky := by delta b_worpitzky r_worpitzky; rw [sumF_R, lcC_R, enuI_R, varC_R, gTp_R, gsC_R, gNm_R, gsN_R, mulD_R, addD_R, G_eulerian, G_choose]
def p_worpitzky : SemF := pureF f_worpitzky
theorem G_worpitzky : p_worpitzky = g_worpitzky := by delta p_worpitzky f_worpitzky g_worpitzky; rw [pureF_R, mkF_R, q_worpitzky]
theorem s_worpitzky : FnScope ["size", "place", "index", "number"] ["size", "place"] (defScope (st 27)) := ⟨rfl, rfl, rfl, by decide +kernel, rfl, by decide +kernel, by decide +kernel⟩
theorem t_worpitzky : trB c_worpitzky_ (defBody (st 27)) = some b_worpitzky := by kernel_rfl
def tb : Nat → Option SemF := fun j => match j with | 0 => some p_check | 1 => some p_from_code | 2 => some p_from_records | 3 => some p_foata | _ => none
def tbR : Nat → Option SemF := fun j => match j with | 0 => some g_check | 1 => some g_from_code | 2 => some g_from_records | 3 => some g_foata | _ => none
def tbH : Nat → Option SemF := fun j => match j with | 0 => some h_check | 1 => some h_from_code | 2 => some h_from_records | 3 => some h_foata | _ => none
theorem tbR_H : tbR = tbH := by funext j; unfold tbR tbH; rw [H_check, H_from_code, H_from_records, H_foata]
theorem tb_R : tb = tbR := by funext j; unfold tb tbR; rw [G_check, G_from_code, G_from_records, G_foata]
/- law -/
def c_law_ : Cfg := ⟨["script", "tape", "size", "rows", "row", "image", "rings", "flat", "ring", "numbers", "parts", "k", "longer", "places", "x", "power", "found", "act", "thing"], (defScope (st 41)).names, true, 7, [("_law_count", p__law_count), ("_law_des", p__law_des), ("_law_foata", p__law_foata), ("_law_inv", p__law_inv), ("_law_perms", p__law_perms), ("_law_rec", p__law_rec), ("_law_rings", p__law_rings), ("_law_same", p__law_same__3), ("_law_take", takeF), ("_law_tape", tapeF), ("all_rows", p_all_rows), ("alternating_count", p_alternating_count), ("code", p_code), ("cycles", p_cycles), ("descent_set_count", p_descent_set_count), ("descents", p_descents), ("eulerian", p_eulerian), ("excedances", p_excedances), ("foata", p_foata), ("foata_back", p_foata_back), ("from_code", p_from_code), ("from_records", p_from_records), ("inversions", p_inversions), ("mahonian", p_mahonian), ("major", p_major), ("records", p_records), ("stirling_cycles", p_stirling_cycles), ("stirling_parts", p_stirling_parts), ("to_records", p_to_records), ("worpitzky", p_worpitzky)], [("check", .fn 0), ("foata", .fn 3), ("from_code", .fn 1), ("from_records", .fn 2)], [], [("NoShape", hit_NoShape)], tb⟩
theorem s_law : FnScope ["script", "tape", "size", "rows", "row", "image", "rings", "flat", "ring", "numbers", "parts", "k", "longer", "places", "x", "power", "found", "act", "thing"] ["script"] (defScope (st 41)) := ⟨rfl, rfl, rfl, by decide +kernel, rfl, by decide +kernel, by decide +kernel⟩
abbrev E19 : Type := (D → D → D → D → D → D → D → D → D → D → D → D → D → D → D → D → D → D → D → Bool) → Bool
def eF19 (g : Nat → D) : E19 := fun f => f (g 0) (g 1) (g 2) (g 3) (g 4) (g 5) (g 6) (g 7) (g 8) (g 9) (g 10) (g 11) (g 12) (g 13) (g 14) (g 15) (g 16) (g 17) (g 18)
def V19_0 : XE E19 := fun ρ m k _ => ρ fun v0 _ _ _ _ _ _ _ _ _ _ _ _ _ _ _ _ _ _ => unR v0 (k v0 m)
theorem qV19_0 : RE (enF eF19) 19 (varR 0) V19_0 := sl_var (by decide) fun _ _ _ _ => rfl
def V19_1 : XE E19 := fun ρ m k _ => ρ fun _ v1 _ _ _ _ _ _ _ _ _ _ _ _ _ _ _ _ _ => unR v1 (k v1 m)
theorem qV19_1 : RE (enF eF19) 19 (varR 1) V19_1 := sl_var (by decide) fun _ _ _ _ => rfl
def V19_2 : XE E19 := fun ρ m k _ => ρ fun _ _ v2 _ _ _ _ _ _ _ _ _ _ _ _ _ _ _ _ => unR v2 (k v2 m)
theorem qV19_2 : RE (enF eF19) 19 (varR 2) V19_2 := sl_var (by decide) fun _ _ _ _ => rfl
def V19_3 : XE E19 := fun ρ m k _ => ρ fun _ _ _ v3 _ _ _ _ _ _ _ _ _ _ _ _ _ _ _ => unR v3 (k v3 m)
theorem qV19_3 : RE (enF eF19) 19 (varR 3) V19_3 := sl_var (by decide) fun _ _ _ _ => rfl
def V19_4 : XE E19 := fun ρ m k _ => ρ fun _ _ _ _ v4 _ _ _ _ _ _ _ _ _ _ _ _ _ _ => unR v4 (k v4 m)
theorem qV19_4 : RE (enF eF19) 19 (varR 4) V19_4 := sl_var (by decide) fun _ _ _ _ => rfl
def V19_5 : XE E19 := fun ρ m k _ => ρ fun _ _ _ _ _ v5 _ _ _ _ _ _ _ _ _ _ _ _ _ => unR v5 (k v5 m)
theorem qV19_5 : RE (enF eF19) 19 (varR 5) V19_5 := sl_var (by decide) fun _ _ _ _ => rfl
def V19_6 : XE E19 := fun ρ m k _ => ρ fun _ _ _ _ _ _ v6 _ _ _ _ _ _ _ _ _ _ _ _ => unR v6 (k v6 m)
theorem qV19_6 : RE (enF eF19) 19 (varR 6) V19_6 := sl_var (by decide) fun _ _ _ _ => rfl
def V19_7 : XE E19 := fun ρ m k _ => ρ fun _ _ _ _ _ _ _ v7 _ _ _ _ _ _ _ _ _ _ _ => unR v7 (k v7 m)
theorem qV19_7 : RE (enF eF19) 19 (varR 7) V19_7 := sl_var (by decide) fun _ _ _ _ => rfl
def V19_8 : XE E19 := fun ρ m k _ => ρ fun _ _ _ _ _ _ _ _ v8 _ _ _ _ _ _ _ _ _ _ => unR v8 (k v8 m)
theorem qV19_8 : RE (enF eF19) 19 (varR 8) V19_8 := sl_var (by decide) fun _ _ _ _ => rfl
def V19_9 : XE E19 := fun ρ m k _ => ρ fun _ _ _ _ _ _ _ _ _ v9 _ _ _ _ _ _ _ _ _ => unR v9 (k v9 m)
theorem qV19_9 : RE (enF eF19) 19 (varR 9) V19_9 := sl_var (by decide) fun _ _ _ _ => rfl
def V19_10 : XE E19 := fun ρ m k _ => ρ fun _ _ _ _ _ _ _ _ _ _ v10 _ _ _ _ _ _ _ _ => unR v10 (k v10 m)
theorem qV19_10 : RE (enF eF19) 19 (varR 10) V19_10 := sl_var (by decide) fun _ _ _ _ => rfl
def V19_11 : XE E19 := fun ρ m k _ => ρ fun _ _ _ _ _ _ _ _ _ _ _ v11 _ _ _ _ _ _ _ => unR v11 (k v11 m)
theorem qV19_11 : RE (enF eF19) 19 (varR 11) V19_11 := sl_var (by decide) fun _ _ _ _ => rfl
def V19_12 : XE E19 := fun ρ m k _ => ρ fun _ _ _ _ _ _ _ _ _ _ _ _ v12 _ _ _ _ _ _ => unR v12 (k v12 m)
theorem qV19_12 : RE (enF eF19) 19 (varR 12) V19_12 := sl_var (by decide) fun _ _ _ _ => rfl
def V19_13 : XE E19 := fun ρ m k _ => ρ fun _ _ _ _ _ _ _ _ _ _ _ _ _ v13 _ _ _ _ _ => unR v13 (k v13 m)
theorem qV19_13 : RE (enF eF19) 19 (varR 13) V19_13 := sl_var (by decide) fun _ _ _ _ => rfl
def V19_14 : XE E19 := fun ρ m k _ => ρ fun _ _ _ _ _ _ _ _ _ _ _ _ _ _ v14 _ _ _ _ => unR v14 (k v14 m)
theorem qV19_14 : RE (enF eF19) 19 (varR 14) V19_14 := sl_var (by decide) fun _ _ _ _ => rfl
def V19_15 : XE E19 := fun ρ m k _ => ρ fun _ _ _ _ _ _ _ _ _ _ _ _ _ _ _ v15 _ _ _ => unR v15 (k v15 m)
theorem qV19_15 : RE (enF eF19) 19 (varR 15) V19_15 := sl_var (by decide) fun _ _ _ _ => rfl
def V19_16 : XE E19 := fun ρ m k _ => ρ fun _ _ _ _ _ _ _ _ _ _ _ _ _ _ _ _ v16 _ _ => unR v16 (k v16 m)
theorem qV19_16 : RE (enF eF19) 19 (varR 16) V19_16 := sl_var (by decide) fun _ _ _ _ => rfl
def V19_18 : XE E19 := fun ρ m k _ => ρ fun _ _ _ _ _ _ _ _ _ _ _ _ _ _ _ _ _ _ v18 => unR v18 (k v18 m)
theorem qV19_18 : RE (enF eF19) 19 (varR 18) V19_18 := sl_var (by decide) fun _ _ _ _ => rfl
def S19_1 : XG E19 := fun d ρ _ k => ρ fun v0 _ v2 v3 v4 v5 v6 v7 v8 v9 v10 v11 v12 v13 v14 v15 v16 v17 v18 => k fun f => f v0 d v2 v3 v4 v5 v6 v7 v8 v9 v10 v11 v12 v13 v14 v15 v16 v17 v18
theorem qS19_1 : RG (enF eF19) 19 (gNR 1) S19_1 := sl_set (by decide) fun _ _ _ _ => rfl
def S19_2 : XG E19 := fun d ρ _ k => ρ fun v0 v1 _ v3 v4 v5 v6 v7 v8 v9 v10 v11 v12 v13 v14 v15 v16 v17 v18 => k fun f => f v0 v1 d v3 v4 v5 v6 v7 v8 v9 v10 v11 v12 v13 v14 v15 v16 v17 v18
theorem qS19_2 : RG (enF eF19) 19 (gNR 2) S19_2 := sl_set (by decide) fun _ _ _ _ => rfl
def S19_3 : XG E19 := fun d ρ _ k => ρ fun v0 v1 v2 _ v4 v5 v6 v7 v8 v9 v10 v11 v12 v13 v14 v15 v16 v17 v18 => k fun f => f v0 v1 v2 d v4 v5 v6 v7 v8 v9 v10 v11 v12 v13 v14 v15 v16 v17 v18
theorem qS19_3 : RG (enF eF19) 19 (gNR 3) S19_3 := sl_set (by decide) fun _ _ _ _ => rfl
def S19_4 : XG E19 := fun d ρ _ k => ρ fun v0 v1 v2 v3 _ v5 v6 v7 v8 v9 v10 v11 v12 v13 v14 v15 v16 v17 v18 => k fun f => f v0 v1 v2 v3 d v5 v6 v7 v8 v9 v10 v11 v12 v13 v14 v15 v16 v17 v18
theorem qS19_4 : RG (enF eF19) 19 (gNR 4) S19_4 := sl_set (by decide) fun _ _ _ _ => rfl
def S19_5 : XG E19 := fun d ρ _ k => ρ fun v0 v1 v2 v3 v4 _ v6 v7 v8 v9 v10 v11 v12 v13 v14 v15 v16 v17 v18 => k fun f => f v0 v1 v2 v3 v4 d v6 v7 v8 v9 v10 v11 v12 v13 v14 v15 v16 v17 v18
theorem qS19_5 : RG (enF eF19) 19 (gNR 5) S19_5 := sl_set (by decide) fun _ _ _ _ => rfl
def S19_6 : XG E19 := fun d ρ _ k => ρ fun v0 v1 v2 v3 v4 v5 _ v7 v8 v9 v10 v11 v12 v13 v14 v15 v16 v17 v18 => k fun f => f v0 v1 v2 v3 v4 v5 d v7 v8 v9 v10 v11 v12 v13 v14 v15 v16 v17 v18
theorem qS19_6 : RG (enF eF19) 19 (gNR 6) S19_6 := sl_set (by decide) fun _ _ _ _ => rfl
def S19_7 : XG E19 := fun d ρ _ k => ρ fun v0 v1 v2 v3 v4 v5 v6 _ v8 v9 v10 v11 v12 v13 v14 v15 v16 v17 v18 => k fun f => f v0 v1 v2 v3 v4 v5 v6 d v8 v9 v10 v11 v12 v13 v14 v15 v16 v17 v18
theorem qS19_7 : RG (enF eF19) 19 (gNR 7) S19_7 := sl_set (by decide) fun _ _ _ _ => rfl
def S19_8 : XG E19 := fun d ρ _ k => ρ fun v0 v1 v2 v3 v4 v5 v6 v7 _ v9 v10 v11 v12 v13 v14 v15 v16 v17 v18 => k fun f => f v0 v1 v2 v3 v4 v5 v6 v7 d v9 v10 v11 v12 v13 v14 v15 v16 v17 v18
theorem qS19_8 : RG (enF eF19) 19 (gNR 8) S19_8 := sl_set (by decide) fun _ _ _ _ => rfl
def S19_9 : XG E19 := fun d ρ _ k => ρ fun v0 v1 v2 v3 v4 v5 v6 v7 v8 _ v10 v11 v12 v13 v14 v15 v16 v17 v18 => k fun f => f v0 v1 v2 v3 v4 v5 v6 v7 v8 d v10 v11 v12 v13 v14 v15 v16 v17 v18
theorem qS19_9 : RG (enF eF19) 19 (gNR 9) S19_9 := sl_set (by decide) fun _ _ _ _ => rfl
def S19_10 : XG E19 := fun d ρ _ k => ρ fun v0 v1 v2 v3 v4 v5 v6 v7 v8 v9 _ v11 v12 v13 v14 v15 v16 v17 v18 => k fun f => f v0 v1 v2 v3 v4 v5 v6 v7 v8 v9 d v11 v12 v13 v14 v15 v16 v17 v18
theorem qS19_10 : RG (enF eF19) 19 (gNR 10) S19_10 := sl_set (by decide) fun _ _ _ _ => rfl
def S19_11 : XG E19 := fun d ρ _ k => ρ fun v0 v1 v2 v3 v4 v5 v6 v7 v8 v9 v10 _ v12 v13 v14 v15 v16 v17 v18 => k fun f => f v0 v1 v2 v3 v4 v5 v6 v7 v8 v9 v10 d v12 v13 v14 v15 v16 v17 v18
theorem qS19_11 : RG (enF eF19) 19 (gNR 11) S19_11 := sl_set (by decide) fun _ _ _ _ => rfl
def S19_12 : XG E19 := fun d ρ _ k => ρ fun v0 v1 v2 v3 v4 v5 v6 v7 v8 v9 v10 v11 _ v13 v14 v15 v16 v17 v18 => k fun f => f v0 v1 v2 v3 v4 v5 v6 v7 v8 v9 v10 v11 d v13 v14 v15 v16 v17 v18
theorem qS19_12 : RG (enF eF19) 19 (gNR 12) S19_12 := sl_set (by decide) fun _ _ _ _ => rfl
def S19_13 : XG E19 := fun d ρ _ k => ρ fun v0 v1 v2 v3 v4 v5 v6 v7 v8 v9 v10 v11 v12 _ v14 v15 v16 v17 v18 => k fun f => f v0 v1 v2 v3 v4 v5 v6 v7 v8 v9 v10 v11 v12 d v14 v15 v16 v17 v18
theorem qS19_13 : RG (enF eF19) 19 (gNR 13) S19_13 := sl_set (by decide) fun _ _ _ _ => rfl
def S19_14 : XG E19 := fun d ρ _ k => ρ fun v0 v1 v2 v3 v4 v5 v6 v7 v8 v9 v10 v11 v12 v13 _ v15 v16 v17 v18 => k fun f => f v0 v1 v2 v3 v4 v5 v6 v7 v8 v9 v10 v11 v12 v13 d v15 v16 v17 v18
theorem qS19_14 : RG (enF eF19) 19 (gNR 14) S19_14 := sl_set (by decide) fun _ _ _ _ => rfl
def S19_15 : XG E19 := fun d ρ _ k => ρ fun v0 v1 v2 v3 v4 v5 v6 v7 v8 v9 v10 v11 v12 v13 v14 _ v16 v17 v18 => k fun f => f v0 v1 v2 v3 v4 v5 v6 v7 v8 v9 v10 v11 v12 v13 v14 d v16 v17 v18
theorem qS19_15 : RG (enF eF19) 19 (gNR 15) S19_15 := sl_set (by decide) fun _ _ _ _ => rfl
def S19_16 : XG E19 := fun d ρ _ k => ρ fun v0 v1 v2 v3 v4 v5 v6 v7 v8 v9 v10 v11 v12 v13 v14 v15 _ v17 v18 => k fun f => f v0 v1 v2 v3 v4 v5 v6 v7 v8 v9 v10 v11 v12 v13 v14 v15 d v17 v18
theorem qS19_16 : RG (enF eF19) 19 (gNR 16) S19_16 := sl_set (by decide) fun _ _ _ _ => rfl
def S19_17 : XG E19 := fun d ρ _ k => ρ fun v0 v1 v2 v3 v4 v5 v6 v7 v8 v9 v10 v11 v12 v13 v14 v15 v16 _ v18 => k fun f => f v0 v1 v2 v3 v4 v5 v6 v7 v8 v9 v10 v11 v12 v13 v14 v15 v16 d v18
theorem qS19_17 : RG (enF eF19) 19 (gNR 17) S19_17 := sl_set (by decide) fun _ _ _ _ => rfl
def S19_18 : XG E19 := fun d ρ _ k => ρ fun v0 v1 v2 v3 v4 v5 v6 v7 v8 v9 v10 v11 v12 v13 v14 v15 v16 v17 _ => k fun f => f v0 v1 v2 v3 v4 v5 v6 v7 v8 v9 v10 v11 v12 v13 v14 v15 v16 v17 d
theorem qS19_18 : RG (enF eF19) 19 (gNR 18) S19_18 := sl_set (by decide) fun _ _ _ _ => rfl
def G19_17 : E19 → (D → Bool) → Bool := fun ρ k => ρ fun _ _ _ _ _ _ _ _ _ _ _ _ _ _ _ _ _ v17 _ => k v17
theorem qG19_17 : RGt (enF eF19) 19 17 G19_17 := sl_get (by decide) fun _ _ => rfl
def ls19 : E19 → (Ev.Env → Bool) → Bool := fun a k => a fun v0 v1 v2 v3 v4 v5 v6 v7 v8 v9 v10 v11 v12 v13 v14 v15 v16 v17 v18 => k [v0, v1, v2, v3, v4, v5, v6, v7, v8, v9, v10, v11, v12, v13, v14, v15, v16, v17, v18]
def sl_0 : List Stmt := defBody (st 41)
def sl_4 : List Stmt := List.drop 4 (defBody (st 41))
def bs_4_20 : SemS := (seqC (ifS (orT (blT (binC neD (appC sortedF (consC (lcC (seqI (varC 3)) (gNm 4) yesT (callC p_foata (consC (varC 4) nilC)) [4]) nilC)) (varC 3))) (blT (binC neD (appC sortedF (consC (lcC (seqI (varC 3)) (gNm 4) yesT (callC p_to_records (consC (varC 4) nilC)) [4]) nilC)) (varC 3)))) (retC (litC (.bl false))) passC)
  (seqC (forC (seqI (slsC (varC 3) noP noP (someP (ifC (blT (binC ltD (varC 2) (litC (.int 5)))) (litC (.int 1)) (litC (.int 7)))))) (gNm 4) (seqC (ifS (orT (blT (binC neD (callC p_inversions (consC (varC 4) nilC)) (callC p__law_inv (consC (varC 4) nilC)))) (orT (blT (binC neD (callC p_descents (consC (varC 4) nilC)) (callC p__law_des (consC (varC 4) nilC)))) (blT (binC neD (callC p_major (consC (varC 4) nilC)) (appC sumF (consC (callC p__law_des (consC (varC 4) nilC)) nilC)))))) (retC (litC (.bl false))) passC)
  (seqC (ifS (orT (blT (binC neD (callC p_records (consC (varC 4) nilC)) (callC p__law_rec (consC (varC 4) nilC)))) (blT (binC neD (callC p_excedances (consC (varC 4) nilC)) (appC lenF (consC (lcC (rng1I (consC (varC 2) nilC)) (gNm 11) (blT (binC gtD (binC ixD (varC 4) (varC 11)) (varC 11))) (varC 11) [11]) nilC))))) (retC (litC (.bl false))) passC)
  (seqC (par2C 5 6 (consC (callC p_foata (consC (varC 4) nilC)) (consC (callC p__law_rings (consC (varC 4) nilC)) nilC)))
  (seqC (ifS (orT (blT (binC neD (varC 5) (callC p__law_foata (consC (varC 4) nilC)))) (orT (blT (binC neD (callC p__law_inv (consC (varC 5) nilC)) (callC p_major (consC (varC 4) nilC)))) (orT (blT (binC neD (callC p_foata_back (consC (varC 5) nilC)) (varC 4))) (blT (binC neD (slC (varC 5) (someP (unC negD (litC (.int 1)))) noP) (slC (varC 4) (someP (unC negD (litC (.int 1)))) noP)))))) (retC (litC (.bl false))) passC)
  (seqC (setC (gNm 7) (tupC nilC))
  (seqC (forC (seqI (varC 6)) (gNm 8) (setC (gNm 7) (binC addD (varC 7) (varC 8))))
  (seqC (ifS (orT (blT (binC neD (callC p_cycles (consC (varC 4) nilC)) (varC 6))) (orT (blT (binC neD (callC p_to_records (consC (varC 4) nilC)) (varC 7))) (orT (blT (binC neD (callC p_from_records (consC (varC 7) nilC)) (varC 4))) (blT (binC neD (callC p__law_rec (consC (varC 7) nilC)) (appC lenF (consC (varC 6) nilC))))))) (retC (litC (.bl false))) passC)
  (seqC (setC (gNm 9) (appC tupleF (consC (lcC (rng1I (consC (varC 2) nilC)) (gNm 11) yesT (appC lenF (consC (lcC (seqI (slC (varC 4) (someP (binC addD (varC 11) (litC (.int 1)))) noP)) (gNm 14) (blT (binC ltD (varC 14) (binC ixD (varC 4) (varC 11)))) (varC 14) [14]) nilC)) [11]) nilC)))
  (ifS (orT (blT (binC neD (callC p_code (consC (varC 4) nilC)) (varC 9))) (orT (blT (binC neD (callC p_from_code (consC (varC 9) nilC)) (varC 4))) (blT (binC neD (appC sumF (consC (varC 9) nilC)) (callC p__law_inv (consC (varC 4) nilC)))))) (retC (litC (.bl false))) passC))))))))))
  (seqC (ifS (orT (andT (blT (binC gtD (varC 2) (litC (.int 0)))) (blT (binC neD (callC p_eulerian (consC (varC 2) nilC)) (callC p__law_count (consC (lcC (seqI (varC 3)) (gNm 4) yesT (appC lenF (consC (callC p__law_des (consC (varC 4) nilC)) nilC)) [4]) (consC (varC 2) nilC)))))) (andT (blT (binC gtD (varC 2) (litC (.int 0)))) (blT (binC neD (callC p_mahonian (consC (varC 2) nilC)) (callC p__law_count (consC (lcC (seqI (varC 3)) (gNm 4) yesT (callC p__law_inv (consC (varC 4) nilC)) [4]) (consC (binC addD (binC fdivD (binC mulD (varC 2) (binC subD (varC 2) (litC (.int 1)))) (litC (.int 2))) (litC (.int 1))) nilC))))))) (retC (litC (.bl false))) passC)
  (seqC (ifS (blT (binC neD (callC p_stirling_cycles (consC (varC 2) nilC)) (callC p__law_count (consC (lcC (seqI (varC 3)) (gNm 4) yesT (appC lenF (consC (callC p__law_rings (consC (varC 4) nilC)) nilC)) [4]) (consC (binC addD (varC 2) (litC (.int 1))) nilC))))) (retC (litC (.bl false))) passC)
  (seqC (setC (gNm 10) (lstC (consC (tupC nilC) nilC)))
  (seqC (forC (rng1I (consC (varC 2) nilC)) (gNm 11) (seqC (setC (gNm 12) (lstC nilC))
  (seqC (forC (seqI (varC 10)) (gNm 4) (setC (gNm 12) (binC addD (varC 12) (lcC (rng1I (consC (binC addD (appC maxF (consC (binC addD (tupC (consC (unC negD (litC (.int 1))) nilC)) (varC 4)) nilC)) (litC (.int 2))) nilC)) (gNm 14) yesT (binC addD (varC 4) (tupC (consC (varC 14) nilC))) [14]))))
  (setC (gNm 10) (varC 12)))))
  (seqC (ifS (blT (binC neD (callC p_stirling_parts (consC (varC 2) nilC)) (callC p__law_count (consC (lcC (seqI (varC 10)) (gNm 4) yesT (binC addD (appC maxF (consC (binC addD (tupC (consC (unC negD (litC (.int 1))) nilC)) (varC 4)) nilC)) (litC (.int 1))) [4]) (consC (binC addD (varC 2) (litC (.int 1))) nilC))))) (retC (litC (.bl false))) passC)
  (seqC (setC (gNm 13) (appC tupleF (consC (lcC (rng2I (consC (litC (.int 1)) (consC (varC 2) nilC))) (gNm 11) (blT (binC eqD (callC takeF (consC (varC 1) (consC (litC (.int 2)) nilC))) (litC (.int 0)))) (varC 11) [11]) nilC)))
  (seqC (ifS (orT (blT (binC neD (callC p_descent_set_count (consC (varC 2) (consC (varC 13) nilC))) (appC lenF (consC (lcC (seqI (varC 3)) (gNm 4) (blT (binC eqD (callC p__law_des (consC (varC 4) nilC)) (varC 13))) (varC 4) [4]) nilC)))) (blT (binC neD (callC p_alternating_count (consC (varC 2) nilC)) (appC lenF (consC (lcC (seqI (varC 3)) (gNm 4) (blT (binC eqD (callC p__law_des (consC (varC 4) nilC)) (appC tupleF (consC (lcC (rng2I (consC (litC (.int 1)) (consC (varC 2) nilC))) (gNm 11) (blT (binC eqD (binC modD (varC 11) (litC (.int 2))) (litC (.int 0)))) (varC 11) [11]) nilC)))) (varC 4) [4]) nilC))))) (retC (litC (.bl false))) passC)
  (seqC (setC (gNm 14) (callC takeF (consC (varC 1) (consC (litC (.int 5)) nilC))))
  (seqC (setC (gNm 15) (litC (.int 1)))
  (seqC (forC (rng1I (consC (varC 2) nilC)) (gNm 11) (setC (gNm 15) (binC mulD (varC 15) (varC 14))))
  (seqC (ifS (andT (blT (binC gtD (varC 2) (litC (.int 0)))) (blT (binC neD (callC p_worpitzky (consC (varC 2) (consC (varC 14) nilC))) (varC 15)))) (retC (litC (.bl false))) passC)
  (seqC (setC (gNm 16) (litC (.int 0)))
  (seqC (forC (seqI (tupC (consC (tupC (consC (litC (.fn 0)) (consC (tupC (consC (litC (.int 0)) (consC (litC (.int 2)) nilC))) nilC))) (consC (tupC (consC (litC (.fn 0)) (consC (tupC (consC (litC (.int 0)) (consC (litC (.int 0)) nilC))) nilC))) (consC (tupC (consC (litC (.fn 1)) (consC (tupC (consC (litC (.int 2)) (consC (litC (.int 0)) nilC))) nilC))) (consC (tupC (consC (litC (.fn 1)) (consC (tupC (consC (litC (.int 0)) (consC (litC (.int 1)) nilC))) nilC))) (consC (tupC (consC (litC (.fn 2)) (consC (tupC (consC (litC (.int 1)) (consC (litC (.int 1)) nilC))) nilC))) (consC (tupC (consC (litC (.fn 3)) (consC (tupC (consC (litC (.int 3)) nilC)) nilC))) nilC)))))))) (gTp (gsC (gNm 17) (gsC (gNm 18) gsN)) 2) (tryC (exprC (callLC 17 tb (consC (varC 18) nilC))) hit_NoShape (setC (gNm 16) (binC addD (varC 16) (litC (.int 1))))))
  (retC (binC eqD (varC 16) (litC (.int 6)))))))))))))))))))
def rs_4_20 : SemS := (seqC (ifSR (orR (blR (binC neR2 (appC sortedR (consC (lcR2 (seqIR (varR 3)) (gNR 4) yesT (callC g_foata (consC (varR 4) nilC)) [4]) nilC)) (varR 3))) (blR (binC neR2 (appC sortedR (consC (lcR2 (seqIR (varR 3)) (gNR 4) yesT (callC g_to_records (consC (varR 4) nilC)) [4]) nilC)) (varR 3)))) (retC (litC (.bl false))) passC)
  (seqC (forR (seqIR (slsC (varR 3) noP noP (somePR (ifR (blR (binC ltDR (varR 2) (litC (.int 5)))) (litC (.int 1)) (litC (.int 7)))))) (gNR 4) (seqC (ifSR (orR (blR (binC neR2 (callC g_inversions (consC (varR 4) nilC)) (callC g__law_inv (consC (varR 4) nilC)))) (orR (blR (binC neR2 (callC g_descents (consC (varR 4) nilC)) (callC g__law_des (consC (varR 4) nilC)))) (blR (binC neR2 (callC g_major (consC (varR 4) nilC)) (appC sumR (consC (callC g__law_des (consC (varR 4) nilC)) nilC)))))) (retC (litC (.bl false))) passC)
  (seqC (ifSR (orR (blR (binC neR2 (callC g_records (consC (varR 4) nilC)) (callC g__law_rec (consC (varR 4) nilC)))) (blR (binC neR2 (callC g_excedances (consC (varR 4) nilC)) (appC lenFR (consC (lcR2 (rng1R (consC (varR 2) nilC)) (gNR 11) (blR (binC gtR (binC ixR (varR 4) (varR 11)) (varR 11))) (varR 11) [11]) nilC))))) (retC (litC (.bl false))) passC)
  (seqC (par2R 5 6 (consC (callC g_foata (consC (varR 4) nilC)) (consC (callC g__law_rings (consC (varR 4) nilC)) nilC)))
  (seqC (ifSR (orR (blR (binC neR2 (varR 5) (callC g__law_foata (consC (varR 4) nilC)))) (orR (blR (binC neR2 (callC g__law_inv (consC (varR 5) nilC)) (callC g_major (consC (varR 4) nilC)))) (orR (blR (binC neR2 (callC g_foata_back (consC (varR 5) nilC)) (varR 4))) (blR (binC neR2 (slR (varR 5) (somePR (unC negR (litC (.int 1)))) noP) (slR (varR 4) (somePR (unC negR (litC (.int 1)))) noP)))))) (retC (litC (.bl false))) passC)
  (seqC (setC (gNR 7) (tupR nilC))
  (seqC (forR (seqIR (varR 6)) (gNR 8) (setC (gNR 7) (binC addR (varR 7) (varR 8))))
  (seqC (ifSR (orR (blR (binC neR2 (callC g_cycles (consC (varR 4) nilC)) (varR 6))) (orR (blR (binC neR2 (callC g_to_records (consC (varR 4) nilC)) (varR 7))) (orR (blR (binC neR2 (callC g_from_records (consC (varR 7) nilC)) (varR 4))) (blR (binC neR2 (callC g__law_rec (consC (varR 7) nilC)) (appC lenFR (consC (varR 6) nilC))))))) (retC (litC (.bl false))) passC)
  (seqC (setC (gNR 9) (appC tupleR (consC (lcR2 (rng1R (consC (varR 2) nilC)) (gNR 11) yesT (appC lenFR (consC (lcR2 (seqIR (slR (varR 4) (somePR (binC addR (varR 11) (litC (.int 1)))) noP)) (gNR 14) (blR (binC ltDR (varR 14) (binC ixR (varR 4) (varR 11)))) (varR 14) [14]) nilC)) [11]) nilC)))
  (ifSR (orR (blR (binC neR2 (callC g_code (consC (varR 4) nilC)) (varR 9))) (orR (blR (binC neR2 (callC g_from_code (consC (varR 9) nilC)) (varR 4))) (blR (binC neR2 (appC sumR (consC (varR 9) nilC)) (callC g__law_inv (consC (varR 4) nilC)))))) (retC (litC (.bl false))) passC))))))))))
  (seqC (ifSR (orR (andR (blR (binC gtR (varR 2) (litC (.int 0)))) (blR (binC neR2 (callC g_eulerian (consC (varR 2) nilC)) (callC g__law_count (consC (lcR2 (seqIR (varR 3)) (gNR 4) yesT (appC lenFR (consC (callC g__law_des (consC (varR 4) nilC)) nilC)) [4]) (consC (varR 2) nilC)))))) (andR (blR (binC gtR (varR 2) (litC (.int 0)))) (blR (binC neR2 (callC g_mahonian (consC (varR 2) nilC)) (callC g__law_count (consC (lcR2 (seqIR (varR 3)) (gNR 4) yesT (callC g__law_inv (consC (varR 4) nilC)) [4]) (consC (binC addR (binC fdivR (binC mulR (varR 2) (binC subR (varR 2) (litC (.int 1)))) (litC (.int 2))) (litC (.int 1))) nilC))))))) (retC (litC (.bl false))) passC)
  (seqC (ifSR (blR (binC neR2 (callC g_stirling_cycles (consC (varR 2) nilC)) (callC g__law_count (consC (lcR2 (seqIR (varR 3)) (gNR 4) yesT (appC lenFR (consC (callC g__law_rings (consC (varR 4) nilC)) nilC)) [4]) (consC (binC addR (varR 2) (litC (.int 1))) nilC))))) (retC (litC (.bl false))) passC)
  (seqC (setC (gNR 10) (lstR (consC (tupR nilC) nilC)))
  (seqC (forR (rng1R (consC (varR 2) nilC)) (gNR 11) (seqC (setC (gNR 12) (lstR nilC))
  (seqC (forR (seqIR (varR 10)) (gNR 4) (setC (gNR 12) (binC addR (varR 12) (lcR2 (rng1R (consC (binC addR (appC maxR (consC (binC addR (tupR (consC (unC negR (litC (.int 1))) nilC)) (varR 4)) nilC)) (litC (.int 2))) nilC)) (gNR 14) yesT (binC addR (varR 4) (tupR (consC (varR 14) nilC))) [14]))))
  (setC (gNR 10) (varR 12)))))
  (seqC (ifSR (blR (binC neR2 (callC g_stirling_parts (consC (varR 2) nilC)) (callC g__law_count (consC (lcR2 (seqIR (varR 10)) (gNR 4) yesT (binC addR (appC maxR (consC (binC addR (tupR (consC (unC negR (litC (.int 1))) nilC)) (varR 4)) nilC)) (litC (.int 1))) [4]) (consC (binC addR (varR 2) (litC (.int 1))) nilC))))) (retC (litC (.bl false))) passC)
  (seqC (setC (gNR 13) (appC tupleR (consC (lcR2 (rng2R (consC (litC (.int 1)) (consC (varR 2) nilC))) (gNR 11) (blR (binC eqR (callC takeR (consC (varR 1) (consC (litC (.int 2)) nilC))) (litC (.int 0)))) (varR 11) [11]) nilC)))
  (seqC (ifSR (orR (blR (binC neR2 (callC g_descent_set_count (consC (varR 2) (consC (varR 13) nilC))) (appC lenFR (consC (lcR2 (seqIR (varR 3)) (gNR 4) (blR (binC eqR (callC g__law_des (consC (varR 4) nilC)) (varR 13))) (varR 4) [4]) nilC)))) (blR (binC neR2 (callC g_alternating_count (consC (varR 2) nilC)) (appC lenFR (consC (lcR2 (seqIR (varR 3)) (gNR 4) (blR (binC eqR (callC g__law_des (consC (varR 4) nilC)) (appC tupleR (consC (lcR2 (rng2R (consC (litC (.int 1)) (consC (varR 2) nilC))) (gNR 11) (blR (binC eqR (binC modR (varR 11) (litC (.int 2))) (litC (.int 0)))) (varR 11) [11]) nilC)))) (varR 4) [4]) nilC))))) (retC (litC (.bl false))) passC)
  (seqC (setC (gNR 14) (callC takeR (consC (varR 1) (consC (litC (.int 5)) nilC))))
  (seqC (setC (gNR 15) (litC (.int 1)))
  (seqC (forR (rng1R (consC (varR 2) nilC)) (gNR 11) (setC (gNR 15) (binC mulR (varR 15) (varR 14))))
  (seqC (ifSR (andR (blR (binC gtR (varR 2) (litC (.int 0)))) (blR (binC neR2 (callC g_worpitzky (consC (varR 2) (consC (varR 14) nilC))) (varR 15)))) (retC (litC (.bl false))) passC)
  (seqC (setC (gNR 16) (litC (.int 0)))
  (seqC (forR (seqIR (tupR (consC (tupR (consC (litC (.fn 0)) (consC (tupR (consC (litC (.int 0)) (consC (litC (.int 2)) nilC))) nilC))) (consC (tupR (consC (litC (.fn 0)) (consC (tupR (consC (litC (.int 0)) (consC (litC (.int 0)) nilC))) nilC))) (consC (tupR (consC (litC (.fn 1)) (consC (tupR (consC (litC (.int 2)) (consC (litC (.int 0)) nilC))) nilC))) (consC (tupR (consC (litC (.fn 1)) (consC (tupR (consC (litC (.int 0)) (consC (litC (.int 1)) nilC))) nilC))) (consC (tupR (consC (litC (.fn 2)) (consC (tupR (consC (litC (.int 1)) (consC (litC (.int 1)) nilC))) nilC))) (consC (tupR (consC (litC (.fn 3)) (consC (tupR (consC (litC (.int 3)) nilC)) nilC))) nilC)))))))) (gTR (gsCR (gNR 17) (gsCR (gNR 18) gsNR)) 2) (tryC (exprC (callLC 17 tbR (consC (varR 18) nilC))) hit_NoShape (setC (gNR 16) (binC addR (varR 16) (litC (.int 1))))))
  (retC (binC eqR (varR 16) (litC (.int 6)))))))))))))))))))
def ts_4_20 : XS E19 := (seqP (ifSP (orP (blP (binP neR2 (appP sortedR (consP (lcP (seqIP V19_3) S19_4 yesP (callP h_foata (consP V19_4 nilP)) (wpC S19_4 wpN)) nilP)) V19_3)) (blP (binP neR2 (appP sortedR (consP (lcP (seqIP V19_3) S19_4 yesP (callP h_to_records (consP V19_4 nilP)) (wpC S19_4 wpN)) nilP)) V19_3))) (retP (litP (.bl false))) passP) (seqP (forP (seqIP (slsP V19_3 noPP noPP (someQ (ifP (blP (binP ltDR V19_2 (litP (.int 5)))) (litP (.int 1)) (litP (.int 7)))))) S19_4 (seqP (ifSP (orP (blP (binP neR2 (callP h_inversions (consP V19_4 nilP)) (callP h__law_inv (consP V19_4 nilP)))) (orP (blP (binP neR2 (callP h_descents (consP V19_4 nilP)) (callP h__law_des (consP V19_4 nilP)))) (blP (binP neR2 (callP h_major (consP V19_4 nilP)) (appP sumR (consP (callP h__law_des (consP V19_4 nilP)) nilP)))))) (retP (litP (.bl false))) passP) (seqP (ifSP (orP (blP (binP neR2 (callP h_records (consP V19_4 nilP)) (callP h__law_rec (consP V19_4 nilP)))) (blP (binP neR2 (callP h_excedances (consP V19_4 nilP)) (appP lenFR (consP (lcP (rng1P (consP V19_2 nilP)) S19_11 (blP (binP gtR (binP ixR V19_4 V19_11) V19_11)) V19_11 (wpC S19_11 wpN)) nilP))))) (retP (litP (.bl false))) passP) (seqP (par2P S19_5 S19_6 (consP (callP h_foata (consP V19_4 nilP)) (consP (callP h__law_rings (consP V19_4 nilP)) nilP))) (seqP (ifSP (orP (blP (binP neR2 V19_5 (callP h__law_foata (consP V19_4 nilP)))) (orP (blP (binP neR2 (callP h__law_inv (consP V19_5 nilP)) (callP h_major (consP V19_4 nilP)))) (orP (blP (binP neR2 (callP h_foata_back (consP V19_5 nilP)) V19_4)) (blP (binP neR2 (slP V19_5 (someQ (unP negR (litP (.int 1)))) noPP) (slP V19_4 (someQ (unP negR (litP (.int 1)))) noPP)))))) (retP (litP (.bl false))) passP) (seqP (setP S19_7 (tupP nilP)) (seqP (forP (seqIP V19_6) S19_8 (setP S19_7 (binP addR V19_7 V19_8))) (seqP (ifSP (orP (blP (binP neR2 (callP h_cycles (consP V19_4 nilP)) V19_6)) (orP (blP (binP neR2 (callP h_to_records (consP V19_4 nilP)) V19_7)) (orP (blP (binP neR2 (callP h_from_records (consP V19_7 nilP)) V19_4)) (blP (binP neR2 (callP h__law_rec (consP V19_7 nilP)) (appP lenFR (consP V19_6 nilP))))))) (retP (litP (.bl false))) passP) (seqP (setP S19_9 (appP tupleR (consP (lcP (rng1P (consP V19_2 nilP)) S19_11 yesP (appP lenFR (consP (lcP (seqIP (slP V19_4 (someQ (binP addR V19_11 (litP (.int 1)))) noPP)) S19_14 (blP (binP ltDR V19_14 (binP ixR V19_4 V19_11))) V19_14 (wpC S19_14 wpN)) nilP)) (wpC S19_11 wpN)) nilP))) (ifSP (orP (blP (binP neR2 (callP h_code (consP V19_4 nilP)) V19_9)) (orP (blP (binP neR2 (callP h_from_code (consP V19_9 nilP)) V19_4)) (blP (binP neR2 (appP sumR (consP V19_9 nilP)) (callP h__law_inv (consP V19_4 nilP)))))) (retP (litP (.bl false))) passP)))))))))) (seqP (ifSP (orP (andP (blP (binP gtR V19_2 (litP (.int 0)))) (blP (binP neR2 (callP h_eulerian (consP V19_2 nilP)) (callP h__law_count (consP (lcP (seqIP V19_3) S19_4 yesP (appP lenFR (consP (callP h__law_des (consP V19_4 nilP)) nilP)) (wpC S19_4 wpN)) (consP V19_2 nilP)))))) (andP (blP (binP gtR V19_2 (litP (.int 0)))) (blP (binP neR2 (callP h_mahonian (consP V19_2 nilP)) (callP h__law_count (consP (lcP (seqIP V19_3) S19_4 yesP (callP h__law_inv (consP V19_4 nilP)) (wpC S19_4 wpN)) (consP (binP addR (binP fdivR (binP mulR V19_2 (binP subR V19_2 (litP (.int 1)))) (litP (.int 2))) (litP (.int 1))) nilP))))))) (retP (litP (.bl false))) passP) (seqP (ifSP (blP (binP neR2 (callP h_stirling_cycles (consP V19_2 nilP)) (callP h__law_count (consP (lcP (seqIP V19_3) S19_4 yesP (appP lenFR (consP (callP h__law_rings (consP V19_4 nilP)) nilP)) (wpC S19_4 wpN)) (consP (binP addR V19_2 (litP (.int 1))) nilP))))) (retP (litP (.bl false))) passP) (seqP (setP S19_10 (lstP (consP (tupP nilP) nilP))) (seqP (forP (rng1P (consP V19_2 nilP)) S19_11 (seqP (setP S19_12 (lstP nilP)) (seqP (forP (seqIP V19_10) S19_4 (setP S19_12 (binP addR V19_12 (lcP (rng1P (consP (binP addR (appP maxR (consP (binP addR (tupP (consP (unP negR (litP (.int 1))) nilP)) V19_4) nilP)) (litP (.int 2))) nilP)) S19_14 yesP (binP addR V19_4 (tupP (consP V19_14 nilP))) (wpC S19_14 wpN))))) (setP S19_10 V19_12)))) (seqP (ifSP (blP (binP neR2 (callP h_stirling_parts (consP V19_2 nilP)) (callP h__law_count (consP (lcP (seqIP V19_10) S19_4 yesP (binP addR (appP maxR (consP (binP addR (tupP (consP (unP negR (litP (.int 1))) nilP)) V19_4) nilP)) (litP (.int 1))) (wpC S19_4 wpN)) (consP (binP addR V19_2 (litP (.int 1))) nilP))))) (retP (litP (.bl false))) passP) (seqP (setP S19_13 (appP tupleR (consP (lcP (rng2P (consP (litP (.int 1)) (consP V19_2 nilP))) S19_11 (blP (binP eqR (callP takeR (consP V19_1 (consP (litP (.int 2)) nilP))) (litP (.int 0)))) V19_11 (wpC S19_11 wpN)) nilP))) (seqP (ifSP (orP (blP (binP neR2 (callP h_descent_set_count (consP V19_2 (consP V19_13 nilP))) (appP lenFR (consP (lcP (seqIP V19_3) S19_4 (blP (binP eqR (callP h__law_des (consP V19_4 nilP)) V19_13)) V19_4 (wpC S19_4 wpN)) nilP)))) (blP (binP neR2 (callP h_alternating_count (consP V19_2 nilP)) (appP lenFR (consP (lcP (seqIP V19_3) S19_4 (blP (binP eqR (callP h__law_des (consP V19_4 nilP)) (appP tupleR (consP (lcP (rng2P (consP (litP (.int 1)) (consP V19_2 nilP))) S19_11 (blP (binP eqR (binP modR V19_11 (litP (.int 2))) (litP (.int 0)))) V19_11 (wpC S19_11 wpN)) nilP)))) V19_4 (wpC S19_4 wpN)) nilP))))) (retP (litP (.bl false))) passP) (seqP (setP S19_14 (callP takeR (consP V19_1 (consP (litP (.int 5)) nilP)))) (seqP (setP S19_15 (litP (.int 1))) (seqP (forP (rng1P (consP V19_2 nilP)) S19_11 (setP S19_15 (binP mulR V19_15 V19_14))) (seqP (ifSP (andP (blP (binP gtR V19_2 (litP (.int 0)))) (blP (binP neR2 (callP h_worpitzky (consP V19_2 (consP V19_14 nilP))) V19_15))) (retP (litP (.bl false))) passP) (seqP (setP S19_16 (litP (.int 0))) (seqP (forP (seqIP (tupP (consP (tupP (consP (litP (.fn 0)) (consP (tupP (consP (litP (.int 0)) (consP (litP (.int 2)) nilP))) nilP))) (consP (tupP (consP (litP (.fn 0)) (consP (tupP (consP (litP (.int 0)) (consP (litP (.int 0)) nilP))) nilP))) (consP (tupP (consP (litP (.fn 1)) (consP (tupP (consP (litP (.int 2)) (consP (litP (.int 0)) nilP))) nilP))) (consP (tupP (consP (litP (.fn 1)) (consP (tupP (consP (litP (.int 0)) (consP (litP (.int 1)) nilP))) nilP))) (consP (tupP (consP (litP (.fn 2)) (consP (tupP (consP (litP (.int 1)) (consP (litP (.int 1)) nilP))) nilP))) (consP (tupP (consP (litP (.fn 3)) (consP (tupP (consP (litP (.int 3)) nilP)) nilP))) nilP)))))))) (gTP (gsCP S19_17 (gsCP S19_18 gsNP)) 2) (tryP (exprP (callLP G19_17 tbH (consP V19_18 nilP))) hit_NoShape (setP S19_16 (binP addR V19_16 (litP (.int 1)))))) (retP (binP eqR V19_16 (litP (.int 6)))))))))))))))))))
theorem qs_4_20 : bs_4_20 = rs_4_20 := by delta bs_4_20 rs_4_20; rw [ifS_R, orT_R, blT_R, neD_R, sortedF_R, lcC_R, seqI_R, varC_R, gNm_R, forC_R, someP_R, ifC_R, ltD_R, sumF_R, lenF_R, rng1I_R, gtD_R, ixD_R, par2C_R, slC_R, negD_R, tupC_R, addD_R, tupleF_R, andT_R, fdivD_R, mulD_R, subD_R, lstC_R, maxF_R, rng2I_R, eqD_R, takeF_R, modD_R, gTp_R, gsC_R, gsN_R, G_foata, G_to_records, G_inversions, G__law_inv, G_descents, G__law_des, G_major, G_records, G__law_rec, G_excedances, G__law_rings, G__law_foata, G_foata_back, G_cycles, G_from_records, G_code, G_from_code, G_eulerian, G__law_count, G_mahonian, G_stirling_cycles, G_stirling_parts, G_descent_set_count, G_alternating_count, G_worpitzky, tb_R]
theorem zs_4_20 : RS (enF eF19) 19 rs_4_20 ts_4_20 := by delta rs_4_20 ts_4_20; exact (q_seq (q_ifS (q_or (q_bl (q_bin (q_app (q_cons (q_lc (q_seqI qV19_3) qS19_4 q_yes (q_call H_foata (q_cons qV19_4 q_nil)) (q_wpC qS19_4 q_wpN)) q_nil)) qV19_3)) (q_bl (q_bin (q_app (q_cons (q_lc (q_seqI qV19_3) qS19_4 q_yes (q_call H_to_records (q_cons qV19_4 q_nil)) (q_wpC qS19_4 q_wpN)) q_nil)) qV19_3))) (q_ret q_lit) q_pass) (q_seq (q_for (q_seqI (q_sls qV19_3 q_noP q_noP (q_some (q_if (q_bl (q_bin qV19_2 q_lit)) q_lit q_lit)))) qS19_4 (q_seq (q_ifS (q_or (q_bl (q_bin (q_call H_inversions (q_cons qV19_4 q_nil)) (q_call H__law_inv (q_cons qV19_4 q_nil)))) (q_or (q_bl (q_bin (q_call H_descents (q_cons qV19_4 q_nil)) (q_call H__law_des (q_cons qV19_4 q_nil)))) (q_bl (q_bin (q_call H_major (q_cons qV19_4 q_nil)) (q_app (q_cons (q_call H__law_des (q_cons qV19_4 q_nil)) q_nil)))))) (q_ret q_lit) q_pass) (q_seq (q_ifS (q_or (q_bl (q_bin (q_call H_records (q_cons qV19_4 q_nil)) (q_call H__law_rec (q_cons qV19_4 q_nil)))) (q_bl (q_bin (q_call H_excedances (q_cons qV19_4 q_nil)) (q_app (q_cons (q_lc (q_rng1 (q_cons qV19_2 q_nil)) qS19_11 (q_bl (q_bin (q_bin qV19_4 qV19_11) qV19_11)) qV19_11 (q_wpC qS19_11 q_wpN)) q_nil))))) (q_ret q_lit) q_pass) (q_seq (q_par2 qS19_5 qS19_6 (q_cons (q_call H_foata (q_cons qV19_4 q_nil)) (q_cons (q_call H__law_rings (q_cons qV19_4 q_nil)) q_nil))) (q_seq (q_ifS (q_or (q_bl (q_bin qV19_5 (q_call H__law_foata (q_cons qV19_4 q_nil)))) (q_or (q_bl (q_bin (q_call H__law_inv (q_cons qV19_5 q_nil)) (q_call H_major (q_cons qV19_4 q_nil)))) (q_or (q_bl (q_bin (q_call H_foata_back (q_cons qV19_5 q_nil)) qV19_4)) (q_bl (q_bin (q_sl qV19_5 (q_some (q_un q_lit)) q_noP) (q_sl qV19_4 (q_some (q_un q_lit)) q_noP)))))) (q_ret q_lit) q_pass) (q_seq (q_set qS19_7 (q_tup q_nil)) (q_seq (q_for (q_seqI qV19_6) qS19_8 (q_set qS19_7 (q_bin qV19_7 qV19_8))) (q_seq (q_ifS (q_or (q_bl (q_bin (q_call H_cycles (q_cons qV19_4 q_nil)) qV19_6)) (q_or (q_bl (q_bin (q_call H_to_records (q_cons qV19_4 q_nil)) qV19_7)) (q_or (q_bl (q_bin (q_call H_from_records (q_cons qV19_7 q_nil)) qV19_4)) (q_bl (q_bin (q_call H__law_rec (q_cons qV19_7 q_nil)) (q_app (q_cons qV19_6 q_nil))))))) (q_ret q_lit) q_pass) (q_seq (q_set qS19_9 (q_app (q_cons (q_lc (q_rng1 (q_cons qV19_2 q_nil)) qS19_11 q_yes (q_app (q_cons (q_lc (q_seqI (q_sl qV19_4 (q_some (q_bin qV19_11 q_lit)) q_noP)) qS19_14 (q_bl (q_bin qV19_14 (q_bin qV19_4 qV19_11))) qV19_14 (q_wpC qS19_14 q_wpN)) q_nil)) (q_wpC qS19_11 q_wpN)) q_nil))) (q_ifS (q_or (q_bl (q_bin (q_call H_code (q_cons qV19_4 q_nil)) qV19_9)) (q_or (q_bl (q_bin (q_call H_from_code (q_cons qV19_9 q_nil)) qV19_4)) (q_bl (q_bin (q_app (q_cons qV19_9 q_nil)) (q_call H__law_inv (q_cons qV19_4 q_nil)))))) (q_ret q_lit) q_pass)))))))))) (q_seq (q_ifS (q_or (q_and (q_bl (q_bin qV19_2 q_lit)) (q_bl (q_bin (q_call H_eulerian (q_cons qV19_2 q_nil)) (q_call H__law_count (q_cons (q_lc (q_seqI qV19_3) qS19_4 q_yes (q_app (q_cons (q_call H__law_des (q_cons qV19_4 q_nil)) q_nil)) (q_wpC qS19_4 q_wpN)) (q_cons qV19_2 q_nil)))))) (q_and (q_bl (q_bin qV19_2 q_lit)) (q_bl (q_bin (q_call H_mahonian (q_cons qV19_2 q_nil)) (q_call H__law_count (q_cons (q_lc (q_seqI qV19_3) qS19_4 q_yes (q_call H__law_inv (q_cons qV19_4 q_nil)) (q_wpC qS19_4 q_wpN)) (q_cons (q_bin (q_bin (q_bin qV19_2 (q_bin qV19_2 q_lit)) q_lit) q_lit) q_nil))))))) (q_ret q_lit) q_pass) (q_seq (q_ifS (q_bl (q_bin (q_call H_stirling_cycles (q_cons qV19_2 q_nil)) (q_call H__law_count (q_cons (q_lc (q_seqI qV19_3) qS19_4 q_yes (q_app (q_cons (q_call H__law_rings (q_cons qV19_4 q_nil)) q_nil)) (q_wpC qS19_4 q_wpN)) (q_cons (q_bin qV19_2 q_lit) q_nil))))) (q_ret q_lit) q_pass) (q_seq (q_set qS19_10 (q_lst (q_cons (q_tup q_nil) q_nil))) (q_seq (q_for (q_rng1 (q_cons qV19_2 q_nil)) qS19_11 (q_seq (q_set qS19_12 (q_lst q_nil)) (q_seq (q_for (q_seqI qV19_10) qS19_4 (q_set qS19_12 (q_bin qV19_12 (q_lc (q_rng1 (q_cons (q_bin (q_app (q_cons (q_bin (q_tup (q_cons (q_un q_lit) q_nil)) qV19_4) q_nil)) q_lit) q_nil)) qS19_14 q_yes (q_bin qV19_4 (q_tup (q_cons qV19_14 q_nil))) (q_wpC qS19_14 q_wpN))))) (q_set qS19_10 qV19_12)))) (q_seq (q_ifS (q_bl (q_bin (q_call H_stirling_parts (q_cons qV19_2 q_nil)) (q_call H__law_count (q_cons (q_lc (q_seqI qV19_10) qS19_4 q_yes (q_bin (q_app (q_cons (q_bin (q_tup (q_cons (q_un q_lit) q_nil)) qV19_4) q_nil)) q_lit) (q_wpC qS19_4 q_wpN)) (q_cons (q_bin qV19_2 q_lit) q_nil))))) (q_ret q_lit) q_pass) (q_seq (q_set qS19_13 (q_app (q_cons (q_lc (q_rng2 (q_cons q_lit (q_cons qV19_2 q_nil))) qS19_11 (q_bl (q_bin (q_call rfl (q_cons qV19_1 (q_cons q_lit q_nil))) q_lit)) qV19_11 (q_wpC qS19_11 q_wpN)) q_nil))) (q_seq (q_ifS (q_or (q_bl (q_bin (q_call H_descent_set_count (q_cons qV19_2 (q_cons qV19_13 q_nil))) (q_app (q_cons (q_lc (q_seqI qV19_3) qS19_4 (q_bl (q_bin (q_call H__law_des (q_cons qV19_4 q_nil)) qV19_13)) qV19_4 (q_wpC qS19_4 q_wpN)) q_nil)))) (q_bl (q_bin (q_call H_alternating_count (q_cons qV19_2 q_nil)) (q_app (q_cons (q_lc (q_seqI qV19_3) qS19_4 (q_bl (q_bin (q_call H__law_des (q_cons qV19_4 q_nil)) (q_app (q_cons (q_lc (q_rng2 (q_cons q_lit (q_cons qV19_2 q_nil))) qS19_11 (q_bl (q_bin (q_bin qV19_11 q_lit) q_lit)) qV19_11 (q_wpC qS19_11 q_wpN)) q_nil)))) qV19_4 (q_wpC qS19_4 q_wpN)) q_nil))))) (q_ret q_lit) q_pass) (q_seq (q_set qS19_14 (q_call rfl (q_cons qV19_1 (q_cons q_lit q_nil)))) (q_seq (q_set qS19_15 q_lit) (q_seq (q_for (q_rng1 (q_cons qV19_2 q_nil)) qS19_11 (q_set qS19_15 (q_bin qV19_15 qV19_14))) (q_seq (q_ifS (q_and (q_bl (q_bin qV19_2 q_lit)) (q_bl (q_bin (q_call H_worpitzky (q_cons qV19_2 (q_cons qV19_14 q_nil))) qV19_15))) (q_ret q_lit) q_pass) (q_seq (q_set qS19_16 q_lit) (q_seq (q_for (q_seqI (q_tup (q_cons (q_tup (q_cons q_lit (q_cons (q_tup (q_cons q_lit (q_cons q_lit q_nil))) q_nil))) (q_cons (q_tup (q_cons q_lit (q_cons (q_tup (q_cons q_lit (q_cons q_lit q_nil))) q_nil))) (q_cons (q_tup (q_cons q_lit (q_cons (q_tup (q_cons q_lit (q_cons q_lit q_nil))) q_nil))) (q_cons (q_tup (q_cons q_lit (q_cons (q_tup (q_cons q_lit (q_cons q_lit q_nil))) q_nil))) (q_cons (q_tup (q_cons q_lit (q_cons (q_tup (q_cons q_lit (q_cons q_lit q_nil))) q_nil))) (q_cons (q_tup (q_cons q_lit (q_cons (q_tup (q_cons q_lit q_nil)) q_nil))) q_nil)))))))) (q_gT (q_gsC qS19_17 (q_gsC qS19_18 q_gsN))) (q_try (q_expr (q_callL tbR_H qG19_17 (q_cons qV19_18 q_nil))) (q_set qS19_16 (q_bin qV19_16 q_lit)))) (q_ret (q_bin qV19_16 q_lit)))))))))))))))))
theorem th_4_20 : trB c_law_ sl_4 = some bs_4_20 := by kernel_rfl
def sg_0 : Ev.Env := [.und, .ref 1, i0, .frl [(.tup [])], .und, .und, .und, .und, .und, .und, .und, .und, .und, .und, .und, .und, .und, .und, .und]
def a_0 : E19 := fun f => f .und (.ref (nat_lit 1)) i0 (.ref (nat_lit 2)) .und .und .und .und .und .und .und .und .und .und .und .und .und .und .und
def mm_0 : M := ⟨nat_lit 0, nat_lit 3, (.n (some (.hid)) (.n (some (.tape (nat_lit 0))) .e .e) (.n (some (.lst [(.tup [])])) .e .e)), nat_lit 1⟩
theorem ev_0 : ts_4_20 a_0 mm_0 (fun _ _ => false) (fun _ _ => false) (fun _ _ => false) kT (fun _ _ _ => false) = true := by kernel_rfl
theorem tr_0 : bs_4_20 (envG sg_0 (m02 (nat_lit 1))) (memG sg_0 (m02 (nat_lit 1))) (fun _ _ => false) (fun _ _ => false) (fun _ _ => false) kT (fun _ _ _ => false) = true := by rw [qs_4_20]; exact pieceL zs_4_20 (by rfl) (by rfl) (by rfl) ev_0
theorem ch_0 : Chain c_law_ sl_4 (envG sg_0 (m02 (nat_lit 1))) (memG sg_0 (m02 (nat_lit 1))) := .last th_4_20 tr_0
def sg_1 : Ev.Env := [.und, .ref 1, i1, .frl [(.tup [i0])], .und, .und, .und, .und, .und, .und, .und, .und, .und, .und, .und, .und, .und, .und, .und]
def a_1 : E19 := fun f => f .und (.ref (nat_lit 1)) i1 (.ref (nat_lit 2)) .und .und .und .und .und .und .und .und .und .und .und .und .und .und .und
def mm_1 : M := ⟨nat_lit 0, nat_lit 3, (.n (some (.hid)) (.n (some (.tape (nat_lit 0))) .e .e) (.n (some (.lst [(.tup [i0])])) .e .e)), nat_lit 1⟩
theorem ev_1 : ts_4_20 a_1 mm_1 (fun _ _ => false) (fun _ _ => false) (fun _ _ => false) kT (fun _ _ _ => false) = true := by kernel_rfl
theorem tr_1 : bs_4_20 (envG sg_1 (m02 (nat_lit 1))) (memG sg_1 (m02 (nat_lit 1))) (fun _ _ => false) (fun _ _ => false) (fun _ _ => false) kT (fun _ _ _ => false) = true := by rw [qs_4_20]; exact pieceL zs_4_20 (by rfl) (by rfl) (by rfl) ev_1
theorem ch_1 : Chain c_law_ sl_4 (envG sg_1 (m02 (nat_lit 1))) (memG sg_1 (m02 (nat_lit 1))) := .last th_4_20 tr_1
def sg_2 : Ev.Env := [.und, .ref 1, i2, .frl [(.tup [i0, i1]), (.tup [i1, i0])], .und, .und, .und, .und, .und, .und, .und, .und, .und, .und, .und, .und, .und, .und, .und]
def a_2 : E19 := fun f => f .und (.ref (nat_lit 1)) i2 (.ref (nat_lit 2)) .und .und .und .und .und .und .und .und .und .und .und .und .und .und .und
def mm_2 : M := ⟨nat_lit 0, nat_lit 3, (.n (some (.hid)) (.n (some (.tape (nat_lit 0))) .e .e) (.n (some (.lst [(.tup [i0, i1]), (.tup [i1, i0])])) .e .e)), nat_lit 1⟩
theorem ev_2 : ts_4_20 a_2 mm_2 (fun _ _ => false) (fun _ _ => false) (fun _ _ => false) kT (fun _ _ _ => false) = true := by kernel_rfl
theorem tr_2 : bs_4_20 (envG sg_2 (m02 (nat_lit 1))) (memG sg_2 (m02 (nat_lit 1))) (fun _ _ => false) (fun _ _ => false) (fun _ _ => false) kT (fun _ _ _ => false) = true := by rw [qs_4_20]; exact pieceL zs_4_20 (by rfl) (by rfl) (by rfl) ev_2
theorem ch_2 : Chain c_law_ sl_4 (envG sg_2 (m02 (nat_lit 1))) (memG sg_2 (m02 (nat_lit 1))) := .last th_4_20 tr_2
def sg_3 : Ev.Env := [.und, .ref 1, i3, .frl [(.tup [i0, i1, i2]), (.tup [i0, i2, i1]), (.tup [i1, i0, i2]), (.tup [i1, i2, i0]), (.tup [i2, i0, i1]), (.tup [i2, i1, i0])], .und, .und, .und, .und, .und, .und, .und, .und, .und, .und, .und, .und, .und, .und, .und]
def a_3 : E19 := fun f => f .und (.ref (nat_lit 1)) i3 (.ref (nat_lit 2)) .und .und .und .und .und .und .und .und .und .und .und .und .und .und .und
def mm_3 : M := ⟨nat_lit 0, nat_lit 3, (.n (some (.hid)) (.n (some (.tape (nat_lit 0))) .e .e) (.n (some (.lst [(.tup [i0, i1, i2]), (.tup [i0, i2, i1]), (.tup [i1, i0, i2]), (.tup [i1, i2, i0]), (.tup [i2, i0, i1]), (.tup [i2, i1, i0])])) .e .e)), nat_lit 1⟩
theorem ev_3 : ts_4_20 a_3 mm_3 (fun _ _ => false) (fun _ _ => false) (fun _ _ => false) kT (fun _ _ _ => false) = true := by kernel_rfl
theorem tr_3 : bs_4_20 (envG sg_3 (m02 (nat_lit 1))) (memG sg_3 (m02 (nat_lit 1))) (fun _ _ => false) (fun _ _ => false) (fun _ _ => false) kT (fun _ _ _ => false) = true := by rw [qs_4_20]; exact pieceL zs_4_20 (by rfl) (by rfl) (by rfl) ev_3
theorem ch_3 : Chain c_law_ sl_4 (envG sg_3 (m02 (nat_lit 1))) (memG sg_3 (m02 (nat_lit 1))) := .last th_4_20 tr_3
def sl_7 : List Stmt := List.drop 7 (defBody (st 41))
def bs_7_20 : SemS := (seqC (ifS (blT (binC neD (callC p_stirling_cycles (consC (varC 2) nilC)) (callC p__law_count (consC (lcC (seqI (varC 3)) (gNm 4) yesT (appC lenF (consC (callC p__law_rings (consC (varC 4) nilC)) nilC)) [4]) (consC (binC addD (varC 2) (litC (.int 1))) nilC))))) (retC (litC (.bl false))) passC)
  (seqC (setC (gNm 10) (lstC (consC (tupC nilC) nilC)))
  (seqC (forC (rng1I (consC (varC 2) nilC)) (gNm 11) (seqC (setC (gNm 12) (lstC nilC))
  (seqC (forC (seqI (varC 10)) (gNm 4) (setC (gNm 12) (binC addD (varC 12) (lcC (rng1I (consC (binC addD (appC maxF (consC (binC addD (tupC (consC (unC negD (litC (.int 1))) nilC)) (varC 4)) nilC)) (litC (.int 2))) nilC)) (gNm 14) yesT (binC addD (varC 4) (tupC (consC (varC 14) nilC))) [14]))))
  (setC (gNm 10) (varC 12)))))
  (seqC (ifS (blT (binC neD (callC p_stirling_parts (consC (varC 2) nilC)) (callC p__law_count (consC (lcC (seqI (varC 10)) (gNm 4) yesT (binC addD (appC maxF (consC (binC addD (tupC (consC (unC negD (litC (.int 1))) nilC)) (varC 4)) nilC)) (litC (.int 1))) [4]) (consC (binC addD (varC 2) (litC (.int 1))) nilC))))) (retC (litC (.bl false))) passC)
  (seqC (setC (gNm 13) (appC tupleF (consC (lcC (rng2I (consC (litC (.int 1)) (consC (varC 2) nilC))) (gNm 11) (blT (binC eqD (callC takeF (consC (varC 1) (consC (litC (.int 2)) nilC))) (litC (.int 0)))) (varC 11) [11]) nilC)))
  (seqC (ifS (orT (blT (binC neD (callC p_descent_set_count (consC (varC 2) (consC (varC 13) nilC))) (appC lenF (consC (lcC (seqI (varC 3)) (gNm 4) (blT (binC eqD (callC p__law_des (consC (varC 4) nilC)) (varC 13))) (varC 4) [4]) nilC)))) (blT (binC neD (callC p_alternating_count (consC (varC 2) nilC)) (appC lenF (consC (lcC (seqI (varC 3)) (gNm 4) (blT (binC eqD (callC p__law_des (consC (varC 4) nilC)) (appC tupleF (consC (lcC (rng2I (consC (litC (.int 1)) (consC (varC 2) nilC))) (gNm 11) (blT (binC eqD (binC modD (varC 11) (litC (.int 2))) (litC (.int 0)))) (varC 11) [11]) nilC)))) (varC 4) [4]) nilC))))) (retC (litC (.bl false))) passC)
  (seqC (setC (gNm 14) (callC takeF (consC (varC 1) (consC (litC (.int 5)) nilC))))
  (seqC (setC (gNm 15) (litC (.int 1)))
  (seqC (forC (rng1I (consC (varC 2) nilC)) (gNm 11) (setC (gNm 15) (binC mulD (varC 15) (varC 14))))
  (seqC (ifS (andT (blT (binC gtD (varC 2) (litC (.int 0)))) (blT (binC neD (callC p_worpitzky (consC (varC 2) (consC (varC 14) nilC))) (varC 15)))) (retC (litC (.bl false))) passC)
  (seqC (setC (gNm 16) (litC (.int 0)))
  (seqC (forC (seqI (tupC (consC (tupC (consC (litC (.fn 0)) (consC (tupC (consC (litC (.int 0)) (consC (litC (.int 2)) nilC))) nilC))) (consC (tupC (consC (litC (.fn 0)) (consC (tupC (consC (litC (.int 0)) (consC (litC (.int 0)) nilC))) nilC))) (consC (tupC (consC (litC (.fn 1)) (consC (tupC (consC (litC (.int 2)) (consC (litC (.int 0)) nilC))) nilC))) (consC (tupC (consC (litC (.fn 1)) (consC (tupC (consC (litC (.int 0)) (consC (litC (.int 1)) nilC))) nilC))) (consC (tupC (consC (litC (.fn 2)) (consC (tupC (consC (litC (.int 1)) (consC (litC (.int 1)) nilC))) nilC))) (consC (tupC (consC (litC (.fn 3)) (consC (tupC (consC (litC (.int 3)) nilC)) nilC))) nilC)))))))) (gTp (gsC (gNm 17) (gsC (gNm 18) gsN)) 2) (tryC (exprC (callLC 17 tb (consC (varC 18) nilC))) hit_NoShape (setC (gNm 16) (binC addD (varC 16) (litC (.int 1))))))
  (retC (binC eqD (varC 16) (litC (.int 6))))))))))))))))
def rs_7_20 : SemS := (seqC (ifSR (blR (binC neR2 (callC g_stirling_cycles (consC (varR 2) nilC)) (callC g__law_count (consC (lcR2 (seqIR (varR 3)) (gNR 4) yesT (appC lenFR (consC (callC g__law_rings (consC (varR 4) nilC)) nilC)) [4]) (consC (binC addR (varR 2) (litC (.int 1))) nilC))))) (retC (litC (.bl false))) passC)
  (seqC (setC (gNR 10) (lstR (consC (tupR nilC) nilC)))
  (seqC (forR (rng1R (consC (varR 2) nilC)) (gNR 11) (seqC (setC (gNR 12) (lstR nilC))
  (seqC (forR (seqIR (varR 10)) (gNR 4) (setC (gNR 12) (binC addR (varR 12) (lcR2 (rng1R (consC (binC addR (appC maxR (consC (binC addR (tupR (consC (unC negR (litC (.int 1))) nilC)) (varR 4)) nilC)) (litC (.int 2))) nilC)) (gNR 14) yesT (binC addR (varR 4) (tupR (consC (varR 14) nilC))) [14]))))
  (setC (gNR 10) (varR 12)))))
  (seqC (ifSR (blR (binC neR2 (callC g_stirling_parts (consC (varR 2) nilC)) (callC g__law_count (consC (lcR2 (seqIR (varR 10)) (gNR 4) yesT (binC addR (appC maxR (consC (binC addR (tupR (consC (unC negR (litC (.int 1))) nilC)) (varR 4)) nilC)) (litC (.int 1))) [4]) (consC (binC addR (varR 2) (litC (.int 1))) nilC))))) (retC (litC (.bl false))) passC)
  (seqC (setC (gNR 13) (appC tupleR (consC (lcR2 (rng2R (consC (litC (.int 1)) (consC (varR 2) nilC))) (gNR 11) (blR (binC eqR (callC takeR (consC (varR 1) (consC (litC (.int 2)) nilC))) (litC (.int 0)))) (varR 11) [11]) nilC)))
  (seqC (ifSR (orR (blR (binC neR2 (callC g_descent_set_count (consC (varR 2) (consC (varR 13) nilC))) (appC lenFR (consC (lcR2 (seqIR (varR 3)) (gNR 4) (blR (binC eqR (callC g__law_des (consC (varR 4) nilC)) (varR 13))) (varR 4) [4]) nilC)))) (blR (binC neR2 (callC g_alternating_count (consC (varR 2) nilC)) (appC lenFR (consC (lcR2 (seqIR (varR 3)) (gNR 4) (blR (binC eqR (callC g__law_des (consC (varR 4) nilC)) (appC tupleR (consC (lcR2 (rng2R (consC (litC (.int 1)) (consC (varR 2) nilC))) (gNR 11) (blR (binC eqR (binC modR (varR 11) (litC (.int 2))) (litC (.int 0)))) (varR 11) [11]) nilC)))) (varR 4) [4]) nilC))))) (retC (litC (.bl false))) passC)
  (seqC (setC (gNR 14) (callC takeR (consC (varR 1) (consC (litC (.int 5)) nilC))))
  (seqC (setC (gNR 15) (litC (.int 1)))
  (seqC (forR (rng1R (consC (varR 2) nilC)) (gNR 11) (setC (gNR 15) (binC mulR (varR 15) (varR 14))))
  (seqC (ifSR (andR (blR (binC gtR (varR 2) (litC (.int 0)))) (blR (binC neR2 (callC g_worpitzky (consC (varR 2) (consC (varR 14) nilC))) (varR 15)))) (retC (litC (.bl false))) passC)
  (seqC (setC (gNR 16) (litC (.int 0)))
  (seqC (forR (seqIR (tupR (consC (tupR (consC (litC (.fn 0)) (consC (tupR (consC (litC (.int 0)) (consC (litC (.int 2)) nilC))) nilC))) (consC (tupR (consC (litC (.fn 0)) (consC (tupR (consC (litC (.int 0)) (consC (litC (.int 0)) nilC))) nilC))) (consC (tupR (consC (litC (.fn 1)) (consC (tupR (consC (litC (.int 2)) (consC (litC (.int 0)) nilC))) nilC))) (consC (tupR (consC (litC (.fn 1)) (consC (tupR (consC (litC (.int 0)) (consC (litC (.int 1)) nilC))) nilC))) (consC (tupR (consC (litC (.fn 2)) (consC (tupR (consC (litC (.int 1)) (consC (litC (.int 1)) nilC))) nilC))) (consC (tupR (consC (litC (.fn 3)) (consC (tupR (consC (litC (.int 3)) nilC)) nilC))) nilC)))))))) (gTR (gsCR (gNR 17) (gsCR (gNR 18) gsNR)) 2) (tryC (exprC (callLC 17 tbR (consC (varR 18) nilC))) hit_NoShape (setC (gNR 16) (binC addR (varR 16) (litC (.int 1))))))
  (retC (binC eqR (varR 16) (litC (.int 6))))))))))))))))
def ts_7_20 : XS E19 := (seqP (ifSP (blP (binP neR2 (callP h_stirling_cycles (consP V19_2 nilP)) (callP h__law_count (consP (lcP (seqIP V19_3) S19_4 yesP (appP lenFR (consP (callP h__law_rings (consP V19_4 nilP)) nilP)) (wpC S19_4 wpN)) (consP (binP addR V19_2 (litP (.int 1))) nilP))))) (retP (litP (.bl false))) passP) (seqP (setP S19_10 (lstP (consP (tupP nilP) nilP))) (seqP (forP (rng1P (consP V19_2 nilP)) S19_11 (seqP (setP S19_12 (lstP nilP)) (seqP (forP (seqIP V19_10) S19_4 (setP S19_12 (binP addR V19_12 (lcP (rng1P (consP (binP addR (appP maxR (consP (binP addR (tupP (consP (unP negR (litP (.int 1))) nilP)) V19_4) nilP)) (litP (.int 2))) nilP)) S19_14 yesP (binP addR V19_4 (tupP (consP V19_14 nilP))) (wpC S19_14 wpN))))) (setP S19_10 V19_12)))) (seqP (ifSP (blP (binP neR2 (callP h_stirling_parts (consP V19_2 nilP)) (callP h__law_count (consP (lcP (seqIP V19_10) S19_4 yesP (binP addR (appP maxR (consP (binP addR (tupP (consP (unP negR (litP (.int 1))) nilP)) V19_4) nilP)) (litP (.int 1))) (wpC S19_4 wpN)) (consP (binP addR V19_2 (litP (.int 1))) nilP))))) (retP (litP (.bl false))) passP) (seqP (setP S19_13 (appP tupleR (consP (lcP (rng2P (consP (litP (.int 1)) (consP V19_2 nilP))) S19_11 (blP (binP eqR (callP takeR (consP V19_1 (consP (litP (.int 2)) nilP))) (litP (.int 0)))) V19_11 (wpC S19_11 wpN)) nilP))) (seqP (ifSP (orP (blP (binP neR2 (callP h_descent_set_count (consP V19_2 (consP V19_13 nilP))) (appP lenFR (consP (lcP (seqIP V19_3) S19_4 (blP (binP eqR (callP h__law_des (consP V19_4 nilP)) V19_13)) V19_4 (wpC S19_4 wpN)) nilP)))) (blP (binP neR2 (callP h_alternating_count (consP V19_2 nilP)) (appP lenFR (consP (lcP (seqIP V19_3) S19_4 (blP (binP eqR (callP h__law_des (consP V19_4 nilP)) (appP tupleR (consP (lcP (rng2P (consP (litP (.int 1)) (consP V19_2 nilP))) S19_11 (blP (binP eqR (binP modR V19_11 (litP (.int 2))) (litP (.int 0)))) V19_11 (wpC S19_11 wpN)) nilP)))) V19_4 (wpC S19_4 wpN)) nilP))))) (retP (litP (.bl false))) passP) (seqP (setP S19_14 (callP takeR (consP V19_1 (consP (litP (.int 5)) nilP)))) (seqP (setP S19_15 (litP (.int 1))) (seqP (forP (rng1P (consP V19_2 nilP)) S19_11 (setP S19_15 (binP mulR V19_15 V19_14))) (seqP (ifSP (andP (blP (binP gtR V19_2 (litP (.int 0)))) (blP (binP neR2 (callP h_worpitzky (consP V19_2 (consP V19_14 nilP))) V19_15))) (retP (litP (.bl false))) passP) (seqP (setP S19_16 (litP (.int 0))) (seqP (forP (seqIP (tupP (consP (tupP (consP (litP (.fn 0)) (consP (tupP (consP (litP (.int 0)) (consP (litP (.int 2)) nilP))) nilP))) (consP (tupP (consP (litP (.fn 0)) (consP (tupP (consP (litP (.int 0)) (consP (litP (.int 0)) nilP))) nilP))) (consP (tupP (consP (litP (.fn 1)) (consP (tupP (consP (litP (.int 2)) (consP (litP (.int 0)) nilP))) nilP))) (consP (tupP (consP (litP (.fn 1)) (consP (tupP (consP (litP (.int 0)) (consP (litP (.int 1)) nilP))) nilP))) (consP (tupP (consP (litP (.fn 2)) (consP (tupP (consP (litP (.int 1)) (consP (litP (.int 1)) nilP))) nilP))) (consP (tupP (consP (litP (.fn 3)) (consP (tupP (consP (litP (.int 3)) nilP)) nilP))) nilP)))))))) (gTP (gsCP S19_17 (gsCP S19_18 gsNP)) 2) (tryP (exprP (callLP G19_17 tbH (consP V19_18 nilP))) hit_NoShape (setP S19_16 (binP addR V19_16 (litP (.int 1)))))) (retP (binP eqR V19_16 (litP (.int 6))))))))))))))))
theorem qs_7_20 : bs_7_20 = rs_7_20 := by delta bs_7_20 rs_7_20; rw [ifS_R, blT_R, neD_R, varC_R, lcC_R, seqI_R, gNm_R, lenF_R, addD_R, lstC_R, tupC_R, forC_R, rng1I_R, maxF_R, negD_R, tupleF_R, rng2I_R, eqD_R, takeF_R, orT_R, modD_R, mulD_R, andT_R, gtD_R, gTp_R, gsC_R, gsN_R, G_stirling_cycles, G__law_count, G__law_rings, G_stirling_parts, G_descent_set_count, G__law_des, G_alternating_count, G_worpitzky, tb_R]
theorem zs_7_20 : RS (enF eF19) 19 rs_7_20 ts_7_20 := by delta rs_7_20 ts_7_20; exact (q_seq (q_ifS (q_bl (q_bin (q_call H_stirling_cycles (q_cons qV19_2 q_nil)) (q_call H__law_count (q_cons (q_lc (q_seqI qV19_3) qS19_4 q_yes (q_app (q_cons (q_call H__law_rings (q_cons qV19_4 q_nil)) q_nil)) (q_wpC qS19_4 q_wpN)) (q_cons (q_bin qV19_2 q_lit) q_nil))))) (q_ret q_lit) q_pass) (q_seq (q_set qS19_10 (q_lst (q_cons (q_tup q_nil) q_nil))) (q_seq (q_for (q_rng1 (q_cons qV19_2 q_nil)) qS19_11 (q_seq (q_set qS19_12 (q_lst q_nil)) (q_seq (q_for (q_seqI qV19_10) qS19_4 (q_set qS19_12 (q_bin qV19_12 (q_lc (q_rng1 (q_cons (q_bin (q_app (q_cons (q_bin (q_tup (q_cons (q_un q_lit) q_nil)) qV19_4) q_nil)) q_lit) q_nil)) qS19_14 q_yes (q_bin qV19_4 (q_tup (q_cons qV19_14 q_nil))) (q_wpC qS19_14 q_wpN))))) (q_set qS19_10 qV19_12)))) (q_seq (q_ifS (q_bl (q_bin (q_call H_stirling_parts (q_cons qV19_2 q_nil)) (q_call H__law_count (q_cons (q_lc (q_seqI qV19_10) qS19_4 q_yes (q_bin (q_app (q_cons (q_bin (q_tup (q_cons (q_un q_lit) q_nil)) qV19_4) q_nil)) q_lit) (q_wpC qS19_4 q_wpN)) (q_cons (q_bin qV19_2 q_lit) q_nil))))) (q_ret q_lit) q_pass) (q_seq (q_set qS19_13 (q_app (q_cons (q_lc (q_rng2 (q_cons q_lit (q_cons qV19_2 q_nil))) qS19_11 (q_bl (q_bin (q_call rfl (q_cons qV19_1 (q_cons q_lit q_nil))) q_lit)) qV19_11 (q_wpC qS19_11 q_wpN)) q_nil))) (q_seq (q_ifS (q_or (q_bl (q_bin (q_call H_descent_set_count (q_cons qV19_2 (q_cons qV19_13 q_nil))) (q_app (q_cons (q_lc (q_seqI qV19_3) qS19_4 (q_bl (q_bin (q_call H__law_des (q_cons qV19_4 q_nil)) qV19_13)) qV19_4 (q_wpC qS19_4 q_wpN)) q_nil)))) (q_bl (q_bin (q_call H_alternating_count (q_cons qV19_2 q_nil)) (q_app (q_cons (q_lc (q_seqI qV19_3) qS19_4 (q_bl (q_bin (q_call H__law_des (q_cons qV19_4 q_nil)) (q_app (q_cons (q_lc (q_rng2 (q_cons q_lit (q_cons qV19_2 q_nil))) qS19_11 (q_bl (q_bin (q_bin qV19_11 q_lit) q_lit)) qV19_11 (q_wpC qS19_11 q_wpN)) q_nil)))) qV19_4 (q_wpC qS19_4 q_wpN)) q_nil))))) (q_ret q_lit) q_pass) (q_seq (q_set qS19_14 (q_call rfl (q_cons qV19_1 (q_cons q_lit q_nil)))) (q_seq (q_set qS19_15 q_lit) (q_seq (q_for (q_rng1 (q_cons qV19_2 q_nil)) qS19_11 (q_set qS19_15 (q_bin qV19_15 qV19_14))) (q_seq (q_ifS (q_and (q_bl (q_bin qV19_2 q_lit)) (q_bl (q_bin (q_call H_worpitzky (q_cons qV19_2 (q_cons qV19_14 q_nil))) qV19_15))) (q_ret q_lit) q_pass) (q_seq (q_set qS19_16 q_lit) (q_seq (q_for (q_seqI (q_tup (q_cons (q_tup (q_cons q_lit (q_cons (q_tup (q_cons q_lit (q_cons q_lit q_nil))) q_nil))) (q_cons (q_tup (q_cons q_lit (q_cons (q_tup (q_cons q_lit (q_cons q_lit q_nil))) q_nil))) (q_cons (q_tup (q_cons q_lit (q_cons (q_tup (q_cons q_lit (q_cons q_lit q_nil))) q_nil))) (q_cons (q_tup (q_cons q_lit (q_cons (q_tup (q_cons q_lit (q_cons q_lit q_nil))) q_nil))) (q_cons (q_tup (q_cons q_lit (q_cons (q_tup (q_cons q_lit (q_cons q_lit q_nil))) q_nil))) (q_cons (q_tup (q_cons q_lit (q_cons (q_tup (q_cons q_lit q_nil)) q_nil))) q_nil)))))))) (q_gT (q_gsC qS19_17 (q_gsC qS19_18 q_gsN))) (q_try (q_expr (q_callL tbR_H qG19_17 (q_cons qV19_18 q_nil))) (q_set qS19_16 (q_bin qV19_16 q_lit)))) (q_ret (q_bin qV19_16 q_lit))))))))))))))
theorem th_7_20 : trB c_law_ sl_7 = some bs_7_20 := by kernel_rfl
def kl_0 : List D := [(.tup [i0, i1, i2, i3]), (.tup [i0, i1, i3, i2]), (.tup [i0, i2, i1, i3]), (.tup [i0, i2, i3, i1]), (.tup [i0, i3, i1, i2]), (.tup [i0, i3, i2, i1]), (.tup [i1, i0, i2, i3]), (.tup [i1, i0, i3, i2]), (.tup [i1, i2, i0, i3]), (.tup [i1, i2, i3, i0]), (.tup [i1, i3, i0, i2]), (.tup [i1, i3, i2, i0]), (.tup [i2, i0, i1, i3]), (.tup [i2, i0, i3, i1]), (.tup [i2, i1, i0, i3]), (.tup [i2, i1, i3, i0]), (.tup [i2, i3, i0, i1]), (.tup [i2, i3, i1, i0]), (.tup [i3, i0, i1, i2]), (.tup [i3, i0, i2, i1]), (.tup [i3, i1, i0, i2]), (.tup [i3, i1, i2, i0]), (.tup [i3, i2, i0, i1]), (.tup [i3, i2, i1, i0])]
def sg_4 : Ev.Env := [.und, .ref 1, i4, .frl kl_0, (.tup [i3, i2, i1, i0]), .und, .und, .und, .und, .und, .und, .und, .und, .und, .und, .und, .und, .und, .und]
def a_4 : E19 := fun f => f .und (.ref (nat_lit 1)) i4 (.ref (nat_lit 2)) (.tup [i3, i2, i1, i0]) .und .und .und .und .und .und .und .und .und .und .und .und .und .und
def mm_4 : M := ⟨nat_lit 0, nat_lit 3, (.n (some (.hid)) (.n (some (.tape (nat_lit 0))) .e .e) (.n (some (.lst kl_0)) .e .e)), nat_lit 1⟩
theorem ev_4 : ts_7_20 a_4 mm_4 (fun _ _ => false) (fun _ _ => false) (fun _ _ => false) kT (fun _ _ _ => false) = true := by kernel_rfl
theorem tr_4 : bs_7_20 (envG sg_4 (m02 (nat_lit 1))) (memG sg_4 (m02 (nat_lit 1))) (fun _ _ => false) (fun _ _ => false) (fun _ _ => false) kT (fun _ _ _ => false) = true := by rw [qs_7_20]; exact pieceL zs_7_20 (by rfl) (by rfl) (by rfl) ev_4
theorem ch_4 : Chain c_law_ sl_7 (envG sg_4 (m02 (nat_lit 1))) (memG sg_4 (m02 (nat_lit 1))) := .last th_7_20 tr_4
def bs_4_7 : SemS := (seqC (ifS (orT (blT (binC neD (appC sortedF (consC (lcC (seqI (varC 3)) (gNm 4) yesT (callC p_foata (consC (varC 4) nilC)) [4]) nilC)) (varC 3))) (blT (binC neD (appC sortedF (consC (lcC (seqI (varC 3)) (gNm 4) yesT (callC p_to_records (consC (varC 4) nilC)) [4]) nilC)) (varC 3)))) (retC (litC (.bl false))) passC)
  (seqC (forC (seqI (slsC (varC 3) noP noP (someP (ifC (blT (binC ltD (varC 2) (litC (.int 5)))) (litC (.int 1)) (litC (.int 7)))))) (gNm 4) (seqC (ifS (orT (blT (binC neD (callC p_inversions (consC (varC 4) nilC)) (callC p__law_inv (consC (varC 4) nilC)))) (orT (blT (binC neD (callC p_descents (consC (varC 4) nilC)) (callC p__law_des (consC (varC 4) nilC)))) (blT (binC neD (callC p_major (consC (varC 4) nilC)) (appC sumF (consC (callC p__law_des (consC (varC 4) nilC)) nilC)))))) (retC (litC (.bl false))) passC)
  (seqC (ifS (orT (blT (binC neD (callC p_records (consC (varC 4) nilC)) (callC p__law_rec (consC (varC 4) nilC)))) (blT (binC neD (callC p_excedances (consC (varC 4) nilC)) (appC lenF (consC (lcC (rng1I (consC (varC 2) nilC)) (gNm 11) (blT (binC gtD (binC ixD (varC 4) (varC 11)) (varC 11))) (varC 11) [11]) nilC))))) (retC (litC (.bl false))) passC)
  (seqC (par2C 5 6 (consC (callC p_foata (consC (varC 4) nilC)) (consC (callC p__law_rings (consC (varC 4) nilC)) nilC)))
  (seqC (ifS (orT (blT (binC neD (varC 5) (callC p__law_foata (consC (varC 4) nilC)))) (orT (blT (binC neD (callC p__law_inv (consC (varC 5) nilC)) (callC p_major (consC (varC 4) nilC)))) (orT (blT (binC neD (callC p_foata_back (consC (varC 5) nilC)) (varC 4))) (blT (binC neD (slC (varC 5) (someP (unC negD (litC (.int 1)))) noP) (slC (varC 4) (someP (unC negD (litC (.int 1)))) noP)))))) (retC (litC (.bl false))) passC)
  (seqC (setC (gNm 7) (tupC nilC))
  (seqC (forC (seqI (varC 6)) (gNm 8) (setC (gNm 7) (binC addD (varC 7) (varC 8))))
  (seqC (ifS (orT (blT (binC neD (callC p_cycles (consC (varC 4) nilC)) (varC 6))) (orT (blT (binC neD (callC p_to_records (consC (varC 4) nilC)) (varC 7))) (orT (blT (binC neD (callC p_from_records (consC (varC 7) nilC)) (varC 4))) (blT (binC neD (callC p__law_rec (consC (varC 7) nilC)) (appC lenF (consC (varC 6) nilC))))))) (retC (litC (.bl false))) passC)
  (seqC (setC (gNm 9) (appC tupleF (consC (lcC (rng1I (consC (varC 2) nilC)) (gNm 11) yesT (appC lenF (consC (lcC (seqI (slC (varC 4) (someP (binC addD (varC 11) (litC (.int 1)))) noP)) (gNm 14) (blT (binC ltD (varC 14) (binC ixD (varC 4) (varC 11)))) (varC 14) [14]) nilC)) [11]) nilC)))
  (ifS (orT (blT (binC neD (callC p_code (consC (varC 4) nilC)) (varC 9))) (orT (blT (binC neD (callC p_from_code (consC (varC 9) nilC)) (varC 4))) (blT (binC neD (appC sumF (consC (varC 9) nilC)) (callC p__law_inv (consC (varC 4) nilC)))))) (retC (litC (.bl false))) passC))))))))))
  (ifS (orT (andT (blT (binC gtD (varC 2) (litC (.int 0)))) (blT (binC neD (callC p_eulerian (consC (varC 2) nilC)) (callC p__law_count (consC (lcC (seqI (varC 3)) (gNm 4) yesT (appC lenF (consC (callC p__law_des (consC (varC 4) nilC)) nilC)) [4]) (consC (varC 2) nilC)))))) (andT (blT (binC gtD (varC 2) (litC (.int 0)))) (blT (binC neD (callC p_mahonian (consC (varC 2) nilC)) (callC p__law_count (consC (lcC (seqI (varC 3)) (gNm 4) yesT (callC p__law_inv (consC (varC 4) nilC)) [4]) (consC (binC addD (binC fdivD (binC mulD (varC 2) (binC subD (varC 2) (litC (.int 1)))) (litC (.int 2))) (litC (.int 1))) nilC))))))) (retC (litC (.bl false))) passC)))
def rs_4_7 : SemS := (seqC (ifSR (orR (blR (binC neR2 (appC sortedR (consC (lcR2 (seqIR (varR 3)) (gNR 4) yesT (callC g_foata (consC (varR 4) nilC)) [4]) nilC)) (varR 3))) (blR (binC neR2 (appC sortedR (consC (lcR2 (seqIR (varR 3)) (gNR 4) yesT (callC g_to_records (consC (varR 4) nilC)) [4]) nilC)) (varR 3)))) (retC (litC (.bl false))) passC)
  (seqC (forR (seqIR (slsC (varR 3) noP noP (somePR (ifR (blR (binC ltDR (varR 2) (litC (.int 5)))) (litC (.int 1)) (litC (.int 7)))))) (gNR 4) (seqC (ifSR (orR (blR (binC neR2 (callC g_inversions (consC (varR 4) nilC)) (callC g__law_inv (consC (varR 4) nilC)))) (orR (blR (binC neR2 (callC g_descents (consC (varR 4) nilC)) (callC g__law_des (consC (varR 4) nilC)))) (blR (binC neR2 (callC g_major (consC (varR 4) nilC)) (appC sumR (consC (callC g__law_des (consC (varR 4) nilC)) nilC)))))) (retC (litC (.bl false))) passC)
  (seqC (ifSR (orR (blR (binC neR2 (callC g_records (consC (varR 4) nilC)) (callC g__law_rec (consC (varR 4) nilC)))) (blR (binC neR2 (callC g_excedances (consC (varR 4) nilC)) (appC lenFR (consC (lcR2 (rng1R (consC (varR 2) nilC)) (gNR 11) (blR (binC gtR (binC ixR (varR 4) (varR 11)) (varR 11))) (varR 11) [11]) nilC))))) (retC (litC (.bl false))) passC)
  (seqC (par2R 5 6 (consC (callC g_foata (consC (varR 4) nilC)) (consC (callC g__law_rings (consC (varR 4) nilC)) nilC)))
  (seqC (ifSR (orR (blR (binC neR2 (varR 5) (callC g__law_foata (consC (varR 4) nilC)))) (orR (blR (binC neR2 (callC g__law_inv (consC (varR 5) nilC)) (callC g_major (consC (varR 4) nilC)))) (orR (blR (binC neR2 (callC g_foata_back (consC (varR 5) nilC)) (varR 4))) (blR (binC neR2 (slR (varR 5) (somePR (unC negR (litC (.int 1)))) noP) (slR (varR 4) (somePR (unC negR (litC (.int 1)))) noP)))))) (retC (litC (.bl false))) passC)
  (seqC (setC (gNR 7) (tupR nilC))
  (seqC (forR (seqIR (varR 6)) (gNR 8) (setC (gNR 7) (binC addR (varR 7) (varR 8))))
  (seqC (ifSR (orR (blR (binC neR2 (callC g_cycles (consC (varR 4) nilC)) (varR 6))) (orR (blR (binC neR2 (callC g_to_records (consC (varR 4) nilC)) (varR 7))) (orR (blR (binC neR2 (callC g_from_records (consC (varR 7) nilC)) (varR 4))) (blR (binC neR2 (callC g__law_rec (consC (varR 7) nilC)) (appC lenFR (consC (varR 6) nilC))))))) (retC (litC (.bl false))) passC)
  (seqC (setC (gNR 9) (appC tupleR (consC (lcR2 (rng1R (consC (varR 2) nilC)) (gNR 11) yesT (appC lenFR (consC (lcR2 (seqIR (slR (varR 4) (somePR (binC addR (varR 11) (litC (.int 1)))) noP)) (gNR 14) (blR (binC ltDR (varR 14) (binC ixR (varR 4) (varR 11)))) (varR 14) [14]) nilC)) [11]) nilC)))
  (ifSR (orR (blR (binC neR2 (callC g_code (consC (varR 4) nilC)) (varR 9))) (orR (blR (binC neR2 (callC g_from_code (consC (varR 9) nilC)) (varR 4))) (blR (binC neR2 (appC sumR (consC (varR 9) nilC)) (callC g__law_inv (consC (varR 4) nilC)))))) (retC (litC (.bl false))) passC))))))))))
  (ifSR (orR (andR (blR (binC gtR (varR 2) (litC (.int 0)))) (blR (binC neR2 (callC g_eulerian (consC (varR 2) nilC)) (callC g__law_count (consC (lcR2 (seqIR (varR 3)) (gNR 4) yesT (appC lenFR (consC (callC g__law_des (consC (varR 4) nilC)) nilC)) [4]) (consC (varR 2) nilC)))))) (andR (blR (binC gtR (varR 2) (litC (.int 0)))) (blR (binC neR2 (callC g_mahonian (consC (varR 2) nilC)) (callC g__law_count (consC (lcR2 (seqIR (varR 3)) (gNR 4) yesT (callC g__law_inv (consC (varR 4) nilC)) [4]) (consC (binC addR (binC fdivR (binC mulR (varR 2) (binC subR (varR 2) (litC (.int 1)))) (litC (.int 2))) (litC (.int 1))) nilC))))))) (retC (litC (.bl false))) passC)))
def ts_4_7 : XS E19 := (seqP (ifSP (orP (blP (binP neR2 (appP sortedR (consP (lcP (seqIP V19_3) S19_4 yesP (callP h_foata (consP V19_4 nilP)) (wpC S19_4 wpN)) nilP)) V19_3)) (blP (binP neR2 (appP sortedR (consP (lcP (seqIP V19_3) S19_4 yesP (callP h_to_records (consP V19_4 nilP)) (wpC S19_4 wpN)) nilP)) V19_3))) (retP (litP (.bl false))) passP) (seqP (forP (seqIP (slsP V19_3 noPP noPP (someQ (ifP (blP (binP ltDR V19_2 (litP (.int 5)))) (litP (.int 1)) (litP (.int 7)))))) S19_4 (seqP (ifSP (orP (blP (binP neR2 (callP h_inversions (consP V19_4 nilP)) (callP h__law_inv (consP V19_4 nilP)))) (orP (blP (binP neR2 (callP h_descents (consP V19_4 nilP)) (callP h__law_des (consP V19_4 nilP)))) (blP (binP neR2 (callP h_major (consP V19_4 nilP)) (appP sumR (consP (callP h__law_des (consP V19_4 nilP)) nilP)))))) (retP (litP (.bl false))) passP) (seqP (ifSP (orP (blP (binP neR2 (callP h_records (consP V19_4 nilP)) (callP h__law_rec (consP V19_4 nilP)))) (blP (binP neR2 (callP h_excedances (consP V19_4 nilP)) (appP lenFR (consP (lcP (rng1P (consP V19_2 nilP)) S19_11 (blP (binP gtR (binP ixR V19_4 V19_11) V19_11)) V19_11 (wpC S19_11 wpN)) nilP))))) (retP (litP (.bl false))) passP) (seqP (par2P S19_5 S19_6 (consP (callP h_foata (consP V19_4 nilP)) (consP (callP h__law_rings (consP V19_4 nilP)) nilP))) (seqP (ifSP (orP (blP (binP neR2 V19_5 (callP h__law_foata (consP V19_4 nilP)))) (orP (blP (binP neR2 (callP h__law_inv (consP V19_5 nilP)) (callP h_major (consP V19_4 nilP)))) (orP (blP (binP neR2 (callP h_foata_back (consP V19_5 nilP)) V19_4)) (blP (binP neR2 (slP V19_5 (someQ (unP negR (litP (.int 1)))) noPP) (slP V19_4 (someQ (unP negR (litP (.int 1)))) noPP)))))) (retP (litP (.bl false))) passP) (seqP (setP S19_7 (tupP nilP)) (seqP (forP (seqIP V19_6) S19_8 (setP S19_7 (binP addR V19_7 V19_8))) (seqP (ifSP (orP (blP (binP neR2 (callP h_cycles (consP V19_4 nilP)) V19_6)) (orP (blP (binP neR2 (callP h_to_records (consP V19_4 nilP)) V19_7)) (orP (blP (binP neR2 (callP h_from_records (consP V19_7 nilP)) V19_4)) (blP (binP neR2 (callP h__law_rec (consP V19_7 nilP)) (appP lenFR (consP V19_6 nilP))))))) (retP (litP (.bl false))) passP) (seqP (setP S19_9 (appP tupleR (consP (lcP (rng1P (consP V19_2 nilP)) S19_11 yesP (appP lenFR (consP (lcP (seqIP (slP V19_4 (someQ (binP addR V19_11 (litP (.int 1)))) noPP)) S19_14 (blP (binP ltDR V19_14 (binP ixR V19_4 V19_11))) V19_14 (wpC S19_14 wpN)) nilP)) (wpC S19_11 wpN)) nilP))) (ifSP (orP (blP (binP neR2 (callP h_code (consP V19_4 nilP)) V19_9)) (orP (blP (binP neR2 (callP h_from_code (consP V19_9 nilP)) V19_4)) (blP (binP neR2 (appP sumR (consP V19_9 nilP)) (callP h__law_inv (consP V19_4 nilP)))))) (retP (litP (.bl false))) passP)))))))))) (ifSP (orP (andP (blP (binP gtR V19_2 (litP (.int 0)))) (blP (binP neR2 (callP h_eulerian (consP V19_2 nilP)) (callP h__law_count (consP (lcP (seqIP V19_3) S19_4 yesP (appP lenFR (consP (callP h__law_des (consP V19_4 nilP)) nilP)) (wpC S19_4 wpN)) (consP V19_2 nilP)))))) (andP (blP (binP gtR V19_2 (litP (.int 0)))) (blP (binP neR2 (callP h_mahonian (consP V19_2 nilP)) (callP h__law_count (consP (lcP (seqIP V19_3) S19_4 yesP (callP h__law_inv (consP V19_4 nilP)) (wpC S19_4 wpN)) (consP (binP addR (binP fdivR (binP mulR V19_2 (binP subR V19_2 (litP (.int 1)))) (litP (.int 2))) (litP (.int 1))) nilP))))))) (retP (litP (.bl false))) passP)))
theorem qs_4_7 : bs_4_7 = rs_4_7 := by delta bs_4_7 rs_4_7; rw [ifS_R, orT_R, blT_R, neD_R, sortedF_R, lcC_R, seqI_R, varC_R, gNm_R, forC_R, someP_R, ifC_R, ltD_R, sumF_R, lenF_R, rng1I_R, gtD_R, ixD_R, par2C_R, slC_R, negD_R, tupC_R, addD_R, tupleF_R, andT_R, fdivD_R, mulD_R, subD_R, G_foata, G_to_records, G_inversions, G__law_inv, G_descents, G__law_des, G_major, G_records, G__law_rec, G_excedances, G__law_rings, G__law_foata, G_foata_back, G_cycles, G_from_records, G_code, G_from_code, G_eulerian, G__law_count, G_mahonian]
theorem zs_4_7 : RS (enF eF19) 19 rs_4_7 ts_4_7 := by delta rs_4_7 ts_4_7; exact (q_seq (q_ifS (q_or (q_bl (q_bin (q_app (q_cons (q_lc (q_seqI qV19_3) qS19_4 q_yes (q_call H_foata (q_cons qV19_4 q_nil)) (q_wpC qS19_4 q_wpN)) q_nil)) qV19_3)) (q_bl (q_bin (q_app (q_cons (q_lc (q_seqI qV19_3) qS19_4 q_yes (q_call H_to_records (q_cons qV19_4 q_nil)) (q_wpC qS19_4 q_wpN)) q_nil)) qV19_3))) (q_ret q_lit) q_pass) (q_seq (q_for (q_seqI (q_sls qV19_3 q_noP q_noP (q_some (q_if (q_bl (q_bin qV19_2 q_lit)) q_lit q_lit)))) qS19_4 (q_seq (q_ifS (q_or (q_bl (q_bin (q_call H_inversions (q_cons qV19_4 q_nil)) (q_call H__law_inv (q_cons qV19_4 q_nil)))) (q_or (q_bl (q_bin (q_call H_descents (q_cons qV19_4 q_nil)) (q_call H__law_des (q_cons qV19_4 q_nil)))) (q_bl (q_bin (q_call H_major (q_cons qV19_4 q_nil)) (q_app (q_cons (q_call H__law_des (q_cons qV19_4 q_nil)) q_nil)))))) (q_ret q_lit) q_pass) (q_seq (q_ifS (q_or (q_bl (q_bin (q_call H_records (q_cons qV19_4 q_nil)) (q_call H__law_rec (q_cons qV19_4 q_nil)))) (q_bl (q_bin (q_call H_excedances (q_cons qV19_4 q_nil)) (q_app (q_cons (q_lc (q_rng1 (q_cons qV19_2 q_nil)) qS19_11 (q_bl (q_bin (q_bin qV19_4 qV19_11) qV19_11)) qV19_11 (q_wpC qS19_11 q_wpN)) q_nil))))) (q_ret q_lit) q_pass) (q_seq (q_par2 qS19_5 qS19_6 (q_cons (q_call H_foata (q_cons qV19_4 q_nil)) (q_cons (q_call H__law_rings (q_cons qV19_4 q_nil)) q_nil))) (q_seq (q_ifS (q_or (q_bl (q_bin qV19_5 (q_call H__law_foata (q_cons qV19_4 q_nil)))) (q_or (q_bl (q_bin (q_call H__law_inv (q_cons qV19_5 q_nil)) (q_call H_major (q_cons qV19_4 q_nil)))) (q_or (q_bl (q_bin (q_call H_foata_back (q_cons qV19_5 q_nil)) qV19_4)) (q_bl (q_bin (q_sl qV19_5 (q_some (q_un q_lit)) q_noP) (q_sl qV19_4 (q_some (q_un q_lit)) q_noP)))))) (q_ret q_lit) q_pass) (q_seq (q_set qS19_7 (q_tup q_nil)) (q_seq (q_for (q_seqI qV19_6) qS19_8 (q_set qS19_7 (q_bin qV19_7 qV19_8))) (q_seq (q_ifS (q_or (q_bl (q_bin (q_call H_cycles (q_cons qV19_4 q_nil)) qV19_6)) (q_or (q_bl (q_bin (q_call H_to_records (q_cons qV19_4 q_nil)) qV19_7)) (q_or (q_bl (q_bin (q_call H_from_records (q_cons qV19_7 q_nil)) qV19_4)) (q_bl (q_bin (q_call H__law_rec (q_cons qV19_7 q_nil)) (q_app (q_cons qV19_6 q_nil))))))) (q_ret q_lit) q_pass) (q_seq (q_set qS19_9 (q_app (q_cons (q_lc (q_rng1 (q_cons qV19_2 q_nil)) qS19_11 q_yes (q_app (q_cons (q_lc (q_seqI (q_sl qV19_4 (q_some (q_bin qV19_11 q_lit)) q_noP)) qS19_14 (q_bl (q_bin qV19_14 (q_bin qV19_4 qV19_11))) qV19_14 (q_wpC qS19_14 q_wpN)) q_nil)) (q_wpC qS19_11 q_wpN)) q_nil))) (q_ifS (q_or (q_bl (q_bin (q_call H_code (q_cons qV19_4 q_nil)) qV19_9)) (q_or (q_bl (q_bin (q_call H_from_code (q_cons qV19_9 q_nil)) qV19_4)) (q_bl (q_bin (q_app (q_cons qV19_9 q_nil)) (q_call H__law_inv (q_cons qV19_4 q_nil)))))) (q_ret q_lit) q_pass)))))))))) (q_ifS (q_or (q_and (q_bl (q_bin qV19_2 q_lit)) (q_bl (q_bin (q_call H_eulerian (q_cons qV19_2 q_nil)) (q_call H__law_count (q_cons (q_lc (q_seqI qV19_3) qS19_4 q_yes (q_app (q_cons (q_call H__law_des (q_cons qV19_4 q_nil)) q_nil)) (q_wpC qS19_4 q_wpN)) (q_cons qV19_2 q_nil)))))) (q_and (q_bl (q_bin qV19_2 q_lit)) (q_bl (q_bin (q_call H_mahonian (q_cons qV19_2 q_nil)) (q_call H__law_count (q_cons (q_lc (q_seqI qV19_3) qS19_4 q_yes (q_call H__law_inv (q_cons qV19_4 q_nil)) (q_wpC qS19_4 q_wpN)) (q_cons (q_bin (q_bin (q_bin qV19_2 (q_bin qV19_2 q_lit)) q_lit) q_lit) q_nil))))))) (q_ret q_lit) q_pass)))
theorem th_4_7 : trB c_law_ (List.take 3 sl_4) = some bs_4_7 := by kernel_rfl
theorem sd_4_7 : List.drop 3 sl_4 = sl_7 := by unfold sl_4 sl_7; rw [List.drop_drop]
def sg_5 : Ev.Env := [.und, .ref 1, i4, .frl kl_0, .und, .und, .und, .und, .und, .und, .und, .und, .und, .und, .und, .und, .und, .und, .und]
def a_5 : E19 := fun f => f .und (.ref (nat_lit 1)) i4 (.ref (nat_lit 2)) .und .und .und .und .und .und .und .und .und .und .und .und .und .und .und
def mm_5 : M := ⟨nat_lit 0, nat_lit 3, (.n (some (.hid)) (.n (some (.tape (nat_lit 0))) .e .e) (.n (some (.lst kl_0)) .e .e)), nat_lit 1⟩
def al_5 : List (Ev.Env × Nat) := [(sg_4, nat_lit 1)]
theorem ev_5 : ts_4_7 a_5 mm_5 (fun a m => ls19 a fun ρ => altB al_5 ρ m) (fun _ _ => false) (fun _ _ => false) kT (fun _ _ _ => false) = true := by kernel_rfl
theorem tr_5 : bs_4_7 (envG sg_5 (m02 (nat_lit 1))) (memG sg_5 (m02 (nat_lit 1))) (fun ρ1 m1 => altB al_5 ρ1 m1) (fun _ _ => false) (fun _ _ => false) kT (fun _ _ _ => false) = true := by rw [qs_4_7]; exact piece zs_4_7 (by rfl) (fun _ _ => rfl) (by rfl) (by rfl) ev_5
theorem ch_5 : Chain c_law_ sl_4 (envG sg_5 (m02 (nat_lit 1))) (memG sg_5 (m02 (nat_lit 1))) := .alt 3 al_5 th_4_7 tr_5 (by rw [sd_4_7]; exact (alt_cons ch_4 alt_nil))
def sl_12 : List Stmt := List.drop 12 (defBody (st 41))
def bs_12_20 : SemS := (seqC (ifS (orT (blT (binC neD (callC p_descent_set_count (consC (varC 2) (consC (varC 13) nilC))) (appC lenF (consC (lcC (seqI (varC 3)) (gNm 4) (blT (binC eqD (callC p__law_des (consC (varC 4) nilC)) (varC 13))) (varC 4) [4]) nilC)))) (blT (binC neD (callC p_alternating_count (consC (varC 2) nilC)) (appC lenF (consC (lcC (seqI (varC 3)) (gNm 4) (blT (binC eqD (callC p__law_des (consC (varC 4) nilC)) (appC tupleF (consC (lcC (rng2I (consC (litC (.int 1)) (consC (varC 2) nilC))) (gNm 11) (blT (binC eqD (binC modD (varC 11) (litC (.int 2))) (litC (.int 0)))) (varC 11) [11]) nilC)))) (varC 4) [4]) nilC))))) (retC (litC (.bl false))) passC)
  (seqC (setC (gNm 14) (callC takeF (consC (varC 1) (consC (litC (.int 5)) nilC))))
  (seqC (setC (gNm 15) (litC (.int 1)))
  (seqC (forC (rng1I (consC (varC 2) nilC)) (gNm 11) (setC (gNm 15) (binC mulD (varC 15) (varC 14))))
  (seqC (ifS (andT (blT (binC gtD (varC 2) (litC (.int 0)))) (blT (binC neD (callC p_worpitzky (consC (varC 2) (consC (varC 14) nilC))) (varC 15)))) (retC (litC (.bl false))) passC)
  (seqC (setC (gNm 16) (litC (.int 0)))
  (seqC (forC (seqI (tupC (consC (tupC (consC (litC (.fn 0)) (consC (tupC (consC (litC (.int 0)) (consC (litC (.int 2)) nilC))) nilC))) (consC (tupC (consC (litC (.fn 0)) (consC (tupC (consC (litC (.int 0)) (consC (litC (.int 0)) nilC))) nilC))) (consC (tupC (consC (litC (.fn 1)) (consC (tupC (consC (litC (.int 2)) (consC (litC (.int 0)) nilC))) nilC))) (consC (tupC (consC (litC (.fn 1)) (consC (tupC (consC (litC (.int 0)) (consC (litC (.int 1)) nilC))) nilC))) (consC (tupC (consC (litC (.fn 2)) (consC (tupC (consC (litC (.int 1)) (consC (litC (.int 1)) nilC))) nilC))) (consC (tupC (consC (litC (.fn 3)) (consC (tupC (consC (litC (.int 3)) nilC)) nilC))) nilC)))))))) (gTp (gsC (gNm 17) (gsC (gNm 18) gsN)) 2) (tryC (exprC (callLC 17 tb (consC (varC 18) nilC))) hit_NoShape (setC (gNm 16) (binC addD (varC 16) (litC (.int 1))))))
  (retC (binC eqD (varC 16) (litC (.int 6)))))))))))
def rs_12_20 : SemS := (seqC (ifSR (orR (blR (binC neR2 (callC g_descent_set_count (consC (varR 2) (consC (varR 13) nilC))) (appC lenFR (consC (lcR2 (seqIR (varR 3)) (gNR 4) (blR (binC eqR (callC g__law_des (consC (varR 4) nilC)) (varR 13))) (varR 4) [4]) nilC)))) (blR (binC neR2 (callC g_alternating_count (consC (varR 2) nilC)) (appC lenFR (consC (lcR2 (seqIR (varR 3)) (gNR 4) (blR (binC eqR (callC g__law_des (consC (varR 4) nilC)) (appC tupleR (consC (lcR2 (rng2R (consC (litC (.int 1)) (consC (varR 2) nilC))) (gNR 11) (blR (binC eqR (binC modR (varR 11) (litC (.int 2))) (litC (.int 0)))) (varR 11) [11]) nilC)))) (varR 4) [4]) nilC))))) (retC (litC (.bl false))) passC)
  (seqC (setC (gNR 14) (callC takeR (consC (varR 1) (consC (litC (.int 5)) nilC))))
  (seqC (setC (gNR 15) (litC (.int 1)))
  (seqC (forR (rng1R (consC (varR 2) nilC)) (gNR 11) (setC (gNR 15) (binC mulR (varR 15) (varR 14))))
  (seqC (ifSR (andR (blR (binC gtR (varR 2) (litC (.int 0)))) (blR (binC neR2 (callC g_worpitzky (consC (varR 2) (consC (varR 14) nilC))) (varR 15)))) (retC (litC (.bl false))) passC)
  (seqC (setC (gNR 16) (litC (.int 0)))
  (seqC (forR (seqIR (tupR (consC (tupR (consC (litC (.fn 0)) (consC (tupR (consC (litC (.int 0)) (consC (litC (.int 2)) nilC))) nilC))) (consC (tupR (consC (litC (.fn 0)) (consC (tupR (consC (litC (.int 0)) (consC (litC (.int 0)) nilC))) nilC))) (consC (tupR (consC (litC (.fn 1)) (consC (tupR (consC (litC (.int 2)) (consC (litC (.int 0)) nilC))) nilC))) (consC (tupR (consC (litC (.fn 1)) (consC (tupR (consC (litC (.int 0)) (consC (litC (.int 1)) nilC))) nilC))) (consC (tupR (consC (litC (.fn 2)) (consC (tupR (consC (litC (.int 1)) (consC (litC (.int 1)) nilC))) nilC))) (consC (tupR (consC (litC (.fn 3)) (consC (tupR (consC (litC (.int 3)) nilC)) nilC))) nilC)))))))) (gTR (gsCR (gNR 17) (gsCR (gNR 18) gsNR)) 2) (tryC (exprC (callLC 17 tbR (consC (varR 18) nilC))) hit_NoShape (setC (gNR 16) (binC addR (varR 16) (litC (.int 1))))))
  (retC (binC eqR (varR 16) (litC (.int 6)))))))))))
def ts_12_20 : XS E19 := (seqP (ifSP (orP (blP (binP neR2 (callP h_descent_set_count (consP V19_2 (consP V19_13 nilP))) (appP lenFR (consP (lcP (seqIP V19_3) S19_4 (blP (binP eqR (callP h__law_des (consP V19_4 nilP)) V19_13)) V19_4 (wpC S19_4 wpN)) nilP)))) (blP (binP neR2 (callP h_alternating_count (consP V19_2 nilP)) (appP lenFR (consP (lcP (seqIP V19_3) S19_4 (blP (binP eqR (callP h__law_des (consP V19_4 nilP)) (appP tupleR (consP (lcP (rng2P (consP (litP (.int 1)) (consP V19_2 nilP))) S19_11 (blP (binP eqR (binP modR V19_11 (litP (.int 2))) (litP (.int 0)))) V19_11 (wpC S19_11 wpN)) nilP)))) V19_4 (wpC S19_4 wpN)) nilP))))) (retP (litP (.bl false))) passP) (seqP (setP S19_14 (callP takeR (consP V19_1 (consP (litP (.int 5)) nilP)))) (seqP (setP S19_15 (litP (.int 1))) (seqP (forP (rng1P (consP V19_2 nilP)) S19_11 (setP S19_15 (binP mulR V19_15 V19_14))) (seqP (ifSP (andP (blP (binP gtR V19_2 (litP (.int 0)))) (blP (binP neR2 (callP h_worpitzky (consP V19_2 (consP V19_14 nilP))) V19_15))) (retP (litP (.bl false))) passP) (seqP (setP S19_16 (litP (.int 0))) (seqP (forP (seqIP (tupP (consP (tupP (consP (litP (.fn 0)) (consP (tupP (consP (litP (.int 0)) (consP (litP (.int 2)) nilP))) nilP))) (consP (tupP (consP (litP (.fn 0)) (consP (tupP (consP (litP (.int 0)) (consP (litP (.int 0)) nilP))) nilP))) (consP (tupP (consP (litP (.fn 1)) (consP (tupP (consP (litP (.int 2)) (consP (litP (.int 0)) nilP))) nilP))) (consP (tupP (consP (litP (.fn 1)) (consP (tupP (consP (litP (.int 0)) (consP (litP (.int 1)) nilP))) nilP))) (consP (tupP (consP (litP (.fn 2)) (consP (tupP (consP (litP (.int 1)) (consP (litP (.int 1)) nilP))) nilP))) (consP (tupP (consP (litP (.fn 3)) (consP (tupP (consP (litP (.int 3)) nilP)) nilP))) nilP)))))))) (gTP (gsCP S19_17 (gsCP S19_18 gsNP)) 2) (tryP (exprP (callLP G19_17 tbH (consP V19_18 nilP))) hit_NoShape (setP S19_16 (binP addR V19_16 (litP (.int 1)))))) (retP (binP eqR V19_16 (litP (.int 6)))))))))))
theorem qs_12_20 : bs_12_20 = rs_12_20 := by delta bs_12_20 rs_12_20; rw [ifS_R, orT_R, blT_R, neD_R, varC_R, lenF_R, lcC_R, seqI_R, gNm_R, eqD_R, tupleF_R, rng2I_R, modD_R, takeF_R, forC_R, rng1I_R, mulD_R, andT_R, gtD_R, tupC_R, gTp_R, gsC_R, gsN_R, addD_R, G_descent_set_count, G__law_des, G_alternating_count, G_worpitzky, tb_R]
theorem zs_12_20 : RS (enF eF19) 19 rs_12_20 ts_12_20 := by delta rs_12_20 ts_12_20; exact (q_seq (q_ifS (q_or (q_bl (q_bin (q_call H_descent_set_count (q_cons qV19_2 (q_cons qV19_13 q_nil))) (q_app (q_cons (q_lc (q_seqI qV19_3) qS19_4 (q_bl (q_bin (q_call H__law_des (q_cons qV19_4 q_nil)) qV19_13)) qV19_4 (q_wpC qS19_4 q_wpN)) q_nil)))) (q_bl (q_bin (q_call H_alternating_count (q_cons qV19_2 q_nil)) (q_app (q_cons (q_lc (q_seqI qV19_3) qS19_4 (q_bl (q_bin (q_call H__law_des (q_cons qV19_4 q_nil)) (q_app (q_cons (q_lc (q_rng2 (q_cons q_lit (q_cons qV19_2 q_nil))) qS19_11 (q_bl (q_bin (q_bin qV19_11 q_lit) q_lit)) qV19_11 (q_wpC qS19_11 q_wpN)) q_nil)))) qV19_4 (q_wpC qS19_4 q_wpN)) q_nil))))) (q_ret q_lit) q_pass) (q_seq (q_set qS19_14 (q_call rfl (q_cons qV19_1 (q_cons q_lit q_nil)))) (q_seq (q_set qS19_15 q_lit) (q_seq (q_for (q_rng1 (q_cons qV19_2 q_nil)) qS19_11 (q_set qS19_15 (q_bin qV19_15 qV19_14))) (q_seq (q_ifS (q_and (q_bl (q_bin qV19_2 q_lit)) (q_bl (q_bin (q_call H_worpitzky (q_cons qV19_2 (q_cons qV19_14 q_nil))) qV19_15))) (q_ret q_lit) q_pass) (q_seq (q_set qS19_16 q_lit) (q_seq (q_for (q_seqI (q_tup (q_cons (q_tup (q_cons q_lit (q_cons (q_tup (q_cons q_lit (q_cons q_lit q_nil))) q_nil))) (q_cons (q_tup (q_cons q_lit (q_cons (q_tup (q_cons q_lit (q_cons q_lit q_nil))) q_nil))) (q_cons (q_tup (q_cons q_lit (q_cons (q_tup (q_cons q_lit (q_cons q_lit q_nil))) q_nil))) (q_cons (q_tup (q_cons q_lit (q_cons (q_tup (q_cons q_lit (q_cons q_lit q_nil))) q_nil))) (q_cons (q_tup (q_cons q_lit (q_cons (q_tup (q_cons q_lit (q_cons q_lit q_nil))) q_nil))) (q_cons (q_tup (q_cons q_lit (q_cons (q_tup (q_cons q_lit q_nil)) q_nil))) q_nil)))))))) (q_gT (q_gsC qS19_17 (q_gsC qS19_18 q_gsN))) (q_try (q_expr (q_callL tbR_H qG19_17 (q_cons qV19_18 q_nil))) (q_set qS19_16 (q_bin qV19_16 q_lit)))) (q_ret (q_bin qV19_16 q_lit)))))))))
theorem th_12_20 : trB c_law_ sl_12 = some bs_12_20 := by kernel_rfl
def kl_1 : List D := [(.tup [i0, i1, i2, i3, i4]), (.tup [i0, i1, i2, i4, i3]), (.tup [i0, i1, i3, i2, i4]), (.tup [i0, i1, i3, i4, i2]), (.tup [i0, i1, i4, i2, i3]), (.tup [i0, i1, i4, i3, i2]), (.tup [i0, i2, i1, i3, i4]), (.tup [i0, i2, i1, i4, i3]), (.tup [i0, i2, i3, i1, i4]), (.tup [i0, i2, i3, i4, i1]), (.tup [i0, i2, i4, i1, i3]), (.tup [i0, i2, i4, i3, i1]), (.tup [i0, i3, i1, i2, i4]), (.tup [i0, i3, i1, i4, i2]), (.tup [i0, i3, i2, i1, i4]), (.tup [i0, i3, i2, i4, i1]), (.tup [i0, i3, i4, i1, i2]), (.tup [i0, i3, i4, i2, i1]), (.tup [i0, i4, i1, i2, i3]), (.tup [i0, i4, i1, i3, i2]), (.tup [i0, i4, i2, i1, i3]), (.tup [i0, i4, i2, i3, i1]), (.tup [i0, i4, i3, i1, i2]), (.tup [i0, i4, i3, i2, i1]), (.tup [i1, i0, i2, i3, i4]), (.tup [i1, i0, i2, i4, i3]), (.tup [i1, i0, i3, i2, i4]), (.tup [i1, i0, i3, i4, i2]), (.tup [i1, i0, i4, i2, i3]), (.tup [i1, i0, i4, i3, i2]), (.tup [i1, i2, i0, i3, i4]), (.tup [i1, i2, i0, i4, i3]), (.tup [i1, i2, i3, i0, i4]), (.tup [i1, i2, i3, i4, i0]), (.tup [i1, i2, i4, i0, i3]), (.tup [i1, i2, i4, i3, i0]), (.tup [i1, i3, i0, i2, i4]), (.tup [i1, i3, i0, i4, i2]), (.tup [i1, i3, i2, i0, i4]), (.tup [i1, i3, i2, i4, i0]), (.tup [i1, i3, i4, i0, i2]), (.tup [i1, i3, i4, i2, i0]), (.tup [i1, i4, i0, i2, i3]), (.tup [i1, i4, i0, i3, i2]), (.tup [i1, i4, i2, i0, i3]), (.tup [i1, i4, i2, i3, i0]), (.tup [i1, i4, i3, i0, i2]), (.tup [i1, i4, i3, i2, i0]), (.tup [i2, i0, i1, i3, i4]), (.tup [i2, i0, i1, i4, i3]), (.tup [i2, i0, i3, i1, i4]), (.tup [i2, i0, i3, i4, i1]), (.tup [i2, i0, i4, i1, i3]), (.tup [i2, i0, i4, i3, i1]), (.tup [i2, i1, i0, i3, i4]), (.tup [i2, i1, i0, i4, i3]), (.tup [i2, i1, i3, i0, i4]), (.tup [i2, i1, i3, i4, i0]), (.tup [i2, i1, i4, i0, i3]), (.tup [i2, i1, i4, i3, i0]), (.tup [i2, i3, i0, i1, i4]), (.tup [i2, i3, i0, i4, i1]), (.tup [i2, i3, i1, i0, i4]), (.tup [i2, i3, i1, i4, i0]), (.tup [i2, i3, i4, i0, i1]), (.tup [i2, i3, i4, i1, i0]), (.tup [i2, i4, i0, i1, i3]), (.tup [i2, i4, i0, i3, i1]), (.tup [i2, i4, i1, i0, i3]), (.tup [i2, i4, i1, i3, i0]), (.tup [i2, i4, i3, i0, i1]), (.tup [i2, i4, i3, i1, i0]), (.tup [i3, i0, i1, i2, i4]), (.tup [i3, i0, i1, i4, i2]), (.tup [i3, i0, i2, i1, i4]), (.tup [i3, i0, i2, i4, i1]), (.tup [i3, i0, i4, i1, i2]), (.tup [i3, i0, i4, i2, i1]), (.tup [i3, i1, i0, i2, i4]), (.tup [i3, i1, i0, i4, i2]), (.tup [i3, i1, i2, i0, i4]), (.tup [i3, i1, i2, i4, i0]), (.tup [i3, i1, i4, i0, i2]), (.tup [i3, i1, i4, i2, i0]), (.tup [i3, i2, i0, i1, i4]), (.tup [i3, i2, i0, i4, i1]), (.tup [i3, i2, i1, i0, i4]), (.tup [i3, i2, i1, i4, i0]), (.tup [i3, i2, i4, i0, i1]), (.tup [i3, i2, i4, i1, i0]), (.tup [i3, i4, i0, i1, i2]), (.tup [i3, i4, i0, i2, i1]), (.tup [i3, i4, i1, i0, i2]), (.tup [i3, i4, i1, i2, i0]), (.tup [i3, i4, i2, i0, i1]), (.tup [i3, i4, i2, i1, i0]), (.tup [i4, i0, i1, i2, i3]), (.tup [i4, i0, i1, i3, i2]), (.tup [i4, i0, i2, i1, i3]), (.tup [i4, i0, i2, i3, i1]), (.tup [i4, i0, i3, i1, i2]), (.tup [i4, i0, i3, i2, i1]), (.tup [i4, i1, i0, i2, i3]), (.tup [i4, i1, i0, i3, i2]), (.tup [i4, i1, i2, i0, i3]), (.tup [i4, i1, i2, i3, i0]), (.tup [i4, i1, i3, i0, i2]), (.tup [i4, i1, i3, i2, i0]), (.tup [i4, i2, i0, i1, i3]), (.tup [i4, i2, i0, i3, i1]), (.tup [i4, i2, i1, i0, i3]), (.tup [i4, i2, i1, i3, i0]), (.tup [i4, i2, i3, i0, i1]), (.tup [i4, i2, i3, i1, i0]), (.tup [i4, i3, i0, i1, i2]), (.tup [i4, i3, i0, i2, i1]), (.tup [i4, i3, i1, i0, i2]), (.tup [i4, i3, i1, i2, i0]), (.tup [i4, i3, i2, i0, i1]), (.tup [i4, i3, i2, i1, i0])]
def sg_6 : Ev.Env := [.und, .ref 1, i5, .frl kl_1, (.tup [i0, i1, i2, i3]), .und, .und, .und, .und, .und, .und, i4, .und, (.tup [i1, i2, i3, i4]), .und, .und, .und, .und, .und]
def a_6 : E19 := fun f => f .und (.ref (nat_lit 1)) i5 (.ref (nat_lit 2)) (.tup [i0, i1, i2, i3]) .und .und .und .und .und .und i4 .und (.tup [i1, i2, i3, i4]) .und .und .und .und .und
def mm_6 : M := ⟨nat_lit 0, nat_lit 3, (.n (some (.hid)) (.n (some (.tape (nat_lit 0))) .e .e) (.n (some (.lst kl_1)) .e .e)), nat_lit 5⟩
theorem ev_6 : ts_12_20 a_6 mm_6 (fun _ _ => false) (fun _ _ => false) (fun _ _ => false) kT (fun _ _ _ => false) = true := by kernel_rfl
theorem tr_6 : bs_12_20 (envG sg_6 (m02 (nat_lit 5))) (memG sg_6 (m02 (nat_lit 5))) (fun _ _ => false) (fun _ _ => false) (fun _ _ => false) kT (fun _ _ _ => false) = true := by rw [qs_12_20]; exact pieceL zs_12_20 (by rfl) (by rfl) (by rfl) ev_6
theorem ch_6 : Chain c_law_ sl_12 (envG sg_6 (m02 (nat_lit 5))) (memG sg_6 (m02 (nat_lit 5))) := .last th_12_20 tr_6
def sg_7 : Ev.Env := [.und, .ref 1, i5, .frl kl_1, (.tup [i0, i1, i2, i3]), .und, .und, .und, .und, .und, .und, i4, .und, (.tup [i1, i2, i3]), .und, .und, .und, .und, .und]
def a_7 : E19 := fun f => f .und (.ref (nat_lit 1)) i5 (.ref (nat_lit 2)) (.tup [i0, i1, i2, i3]) .und .und .und .und .und .und i4 .und (.tup [i1, i2, i3]) .und .und .und .und .und
def mm_7 : M := ⟨nat_lit 0, nat_lit 3, (.n (some (.hid)) (.n (some (.tape (nat_lit 0))) .e .e) (.n (some (.lst kl_1)) .e .e)), nat_lit 5⟩
theorem ev_7 : ts_12_20 a_7 mm_7 (fun _ _ => false) (fun _ _ => false) (fun _ _ => false) kT (fun _ _ _ => false) = true := by kernel_rfl
theorem tr_7 : bs_12_20 (envG sg_7 (m02 (nat_lit 5))) (memG sg_7 (m02 (nat_lit 5))) (fun _ _ => false) (fun _ _ => false) (fun _ _ => false) kT (fun _ _ _ => false) = true := by rw [qs_12_20]; exact pieceL zs_12_20 (by rfl) (by rfl) (by rfl) ev_7
theorem ch_7 : Chain c_law_ sl_12 (envG sg_7 (m02 (nat_lit 5))) (memG sg_7 (m02 (nat_lit 5))) := .last th_12_20 tr_7
def sg_8 : Ev.Env := [.und, .ref 1, i5, .frl kl_1, (.tup [i0, i1, i2, i3]), .und, .und, .und, .und, .und, .und, i4, .und, (.tup [i1, i2, i4]), .und, .und, .und, .und, .und]
def a_8 : E19 := fun f => f .und (.ref (nat_lit 1)) i5 (.ref (nat_lit 2)) (.tup [i0, i1, i2, i3]) .und .und .und .und .und .und i4 .und (.tup [i1, i2, i4]) .und .und .und .und .und
def mm_8 : M := ⟨nat_lit 0, nat_lit 3, (.n (some (.hid)) (.n (some (.tape (nat_lit 0))) .e .e) (.n (some (.lst kl_1)) .e .e)), nat_lit 5⟩
theorem ev_8 : ts_12_20 a_8 mm_8 (fun _ _ => false) (fun _ _ => false) (fun _ _ => false) kT (fun _ _ _ => false) = true := by kernel_rfl
theorem tr_8 : bs_12_20 (envG sg_8 (m02 (nat_lit 5))) (memG sg_8 (m02 (nat_lit 5))) (fun _ _ => false) (fun _ _ => false) (fun _ _ => false) kT (fun _ _ _ => false) = true := by rw [qs_12_20]; exact pieceL zs_12_20 (by rfl) (by rfl) (by rfl) ev_8
theorem ch_8 : Chain c_law_ sl_12 (envG sg_8 (m02 (nat_lit 5))) (memG sg_8 (m02 (nat_lit 5))) := .last th_12_20 tr_8
def sg_9 : Ev.Env := [.und, .ref 1, i5, .frl kl_1, (.tup [i0, i1, i2, i3]), .und, .und, .und, .und, .und, .und, i4, .und, (.tup [i1, i2]), .und, .und, .und, .und, .und]
def a_9 : E19 := fun f => f .und (.ref (nat_lit 1)) i5 (.ref (nat_lit 2)) (.tup [i0, i1, i2, i3]) .und .und .und .und .und .und i4 .und (.tup [i1, i2]) .und .und .und .und .und
def mm_9 : M := ⟨nat_lit 0, nat_lit 3, (.n (some (.hid)) (.n (some (.tape (nat_lit 0))) .e .e) (.n (some (.lst kl_1)) .e .e)), nat_lit 5⟩
theorem ev_9 : ts_12_20 a_9 mm_9 (fun _ _ => false) (fun _ _ => false) (fun _ _ => false) kT (fun _ _ _ => false) = true := by kernel_rfl
theorem tr_9 : bs_12_20 (envG sg_9 (m02 (nat_lit 5))) (memG sg_9 (m02 (nat_lit 5))) (fun _ _ => false) (fun _ _ => false) (fun _ _ => false) kT (fun _ _ _ => false) = true := by rw [qs_12_20]; exact pieceL zs_12_20 (by rfl) (by rfl) (by rfl) ev_9
theorem ch_9 : Chain c_law_ sl_12 (envG sg_9 (m02 (nat_lit 5))) (memG sg_9 (m02 (nat_lit 5))) := .last th_12_20 tr_9
def sg_10 : Ev.Env := [.und, .ref 1, i5, .frl kl_1, (.tup [i0, i1, i2, i3]), .und, .und, .und, .und, .und, .und, i4, .und, (.tup [i1, i3, i4]), .und, .und, .und, .und, .und]
def a_10 : E19 := fun f => f .und (.ref (nat_lit 1)) i5 (.ref (nat_lit 2)) (.tup [i0, i1, i2, i3]) .und .und .und .und .und .und i4 .und (.tup [i1, i3, i4]) .und .und .und .und .und
def mm_10 : M := ⟨nat_lit 0, nat_lit 3, (.n (some (.hid)) (.n (some (.tape (nat_lit 0))) .e .e) (.n (some (.lst kl_1)) .e .e)), nat_lit 5⟩
theorem ev_10 : ts_12_20 a_10 mm_10 (fun _ _ => false) (fun _ _ => false) (fun _ _ => false) kT (fun _ _ _ => false) = true := by kernel_rfl
theorem tr_10 : bs_12_20 (envG sg_10 (m02 (nat_lit 5))) (memG sg_10 (m02 (nat_lit 5))) (fun _ _ => false) (fun _ _ => false) (fun _ _ => false) kT (fun _ _ _ => false) = true := by rw [qs_12_20]; exact pieceL zs_12_20 (by rfl) (by rfl) (by rfl) ev_10
theorem ch_10 : Chain c_law_ sl_12 (envG sg_10 (m02 (nat_lit 5))) (memG sg_10 (m02 (nat_lit 5))) := .last th_12_20 tr_10
def sg_11 : Ev.Env := [.und, .ref 1, i5, .frl kl_1, (.tup [i0, i1, i2, i3]), .und, .und, .und, .und, .und, .und, i4, .und, (.tup [i1, i3]), .und, .und, .und, .und, .und]
def a_11 : E19 := fun f => f .und (.ref (nat_lit 1)) i5 (.ref (nat_lit 2)) (.tup [i0, i1, i2, i3]) .und .und .und .und .und .und i4 .und (.tup [i1, i3]) .und .und .und .und .und
def mm_11 : M := ⟨nat_lit 0, nat_lit 3, (.n (some (.hid)) (.n (some (.tape (nat_lit 0))) .e .e) (.n (some (.lst kl_1)) .e .e)), nat_lit 5⟩
theorem ev_11 : ts_12_20 a_11 mm_11 (fun _ _ => false) (fun _ _ => false) (fun _ _ => false) kT (fun _ _ _ => false) = true := by kernel_rfl
theorem tr_11 : bs_12_20 (envG sg_11 (m02 (nat_lit 5))) (memG sg_11 (m02 (nat_lit 5))) (fun _ _ => false) (fun _ _ => false) (fun _ _ => false) kT (fun _ _ _ => false) = true := by rw [qs_12_20]; exact pieceL zs_12_20 (by rfl) (by rfl) (by rfl) ev_11
theorem ch_11 : Chain c_law_ sl_12 (envG sg_11 (m02 (nat_lit 5))) (memG sg_11 (m02 (nat_lit 5))) := .last th_12_20 tr_11
def sg_12 : Ev.Env := [.und, .ref 1, i5, .frl kl_1, (.tup [i0, i1, i2, i3]), .und, .und, .und, .und, .und, .und, i4, .und, (.tup [i1, i4]), .und, .und, .und, .und, .und]
def a_12 : E19 := fun f => f .und (.ref (nat_lit 1)) i5 (.ref (nat_lit 2)) (.tup [i0, i1, i2, i3]) .und .und .und .und .und .und i4 .und (.tup [i1, i4]) .und .und .und .und .und
def mm_12 : M := ⟨nat_lit 0, nat_lit 3, (.n (some (.hid)) (.n (some (.tape (nat_lit 0))) .e .e) (.n (some (.lst kl_1)) .e .e)), nat_lit 5⟩
theorem ev_12 : ts_12_20 a_12 mm_12 (fun _ _ => false) (fun _ _ => false) (fun _ _ => false) kT (fun _ _ _ => false) = true := by kernel_rfl
theorem tr_12 : bs_12_20 (envG sg_12 (m02 (nat_lit 5))) (memG sg_12 (m02 (nat_lit 5))) (fun _ _ => false) (fun _ _ => false) (fun _ _ => false) kT (fun _ _ _ => false) = true := by rw [qs_12_20]; exact pieceL zs_12_20 (by rfl) (by rfl) (by rfl) ev_12
theorem ch_12 : Chain c_law_ sl_12 (envG sg_12 (m02 (nat_lit 5))) (memG sg_12 (m02 (nat_lit 5))) := .last th_12_20 tr_12
def sg_13 : Ev.Env := [.und, .ref 1, i5, .frl kl_1, (.tup [i0, i1, i2, i3]), .und, .und, .und, .und, .und, .und, i4, .und, (.tup [i1]), .und, .und, .und, .und, .und]
def a_13 : E19 := fun f => f .und (.ref (nat_lit 1)) i5 (.ref (nat_lit 2)) (.tup [i0, i1, i2, i3]) .und .und .und .und .und .und i4 .und (.tup [i1]) .und .und .und .und .und
def mm_13 : M := ⟨nat_lit 0, nat_lit 3, (.n (some (.hid)) (.n (some (.tape (nat_lit 0))) .e .e) (.n (some (.lst kl_1)) .e .e)), nat_lit 5⟩
theorem ev_13 : ts_12_20 a_13 mm_13 (fun _ _ => false) (fun _ _ => false) (fun _ _ => false) kT (fun _ _ _ => false) = true := by kernel_rfl
theorem tr_13 : bs_12_20 (envG sg_13 (m02 (nat_lit 5))) (memG sg_13 (m02 (nat_lit 5))) (fun _ _ => false) (fun _ _ => false) (fun _ _ => false) kT (fun _ _ _ => false) = true := by rw [qs_12_20]; exact pieceL zs_12_20 (by rfl) (by rfl) (by rfl) ev_13
theorem ch_13 : Chain c_law_ sl_12 (envG sg_13 (m02 (nat_lit 5))) (memG sg_13 (m02 (nat_lit 5))) := .last th_12_20 tr_13
def sg_14 : Ev.Env := [.und, .ref 1, i5, .frl kl_1, (.tup [i0, i1, i2, i3]), .und, .und, .und, .und, .und, .und, i4, .und, (.tup [i2, i3, i4]), .und, .und, .und, .und, .und]
def a_14 : E19 := fun f => f .und (.ref (nat_lit 1)) i5 (.ref (nat_lit 2)) (.tup [i0, i1, i2, i3]) .und .und .und .und .und .und i4 .und (.tup [i2, i3, i4]) .und .und .und .und .und
def mm_14 : M := ⟨nat_lit 0, nat_lit 3, (.n (some (.hid)) (.n (some (.tape (nat_lit 0))) .e .e) (.n (some (.lst kl_1)) .e .e)), nat_lit 5⟩
theorem ev_14 : ts_12_20 a_14 mm_14 (fun _ _ => false) (fun _ _ => false) (fun _ _ => false) kT (fun _ _ _ => false) = true := by kernel_rfl
theorem tr_14 : bs_12_20 (envG sg_14 (m02 (nat_lit 5))) (memG sg_14 (m02 (nat_lit 5))) (fun _ _ => false) (fun _ _ => false) (fun _ _ => false) kT (fun _ _ _ => false) = true := by rw [qs_12_20]; exact pieceL zs_12_20 (by rfl) (by rfl) (by rfl) ev_14
theorem ch_14 : Chain c_law_ sl_12 (envG sg_14 (m02 (nat_lit 5))) (memG sg_14 (m02 (nat_lit 5))) := .last th_12_20 tr_14
def sg_15 : Ev.Env := [.und, .ref 1, i5, .frl kl_1, (.tup [i0, i1, i2, i3]), .und, .und, .und, .und, .und, .und, i4, .und, (.tup [i2, i3]), .und, .und, .und, .und, .und]
def a_15 : E19 := fun f => f .und (.ref (nat_lit 1)) i5 (.ref (nat_lit 2)) (.tup [i0, i1, i2, i3]) .und .und .und .und .und .und i4 .und (.tup [i2, i3]) .und .und .und .und .und
def mm_15 : M := ⟨nat_lit 0, nat_lit 3, (.n (some (.hid)) (.n (some (.tape (nat_lit 0))) .e .e) (.n (some (.lst kl_1)) .e .e)), nat_lit 5⟩
theorem ev_15 : ts_12_20 a_15 mm_15 (fun _ _ => false) (fun _ _ => false) (fun _ _ => false) kT (fun _ _ _ => false) = true := by kernel_rfl
theorem tr_15 : bs_12_20 (envG sg_15 (m02 (nat_lit 5))) (memG sg_15 (m02 (nat_lit 5))) (fun _ _ => false) (fun _ _ => false) (fun _ _ => false) kT (fun _ _ _ => false) = true := by rw [qs_12_20]; exact pieceL zs_12_20 (by rfl) (by rfl) (by rfl) ev_15
theorem ch_15 : Chain c_law_ sl_12 (envG sg_15 (m02 (nat_lit 5))) (memG sg_15 (m02 (nat_lit 5))) := .last th_12_20 tr_15
def sg_16 : Ev.Env := [.und, .ref 1, i5, .frl kl_1, (.tup [i0, i1, i2, i3]), .und, .und, .und, .und, .und, .und, i4, .und, (.tup [i2, i4]), .und, .und, .und, .und, .und]
def a_16 : E19 := fun f => f .und (.ref (nat_lit 1)) i5 (.ref (nat_lit 2)) (.tup [i0, i1, i2, i3]) .und .und .und .und .und .und i4 .und (.tup [i2, i4]) .und .und .und .und .und
def mm_16 : M := ⟨nat_lit 0, nat_lit 3, (.n (some (.hid)) (.n (some (.tape (nat_lit 0))) .e .e) (.n (some (.lst kl_1)) .e .e)), nat_lit 5⟩
theorem ev_16 : ts_12_20 a_16 mm_16 (fun _ _ => false) (fun _ _ => false) (fun _ _ => false) kT (fun _ _ _ => false) = true := by kernel_rfl
theorem tr_16 : bs_12_20 (envG sg_16 (m02 (nat_lit 5))) (memG sg_16 (m02 (nat_lit 5))) (fun _ _ => false) (fun _ _ => false) (fun _ _ => false) kT (fun _ _ _ => false) = true := by rw [qs_12_20]; exact pieceL zs_12_20 (by rfl) (by rfl) (by rfl) ev_16
theorem ch_16 : Chain c_law_ sl_12 (envG sg_16 (m02 (nat_lit 5))) (memG sg_16 (m02 (nat_lit 5))) := .last th_12_20 tr_16
def sg_17 : Ev.Env := [.und, .ref 1, i5, .frl kl_1, (.tup [i0, i1, i2, i3]), .und, .und, .und, .und, .und, .und, i4, .und, (.tup [i2]), .und, .und, .und, .und, .und]
def a_17 : E19 := fun f => f .und (.ref (nat_lit 1)) i5 (.ref (nat_lit 2)) (.tup [i0, i1, i2, i3]) .und .und .und .und .und .und i4 .und (.tup [i2]) .und .und .und .und .und
def mm_17 : M := ⟨nat_lit 0, nat_lit 3, (.n (some (.hid)) (.n (some (.tape (nat_lit 0))) .e .e) (.n (some (.lst kl_1)) .e .e)), nat_lit 5⟩
theorem ev_17 : ts_12_20 a_17 mm_17 (fun _ _ => false) (fun _ _ => false) (fun _ _ => false) kT (fun _ _ _ => false) = true := by kernel_rfl
theorem tr_17 : bs_12_20 (envG sg_17 (m02 (nat_lit 5))) (memG sg_17 (m02 (nat_lit 5))) (fun _ _ => false) (fun _ _ => false) (fun _ _ => false) kT (fun _ _ _ => false) = true := by rw [qs_12_20]; exact pieceL zs_12_20 (by rfl) (by rfl) (by rfl) ev_17
theorem ch_17 : Chain c_law_ sl_12 (envG sg_17 (m02 (nat_lit 5))) (memG sg_17 (m02 (nat_lit 5))) := .last th_12_20 tr_17
def sg_18 : Ev.Env := [.und, .ref 1, i5, .frl kl_1, (.tup [i0, i1, i2, i3]), .und, .und, .und, .und, .und, .und, i4, .und, (.tup [i3, i4]), .und, .und, .und, .und, .und]
def a_18 : E19 := fun f => f .und (.ref (nat_lit 1)) i5 (.ref (nat_lit 2)) (.tup [i0, i1, i2, i3]) .und .und .und .und .und .und i4 .und (.tup [i3, i4]) .und .und .und .und .und
def mm_18 : M := ⟨nat_lit 0, nat_lit 3, (.n (some (.hid)) (.n (some (.tape (nat_lit 0))) .e .e) (.n (some (.lst kl_1)) .e .e)), nat_lit 5⟩
theorem ev_18 : ts_12_20 a_18 mm_18 (fun _ _ => false) (fun _ _ => false) (fun _ _ => false) kT (fun _ _ _ => false) = true := by kernel_rfl
theorem tr_18 : bs_12_20 (envG sg_18 (m02 (nat_lit 5))) (memG sg_18 (m02 (nat_lit 5))) (fun _ _ => false) (fun _ _ => false) (fun _ _ => false) kT (fun _ _ _ => false) = true := by rw [qs_12_20]; exact pieceL zs_12_20 (by rfl) (by rfl) (by rfl) ev_18
theorem ch_18 : Chain c_law_ sl_12 (envG sg_18 (m02 (nat_lit 5))) (memG sg_18 (m02 (nat_lit 5))) := .last th_12_20 tr_18
def sg_19 : Ev.Env := [.und, .ref 1, i5, .frl kl_1, (.tup [i0, i1, i2, i3]), .und, .und, .und, .und, .und, .und, i4, .und, (.tup [i3]), .und, .und, .und, .und, .und]
def a_19 : E19 := fun f => f .und (.ref (nat_lit 1)) i5 (.ref (nat_lit 2)) (.tup [i0, i1, i2, i3]) .und .und .und .und .und .und i4 .und (.tup [i3]) .und .und .und .und .und
def mm_19 : M := ⟨nat_lit 0, nat_lit 3, (.n (some (.hid)) (.n (some (.tape (nat_lit 0))) .e .e) (.n (some (.lst kl_1)) .e .e)), nat_lit 5⟩
theorem ev_19 : ts_12_20 a_19 mm_19 (fun _ _ => false) (fun _ _ => false) (fun _ _ => false) kT (fun _ _ _ => false) = true := by kernel_rfl
theorem tr_19 : bs_12_20 (envG sg_19 (m02 (nat_lit 5))) (memG sg_19 (m02 (nat_lit 5))) (fun _ _ => false) (fun _ _ => false) (fun _ _ => false) kT (fun _ _ _ => false) = true := by rw [qs_12_20]; exact pieceL zs_12_20 (by rfl) (by rfl) (by rfl) ev_19
theorem ch_19 : Chain c_law_ sl_12 (envG sg_19 (m02 (nat_lit 5))) (memG sg_19 (m02 (nat_lit 5))) := .last th_12_20 tr_19
def sg_20 : Ev.Env := [.und, .ref 1, i5, .frl kl_1, (.tup [i0, i1, i2, i3]), .und, .und, .und, .und, .und, .und, i4, .und, (.tup [i4]), .und, .und, .und, .und, .und]
def a_20 : E19 := fun f => f .und (.ref (nat_lit 1)) i5 (.ref (nat_lit 2)) (.tup [i0, i1, i2, i3]) .und .und .und .und .und .und i4 .und (.tup [i4]) .und .und .und .und .und
def mm_20 : M := ⟨nat_lit 0, nat_lit 3, (.n (some (.hid)) (.n (some (.tape (nat_lit 0))) .e .e) (.n (some (.lst kl_1)) .e .e)), nat_lit 5⟩
theorem ev_20 : ts_12_20 a_20 mm_20 (fun _ _ => false) (fun _ _ => false) (fun _ _ => false) kT (fun _ _ _ => false) = true := by kernel_rfl
theorem tr_20 : bs_12_20 (envG sg_20 (m02 (nat_lit 5))) (memG sg_20 (m02 (nat_lit 5))) (fun _ _ => false) (fun _ _ => false) (fun _ _ => false) kT (fun _ _ _ => false) = true := by rw [qs_12_20]; exact pieceL zs_12_20 (by rfl) (by rfl) (by rfl) ev_20
theorem ch_20 : Chain c_law_ sl_12 (envG sg_20 (m02 (nat_lit 5))) (memG sg_20 (m02 (nat_lit 5))) := .last th_12_20 tr_20
def sg_21 : Ev.Env := [.und, .ref 1, i5, .frl kl_1, (.tup [i0, i1, i2, i3]), .und, .und, .und, .und, .und, .und, i4, .und, (.tup []), .und, .und, .und, .und, .und]
def a_21 : E19 := fun f => f .und (.ref (nat_lit 1)) i5 (.ref (nat_lit 2)) (.tup [i0, i1, i2, i3]) .und .und .und .und .und .und i4 .und (.tup []) .und .und .und .und .und
def mm_21 : M := ⟨nat_lit 0, nat_lit 3, (.n (some (.hid)) (.n (some (.tape (nat_lit 0))) .e .e) (.n (some (.lst kl_1)) .e .e)), nat_lit 5⟩
theorem ev_21 : ts_12_20 a_21 mm_21 (fun _ _ => false) (fun _ _ => false) (fun _ _ => false) kT (fun _ _ _ => false) = true := by kernel_rfl
theorem tr_21 : bs_12_20 (envG sg_21 (m02 (nat_lit 5))) (memG sg_21 (m02 (nat_lit 5))) (fun _ _ => false) (fun _ _ => false) (fun _ _ => false) kT (fun _ _ _ => false) = true := by rw [qs_12_20]; exact pieceL zs_12_20 (by rfl) (by rfl) (by rfl) ev_21
theorem ch_21 : Chain c_law_ sl_12 (envG sg_21 (m02 (nat_lit 5))) (memG sg_21 (m02 (nat_lit 5))) := .last th_12_20 tr_21
def bs_7_12 : SemS := (seqC (ifS (blT (binC neD (callC p_stirling_cycles (consC (varC 2) nilC)) (callC p__law_count (consC (lcC (seqI (varC 3)) (gNm 4) yesT (appC lenF (consC (callC p__law_rings (consC (varC 4) nilC)) nilC)) [4]) (consC (binC addD (varC 2) (litC (.int 1))) nilC))))) (retC (litC (.bl false))) passC)
  (seqC (setC (gNm 10) (lstC (consC (tupC nilC) nilC)))
  (seqC (forC (rng1I (consC (varC 2) nilC)) (gNm 11) (seqC (setC (gNm 12) (lstC nilC))
  (seqC (forC (seqI (varC 10)) (gNm 4) (setC (gNm 12) (binC addD (varC 12) (lcC (rng1I (consC (binC addD (appC maxF (consC (binC addD (tupC (consC (unC negD (litC (.int 1))) nilC)) (varC 4)) nilC)) (litC (.int 2))) nilC)) (gNm 14) yesT (binC addD (varC 4) (tupC (consC (varC 14) nilC))) [14]))))
  (setC (gNm 10) (varC 12)))))
  (seqC (ifS (blT (binC neD (callC p_stirling_parts (consC (varC 2) nilC)) (callC p__law_count (consC (lcC (seqI (varC 10)) (gNm 4) yesT (binC addD (appC maxF (consC (binC addD (tupC (consC (unC negD (litC (.int 1))) nilC)) (varC 4)) nilC)) (litC (.int 1))) [4]) (consC (binC addD (varC 2) (litC (.int 1))) nilC))))) (retC (litC (.bl false))) passC)
  (setC (gNm 13) (appC tupleF (consC (lcC (rng2I (consC (litC (.int 1)) (consC (varC 2) nilC))) (gNm 11) (blT (binC eqD (callC takeF (consC (varC 1) (consC (litC (.int 2)) nilC))) (litC (.int 0)))) (varC 11) [11]) nilC)))))))
def rs_7_12 : SemS := (seqC (ifSR (blR (binC neR2 (callC g_stirling_cycles (consC (varR 2) nilC)) (callC g__law_count (consC (lcR2 (seqIR (varR 3)) (gNR 4) yesT (appC lenFR (consC (callC g__law_rings (consC (varR 4) nilC)) nilC)) [4]) (consC (binC addR (varR 2) (litC (.int 1))) nilC))))) (retC (litC (.bl false))) passC)
  (seqC (setC (gNR 10) (lstR (consC (tupR nilC) nilC)))
  (seqC (forR (rng1R (consC (varR 2) nilC)) (gNR 11) (seqC (setC (gNR 12) (lstR nilC))
  (seqC (forR (seqIR (varR 10)) (gNR 4) (setC (gNR 12) (binC addR (varR 12) (lcR2 (rng1R (consC (binC addR (appC maxR (consC (binC addR (tupR (consC (unC negR (litC (.int 1))) nilC)) (varR 4)) nilC)) (litC (.int 2))) nilC)) (gNR 14) yesT (binC addR (varR 4) (tupR (consC (varR 14) nilC))) [14]))))
  (setC (gNR 10) (varR 12)))))
  (seqC (ifSR (blR (binC neR2 (callC g_stirling_parts (consC (varR 2) nilC)) (callC g__law_count (consC (lcR2 (seqIR (varR 10)) (gNR 4) yesT (binC addR (appC maxR (consC (binC addR (tupR (consC (unC negR (litC (.int 1))) nilC)) (varR 4)) nilC)) (litC (.int 1))) [4]) (consC (binC addR (varR 2) (litC (.int 1))) nilC))))) (retC (litC (.bl false))) passC)
  (setC (gNR 13) (appC tupleR (consC (lcR2 (rng2R (consC (litC (.int 1)) (consC (varR 2) nilC))) (gNR 11) (blR (binC eqR (callC takeR (consC (varR 1) (consC (litC (.int 2)) nilC))) (litC (.int 0)))) (varR 11) [11]) nilC)))))))
def ts_7_12 : XS E19 := (seqP (ifSP (blP (binP neR2 (callP h_stirling_cycles (consP V19_2 nilP)) (callP h__law_count (consP (lcP (seqIP V19_3) S19_4 yesP (appP lenFR (consP (callP h__law_rings (consP V19_4 nilP)) nilP)) (wpC S19_4 wpN)) (consP (binP addR V19_2 (litP (.int 1))) nilP))))) (retP (litP (.bl false))) passP) (seqP (setP S19_10 (lstP (consP (tupP nilP) nilP))) (seqP (forP (rng1P (consP V19_2 nilP)) S19_11 (seqP (setP S19_12 (lstP nilP)) (seqP (forP (seqIP V19_10) S19_4 (setP S19_12 (binP addR V19_12 (lcP (rng1P (consP (binP addR (appP maxR (consP (binP addR (tupP (consP (unP negR (litP (.int 1))) nilP)) V19_4) nilP)) (litP (.int 2))) nilP)) S19_14 yesP (binP addR V19_4 (tupP (consP V19_14 nilP))) (wpC S19_14 wpN))))) (setP S19_10 V19_12)))) (seqP (ifSP (blP (binP neR2 (callP h_stirling_parts (consP V19_2 nilP)) (callP h__law_count (consP (lcP (seqIP V19_10) S19_4 yesP (binP addR (appP maxR (consP (binP addR (tupP (consP (unP negR (litP (.int 1))) nilP)) V19_4) nilP)) (litP (.int 1))) (wpC S19_4 wpN)) (consP (binP addR V19_2 (litP (.int 1))) nilP))))) (retP (litP (.bl false))) passP) (setP S19_13 (appP tupleR (consP (lcP (rng2P (consP (litP (.int 1)) (consP V19_2 nilP))) S19_11 (blP (binP eqR (callP takeR (consP V19_1 (consP (litP (.int 2)) nilP))) (litP (.int 0)))) V19_11 (wpC S19_11 wpN)) nilP)))))))
theorem qs_7_12 : bs_7_12 = rs_7_12 := by delta bs_7_12 rs_7_12; rw [ifS_R, blT_R, neD_R, varC_R, lcC_R, seqI_R, gNm_R, lenF_R, addD_R, lstC_R, tupC_R, forC_R, rng1I_R, maxF_R, negD_R, tupleF_R, rng2I_R, eqD_R, takeF_R, G_stirling_cycles, G__law_count, G__law_rings, G_stirling_parts]
theorem zs_7_12 : RS (enF eF19) 19 rs_7_12 ts_7_12 := by delta rs_7_12 ts_7_12; exact (q_seq (q_ifS (q_bl (q_bin (q_call H_stirling_cycles (q_cons qV19_2 q_nil)) (q_call H__law_count (q_cons (q_lc (q_seqI qV19_3) qS19_4 q_yes (q_app (q_cons (q_call H__law_rings (q_cons qV19_4 q_nil)) q_nil)) (q_wpC qS19_4 q_wpN)) (q_cons (q_bin qV19_2 q_lit) q_nil))))) (q_ret q_lit) q_pass) (q_seq (q_set qS19_10 (q_lst (q_cons (q_tup q_nil) q_nil))) (q_seq (q_for (q_rng1 (q_cons qV19_2 q_nil)) qS19_11 (q_seq (q_set qS19_12 (q_lst q_nil)) (q_seq (q_for (q_seqI qV19_10) qS19_4 (q_set qS19_12 (q_bin qV19_12 (q_lc (q_rng1 (q_cons (q_bin (q_app (q_cons (q_bin (q_tup (q_cons (q_un q_lit) q_nil)) qV19_4) q_nil)) q_lit) q_nil)) qS19_14 q_yes (q_bin qV19_4 (q_tup (q_cons qV19_14 q_nil))) (q_wpC qS19_14 q_wpN))))) (q_set qS19_10 qV19_12)))) (q_seq (q_ifS (q_bl (q_bin (q_call H_stirling_parts (q_cons qV19_2 q_nil)) (q_call H__law_count (q_cons (q_lc (q_seqI qV19_10) qS19_4 q_yes (q_bin (q_app (q_cons (q_bin (q_tup (q_cons (q_un q_lit) q_nil)) qV19_4) q_nil)) q_lit) (q_wpC qS19_4 q_wpN)) (q_cons (q_bin qV19_2 q_lit) q_nil))))) (q_ret q_lit) q_pass) (q_set qS19_13 (q_app (q_cons (q_lc (q_rng2 (q_cons q_lit (q_cons qV19_2 q_nil))) qS19_11 (q_bl (q_bin (q_call rfl (q_cons qV19_1 (q_cons q_lit q_nil))) q_lit)) qV19_11 (q_wpC qS19_11 q_wpN)) q_nil)))))))
theorem th_7_12 : trB c_law_ (List.take 5 sl_7) = some bs_7_12 := by kernel_rfl
theorem sd_7_12 : List.drop 5 sl_7 = sl_12 := by unfold sl_7 sl_12; rw [List.drop_drop]
def sg_22 : Ev.Env := [.und, .ref 1, i5, .frl kl_1, (.tup [i4, i3, i2, i1, i0]), .und, .und, .und, .und, .und, .und, .und, .und, .und, .und, .und, .und, .und, .und]
def a_22 : E19 := fun f => f .und (.ref (nat_lit 1)) i5 (.ref (nat_lit 2)) (.tup [i4, i3, i2, i1, i0]) .und .und .und .und .und .und .und .und .und .und .und .und .und .und
def mm_22 : M := ⟨nat_lit 0, nat_lit 3, (.n (some (.hid)) (.n (some (.tape (nat_lit 0))) .e .e) (.n (some (.lst kl_1)) .e .e)), nat_lit 1⟩
def al_22 : List (Ev.Env × Nat) := [(sg_6, nat_lit 5), (sg_7, nat_lit 5), (sg_8, nat_lit 5), (sg_9, nat_lit 5), (sg_10, nat_lit 5), (sg_11, nat_lit 5), (sg_12, nat_lit 5), (sg_13, nat_lit 5), (sg_14, nat_lit 5), (sg_15, nat_lit 5), (sg_16, nat_lit 5), (sg_17, nat_lit 5), (sg_18, nat_lit 5), (sg_19, nat_lit 5), (sg_20, nat_lit 5), (sg_21, nat_lit 5)]
theorem ev_22 : ts_7_12 a_22 mm_22 (fun a m => ls19 a fun ρ => altB al_22 ρ m) (fun _ _ => false) (fun _ _ => false) kT (fun _ _ _ => false) = true := by kernel_rfl
theorem tr_22 : bs_7_12 (envG sg_22 (m02 (nat_lit 1))) (memG sg_22 (m02 (nat_lit 1))) (fun ρ1 m1 => altB al_22 ρ1 m1) (fun _ _ => false) (fun _ _ => false) kT (fun _ _ _ => false) = true := by rw [qs_7_12]; exact piece zs_7_12 (by rfl) (fun _ _ => rfl) (by rfl) (by rfl) ev_22
theorem ch_22 : Chain c_law_ sl_7 (envG sg_22 (m02 (nat_lit 1))) (memG sg_22 (m02 (nat_lit 1))) := .alt 5 al_22 th_7_12 tr_22 (by rw [sd_7_12]; exact (alt_cons ch_6 (alt_cons ch_7 (alt_cons ch_8 (alt_cons ch_9 (alt_cons ch_10 (alt_cons ch_11 (alt_cons ch_12 (alt_cons ch_13 (alt_cons ch_14 (alt_cons ch_15 (alt_cons ch_16 (alt_cons ch_17 (alt_cons ch_18 (alt_cons ch_19 (alt_cons ch_20 (alt_cons ch_21 alt_nil)))))))))))))))))
def sl_6 : List Stmt := List.drop 6 (defBody (st 41))
def bs_6_7 : SemS := (ifS (orT (andT (blT (binC gtD (varC 2) (litC (.int 0)))) (blT (binC neD (callC p_eulerian (consC (varC 2) nilC)) (callC p__law_count (consC (lcC (seqI (varC 3)) (gNm 4) yesT (appC lenF (consC (callC p__law_des (consC (varC 4) nilC)) nilC)) [4]) (consC (varC 2) nilC)))))) (andT (blT (binC gtD (varC 2) (litC (.int 0)))) (blT (binC neD (callC p_mahonian (consC (varC 2) nilC)) (callC p__law_count (consC (lcC (seqI (varC 3)) (gNm 4) yesT (callC p__law_inv (consC (varC 4) nilC)) [4]) (consC (binC addD (binC fdivD (binC mulD (varC 2) (binC subD (varC 2) (litC (.int 1)))) (litC (.int 2))) (litC (.int 1))) nilC))))))) (retC (litC (.bl false))) passC)
def rs_6_7 : SemS := (ifSR (orR (andR (blR (binC gtR (varR 2) (litC (.int 0)))) (blR (binC neR2 (callC g_eulerian (consC (varR 2) nilC)) (callC g__law_count (consC (lcR2 (seqIR (varR 3)) (gNR 4) yesT (appC lenFR (consC (callC g__law_des (consC (varR 4) nilC)) nilC)) [4]) (consC (varR 2) nilC)))))) (andR (blR (binC gtR (varR 2) (litC (.int 0)))) (blR (binC neR2 (callC g_mahonian (consC (varR 2) nilC)) (callC g__law_count (consC (lcR2 (seqIR (varR 3)) (gNR 4) yesT (callC g__law_inv (consC (varR 4) nilC)) [4]) (consC (binC addR (binC fdivR (binC mulR (varR 2) (binC subR (varR 2) (litC (.int 1)))) (litC (.int 2))) (litC (.int 1))) nilC))))))) (retC (litC (.bl false))) passC)
def ts_6_7 : XS E19 := (ifSP (orP (andP (blP (binP gtR V19_2 (litP (.int 0)))) (blP (binP neR2 (callP h_eulerian (consP V19_2 nilP)) (callP h__law_count (consP (lcP (seqIP V19_3) S19_4 yesP (appP lenFR (consP (callP h__law_des (consP V19_4 nilP)) nilP)) (wpC S19_4 wpN)) (consP V19_2 nilP)))))) (andP (blP (binP gtR V19_2 (litP (.int 0)))) (blP (binP neR2 (callP h_mahonian (consP V19_2 nilP)) (callP h__law_count (consP (lcP (seqIP V19_3) S19_4 yesP (callP h__law_inv (consP V19_4 nilP)) (wpC S19_4 wpN)) (consP (binP addR (binP fdivR (binP mulR V19_2 (binP subR V19_2 (litP (.int 1)))) (litP (.int 2))) (litP (.int 1))) nilP))))))) (retP (litP (.bl false))) passP)
theorem qs_6_7 : bs_6_7 = rs_6_7 := by delta bs_6_7 rs_6_7; rw [ifS_R, orT_R, andT_R, blT_R, gtD_R, varC_R, neD_R, lcC_R, seqI_R, gNm_R, lenF_R, addD_R, fdivD_R, mulD_R, subD_R, G_eulerian, G__law_count, G__law_des, G_mahonian, G__law_inv]
theorem zs_6_7 : RS (enF eF19) 19 rs_6_7 ts_6_7 := by delta rs_6_7 ts_6_7; exact (q_ifS (q_or (q_and (q_bl (q_bin qV19_2 q_lit)) (q_bl (q_bin (q_call H_eulerian (q_cons qV19_2 q_nil)) (q_call H__law_count (q_cons (q_lc (q_seqI qV19_3) qS19_4 q_yes (q_app (q_cons (q_call H__law_des (q_cons qV19_4 q_nil)) q_nil)) (q_wpC qS19_4 q_wpN)) (q_cons qV19_2 q_nil)))))) (q_and (q_bl (q_bin qV19_2 q_lit)) (q_bl (q_bin (q_call H_mahonian (q_cons qV19_2 q_nil)) (q_call H__law_count (q_cons (q_lc (q_seqI qV19_3) qS19_4 q_yes (q_call H__law_inv (q_cons qV19_4 q_nil)) (q_wpC qS19_4 q_wpN)) (q_cons (q_bin (q_bin (q_bin qV19_2 (q_bin qV19_2 q_lit)) q_lit) q_lit) q_nil))))))) (q_ret q_lit) q_pass)
theorem th_6_7 : trB c_law_ (List.take 1 sl_6) = some bs_6_7 := by kernel_rfl
theorem sd_6_7 : List.drop 1 sl_6 = sl_7 := by unfold sl_6 sl_7; rw [List.drop_drop]
def sg_23 : Ev.Env := [.und, .ref 1, i5, .frl kl_1, (.tup [i4, i3, i2, i1, i0]), .und, .und, .und, .und, .und, .und, .und, .und, .und, .und, .und, .und, .und, .und]
def a_23 : E19 := fun f => f .und (.ref (nat_lit 1)) i5 (.ref (nat_lit 2)) (.tup [i4, i3, i2, i1, i0]) .und .und .und .und .und .und .und .und .und .und .und .und .und .und
def mm_23 : M := ⟨nat_lit 0, nat_lit 3, (.n (some (.hid)) (.n (some (.tape (nat_lit 0))) .e .e) (.n (some (.lst kl_1)) .e .e)), nat_lit 1⟩
def al_23 : List (Ev.Env × Nat) := [(sg_22, nat_lit 1)]
theorem ev_23 : ts_6_7 a_23 mm_23 (fun a m => ls19 a fun ρ => altB al_23 ρ m) (fun _ _ => false) (fun _ _ => false) kT (fun _ _ _ => false) = true := by kernel_rfl
theorem tr_23 : bs_6_7 (envG sg_23 (m02 (nat_lit 1))) (memG sg_23 (m02 (nat_lit 1))) (fun ρ1 m1 => altB al_23 ρ1 m1) (fun _ _ => false) (fun _ _ => false) kT (fun _ _ _ => false) = true := by rw [qs_6_7]; exact piece zs_6_7 (by rfl) (fun _ _ => rfl) (by rfl) (by rfl) ev_23
theorem ch_23 : Chain c_law_ sl_6 (envG sg_23 (m02 (nat_lit 1))) (memG sg_23 (m02 (nat_lit 1))) := .alt 1 al_23 th_6_7 tr_23 (by rw [sd_6_7]; exact (alt_cons ch_22 alt_nil))
def sl_5 : List Stmt := List.drop 5 (defBody (st 41))
def bs_5_6 : SemS := (forC (seqI (slsC (varC 3) noP noP (someP (ifC (blT (binC ltD (varC 2) (litC (.int 5)))) (litC (.int 1)) (litC (.int 7)))))) (gNm 4) (seqC (ifS (orT (blT (binC neD (callC p_inversions (consC (varC 4) nilC)) (callC p__law_inv (consC (varC 4) nilC)))) (orT (blT (binC neD (callC p_descents (consC (varC 4) nilC)) (callC p__law_des (consC (varC 4) nilC)))) (blT (binC neD (callC p_major (consC (varC 4) nilC)) (appC sumF (consC (callC p__law_des (consC (varC 4) nilC)) nilC)))))) (retC (litC (.bl false))) passC)
  (seqC (ifS (orT (blT (binC neD (callC p_records (consC (varC 4) nilC)) (callC p__law_rec (consC (varC 4) nilC)))) (blT (binC neD (callC p_excedances (consC (varC 4) nilC)) (appC lenF (consC (lcC (rng1I (consC (varC 2) nilC)) (gNm 11) (blT (binC gtD (binC ixD (varC 4) (varC 11)) (varC 11))) (varC 11) [11]) nilC))))) (retC (litC (.bl false))) passC)
  (seqC (par2C 5 6 (consC (callC p_foata (consC (varC 4) nilC)) (consC (callC p__law_rings (consC (varC 4) nilC)) nilC)))
  (seqC (ifS (orT (blT (binC neD (varC 5) (callC p__law_foata (consC (varC 4) nilC)))) (orT (blT (binC neD (callC p__law_inv (consC (varC 5) nilC)) (callC p_major (consC (varC 4) nilC)))) (orT (blT (binC neD (callC p_foata_back (consC (varC 5) nilC)) (varC 4))) (blT (binC neD (slC (varC 5) (someP (unC negD (litC (.int 1)))) noP) (slC (varC 4) (someP (unC negD (litC (.int 1)))) noP)))))) (retC (litC (.bl false))) passC)
  (seqC (setC (gNm 7) (tupC nilC))
  (seqC (forC (seqI (varC 6)) (gNm 8) (setC (gNm 7) (binC addD (varC 7) (varC 8))))
  (seqC (ifS (orT (blT (binC neD (callC p_cycles (consC (varC 4) nilC)) (varC 6))) (orT (blT (binC neD (callC p_to_records (consC (varC 4) nilC)) (varC 7))) (orT (blT (binC neD (callC p_from_records (consC (varC 7) nilC)) (varC 4))) (blT (binC neD (callC p__law_rec (consC (varC 7) nilC)) (appC lenF (consC (varC 6) nilC))))))) (retC (litC (.bl false))) passC)
  (seqC (setC (gNm 9) (appC tupleF (consC (lcC (rng1I (consC (varC 2) nilC)) (gNm 11) yesT (appC lenF (consC (lcC (seqI (slC (varC 4) (someP (binC addD (varC 11) (litC (.int 1)))) noP)) (gNm 14) (blT (binC ltD (varC 14) (binC ixD (varC 4) (varC 11)))) (varC 14) [14]) nilC)) [11]) nilC)))
  (ifS (orT (blT (binC neD (callC p_code (consC (varC 4) nilC)) (varC 9))) (orT (blT (binC neD (callC p_from_code (consC (varC 9) nilC)) (varC 4))) (blT (binC neD (appC sumF (consC (varC 9) nilC)) (callC p__law_inv (consC (varC 4) nilC)))))) (retC (litC (.bl false))) passC))))))))))
def rs_5_6 : SemS := (forR (seqIR (slsC (varR 3) noP noP (somePR (ifR (blR (binC ltDR (varR 2) (litC (.int 5)))) (litC (.int 1)) (litC (.int 7)))))) (gNR 4) (seqC (ifSR (orR (blR (binC neR2 (callC g_inversions (consC (varR 4) nilC)) (callC g__law_inv (consC (varR 4) nilC)))) (orR (blR (binC neR2 (callC g_descents (consC (varR 4) nilC)) (callC g__law_des (consC (varR 4) nilC)))) (blR (binC neR2 (callC g_major (consC (varR 4) nilC)) (appC sumR (consC (callC g__law_des (consC (varR 4) nilC)) nilC)))))) (retC (litC (.bl false))) passC)
  (seqC (ifSR (orR (blR (binC neR2 (callC g_records (consC (varR 4) nilC)) (callC g__law_rec (consC (varR 4) nilC)))) (blR (binC neR2 (callC g_excedances (consC (varR 4) nilC)) (appC lenFR (consC (lcR2 (rng1R (consC (varR 2) nilC)) (gNR 11) (blR (binC gtR (binC ixR (varR 4) (varR 11)) (varR 11))) (varR 11) [11]) nilC))))) (retC (litC (.bl false))) passC)
  (seqC (par2R 5 6 (consC (callC g_foata (consC (varR 4) nilC)) (consC (callC g__law_rings (consC (varR 4) nilC)) nilC)))
  (seqC (ifSR (orR (blR (binC neR2 (varR 5) (callC g__law_foata (consC (varR 4) nilC)))) (orR (blR (binC neR2 (callC g__law_inv (consC (varR 5) nilC)) (callC g_major (consC (varR 4) nilC)))) (orR (blR (binC neR2 (callC g_foata_back (consC (varR 5) nilC)) (varR 4))) (blR (binC neR2 (slR (varR 5) (somePR (unC negR (litC (.int 1)))) noP) (slR (varR 4) (somePR (unC negR (litC (.int 1)))) noP)))))) (retC (litC (.bl false))) passC)
  (seqC (setC (gNR 7) (tupR nilC))
  (seqC (forR (seqIR (varR 6)) (gNR 8) (setC (gNR 7) (binC addR (varR 7) (varR 8))))
  (seqC (ifSR (orR (blR (binC neR2 (callC g_cycles (consC (varR 4) nilC)) (varR 6))) (orR (blR (binC neR2 (callC g_to_records (consC (varR 4) nilC)) (varR 7))) (orR (blR (binC neR2 (callC g_from_records (consC (varR 7) nilC)) (varR 4))) (blR (binC neR2 (callC g__law_rec (consC (varR 7) nilC)) (appC lenFR (consC (varR 6) nilC))))))) (retC (litC (.bl false))) passC)
  (seqC (setC (gNR 9) (appC tupleR (consC (lcR2 (rng1R (consC (varR 2) nilC)) (gNR 11) yesT (appC lenFR (consC (lcR2 (seqIR (slR (varR 4) (somePR (binC addR (varR 11) (litC (.int 1)))) noP)) (gNR 14) (blR (binC ltDR (varR 14) (binC ixR (varR 4) (varR 11)))) (varR 14) [14]) nilC)) [11]) nilC)))
  (ifSR (orR (blR (binC neR2 (callC g_code (consC (varR 4) nilC)) (varR 9))) (orR (blR (binC neR2 (callC g_from_code (consC (varR 9) nilC)) (varR 4))) (blR (binC neR2 (appC sumR (consC (varR 9) nilC)) (callC g__law_inv (consC (varR 4) nilC)))))) (retC (litC (.bl false))) passC))))))))))
def ts_5_6 : XS E19 := (forP (seqIP (slsP V19_3 noPP noPP (someQ (ifP (blP (binP ltDR V19_2 (litP (.int 5)))) (litP (.int 1)) (litP (.int 7)))))) S19_4 (seqP (ifSP (orP (blP (binP neR2 (callP h_inversions (consP V19_4 nilP)) (callP h__law_inv (consP V19_4 nilP)))) (orP (blP (binP neR2 (callP h_descents (consP V19_4 nilP)) (callP h__law_des (consP V19_4 nilP)))) (blP (binP neR2 (callP h_major (consP V19_4 nilP)) (appP sumR (consP (callP h__law_des (consP V19_4 nilP)) nilP)))))) (retP (litP (.bl false))) passP) (seqP (ifSP (orP (blP (binP neR2 (callP h_records (consP V19_4 nilP)) (callP h__law_rec (consP V19_4 nilP)))) (blP (binP neR2 (callP h_excedances (consP V19_4 nilP)) (appP lenFR (consP (lcP (rng1P (consP V19_2 nilP)) S19_11 (blP (binP gtR (binP ixR V19_4 V19_11) V19_11)) V19_11 (wpC S19_11 wpN)) nilP))))) (retP (litP (.bl false))) passP) (seqP (par2P S19_5 S19_6 (consP (callP h_foata (consP V19_4 nilP)) (consP (callP h__law_rings (consP V19_4 nilP)) nilP))) (seqP (ifSP (orP (blP (binP neR2 V19_5 (callP h__law_foata (consP V19_4 nilP)))) (orP (blP (binP neR2 (callP h__law_inv (consP V19_5 nilP)) (callP h_major (consP V19_4 nilP)))) (orP (blP (binP neR2 (callP h_foata_back (consP V19_5 nilP)) V19_4)) (blP (binP neR2 (slP V19_5 (someQ (unP negR (litP (.int 1)))) noPP) (slP V19_4 (someQ (unP negR (litP (.int 1)))) noPP)))))) (retP (litP (.bl false))) passP) (seqP (setP S19_7 (tupP nilP)) (seqP (forP (seqIP V19_6) S19_8 (setP S19_7 (binP addR V19_7 V19_8))) (seqP (ifSP (orP (blP (binP neR2 (callP h_cycles (consP V19_4 nilP)) V19_6)) (orP (blP (binP neR2 (callP h_to_records (consP V19_4 nilP)) V19_7)) (orP (blP (binP neR2 (callP h_from_records (consP V19_7 nilP)) V19_4)) (blP (binP neR2 (callP h__law_rec (consP V19_7 nilP)) (appP lenFR (consP V19_6 nilP))))))) (retP (litP (.bl false))) passP) (seqP (setP S19_9 (appP tupleR (consP (lcP (rng1P (consP V19_2 nilP)) S19_11 yesP (appP lenFR (consP (lcP (seqIP (slP V19_4 (someQ (binP addR V19_11 (litP (.int 1)))) noPP)) S19_14 (blP (binP ltDR V19_14 (binP ixR V19_4 V19_11))) V19_14 (wpC S19_14 wpN)) nilP)) (wpC S19_11 wpN)) nilP))) (ifSP (orP (blP (binP neR2 (callP h_code (consP V19_4 nilP)) V19_9)) (orP (blP (binP neR2 (callP h_from_code (consP V19_9 nilP)) V19_4)) (blP (binP neR2 (appP sumR (consP V19_9 nilP)) (callP h__law_inv (consP V19_4 nilP)))))) (retP (litP (.bl false))) passP))))))))))
theorem qs_5_6 : bs_5_6 = rs_5_6 := by delta bs_5_6 rs_5_6; rw [forC_R, seqI_R, varC_R, someP_R, ifC_R, blT_R, ltD_R, gNm_R, ifS_R, orT_R, neD_R, sumF_R, lenF_R, lcC_R, rng1I_R, gtD_R, ixD_R, par2C_R, slC_R, negD_R, tupC_R, addD_R, tupleF_R, G_inversions, G__law_inv, G_descents, G__law_des, G_major, G_records, G__law_rec, G_excedances, G_foata, G__law_rings, G__law_foata, G_foata_back, G_cycles, G_to_records, G_from_records, G_code, G_from_code]
theorem zs_5_6 : RS (enF eF19) 19 rs_5_6 ts_5_6 := by delta rs_5_6 ts_5_6; exact (q_for (q_seqI (q_sls qV19_3 q_noP q_noP (q_some (q_if (q_bl (q_bin qV19_2 q_lit)) q_lit q_lit)))) qS19_4 (q_seq (q_ifS (q_or (q_bl (q_bin (q_call H_inversions (q_cons qV19_4 q_nil)) (q_call H__law_inv (q_cons qV19_4 q_nil)))) (q_or (q_bl (q_bin (q_call H_descents (q_cons qV19_4 q_nil)) (q_call H__law_des (q_cons qV19_4 q_nil)))) (q_bl (q_bin (q_call H_major (q_cons qV19_4 q_nil)) (q_app (q_cons (q_call H__law_des (q_cons qV19_4 q_nil)) q_nil)))))) (q_ret q_lit) q_pass) (q_seq (q_ifS (q_or (q_bl (q_bin (q_call H_records (q_cons qV19_4 q_nil)) (q_call H__law_rec (q_cons qV19_4 q_nil)))) (q_bl (q_bin (q_call H_excedances (q_cons qV19_4 q_nil)) (q_app (q_cons (q_lc (q_rng1 (q_cons qV19_2 q_nil)) qS19_11 (q_bl (q_bin (q_bin qV19_4 qV19_11) qV19_11)) qV19_11 (q_wpC qS19_11 q_wpN)) q_nil))))) (q_ret q_lit) q_pass) (q_seq (q_par2 qS19_5 qS19_6 (q_cons (q_call H_foata (q_cons qV19_4 q_nil)) (q_cons (q_call H__law_rings (q_cons qV19_4 q_nil)) q_nil))) (q_seq (q_ifS (q_or (q_bl (q_bin qV19_5 (q_call H__law_foata (q_cons qV19_4 q_nil)))) (q_or (q_bl (q_bin (q_call H__law_inv (q_cons qV19_5 q_nil)) (q_call H_major (q_cons qV19_4 q_nil)))) (q_or (q_bl (q_bin (q_call H_foata_back (q_cons qV19_5 q_nil)) qV19_4)) (q_bl (q_bin (q_sl qV19_5 (q_some (q_un q_lit)) q_noP) (q_sl qV19_4 (q_some (q_un q_lit)) q_noP)))))) (q_ret q_lit) q_pass) (q_seq (q_set qS19_7 (q_tup q_nil)) (q_seq (q_for (q_seqI qV19_6) qS19_8 (q_set qS19_7 (q_bin qV19_7 qV19_8))) (q_seq (q_ifS (q_or (q_bl (q_bin (q_call H_cycles (q_cons qV19_4 q_nil)) qV19_6)) (q_or (q_bl (q_bin (q_call H_to_records (q_cons qV19_4 q_nil)) qV19_7)) (q_or (q_bl (q_bin (q_call H_from_records (q_cons qV19_7 q_nil)) qV19_4)) (q_bl (q_bin (q_call H__law_rec (q_cons qV19_7 q_nil)) (q_app (q_cons qV19_6 q_nil))))))) (q_ret q_lit) q_pass) (q_seq (q_set qS19_9 (q_app (q_cons (q_lc (q_rng1 (q_cons qV19_2 q_nil)) qS19_11 q_yes (q_app (q_cons (q_lc (q_seqI (q_sl qV19_4 (q_some (q_bin qV19_11 q_lit)) q_noP)) qS19_14 (q_bl (q_bin qV19_14 (q_bin qV19_4 qV19_11))) qV19_14 (q_wpC qS19_14 q_wpN)) q_nil)) (q_wpC qS19_11 q_wpN)) q_nil))) (q_ifS (q_or (q_bl (q_bin (q_call H_code (q_cons qV19_4 q_nil)) qV19_9)) (q_or (q_bl (q_bin (q_call H_from_code (q_cons qV19_9 q_nil)) qV19_4)) (q_bl (q_bin (q_app (q_cons qV19_9 q_nil)) (q_call H__law_inv (q_cons qV19_4 q_nil)))))) (q_ret q_lit) q_pass))))))))))
theorem th_5_6 : trB c_law_ (List.take 1 sl_5) = some bs_5_6 := by kernel_rfl
theorem sd_5_6 : List.drop 1 sl_5 = sl_6 := by unfold sl_5 sl_6; rw [List.drop_drop]
def sg_24 : Ev.Env := [.und, .ref 1, i5, .frl kl_1, .und, .und, .und, .und, .und, .und, .und, .und, .und, .und, .und, .und, .und, .und, .und]
def a_24 : E19 := fun f => f .und (.ref (nat_lit 1)) i5 (.ref (nat_lit 2)) .und .und .und .und .und .und .und .und .und .und .und .und .und .und .und
def mm_24 : M := ⟨nat_lit 0, nat_lit 3, (.n (some (.hid)) (.n (some (.tape (nat_lit 0))) .e .e) (.n (some (.lst kl_1)) .e .e)), nat_lit 1⟩
def al_24 : List (Ev.Env × Nat) := [(sg_23, nat_lit 1)]
theorem ev_24 : ts_5_6 a_24 mm_24 (fun a m => ls19 a fun ρ => altB al_24 ρ m) (fun _ _ => false) (fun _ _ => false) kT (fun _ _ _ => false) = true := by kernel_rfl
theorem tr_24 : bs_5_6 (envG sg_24 (m02 (nat_lit 1))) (memG sg_24 (m02 (nat_lit 1))) (fun ρ1 m1 => altB al_24 ρ1 m1) (fun _ _ => false) (fun _ _ => false) kT (fun _ _ _ => false) = true := by rw [qs_5_6]; exact piece zs_5_6 (by rfl) (fun _ _ => rfl) (by rfl) (by rfl) ev_24
theorem ch_24 : Chain c_law_ sl_5 (envG sg_24 (m02 (nat_lit 1))) (memG sg_24 (m02 (nat_lit 1))) := .alt 1 al_24 th_5_6 tr_24 (by rw [sd_5_6]; exact (alt_cons ch_23 alt_nil))
def bs_4_5 : SemS := (ifS (orT (blT (binC neD (appC sortedF (consC (lcC (seqI (varC 3)) (gNm 4) yesT (callC p_foata (consC (varC 4) nilC)) [4]) nilC)) (varC 3))) (blT (binC neD (appC sortedF (consC (lcC (seqI (varC 3)) (gNm 4) yesT (callC p_to_records (consC (varC 4) nilC)) [4]) nilC)) (varC 3)))) (retC (litC (.bl false))) passC)
def rs_4_5 : SemS := (ifSR (orR (blR (binC neR2 (appC sortedR (consC (lcR2 (seqIR (varR 3)) (gNR 4) yesT (callC g_foata (consC (varR 4) nilC)) [4]) nilC)) (varR 3))) (blR (binC neR2 (appC sortedR (consC (lcR2 (seqIR (varR 3)) (gNR 4) yesT (callC g_to_records (consC (varR 4) nilC)) [4]) nilC)) (varR 3)))) (retC (litC (.bl false))) passC)
def ts_4_5 : XS E19 := (ifSP (orP (blP (binP neR2 (appP sortedR (consP (lcP (seqIP V19_3) S19_4 yesP (callP h_foata (consP V19_4 nilP)) (wpC S19_4 wpN)) nilP)) V19_3)) (blP (binP neR2 (appP sortedR (consP (lcP (seqIP V19_3) S19_4 yesP (callP h_to_records (consP V19_4 nilP)) (wpC S19_4 wpN)) nilP)) V19_3))) (retP (litP (.bl false))) passP)
theorem qs_4_5 : bs_4_5 = rs_4_5 := by delta bs_4_5 rs_4_5; rw [ifS_R, orT_R, blT_R, neD_R, sortedF_R, lcC_R, seqI_R, varC_R, gNm_R, G_foata, G_to_records]
theorem zs_4_5 : RS (enF eF19) 19 rs_4_5 ts_4_5 := by delta rs_4_5 ts_4_5; exact (q_ifS (q_or (q_bl (q_bin (q_app (q_cons (q_lc (q_seqI qV19_3) qS19_4 q_yes (q_call H_foata (q_cons qV19_4 q_nil)) (q_wpC qS19_4 q_wpN)) q_nil)) qV19_3)) (q_bl (q_bin (q_app (q_cons (q_lc (q_seqI qV19_3) qS19_4 q_yes (q_call H_to_records (q_cons qV19_4 q_nil)) (q_wpC qS19_4 q_wpN)) q_nil)) qV19_3))) (q_ret q_lit) q_pass)
theorem th_4_5 : trB c_law_ (List.take 1 sl_4) = some bs_4_5 := by kernel_rfl
theorem sd_4_5 : List.drop 1 sl_4 = sl_5 := by unfold sl_4 sl_5; rw [List.drop_drop]
def sg_25 : Ev.Env := [.und, .ref 1, i5, .frl kl_1, .und, .und, .und, .und, .und, .und, .und, .und, .und, .und, .und, .und, .und, .und, .und]
def a_25 : E19 := fun f => f .und (.ref (nat_lit 1)) i5 (.ref (nat_lit 2)) .und .und .und .und .und .und .und .und .und .und .und .und .und .und .und
def mm_25 : M := ⟨nat_lit 0, nat_lit 3, (.n (some (.hid)) (.n (some (.tape (nat_lit 0))) .e .e) (.n (some (.lst kl_1)) .e .e)), nat_lit 1⟩
def al_25 : List (Ev.Env × Nat) := [(sg_24, nat_lit 1)]
theorem ev_25 : ts_4_5 a_25 mm_25 (fun a m => ls19 a fun ρ => altB al_25 ρ m) (fun _ _ => false) (fun _ _ => false) kT (fun _ _ _ => false) = true := by kernel_rfl
theorem tr_25 : bs_4_5 (envG sg_25 (m02 (nat_lit 1))) (memG sg_25 (m02 (nat_lit 1))) (fun ρ1 m1 => altB al_25 ρ1 m1) (fun _ _ => false) (fun _ _ => false) kT (fun _ _ _ => false) = true := by rw [qs_4_5]; exact piece zs_4_5 (by rfl) (fun _ _ => rfl) (by rfl) (by rfl) ev_25
theorem ch_25 : Chain c_law_ sl_4 (envG sg_25 (m02 (nat_lit 1))) (memG sg_25 (m02 (nat_lit 1))) := .alt 1 al_25 th_4_5 tr_25 (by rw [sd_4_5]; exact (alt_cons ch_24 alt_nil))
def bs_0_4 : SemS := (seqC (setC (gNm 1) (callC tapeF (consC (varC 0) nilC)))
  (seqC (setC (gNm 2) (callC takeF (consC (varC 1) (consC (litC (.int 6)) nilC))))
  (seqC (setC (gNm 3) (callC p__law_perms (consC (varC 2) nilC)))
  (ifS (notT (truT (callC p__law_same__3 (consC (callC p_all_rows (consC (varC 2) nilC)) (consC (varC 3) nilC))))) (retC (litC (.bl false))) passC))))
def rs_0_4 : SemS := (seqC (setC (gNR 1) (callC tapeF (consC (varR 0) nilC)))
  (seqC (setC (gNR 2) (callC takeR (consC (varR 1) (consC (litC (.int 6)) nilC))))
  (seqC (setC (gNR 3) (callC g__law_perms (consC (varR 2) nilC)))
  (ifSR (notR (truTR (callC g__law_same__3 (consC (callC g_all_rows (consC (varR 2) nilC)) (consC (varR 3) nilC))))) (retC (litC (.bl false))) passC))))
def ts_0_4 : XS E19 := (seqP (setP S19_1 (callP tapeF (consP V19_0 nilP))) (seqP (setP S19_2 (callP takeR (consP V19_1 (consP (litP (.int 6)) nilP)))) (seqP (setP S19_3 (callP h__law_perms (consP V19_2 nilP))) (ifSP (notP (truP (callP h__law_same__3 (consP (callP h_all_rows (consP V19_2 nilP)) (consP V19_3 nilP))))) (retP (litP (.bl false))) passP))))
theorem qs_0_4 : bs_0_4 = rs_0_4 := by delta bs_0_4 rs_0_4; rw [gNm_R, varC_R, takeF_R, ifS_R, notT_R, truT_R, G__law_perms, G__law_same__3, G_all_rows]
theorem zs_0_4 : RS (enF eF19) 19 rs_0_4 ts_0_4 := by delta rs_0_4 ts_0_4; exact (q_seq (q_set qS19_1 (q_call rfl (q_cons qV19_0 q_nil))) (q_seq (q_set qS19_2 (q_call rfl (q_cons qV19_1 (q_cons q_lit q_nil)))) (q_seq (q_set qS19_3 (q_call H__law_perms (q_cons qV19_2 q_nil))) (q_ifS (q_not (q_tru (q_call H__law_same__3 (q_cons (q_call H_all_rows (q_cons qV19_2 q_nil)) (q_cons qV19_3 q_nil))))) (q_ret q_lit) q_pass))))
theorem th_0_4 : trB c_law_ (List.take 4 sl_0) = some bs_0_4 := by kernel_rfl
theorem sd_0_4 : List.drop 4 sl_0 = sl_4 := rfl
def a_26 : E19 := fun f => f .scr .und .und .und .und .und .und .und .und .und .und .und .und .und .und .und .und .und .und
def mm_26 : M := m0
def al_26 : List (Ev.Env × Nat) := [(sg_0, nat_lit 1), (sg_1, nat_lit 1), (sg_2, nat_lit 1), (sg_3, nat_lit 1), (sg_5, nat_lit 1), (sg_25, nat_lit 1)]
theorem ev_26 : ts_0_4 a_26 mm_26 (fun a m => ls19 a fun ρ => altB al_26 ρ m) (fun _ _ => false) (fun _ _ => false) kT (fun _ _ _ => false) = true := by kernel_rfl
theorem tr_26 : bs_0_4 (.scr :: undN 18) m0 (fun ρ1 m1 => altB al_26 ρ1 m1) (fun _ _ => false) (fun _ _ => false) kT (fun _ _ _ => false) = true := by rw [qs_0_4]; exact piece zs_0_4 (by rfl) (fun _ _ => rfl) (by rfl) (by rfl) ev_26
theorem ch_26 : Chain c_law_ sl_0 (.scr :: undN 18) m0 := .alt 4 al_26 th_0_4 tr_26 (by rw [sd_0_4]; exact (alt_cons ch_0 (alt_cons ch_1 (alt_cons ch_2 (alt_cons ch_3 (alt_cons ch_5 (alt_cons ch_25 alt_nil)))))))
theorem law_chain : Chain c_law_ (defBody (st 41)) (.scr :: undN 18) m0 := ch_26
def zz (K : PySem.W.Frag) (mg : Str → Option Value) : Wd := Zof K mg ["check", "from_code", "from_records", "foata"] ["NoShape"]
structure Fx (K : PySem.W.Frag) (mg : Str → Option Value) : Prop where
  h__law_count : HasDef K mg "_law_count" (st 40) ["values", "size"]
  h__law_des : HasDef K mg "_law_des" (st 36) ["row"]
  h__law_foata : HasDef K mg "_law_foata" (st 39) ["row"]
  h__law_inv : HasDef K mg "_law_inv" (st 35) ["row"]
  h__law_perms : HasDef K mg "_law_perms" (st 34) ["size"]
  h__law_rec : HasDef K mg "_law_rec" (st 37) ["row"]
  h__law_rings : HasDef K mg "_law_rings" (st 38) ["row"]
  h__law_is_integer : HasDef K mg "_law_is_integer" (st 31) ["actual"]
  h__law_same_items : HasDef K mg "_law_same_items" (st 32) ["actual", "expected"]
  h__law_same : HasDef K mg "_law_same" (st 33) ["actual", "expected"]
  h__law_take : HasDef K mg "_law_take" (st 30) ["tape", "many"]
  h__law_tape : HasDef K mg "_law_tape" (st 29) ["script"]
  h_all_rows : HasDef K mg "all_rows" (st 7) ["size"]
  h_alternating_count : HasDef K mg "alternating_count" (st 26) ["size"]
  h_check : HasDef K mg "check" (st 6) ["row"]
  h_code : HasDef K mg "code" (st 16) ["row"]
  h_cycles : HasDef K mg "cycles" (st 13) ["row"]
  h_choose : HasDef K mg "choose" (st 4) ["top", "part"]
  h_subsets : HasDef K mg "subsets" (st 25) ["numbers"]
  h_descent_set_count : HasDef K mg "descent_set_count" (st 24) ["size", "places"]
  h_descents : HasDef K mg "descents" (st 9) ["row"]
  h_eulerian : HasDef K mg "eulerian" (st 20) ["size"]
  h_excedances : HasDef K mg "excedances" (st 11) ["row"]
  h_foata : HasDef K mg "foata" (st 18) ["row"]
  h_foata_back : HasDef K mg "foata_back" (st 19) ["row"]
  h_from_code : HasDef K mg "from_code" (st 17) ["numbers"]
  h_from_records : HasDef K mg "from_records" (st 15) ["row"]
  h_inversions : HasDef K mg "inversions" (st 8) ["row"]
  h_mahonian : HasDef K mg "mahonian" (st 23) ["size"]
  h_major : HasDef K mg "major" (st 10) ["row"]
  h_records : HasDef K mg "records" (st 12) ["row"]
  h_stirling_cycles : HasDef K mg "stirling_cycles" (st 21) ["size"]
  h_stirling_parts : HasDef K mg "stirling_parts" (st 22) ["size"]
  h_to_records : HasDef K mg "to_records" (st 14) ["row"]
  h_worpitzky : HasDef K mg "worpitzky" (st 27) ["size", "place"]
  x_NoShape : ExsAt K mg (zz K mg) "NoShape" 0
  y_NoShape : HitAt mg (zz K mg) "NoShape" hit_NoShape
  bl : ∀ x n, bltNames.lookup x = some n → mg x = none
structure Kx (K : PySem.W.Frag) (mg : Str → Option Value) : Prop where
  ok : True
section
variable {P : Program} {w : World} {K : PySem.W.Frag} {mg : Str → Option Value} {base : Heap}
theorem w__law_count (F : Fx K mg) (C : Kx K mg) : Wf P w K mg base (zz K mg) c__law_count_ := ⟨rfl, rfl, F.bl, fns_nil, cst_nil, fun _ _ h => (by cases h), exs_nil, hit_nil⟩
theorem d__law_count (F : Fx K mg) (C : Kx K mg) : DefAt P w K mg base (zz K mg) 1 "_law_count" p__law_count := (defAt (w__law_count F C) F.h__law_count 2 s__law_count rfl rfl t__law_count).pure
theorem w__law_des (F : Fx K mg) (C : Kx K mg) : Wf P w K mg base (zz K mg) c__law_des_ := ⟨rfl, rfl, F.bl, fns_nil, cst_nil, fun _ _ h => (by cases h), exs_nil, hit_nil⟩
theorem d__law_des (F : Fx K mg) (C : Kx K mg) : DefAt P w K mg base (zz K mg) 1 "_law_des" p__law_des := (defAt (w__law_des F C) F.h__law_des 1 s__law_des rfl rfl t__law_des).pure
theorem w__law_foata (F : Fx K mg) (C : Kx K mg) : Wf P w K mg base (zz K mg) c__law_foata_ := ⟨rfl, rfl, F.bl, fns_nil, cst_nil, fun _ _ h => (by cases h), exs_nil, hit_nil⟩
theorem d__law_foata (F : Fx K mg) (C : Kx K mg) : DefAt P w K mg base (zz K mg) 1 "_law_foata" p__law_foata := (defAt (w__law_foata F C) F.h__law_foata 7 s__law_foata rfl rfl t__law_foata).pure
theorem w__law_inv (F : Fx K mg) (C : Kx K mg) : Wf P w K mg base (zz K mg) c__law_inv_ := ⟨rfl, rfl, F.bl, fns_nil, cst_nil, fun _ _ h => (by cases h), exs_nil, hit_nil⟩
theorem d__law_inv (F : Fx K mg) (C : Kx K mg) : DefAt P w K mg base (zz K mg) 1 "_law_inv" p__law_inv := (defAt (w__law_inv F C) F.h__law_inv 2 s__law_inv rfl rfl t__law_inv).pure
theorem w__law_perms (F : Fx K mg) (C : Kx K mg) : Wf P w K mg base (zz K mg) c__law_perms_ := ⟨rfl, rfl, F.bl, fns_nil, cst_nil, fun _ _ h => (by cases h), exs_nil, hit_nil⟩
theorem d__law_perms (F : Fx K mg) (C : Kx K mg) : DefAt P w K mg base (zz K mg) 1 "_law_perms" p__law_perms := (defAt (w__law_perms F C) F.h__law_perms 5 s__law_perms rfl rfl t__law_perms).pure.memo tok__law_perms
theorem w__law_rec (F : Fx K mg) (C : Kx K mg) : Wf P w K mg base (zz K mg) c__law_rec_ := ⟨rfl, rfl, F.bl, fns_nil, cst_nil, fun _ _ h => (by cases h), exs_nil, hit_nil⟩
theorem d__law_rec (F : Fx K mg) (C : Kx K mg) : DefAt P w K mg base (zz K mg) 1 "_law_rec" p__law_rec := (defAt (w__law_rec F C) F.h__law_rec 2 s__law_rec rfl rfl t__law_rec).pure
theorem w__law_rings (F : Fx K mg) (C : Kx K mg) : Wf P w K mg base (zz K mg) c__law_rings_ := ⟨rfl, rfl, F.bl, fns_nil, cst_nil, fun _ _ h => (by cases h), exs_nil, hit_nil⟩
theorem d__law_rings (F : Fx K mg) (C : Kx K mg) : DefAt P w K mg base (zz K mg) 1 "_law_rings" p__law_rings := (defAt (w__law_rings F C) F.h__law_rings 4 s__law_rings rfl rfl t__law_rings).pure
theorem w__law_is_integer (F : Fx K mg) (C : Kx K mg) : Wf P w K mg base (zz K mg) c__law_is_integer_ := ⟨rfl, rfl, F.bl, fns_nil, cst_nil, fun _ _ h => (by cases h), exs_nil, hit_nil⟩
theorem d__law_is_integer (F : Fx K mg) (C : Kx K mg) : DefAt P w K mg base (zz K mg) 1 "_law_is_integer" p__law_is_integer := (defAt (w__law_is_integer F C) F.h__law_is_integer 0 s__law_is_integer rfl rfl t__law_is_integer).pure
theorem d__law_same__0 (F : Fx K mg) (C : Kx K mg) : DefAt P w K mg base (zz K mg) 1 "_law_same" p__law_same__0 := never_at F.h__law_same
theorem w__law_same_items__1 (F : Fx K mg) (C : Kx K mg) : Wf P w K mg base (zz K mg) c__law_same_items__1_ := ⟨rfl, rfl, F.bl, (fns_cons ((d__law_same__0 F C).mono (by decide)) fns_nil), cst_nil, fun _ _ h => (by cases h), exs_nil, hit_nil⟩
theorem d__law_same_items__1 (F : Fx K mg) (C : Kx K mg) : DefAt P w K mg base (zz K mg) 2 "_law_same_items" p__law_same_items__1 := (defAt (w__law_same_items__1 F C) F.h__law_same_items 1 s__law_same_items__1 rfl rfl t__law_same_items__1).pure
theorem w__law_same__1 (F : Fx K mg) (C : Kx K mg) : Wf P w K mg base (zz K mg) c__law_same__1_ := ⟨rfl, rfl, F.bl, (fns_cons ((d__law_is_integer F C).mono (by decide)) (fns_cons ((d__law_same__0 F C).mono (by decide)) (fns_cons ((d__law_same_items__1 F C).mono (by decide)) fns_nil))), cst_nil, fun _ _ h => (by cases h), exs_nil, hit_nil⟩
theorem d__law_same__1 (F : Fx K mg) (C : Kx K mg) : DefAt P w K mg base (zz K mg) 3 "_law_same" p__law_same__1 := (defAt (w__law_same__1 F C) F.h__law_same 1 s__law_same__1 rfl rfl t__law_same__1).pure
theorem w__law_same_items__2 (F : Fx K mg) (C : Kx K mg) : Wf P w K mg base (zz K mg) c__law_same_items__2_ := ⟨rfl, rfl, F.bl, (fns_cons ((d__law_same__1 F C).mono (by decide)) fns_nil), cst_nil, fun _ _ h => (by cases h), exs_nil, hit_nil⟩
theorem d__law_same_items__2 (F : Fx K mg) (C : Kx K mg) : DefAt P w K mg base (zz K mg) 4 "_law_same_items" p__law_same_items__2 := (defAt (w__law_same_items__2 F C) F.h__law_same_items 1 s__law_same_items__2 rfl rfl t__law_same_items__2).pure
theorem w__law_same__2 (F : Fx K mg) (C : Kx K mg) : Wf P w K mg base (zz K mg) c__law_same__2_ := ⟨rfl, rfl, F.bl, (fns_cons ((d__law_is_integer F C).mono (by decide)) (fns_cons ((d__law_same__1 F C).mono (by decide)) (fns_cons ((d__law_same_items__2 F C).mono (by decide)) fns_nil))), cst_nil, fun _ _ h => (by cases h), exs_nil, hit_nil⟩
theorem d__law_same__2 (F : Fx K mg) (C : Kx K mg) : DefAt P w K mg base (zz K mg) 5 "_law_same" p__law_same__2 := (defAt (w__law_same__2 F C) F.h__law_same 1 s__law_same__2 rfl rfl t__law_same__2).pure
theorem w__law_same_items__3 (F : Fx K mg) (C : Kx K mg) : Wf P w K mg base (zz K mg) c__law_same_items__3_ := ⟨rfl, rfl, F.bl, (fns_cons ((d__law_same__2 F C).mono (by decide)) fns_nil), cst_nil, fun _ _ h => (by cases h), exs_nil, hit_nil⟩
theorem d__law_same_items__3 (F : Fx K mg) (C : Kx K mg) : DefAt P w K mg base (zz K mg) 6 "_law_same_items" p__law_same_items__3 := (defAt (w__law_same_items__3 F C) F.h__law_same_items 1 s__law_same_items__3 rfl rfl t__law_same_items__3).pure
theorem w__law_same__3 (F : Fx K mg) (C : Kx K mg) : Wf P w K mg base (zz K mg) c__law_same__3_ := ⟨rfl, rfl, F.bl, (fns_cons ((d__law_is_integer F C).mono (by decide)) (fns_cons ((d__law_same__2 F C).mono (by decide)) (fns_cons ((d__law_same_items__3 F C).mono (by decide)) fns_nil))), cst_nil, fun _ _ h => (by cases h), exs_nil, hit_nil⟩
theorem d__law_same__3 (F : Fx K mg) (C : Kx K mg) : DefAt P w K mg base (zz K mg) 7 "_law_same" p__law_same__3 := (defAt (w__law_same__3 F C) F.h__law_same 1 s__law_same__3 rfl rfl t__law_same__3).pure
theorem w__law_take (F : Fx K mg) (C : Kx K mg) : Wf P w K mg base (zz K mg) c__law_take_ := ⟨rfl, rfl, F.bl, fns_nil, cst_nil, fun _ _ h => (by cases h), exs_nil, hit_nil⟩
theorem d__law_take (F : Fx K mg) (C : Kx K mg) : DefAt P w K mg base (zz K mg) 1 "_law_take" takeF := takeAt (defAt0 (w__law_take F C) F.h__law_take 2 s__law_take rfl rfl t__law_take)
theorem w__law_tape (F : Fx K mg) (C : Kx K mg) : Wf P w K mg base (zz K mg) c__law_tape_ := ⟨rfl, rfl, F.bl, fns_nil, cst_nil, fun _ _ h => (by cases h), exs_nil, hit_nil⟩
theorem d__law_tape (F : Fx K mg) (C : Kx K mg) : DefAt P w K mg base (zz K mg) 1 "_law_tape" tapeF := tapeAt (defAt0 (w__law_tape F C) F.h__law_tape 3 s__law_tape rfl rfl t__law_tape)
theorem w_all_rows (F : Fx K mg) (C : Kx K mg) : Wf P w K mg base (zz K mg) c_all_rows_ := ⟨rfl, rfl, F.bl, fns_nil, cst_nil, fun _ _ h => (by cases h), exs_nil, hit_nil⟩
theorem d_all_rows (F : Fx K mg) (C : Kx K mg) : DefAt P w K mg base (zz K mg) 1 "all_rows" p_all_rows := (defAt (w_all_rows F C) F.h_all_rows 5 s_all_rows rfl rfl t_all_rows).pure.memo tok_all_rows
theorem w_alternating_count (F : Fx K mg) (C : Kx K mg) : Wf P w K mg base (zz K mg) c_alternating_count_ := ⟨rfl, rfl, F.bl, fns_nil, cst_nil, fun _ _ h => (by cases h), exs_nil, hit_nil⟩
theorem d_alternating_count (F : Fx K mg) (C : Kx K mg) : DefAt P w K mg base (zz K mg) 1 "alternating_count" p_alternating_count := (defAt (w_alternating_count F C) F.h_alternating_count 5 s_alternating_count rfl rfl t_alternating_count).pure
theorem w_check (F : Fx K mg) (C : Kx K mg) : Wf P w K mg base (zz K mg) c_check_ := ⟨rfl, rfl, F.bl, fns_nil, cst_nil, fun _ _ h => (by cases h), (exs_cons F.x_NoShape exs_nil), hit_nil⟩
theorem d_check (F : Fx K mg) (C : Kx K mg) : DefAt P w K mg base (zz K mg) 1 "check" p_check := (defAt (w_check F C) F.h_check 0 s_check rfl rfl t_check).pure
theorem w_code (F : Fx K mg) (C : Kx K mg) : Wf P w K mg base (zz K mg) c_code_ := ⟨rfl, rfl, F.bl, (fns_cons ((d_check F C).mono (by decide)) fns_nil), (cst_cons (fn_cst (vals := ["check", "from_code", "from_records", "foata"]) (x := "check") rfl (d_check (P := P) (w := w) (base := base) F C)) cst_nil), fun _ _ h => (by cases h), exs_nil, hit_nil⟩
theorem d_code (F : Fx K mg) (C : Kx K mg) : DefAt P w K mg base (zz K mg) 2 "code" p_code := (defAt (w_code F C) F.h_code 2 s_code rfl rfl t_code).pure
theorem w_cycles (F : Fx K mg) (C : Kx K mg) : Wf P w K mg base (zz K mg) c_cycles_ := ⟨rfl, rfl, F.bl, fns_nil, cst_nil, fun _ _ h => (by cases h), exs_nil, hit_nil⟩
theorem d_cycles (F : Fx K mg) (C : Kx K mg) : DefAt P w K mg base (zz K mg) 1 "cycles" p_cycles := (defAt (w_cycles F C) F.h_cycles 6 s_cycles rfl rfl t_cycles).pure
theorem w_choose (F : Fx K mg) (C : Kx K mg) : Wf P w K mg base (zz K mg) c_choose_ := ⟨rfl, rfl, F.bl, fns_nil, cst_nil, fun _ _ h => (by cases h), exs_nil, hit_nil⟩
theorem d_choose (F : Fx K mg) (C : Kx K mg) : DefAt P w K mg base (zz K mg) 1 "choose" p_choose := (defAt (w_choose F C) F.h_choose 2 s_choose rfl rfl t_choose).pure
theorem w_subsets (F : Fx K mg) (C : Kx K mg) : Wf P w K mg base (zz K mg) c_subsets_ := ⟨rfl, rfl, F.bl, fns_nil, cst_nil, fun _ _ h => (by cases h), exs_nil, hit_nil⟩
theorem d_subsets (F : Fx K mg) (C : Kx K mg) : DefAt P w K mg base (zz K mg) 1 "subsets" p_subsets := (defAt (w_subsets F C) F.h_subsets 3 s_subsets rfl rfl t_subsets).pure
theorem w_descent_set_count (F : Fx K mg) (C : Kx K mg) : Wf P w K mg base (zz K mg) c_descent_set_count_ := ⟨rfl, rfl, F.bl, (fns_cons ((d_choose F C).mono (by decide)) (fns_cons ((d_subsets F C).mono (by decide)) fns_nil)), cst_nil, fun _ _ h => (by cases h), exs_nil, hit_nil⟩
theorem d_descent_set_count (F : Fx K mg) (C : Kx K mg) : DefAt P w K mg base (zz K mg) 2 "descent_set_count" p_descent_set_count := (defAt (w_descent_set_count F C) F.h_descent_set_count 5 s_descent_set_count rfl rfl t_descent_set_count).pure.memo tok_descent_set_count
theorem w_descents (F : Fx K mg) (C : Kx K mg) : Wf P w K mg base (zz K mg) c_descents_ := ⟨rfl, rfl, F.bl, fns_nil, cst_nil, fun _ _ h => (by cases h), exs_nil, hit_nil⟩
theorem d_descents (F : Fx K mg) (C : Kx K mg) : DefAt P w K mg base (zz K mg) 1 "descents" p_descents := (defAt (w_descents F C) F.h_descents 1 s_descents rfl rfl t_descents).pure
theorem w_eulerian (F : Fx K mg) (C : Kx K mg) : Wf P w K mg base (zz K mg) c_eulerian_ := ⟨rfl, rfl, F.bl, fns_nil, cst_nil, fun _ _ h => (by cases h), exs_nil, hit_nil⟩
theorem d_eulerian (F : Fx K mg) (C : Kx K mg) : DefAt P w K mg base (zz K mg) 1 "eulerian" p_eulerian := (defAt (w_eulerian F C) F.h_eulerian 5 s_eulerian rfl rfl t_eulerian).pure
theorem w_excedances (F : Fx K mg) (C : Kx K mg) : Wf P w K mg base (zz K mg) c_excedances_ := ⟨rfl, rfl, F.bl, fns_nil, cst_nil, fun _ _ h => (by cases h), exs_nil, hit_nil⟩
theorem d_excedances (F : Fx K mg) (C : Kx K mg) : DefAt P w K mg base (zz K mg) 1 "excedances" p_excedances := (defAt (w_excedances F C) F.h_excedances 2 s_excedances rfl rfl t_excedances).pure
theorem w_foata (F : Fx K mg) (C : Kx K mg) : Wf P w K mg base (zz K mg) c_foata_ := ⟨rfl, rfl, F.bl, (fns_cons ((d_check F C).mono (by decide)) fns_nil), (cst_cons (fn_cst (vals := ["check", "from_code", "from_records", "foata"]) (x := "check") rfl (d_check (P := P) (w := w) (base := base) F C)) cst_nil), fun _ _ h => (by cases h), exs_nil, hit_nil⟩
theorem d_foata (F : Fx K mg) (C : Kx K mg) : DefAt P w K mg base (zz K mg) 2 "foata" p_foata := (defAt (w_foata F C) F.h_foata 6 s_foata rfl rfl t_foata).pure
theorem w_foata_back (F : Fx K mg) (C : Kx K mg) : Wf P w K mg base (zz K mg) c_foata_back_ := ⟨rfl, rfl, F.bl, (fns_cons ((d_check F C).mono (by decide)) fns_nil), (cst_cons (fn_cst (vals := ["check", "from_code", "from_records", "foata"]) (x := "check") rfl (d_check (P := P) (w := w) (base := base) F C)) cst_nil), fun _ _ h => (by cases h), exs_nil, hit_nil⟩
theorem d_foata_back (F : Fx K mg) (C : Kx K mg) : DefAt P w K mg base (zz K mg) 2 "foata_back" p_foata_back := (defAt (w_foata_back F C) F.h_foata_back 7 s_foata_back rfl rfl t_foata_back).pure.memo tok_foata_back
theorem w_from_code (F : Fx K mg) (C : Kx K mg) : Wf P w K mg base (zz K mg) c_from_code_ := ⟨rfl, rfl, F.bl, fns_nil, cst_nil, fun _ _ h => (by cases h), (exs_cons F.x_NoShape exs_nil), hit_nil⟩
theorem d_from_code (F : Fx K mg) (C : Kx K mg) : DefAt P w K mg base (zz K mg) 1 "from_code" p_from_code := (defAt (w_from_code F C) F.h_from_code 3 s_from_code rfl rfl t_from_code).pure
theorem w_from_records (F : Fx K mg) (C : Kx K mg) : Wf P w K mg base (zz K mg) c_from_records_ := ⟨rfl, rfl, F.bl, (fns_cons ((d_check F C).mono (by decide)) fns_nil), (cst_cons (fn_cst (vals := ["check", "from_code", "from_records", "foata"]) (x := "check") rfl (d_check (P := P) (w := w) (base := base) F C)) cst_nil), fun _ _ h => (by cases h), exs_nil, hit_nil⟩
theorem d_from_records (F : Fx K mg) (C : Kx K mg) : DefAt P w K mg base (zz K mg) 2 "from_records" p_from_records := (defAt (w_from_records F C) F.h_from_records 5 s_from_records rfl rfl t_from_records).pure
theorem w_inversions (F : Fx K mg) (C : Kx K mg) : Wf P w K mg base (zz K mg) c_inversions_ := ⟨rfl, rfl, F.bl, fns_nil, cst_nil, fun _ _ h => (by cases h), exs_nil, hit_nil⟩
theorem d_inversions (F : Fx K mg) (C : Kx K mg) : DefAt P w K mg base (zz K mg) 1 "inversions" p_inversions := (defAt (w_inversions F C) F.h_inversions 2 s_inversions rfl rfl t_inversions).pure
theorem w_mahonian (F : Fx K mg) (C : Kx K mg) : Wf P w K mg base (zz K mg) c_mahonian_ := ⟨rfl, rfl, F.bl, fns_nil, cst_nil, fun _ _ h => (by cases h), exs_nil, hit_nil⟩
theorem d_mahonian (F : Fx K mg) (C : Kx K mg) : DefAt P w K mg base (zz K mg) 1 "mahonian" p_mahonian := (defAt (w_mahonian F C) F.h_mahonian 6 s_mahonian rfl rfl t_mahonian).pure
theorem w_major (F : Fx K mg) (C : Kx K mg) : Wf P w K mg base (zz K mg) c_major_ := ⟨rfl, rfl, F.bl, (fns_cons ((d_descents F C).mono (by decide)) fns_nil), cst_nil, fun _ _ h => (by cases h), exs_nil, hit_nil⟩
theorem d_major (F : Fx K mg) (C : Kx K mg) : DefAt P w K mg base (zz K mg) 2 "major" p_major := (defAt (w_major F C) F.h_major 0 s_major rfl rfl t_major).pure
theorem w_records (F : Fx K mg) (C : Kx K mg) : Wf P w K mg base (zz K mg) c_records_ := ⟨rfl, rfl, F.bl, fns_nil, cst_nil, fun _ _ h => (by cases h), exs_nil, hit_nil⟩
theorem d_records (F : Fx K mg) (C : Kx K mg) : DefAt P w K mg base (zz K mg) 1 "records" p_records := (defAt (w_records F C) F.h_records 3 s_records rfl rfl t_records).pure
theorem w_stirling_cycles (F : Fx K mg) (C : Kx K mg) : Wf P w K mg base (zz K mg) c_stirling_cycles_ := ⟨rfl, rfl, F.bl, fns_nil, cst_nil, fun _ _ h => (by cases h), exs_nil, hit_nil⟩
theorem d_stirling_cycles (F : Fx K mg) (C : Kx K mg) : DefAt P w K mg base (zz K mg) 1 "stirling_cycles" p_stirling_cycles := (defAt (w_stirling_cycles F C) F.h_stirling_cycles 4 s_stirling_cycles rfl rfl t_stirling_cycles).pure
theorem w_stirling_parts (F : Fx K mg) (C : Kx K mg) : Wf P w K mg base (zz K mg) c_stirling_parts_ := ⟨rfl, rfl, F.bl, fns_nil, cst_nil, fun _ _ h => (by cases h), exs_nil, hit_nil⟩
theorem d_stirling_parts (F : Fx K mg) (C : Kx K mg) : DefAt P w K mg base (zz K mg) 1 "stirling_parts" p_stirling_parts := (defAt (w_stirling_parts F C) F.h_stirling_parts 5 s_stirling_parts rfl rfl t_stirling_parts).pure
theorem w_to_records (F : Fx K mg) (C : Kx K mg) : Wf P w K mg base (zz K mg) c_to_records_ := ⟨rfl, rfl, F.bl, (fns_cons ((d_cycles F C).mono (by decide)) fns_nil), cst_nil, fun _ _ h => (by cases h), exs_nil, hit_nil⟩
theorem d_to_records (F : Fx K mg) (C : Kx K mg) : DefAt P w K mg base (zz K mg) 2 "to_records" p_to_records := (defAt (w_to_records F C) F.h_to_records 2 s_to_records rfl rfl t_to_records).pure
theorem w_worpitzky (F : Fx K mg) (C : Kx K mg) : Wf P w K mg base (zz K mg) c_worpitzky_ := ⟨rfl, rfl, F.bl, (fns_cons ((d_choose F C).mono (by decide)) (fns_cons ((d_eulerian F C).mono (by decide)) fns_nil)), cst_nil, fun _ _ h => (by cases h), exs_nil, hit_nil⟩
theorem d_worpitzky (F : Fx K mg) (C : Kx K mg) : DefAt P w K mg base (zz K mg) 2 "worpitzky" p_worpitzky := (defAt (w_worpitzky F C) F.h_worpitzky 2 s_worpitzky rfl rfl t_worpitzky).pure
theorem tb_ok (F : Fx K mg) (C : Kx K mg) {lev : Nat} (hl : 2 ≤ lev) : ∀ j f, tb j = some f → ∃ a n, (zz K mg).FT j = some a ∧ DefOk P w K mg base (zz K mg) lev a n f := fun j f h => match j, h with
  | 0, h => by cases h; exact tab_of (vals := ["check", "from_code", "from_records", "foata"]) (x := "check") rfl ((d_check F C).mono (Nat.le_trans (by decide) hl))
  | 1, h => by cases h; exact tab_of (vals := ["check", "from_code", "from_records", "foata"]) (x := "from_code") rfl ((d_from_code F C).mono (Nat.le_trans (by decide) hl))
  | 2, h => by cases h; exact tab_of (vals := ["check", "from_code", "from_records", "foata"]) (x := "from_records") rfl ((d_from_records F C).mono (Nat.le_trans (by decide) hl))
  | 3, h => by cases h; exact tab_of (vals := ["check", "from_code", "from_records", "foata"]) (x := "foata") rfl ((d_foata F C).mono (Nat.le_trans (by decide) hl))
  | n + 4, h => by cases h
theorem w_law (F : Fx K mg) (C : Kx K mg) : Wf P w K mg base (zz K mg) c_law_ := ⟨rfl, rfl, F.bl, (fns_cons ((d__law_count F C).mono (by decide)) (fns_cons ((d__law_des F C).mono (by decide)) (fns_cons ((d__law_foata F C).mono (by decide)) (fns_cons ((d__law_inv F C).mono (by decide)) (fns_cons ((d__law_perms F C).mono (by decide)) (fns_cons ((d__law_rec F C).mono (by decide)) (fns_cons ((d__law_rings F C).mono (by decide)) (fns_cons ((d__law_same__3 F C).mono (by decide)) (fns_cons ((d__law_take F C).mono (by decide)) (fns_cons ((d__law_tape F C).mono (by decide)) (fns_cons ((d_all_rows F C).mono (by decide)) (fns_cons ((d_alternating_count F C).mono (by decide)) (fns_cons ((d_code F C).mono (by decide)) (fns_cons ((d_cycles F C).mono (by decide)) (fns_cons ((d_descent_set_count F C).mono (by decide)) (fns_cons ((d_descents F C).mono (by decide)) (fns_cons ((d_eulerian F C).mono (by decide)) (fns_cons ((d_excedances F C).mono (by decide)) (fns_cons ((d_foata F C).mono (by decide)) (fns_cons ((d_foata_back F C).mono (by decide)) (fns_cons ((d_from_code F C).mono (by decide)) (fns_cons ((d_from_records F C).mono (by decide)) (fns_cons ((d_inversions F C).mono (by decide)) (fns_cons ((d_mahonian F C).mono (by decide)) (fns_cons ((d_major F C).mono (by decide)) (fns_cons ((d_records F C).mono (by decide)) (fns_cons ((d_stirling_cycles F C).mono (by decide)) (fns_cons ((d_stirling_parts F C).mono (by decide)) (fns_cons ((d_to_records F C).mono (by decide)) (fns_cons ((d_worpitzky F C).mono (by decide)) fns_nil)))))))))))))))))))))))))))))), (cst_cons (fn_cst (vals := ["check", "from_code", "from_records", "foata"]) (x := "check") rfl (d_check (P := P) (w := w) (base := base) F C)) (cst_cons (fn_cst (vals := ["check", "from_code", "from_records", "foata"]) (x := "foata") rfl (d_foata (P := P) (w := w) (base := base) F C)) (cst_cons (fn_cst (vals := ["check", "from_code", "from_records", "foata"]) (x := "from_code") rfl (d_from_code (P := P) (w := w) (base := base) F C)) (cst_cons (fn_cst (vals := ["check", "from_code", "from_records", "foata"]) (x := "from_records") rfl (d_from_records (P := P) (w := w) (base := base) F C)) cst_nil)))), tb_ok F C (by decide), exs_nil, (hit_cons F.y_NoShape hit_nil)⟩
theorem law_ok (F : Fx K mg) (C : Kx K mg) {f : Addr} {fd : FuncData} (Z : L2.Fun K "law" "law" (st 41) f fd) : FnOk P w K mg base (L2.CX P w) 8 f fd ["script"] (spLaw K) := lawChain (w_law F C) Z 18 s_law rfl rfl rfl law_chain
end
end
end Lw

open PySem PySem.W PyProof.Rows
set_option maxHeartbeats 0 in
theorem PySem.Challenge.cw_countedbypapers_k16_whole_permutations_holds : PySem.Challenge.rw_countedbypapers_k16_whole_permutations.Holds := by
  w_on; o_law; k_head; (case hw => w_witness2)
  k_fill
  refine L2.walk_ofB (l := PySem.Challenge.rw_countedbypapers_k16_whole_permutations) (n := 63) (k := 8) (x := "script") (CX := fun w => L2.CX (PySem.Challenge.pw_countedbypapers_k16_whole_permutations) w) (sp := fun w => Ev.spLaw _) rfl (by decide) rfl ⟨rfl, by decide, by decide⟩ (fun w h Y => PySem.W.kIn_of Y) ?F (fun w H a ns hl _ hO hS => ⟨a, ns, rfl, hS, hl, hO, fun _ => rfl⟩) ?X
  case X =>
    intro w H s e s' h
    obtain ⟨_, _, _, _, _, _, _, _, _, _, _, _, z⟩ := h
    exact z
  case F =>
    intro w mg fa h KX G hmg
    have h__law_count := Ev.hasDef_mk (x := "_law_count") (y := "_law_count") (st := Lw.st 40) (ps := ["values", "size"]) KX G (by k_is) (by k_is) (by k_is) (by k_is) (fun _ _ _ _ _ _ us hl => match us, hl with | [_, _], _ => rfl)
    have h__law_des := Ev.hasDef_mk (x := "_law_des") (y := "_law_des") (st := Lw.st 36) (ps := ["row"]) KX G (by k_is) (by k_is) (by k_is) (by k_is) (fun _ _ _ _ _ _ us hl => match us, hl with | [_], _ => rfl)
    have h__law_foata := Ev.hasDef_mk (x := "_law_foata") (y := "_law_foata") (st := Lw.st 39) (ps := ["row"]) KX G (by k_is) (by k_is) (by k_is) (by k_is) (fun _ _ _ _ _ _ us hl => match us, hl with | [_], _ => rfl)
    have h__law_inv := Ev.hasDef_mk (x := "_law_inv") (y := "_law_inv") (st := Lw.st 35) (ps := ["row"]) KX G (by k_is) (by k_is) (by k_is) (by k_is) (fun _ _ _ _ _ _ us hl => match us, hl with | [_], _ => rfl)
    have h__law_perms := Ev.hasDef_mk (x := "_law_perms") (y := "_law_perms") (st := Lw.st 34) (ps := ["size"]) KX G (by k_is) (by k_is) (by k_is) (by k_is) (fun _ _ _ _ _ _ us hl => match us, hl with | [_], _ => rfl)
    have h__law_rec := Ev.hasDef_mk (x := "_law_rec") (y := "_law_rec") (st := Lw.st 37) (ps := ["row"]) KX G (by k_is) (by k_is) (by k_is) (by k_is) (fun _ _ _ _ _ _ us hl => match us, hl with | [_], _ => rfl)
    have h__law_rings := Ev.hasDef_mk (x := "_law_rings") (y := "_law_rings") (st := Lw.st 38) (ps := ["row"]) KX G (by k_is) (by k_is) (by k_is) (by k_is) (fun _ _ _ _ _ _ us hl => match us, hl with | [_], _ => rfl)
    have h__law_is_integer := Ev.hasDef_mk (x := "_law_is_integer") (y := "_law_is_integer") (st := Lw.st 31) (ps := ["actual"]) KX G (by k_is) (by k_is) (by k_is) (by k_is) (fun _ _ _ _ _ _ us hl => match us, hl with | [_], _ => rfl)
    have h__law_same_items := Ev.hasDef_mk (x := "_law_same_items") (y := "_law_same_items") (st := Lw.st 32) (ps := ["actual", "expected"]) KX G (by k_is) (by k_is) (by k_is) (by k_is) (fun _ _ _ _ _ _ us hl => match us, hl with | [_, _], _ => rfl)
    have h__law_same := Ev.hasDef_mk (x := "_law_same") (y := "_law_same") (st := Lw.st 33) (ps := ["actual", "expected"]) KX G (by k_is) (by k_is) (by k_is) (by k_is) (fun _ _ _ _ _ _ us hl => match us, hl with | [_, _], _ => rfl)
    have h__law_take := Ev.hasDef_mk (x := "_law_take") (y := "_law_take") (st := Lw.st 30) (ps := ["tape", "many"]) KX G (by k_is) (by k_is) (by k_is) (by k_is) (fun _ _ _ _ _ _ us hl => match us, hl with | [_, _], _ => rfl)
    have h__law_tape := Ev.hasDef_mk (x := "_law_tape") (y := "_law_tape") (st := Lw.st 29) (ps := ["script"]) KX G (by k_is) (by k_is) (by k_is) (by k_is) (fun _ _ _ _ _ _ us hl => match us, hl with | [_], _ => rfl)
    have h_all_rows := Ev.hasDef_mk (x := "all_rows") (y := "all_rows") (st := Lw.st 7) (ps := ["size"]) KX G (by k_is) (by k_is) (by k_is) (by k_is) (fun _ _ _ _ _ _ us hl => match us, hl with | [_], _ => rfl)
    have h_alternating_count := Ev.hasDef_mk (x := "alternating_count") (y := "alternating_count") (st := Lw.st 26) (ps := ["size"]) KX G (by k_is) (by k_is) (by k_is) (by k_is) (fun _ _ _ _ _ _ us hl => match us, hl with | [_], _ => rfl)
    have h_check := Ev.hasDef_mk (x := "check") (y := "check") (st := Lw.st 6) (ps := ["row"]) KX G (by k_is) (by k_is) (by k_is) (by k_is) (fun _ _ _ _ _ _ us hl => match us, hl with | [_], _ => rfl)
    have h_code := Ev.hasDef_mk (x := "code") (y := "code") (st := Lw.st 16) (ps := ["row"]) KX G (by k_is) (by k_is) (by k_is) (by k_is) (fun _ _ _ _ _ _ us hl => match us, hl with | [_], _ => rfl)
    have h_cycles := Ev.hasDef_mk (x := "cycles") (y := "cycles") (st := Lw.st 13) (ps := ["row"]) KX G (by k_is) (by k_is) (by k_is) (by k_is) (fun _ _ _ _ _ _ us hl => match us, hl with | [_], _ => rfl)
    have h_choose := Ev.hasDef_mk (x := "choose") (y := "choose") (st := Lw.st 4) (ps := ["top", "part"]) KX G (by k_is) (by k_is) (by k_is) (by k_is) (fun _ _ _ _ _ _ us hl => match us, hl with | [_, _], _ => rfl)
    have h_subsets := Ev.hasDef_mk (x := "subsets") (y := "subsets") (st := Lw.st 25) (ps := ["numbers"]) KX G (by k_is) (by k_is) (by k_is) (by k_is) (fun _ _ _ _ _ _ us hl => match us, hl with | [_], _ => rfl)
    have h_descent_set_count := Ev.hasDef_mk (x := "descent_set_count") (y := "descent_set_count") (st := Lw.st 24) (ps := ["size", "places"]) KX G (by k_is) (by k_is) (by k_is) (by k_is) (fun _ _ _ _ _ _ us hl => match us, hl with | [_, _], _ => rfl)
    have h_descents := Ev.hasDef_mk (x := "descents") (y := "descents") (st := Lw.st 9) (ps := ["row"]) KX G (by k_is) (by k_is) (by k_is) (by k_is) (fun _ _ _ _ _ _ us hl => match us, hl with | [_], _ => rfl)
    have h_eulerian := Ev.hasDef_mk (x := "eulerian") (y := "eulerian") (st := Lw.st 20) (ps := ["size"]) KX G (by k_is) (by k_is) (by k_is) (by k_is) (fun _ _ _ _ _ _ us hl => match us, hl with | [_], _ => rfl)
    have h_excedances := Ev.hasDef_mk (x := "excedances") (y := "excedances") (st := Lw.st 11) (ps := ["row"]) KX G (by k_is) (by k_is) (by k_is) (by k_is) (fun _ _ _ _ _ _ us hl => match us, hl with | [_], _ => rfl)
    have h_foata := Ev.hasDef_mk (x := "foata") (y := "foata") (st := Lw.st 18) (ps := ["row"]) KX G (by k_is) (by k_is) (by k_is) (by k_is) (fun _ _ _ _ _ _ us hl => match us, hl with | [_], _ => rfl)
    have h_foata_back := Ev.hasDef_mk (x := "foata_back") (y := "foata_back") (st := Lw.st 19) (ps := ["row"]) KX G (by k_is) (by k_is) (by k_is) (by k_is) (fun _ _ _ _ _ _ us hl => match us, hl with | [_], _ => rfl)
    have h_from_code := Ev.hasDef_mk (x := "from_code") (y := "from_code") (st := Lw.st 17) (ps := ["numbers"]) KX G (by k_is) (by k_is) (by k_is) (by k_is) (fun _ _ _ _ _ _ us hl => match us, hl with | [_], _ => rfl)
    have h_from_records := Ev.hasDef_mk (x := "from_records") (y := "from_records") (st := Lw.st 15) (ps := ["row"]) KX G (by k_is) (by k_is) (by k_is) (by k_is) (fun _ _ _ _ _ _ us hl => match us, hl with | [_], _ => rfl)
    have h_inversions := Ev.hasDef_mk (x := "inversions") (y := "inversions") (st := Lw.st 8) (ps := ["row"]) KX G (by k_is) (by k_is) (by k_is) (by k_is) (fun _ _ _ _ _ _ us hl => match us, hl with | [_], _ => rfl)
    have h_mahonian := Ev.hasDef_mk (x := "mahonian") (y := "mahonian") (st := Lw.st 23) (ps := ["size"]) KX G (by k_is) (by k_is) (by k_is) (by k_is) (fun _ _ _ _ _ _ us hl => match us, hl with | [_], _ => rfl)
    have h_major := Ev.hasDef_mk (x := "major") (y := "major") (st := Lw.st 10) (ps := ["row"]) KX G (by k_is) (by k_is) (by k_is) (by k_is) (fun _ _ _ _ _ _ us hl => match us, hl with | [_], _ => rfl)
    have h_records := Ev.hasDef_mk (x := "records") (y := "records") (st := Lw.st 12) (ps := ["row"]) KX G (by k_is) (by k_is) (by k_is) (by k_is) (fun _ _ _ _ _ _ us hl => match us, hl with | [_], _ => rfl)
    have h_stirling_cycles := Ev.hasDef_mk (x := "stirling_cycles") (y := "stirling_cycles") (st := Lw.st 21) (ps := ["size"]) KX G (by k_is) (by k_is) (by k_is) (by k_is) (fun _ _ _ _ _ _ us hl => match us, hl with | [_], _ => rfl)
    have h_stirling_parts := Ev.hasDef_mk (x := "stirling_parts") (y := "stirling_parts") (st := Lw.st 22) (ps := ["size"]) KX G (by k_is) (by k_is) (by k_is) (by k_is) (fun _ _ _ _ _ _ us hl => match us, hl with | [_], _ => rfl)
    have h_to_records := Ev.hasDef_mk (x := "to_records") (y := "to_records") (st := Lw.st 14) (ps := ["row"]) KX G (by k_is) (by k_is) (by k_is) (by k_is) (fun _ _ _ _ _ _ us hl => match us, hl with | [_], _ => rfl)
    have h_worpitzky := Ev.hasDef_mk (x := "worpitzky") (y := "worpitzky") (st := Lw.st 27) (ps := ["size", "place"]) KX G (by k_is) (by k_is) (by k_is) (by k_is) (fun _ _ _ _ _ _ us hl => match us, hl with | [_, _], _ => rfl)
    have z_len : mg "len" = none := PySem.W.mg_none_of KX G (by k_is)
    have z_sum : mg "sum" = none := PySem.W.mg_none_of KX G (by k_is)
    have z_max : mg "max" = none := PySem.W.mg_none_of KX G (by k_is)
    have z_min : mg "min" = none := PySem.W.mg_none_of KX G (by k_is)
    have z_abs : mg "abs" = none := PySem.W.mg_none_of KX G (by k_is)
    have z_any : mg "any" = none := PySem.W.mg_none_of KX G (by k_is)
    have z_all : mg "all" = none := PySem.W.mg_none_of KX G (by k_is)
    have z_sorted : mg "sorted" = none := PySem.W.mg_none_of KX G (by k_is)
    have z_isinstance : mg "isinstance" = none := PySem.W.mg_none_of KX G (by k_is)
    have z_int : mg "int" = none := PySem.W.mg_none_of KX G (by k_is)
    have z_bool : mg "bool" = none := PySem.W.mg_none_of KX G (by k_is)
    have z_list : mg "list" = none := PySem.W.mg_none_of KX G (by k_is)
    have z_tuple : mg "tuple" = none := PySem.W.mg_none_of KX G (by k_is)
    have z_dict : mg "dict" = none := PySem.W.mg_none_of KX G (by k_is)
    have z_range : mg "range" = none := PySem.W.mg_none_of KX G (by k_is)
    have z_enumerate : mg "enumerate" = none := PySem.W.mg_none_of KX G (by k_is)
    have z_zip : mg "zip" = none := PySem.W.mg_none_of KX G (by k_is)
    have z_str : mg "str" = none := PySem.W.mg_none_of KX G (by k_is)
    have z_set : mg "set" = none := PySem.W.mg_none_of KX G (by k_is)
    have bl : ∀ x n, Ev.bltNames.lookup x = some n → mg x = none := Ev.bl_of z_len z_sum z_max z_min z_abs z_any z_all z_sorted z_isinstance z_int z_bool z_list z_tuple z_dict z_range z_enumerate z_zip z_str z_set
    have x_NoShape := Ev.exs_mk (vals := ["check", "from_code", "from_records", "foata"]) (clss := ["NoShape"]) (x := "NoShape") (j := 0) rfl PySem.F.excBase_ValueError KX G (by k_is) (by k_exc) (by k_is) (by k_is) (by k_is)
    have y_NoShape := Ev.hit_mk (vals := ["check", "from_code", "from_records", "foata"]) (clss := ["NoShape"]) (x := "NoShape") (f := Lw.hit_NoShape) KX G (by k_is) (by k_is) (by k_is) (by k_is) (fun k b e => match k, e with
      | 0, e => by cases e; exact Ev.sub_mk (clss := ["NoShape"]) (y := "NoShape") (k := 0) KX G rfl (by k_is) (by k_is)
      | n + 1, e => by cases e)
    have FX := Lw.Fx.mk h__law_count h__law_des h__law_foata h__law_inv h__law_perms h__law_rec h__law_rings h__law_is_integer h__law_same_items h__law_same h__law_take h__law_tape h_all_rows h_alternating_count h_check h_code h_cycles h_choose h_subsets h_descent_set_count h_descents h_eulerian h_excedances h_foata h_foata_back h_from_code h_from_records h_inversions h_mahonian h_major h_records h_stirling_cycles h_stirling_parts h_to_records h_worpitzky x_NoShape y_NoShape bl
    have h_law := Ev.lawDef (st := Lw.st 41) KX G hmg (by k_is) (by k_is) (by k_is) (by k_is) (fun _ _ _ _ _ _ _ => rfl)
    obtain ⟨fd, Z, hb⟩ := h_law
    exact ⟨fd, hb, fun base _ _ => Lw.law_ok FX (Lw.Kx.mk trivial) Z⟩
