import PyProof.Rows.All
import Wide.All
import OpenK.AllK
import Wide.FinOn
import HandS.ForMost
import HandS.Exc
import HandS.TryOnly
import HandS.ExcOwn
import HandS.WordsExc
import HandS.Defaults
import HandS.NoneIn
import HandS.Property
import HandS.Flow
import HandS.IsInst
import HandS.Style
import HandS.Small
import HandS.Star
import HandS.MethStar
import HandS.DictComp
import HandS.WordsDict
import HandS.SetFor
import HandS.Conv
import HandS.ListItems
import PyProof.EnumMake
import PyProof.EnumStmt
import HandS.MakeKw
import HandS.MakeKwOnly
import KE.KStateDown
import HandS.Ends
import HandS.More
import HandS.Words
import HandS.Head0
import HandS.Head1
import HandS.Head2
import HandS.HeadEnd
import HandS.HeadHook1
import HandS.HeadHook2
import HandS.HeadNt
import HandS.TupAny
import HandS.SetBool
import HandS.SetKeys
import HandS.Zip
import KE.GoesZip
import KE.GoesMore
import KE.GoesEnumKw
import KE.KParD
import KE.KUnpackStar
import HandS.SortInts
import HandS.DictEq
import HandS.Wide
import KE.KSortedM
import HandS.Deep
import PySem.Challenge.RW_copymemos_k70_hooks_by_hand
set_option Elab.async false
set_option linter.all false
set_option maxRecDepth 100000
set_option maxHeartbeats 0
/-! The virtual heap: values, objects, states; runs over them as functions to Bool by continuations; how a run there stands for a reading of the hand layer. -/
namespace MV
open PySem L2

/-- a value over the virtual heap: ref i, the i-th object made; glo k, an object of the text's own -/
inductive U where
  | non | bl (b : Bool) | int (i : Int) | str (x : Str) | ref (i : Nat) | glo (k : Nat) | ty (n : String)
inductive VO where
  | lst (xs : List U) | fl (xs : List U) | tup (xs : List U) | dct (lk : Bool) (kvs : List (Key × U)) | ins (c : Nat) (fs : List (Str × U))

/-! ### the heap: a tree by the bits of a place -/
inductive Tr where
  | nil | node (v : Option VO) (l r : Tr)
def Tr.getF : Nat → Tr → Nat → Option VO
  | 0, _, _ => none
  | _ + 1, .nil, _ => none
  | f + 1, .node v l r, i => match i with
    | 0 => v
    | j + 1 => match Nat.beq (j % 2) 0 with
      | true => l.getF f (j / 2)
      | false => r.getF f (j / 2)
def Tr.putF : Nat → Tr → Nat → VO → Tr
  | 0, t, _, _ => t
  | f + 1, .nil, i, o => match i with
    | 0 => .node (some o) .nil .nil
    | j + 1 => match Nat.beq (j % 2) 0 with
      | true => .node none (Tr.putF f .nil (j / 2) o) .nil
      | false => .node none .nil (Tr.putF f .nil (j / 2) o)
  | f + 1, .node v l r, i, o => match i with
    | 0 => .node (some o) l r
    | j + 1 => match Nat.beq (j % 2) 0 with
      | true => .node v (Tr.putF f l (j / 2) o) r
      | false => .node v l (Tr.putF f r (j / 2) o)
def Tr.get (t : Tr) (i : Nat) : Option VO := t.getF (i + 1) i
def Tr.put (t : Tr) (i : Nat) (o : VO) : Tr := t.putF (i + 1) i o
theorem getF_nil (f i : Nat) : Tr.getF f .nil i = none := by cases f <;> rfl
/-- more fuel than the place is enough -/
theorem getF_fuel : ∀ (f : Nat) (t : Tr) (i g : Nat), i < f → i < g → Tr.getF f t i = Tr.getF g t i
  | 0, _, _, _, h, _ => absurd h (Nat.not_lt_zero _)
  | f + 1, t, i, g, h, h' => by
    cases g with
    | zero => exact absurd h' (Nat.not_lt_zero _)
    | succ g =>
      cases t with
      | nil => rfl
      | node v l r =>
        cases i with
        | zero => rfl
        | succ j =>
          have a : j / 2 < f := by omega
          have b : j / 2 < g := by omega
          show (match Nat.beq (j % 2) 0 with | true => l.getF f (j / 2) | false => r.getF f (j / 2)) = (match Nat.beq (j % 2) 0 with | true => l.getF g (j / 2) | false => r.getF g (j / 2))
          rw [getF_fuel f l _ g a b, getF_fuel f r _ g a b]
theorem getF_putF : ∀ (f : Nat) (t : Tr) (i j : Nat) (o : VO), i < f → j < f → Tr.getF f (Tr.putF f t i o) j = if j = i then some o else Tr.getF f t j
  | 0, _, _, _, _, h, _ => absurd h (Nat.not_lt_zero _)
  | f + 1, t, i, j, o, h, h' => by
    have half : ∀ a b : Nat, Nat.beq (a % 2) 0 = Nat.beq (b % 2) 0 → (a / 2 = b / 2 ↔ a = b) := fun a b e => by
      have e' : (a % 2 = 0) ↔ (b % 2 = 0) := ⟨fun h => Nat.eq_of_beq_eq_true (by rw [← e, h] <;> rfl), fun h => Nat.eq_of_beq_eq_true (by rw [e, h] <;> rfl)⟩
      omega
    cases t with
    | nil =>
      cases i with
      | zero =>
        cases j with
        | zero => rfl
        | succ k =>
          show (match Nat.beq (k % 2) 0 with | true => Tr.getF f .nil (k / 2) | false => Tr.getF f .nil (k / 2)) = _
          rw [getF_nil]
          cases Nat.beq (k % 2) 0 <;> rfl
      | succ k =>
        cases j with
        | zero =>
          cases q : Nat.beq (k % 2) 0 <;> simp [Tr.putF, Tr.getF, q]
        | succ m =>
          have ih := getF_putF f .nil (k / 2) (m / 2) o (by omega) (by omega)
          rw [getF_nil] at ih
          cases q : Nat.beq (k % 2) 0 <;> cases q2 : Nat.beq (m % 2) 0
          · simp only [Tr.putF, Tr.getF, q, q2, ih, half m k (q2.trans q.symm), Nat.add_right_cancel_iff]
          · have ne : m + 1 ≠ k + 1 := by intro e; have : m = k := by omega
                                          subst this; rw [q] at q2; cases q2
            simp only [Tr.putF, Tr.getF, q, q2, getF_nil, if_neg ne]
          · have ne : m + 1 ≠ k + 1 := by intro e; have : m = k := by omega
                                          subst this; rw [q] at q2; cases q2
            simp only [Tr.putF, Tr.getF, q, q2, getF_nil, if_neg ne]
          · simp only [Tr.putF, Tr.getF, q, q2, ih, half m k (q2.trans q.symm), Nat.add_right_cancel_iff]
    | node v l r =>
      cases i with
      | zero =>
        cases j with
        | zero => rfl
        | succ k => rfl
      | succ k =>
        cases j with
        | zero =>
          cases q : Nat.beq (k % 2) 0 <;> simp [Tr.putF, Tr.getF, q]
        | succ m =>
          have ihl := getF_putF f l (k / 2) (m / 2) o (by omega) (by omega)
          have ihr := getF_putF f r (k / 2) (m / 2) o (by omega) (by omega)
          cases q : Nat.beq (k % 2) 0 <;> cases q2 : Nat.beq (m % 2) 0
          · simp only [Tr.putF, Tr.getF, q, q2, ihr, half m k (q2.trans q.symm), Nat.add_right_cancel_iff]
          · have ne : m + 1 ≠ k + 1 := by intro e; have : m = k := by omega
                                          subst this; rw [q] at q2; cases q2
            simp only [Tr.putF, Tr.getF, q, q2, if_neg ne]
          · have ne : m + 1 ≠ k + 1 := by intro e; have : m = k := by omega
                                          subst this; rw [q] at q2; cases q2
            simp only [Tr.putF, Tr.getF, q, q2, if_neg ne]
          · simp only [Tr.putF, Tr.getF, q, q2, ihl, half m k (q2.trans q.symm), Nat.add_right_cancel_iff]
theorem putF_fuel (o : VO) : ∀ (f : Nat) (t : Tr) (i g : Nat), i < f → i < g → Tr.putF f t i o = Tr.putF g t i o
  | 0, _, _, _, h, _ => absurd h (Nat.not_lt_zero _)
  | f + 1, t, i, g, h, h' => by
    cases g with
    | zero => exact absurd h' (Nat.not_lt_zero _)
    | succ g =>
      cases i with
      | zero => cases t <;> rfl
      | succ k =>
        have a : k / 2 < f := by omega
        have b : k / 2 < g := by omega
        cases t with
        | nil => simp only [Tr.putF, putF_fuel o f .nil (k / 2) g a b]
        | node v l r => simp only [Tr.putF, putF_fuel o f l (k / 2) g a b, putF_fuel o f r (k / 2) g a b]
theorem putF_get (t : Tr) (i j f : Nat) (o : VO) (hi : i < f) : (Tr.putF f t i o).get j = if j = i then some o else t.get j := by
  rw [putF_fuel o f t i (i + j + 1) hi (by omega)]
  unfold Tr.get
  rw [getF_fuel (j + 1) _ j (i + j + 1) (by omega) (by omega), getF_putF (i + j + 1) t i j o (by omega) (by omega), getF_fuel (i + j + 1) t j (j + 1) (by omega) (by omega)]
theorem Tr.get_put (t : Tr) (i j : Nat) (o : VO) : (t.put i o).get j = if j = i then some o else t.get j := putF_get t i j (i + 1) o (Nat.lt_succ_self i)

/-- the objects: a tree, and ahead of it what was stored since -/
structure VS where
  t : Tr
  p : List (Nat × VO)
  n : Nat
def pGet (i : Nat) : List (Nat × VO) → Option VO
  | [] => none
  | q :: l => match Nat.beq q.1 i with
    | true => some q.2
    | false => pGet i l
def VS.get (s : VS) (i : Nat) : Option VO := match pGet i s.p with
  | some o => some o
  | none => s.t.get i
def VS.put (s : VS) (i : Nat) (o : VO) : VS := ⟨s.t, (i, o) :: s.p, s.n⟩
/-- a new object, at the place n -/
def VS.new (s : VS) (o : VO) : VS := ⟨s.t, (s.n, o) :: s.p, s.n + 1⟩
theorem get_cons (t : Tr) (p : List (Nat × VO)) (n m i j : Nat) (o : VO) : (⟨t, (i, o) :: p, n⟩ : VS).get j = if j = i then some o else (⟨t, p, m⟩ : VS).get j := by
  show (match (match Nat.beq i j with | true => some o | false => pGet j p) with | some o => some o | none => t.get j) = if j = i then some o else (match pGet j p with | some o => some o | none => t.get j)
  cases q : Nat.beq i j with
  | true =>
    have e := Nat.eq_of_beq_eq_true q
    rw [if_pos e.symm]
  | false =>
    have e : j ≠ i := fun z => by subst z; rw [Nat.beq_refl] at q; cases q
    rw [if_neg e]
theorem VS.get_put (s : VS) (i j : Nat) (o : VO) : (s.put i o).get j = if j = i then some o else s.get j := get_cons s.t s.p _ s.n i j o
theorem VS.get_new (s : VS) (j : Nat) (o : VO) : (s.new o).get j = if j = s.n then some o else s.get j := get_cons s.t s.p _ s.n s.n j o

/-! ### the tree brought up to date, all its parts evaluated -/
def frcN (n : Nat) (k : Nat → Bool) : Bool := match n with
  | 0 => k 0
  | m + 1 => k (m + 1)
theorem frcN_eq (n : Nat) (k : Nat → Bool) : frcN n k = k n := by cases n <;> rfl
def frcU : U → (U → Bool) → Bool
  | .int (.ofNat n), k => frcN n fun m => k (.int (.ofNat m))
  | .ref n, k => frcN n fun m => k (.ref m)
  | u, k => k u
theorem frcU_eq (u : U) (k : U → Bool) : frcU u k = k u := by
  cases u with
  | int i =>
    cases i with
    | ofNat n => exact frcN_eq n fun m => k (.int (.ofNat m))
    | negSucc n => rfl
  | ref n => exact frcN_eq n fun m => k (.ref m)
  | non => rfl
  | bl _ => rfl
  | str _ => rfl
  | glo _ => rfl
  | ty _ => rfl
def frcL {α : Type} (f : α → (α → Bool) → Bool) : List α → (List α → Bool) → Bool
  | [], k => k []
  | a :: l, k => f a fun a' => frcL f l fun l' => k (a' :: l')
theorem frcL_eq {α : Type} {f : α → (α → Bool) → Bool} (h : ∀ a k, f a k = k a) : ∀ (l : List α) (k : List α → Bool), frcL f l k = k l
  | [], _ => rfl
  | a :: l, k => by unfold frcL; rw [h, frcL_eq h l]
def frcF {β : Type} (q : β × U) (k : β × U → Bool) : Bool := match q with
  | ⟨x, u⟩ => frcU u fun u' => k ⟨x, u'⟩
theorem frcF_eq {β : Type} (q : β × U) (k : β × U → Bool) : frcF q k = k q := frcU_eq _ _
def frcO : VO → (VO → Bool) → Bool
  | .lst xs, k => frcL frcU xs fun xs' => k (.lst xs')
  | .fl xs, k => k (.fl xs)
  | .tup xs, k => frcL frcU xs fun xs' => k (.tup xs')
  | .dct lk kvs, k => frcL frcF kvs fun kvs' => k (.dct lk kvs')
  | .ins c fs, k => frcL frcF fs fun fs' => k (.ins c fs')
theorem frcO_eq (o : VO) (k : VO → Bool) : frcO o k = k o := by
  cases o <;> first | exact frcL_eq frcU_eq _ _ | exact frcL_eq frcF_eq _ _ | rfl
def putTK : Nat → Tr → Nat → VO → (Tr → Bool) → Bool
  | 0, t, _, _, k => k t
  | f + 1, .nil, i, o, k => match i with
    | 0 => k (.node (some o) .nil .nil)
    | j + 1 => match Nat.beq (j % 2) 0 with
      | true => putTK f .nil (j / 2) o fun t => k (.node none t .nil)
      | false => putTK f .nil (j / 2) o fun t => k (.node none .nil t)
  | f + 1, .node v l r, i, o, k => match i with
    | 0 => k (.node (some o) l r)
    | j + 1 => match Nat.beq (j % 2) 0 with
      | true => putTK f l (j / 2) o fun t => k (.node v t r)
      | false => putTK f r (j / 2) o fun t => k (.node v l t)
theorem putTK_eq (o : VO) : ∀ (f : Nat) (t : Tr) (i : Nat) (k : Tr → Bool), putTK f t i o k = k (Tr.putF f t i o)
  | 0, _, _, _ => rfl
  | f + 1, .nil, i, k => by
    cases i with
    | zero => rfl
    | succ j =>
      unfold putTK Tr.putF
      cases q : Nat.beq (j % 2) 0 <;> simp only [putTK_eq o f, q]
  | f + 1, .node v l r, i, k => by
    cases i with
    | zero => rfl
    | succ j =>
      unfold putTK Tr.putF
      cases q : Nat.beq (j % 2) 0 <;> simp only [putTK_eq o f, q]
def tidT : List (Nat × VO) → Tr → Tr
  | [], t => t
  | q :: l, t => (tidT l t).put q.1 q.2
def tidK : List (Nat × VO) → Tr → (Tr → Bool) → Bool
  | [], t, k => k t
  | q :: l, t, k => tidK l t fun t' => frcO q.2 fun o => frcN q.1 fun i => putTK (i + 1) t' i o k
theorem tidK_eq : ∀ (p : List (Nat × VO)) (t : Tr) (k : Tr → Bool), tidK p t k = k (tidT p t)
  | [], _, _ => rfl
  | q :: l, t, k => by
    unfold tidK
    rw [tidK_eq l, frcO_eq, frcN_eq, putTK_eq]
    rfl
def VS.tid (s : VS) : VS := ⟨tidT s.p s.t, [], s.n⟩
def tidy (s : VS) (k : VS → Bool) : Bool := tidK s.p s.t fun t => frcN s.n fun n => k ⟨t, [], n⟩
theorem tidy_eq (s : VS) (k : VS → Bool) : tidy s k = k s.tid := by
  unfold tidy
  rw [tidK_eq, frcN_eq]
  rfl
theorem tidT_get (n j : Nat) : ∀ (p : List (Nat × VO)) (t : Tr), (tidT p t).get j = (⟨t, p, n⟩ : VS).get j
  | [], _ => rfl
  | q :: l, t => by
    obtain ⟨i, o⟩ := q
    rw [get_cons t l n n i j o, ← tidT_get n j l t]
    exact Tr.get_put _ _ _ _
theorem VS.tid_get (s : VS) (j : Nat) : s.tid.get j = s.get j := tidT_get s.n j s.p s.t

/-! ### how it stands for the abstract heap -/
def RU (γ : Nat → Addr) (ρ : List Addr) : U → V → Prop
  | .non, v => v = .non
  | .bl b, v => v = .bl b
  | .int i, v => v = .int i
  | .str x, v => v = .str x
  | .ref i, v => ∃ a, ρ[i]? = some a ∧ v = .ref a
  | .glo k, v => v = .ref (γ k)
  | .ty n, v => v = .ty n
abbrev RL (γ : Nat → Addr) (ρ : List Addr) : List U → List V → Prop := Paired (RU γ ρ)
abbrev RF (γ : Nat → Addr) (ρ : List Addr) : List (Str × U) → List (Str × V) → Prop := Paired fun p q => p.1 = q.1 ∧ RU γ ρ p.2 q.2
abbrev RK (γ : Nat → Addr) (ρ : List Addr) : List (Key × U) → List (Key × V) → Prop := Paired fun p q => p.1 = q.1 ∧ RU γ ρ p.2 q.2
theorem RU.mono {γ : Nat → Addr} {ρ l : List Addr} : ∀ {u : U} {v : V}, RU γ ρ u v → RU γ (ρ ++ l) u v
  | .non, _, h => h
  | .bl _, _, h => h
  | .int _, _, h => h
  | .str _, _, h => h
  | .ref i, _, ⟨a, e, h⟩ => ⟨a, by rw [List.getElem?_append_left (List.getElem?_eq_some_iff.mp e).1]; exact e, h⟩
  | .glo _, _, h => h
  | .ty _, _, h => h
theorem pmap {α β : Type} {F G : α → β → Prop} (h : ∀ a b, F a b → G a b) : ∀ {xs : List α} {ys : List β}, Paired F xs ys → Paired G xs ys
  | _, _, .nil => .nil
  | _, _, .cons r t => .cons (h _ _ r) (pmap h t)
theorem pget {α β : Type} {F : α → β → Prop} : ∀ {xs : List α} {ys : List β} {i : Nat} {x : α}, Paired F xs ys → xs[i]? = some x → ∃ y, ys[i]? = some y ∧ F x y
  | _, _, _, _, .nil, e => by simp at e
  | _, _, 0, _, .cons r _, e => by simp at e; subst e; exact ⟨_, rfl, r⟩
  | _, _, i + 1, _, .cons _ t, e => by
    obtain ⟨y, h, r⟩ := pget (i := i) t (by simpa using e)
    exact ⟨y, by simpa using h, r⟩
theorem RL.mono {γ : Nat → Addr} {ρ l : List Addr} {us : List U} {vs : List V} (h : RL γ ρ us vs) : RL γ (ρ ++ l) us vs := pmap (fun _ _ r => RU.mono r) h
/-- what stands at a for the object o -/
def RO (γ : Nat → Addr) (ρ : List Addr) (H : Hp) (a : Addr) : VO → Prop
  | .lst xs => ∃ ys, H a = some (.lst ys) ∧ RL γ ρ xs ys
  | .fl xs => ∃ ys, (∃ o, H a = some (.frz o (.lst ys))) ∧ RL γ ρ xs ys
  | .tup xs => ∃ ys, H a = some (.tup ys) ∧ RL γ ρ xs ys
  | .dct lk kvs => ∃ ws, (bif lk then ∃ o, H a = some (.frz o (.dK ws)) else H a = some (.dK ws)) ∧ RK γ ρ kvs ws
  | .ins c fs => ∃ dx ws, H a = some (.ins (γ c) dx ws) ∧ RF γ ρ fs ws
theorem RO.mono {γ : Nat → Addr} {ρ l : List Addr} {H H' : Hp} {a : Addr} (e : H' a = H a) : ∀ {o : VO}, RO γ ρ H a o → RO γ (ρ ++ l) H' a o
  | .lst _, ⟨ys, h, r⟩ => ⟨ys, e.trans h, r.mono⟩
  | .fl _, ⟨ys, ⟨o, h⟩, r⟩ => ⟨ys, ⟨o, e.trans h⟩, r.mono⟩
  | .tup _, ⟨ys, h, r⟩ => ⟨ys, e.trans h, r.mono⟩
  | .dct lk _, ⟨ws, h, r⟩ => ⟨ws, by rw [e]; exact h, pmap (fun _ _ q => ⟨q.1, q.2.mono⟩) r⟩
  | .ins _ _, ⟨dx, ws, h, r⟩ => ⟨dx, ws, e.trans h, pmap (fun _ _ q => ⟨q.1, q.2.mono⟩) r⟩
theorem RO.here {γ : Nat → Addr} {ρ : List Addr} {H H' : Hp} {a : Addr} (e : H' a = H a) {o : VO} (h : RO γ ρ H a o) : RO γ ρ H' a o := by
  have := RO.mono (l := []) e h
  rwa [List.append_nil] at this
theorem RO.some {γ : Nat → Addr} {ρ : List Addr} {H : Hp} {a : Addr} : ∀ {o : VO}, RO γ ρ H a o → ∃ u, H a = some u
  | .lst _, ⟨_, h, _⟩ => ⟨_, h⟩
  | .fl _, ⟨_, ⟨_, h⟩, _⟩ => ⟨_, h⟩
  | .tup _, ⟨_, h, _⟩ => ⟨_, h⟩
  | .dct lk _, ⟨_, h, _⟩ => by
    cases lk with
    | true => obtain ⟨o, h⟩ := h; exact ⟨_, h⟩
    | false => exact ⟨_, h⟩
  | .ins _ _, ⟨_, _, h, _⟩ => ⟨_, h⟩
/-- the virtual heap st stands for H, the i-th object at ρ's i-th address -/
structure Rep (γ : Nat → Addr) (ρ : List Addr) (st : VS) (H : Hp) : Prop where
  len : ρ.length = st.n
  nd : ρ.Nodup
  all : ∀ a ∈ ρ, ∃ o, H a = some o
  obj : ∀ i o, st.get i = some o → ∃ a, ρ[i]? = some a ∧ RO γ ρ H a o
theorem Rep.same {γ : Nat → Addr} {ρ : List Addr} {st st' : VS} {H : Hp} (R : Rep γ ρ st H) (hn : st'.n = st.n) (hg : ∀ i, st'.get i = st.get i) : Rep γ ρ st' H := ⟨R.len.trans hn.symm, R.nd, R.all, fun i o e => R.obj i o ((hg i).symm.trans e)⟩
/-- what a run does: new objects, nothing else touched -/
structure Step (ρ : List Addr) (H : Hp) (ρ' : List Addr) (H' : Hp) : Prop where
  ext : ∃ l, ρ' = ρ ++ l
  new : ∀ a ∈ ρ', a ∉ ρ → H a = none
  fr : ∀ a o, a ∉ ρ → H a = some o → H' a = some o
  frz : ∀ a o u, H a = some (.frz o u) → H' a = some (.frz o u)
theorem Step.refl (ρ : List Addr) (H : Hp) : Step ρ H ρ H := ⟨⟨[], (List.append_nil _).symm⟩, fun _ h n => absurd h n, fun _ _ _ e => e, fun _ _ _ e => e⟩
theorem Step.trans {ρ ρ1 ρ2 : List Addr} {H H1 H2 : Hp} (a : Step ρ H ρ1 H1) (b : Step ρ1 H1 ρ2 H2) : Step ρ H ρ2 H2 := by
  obtain ⟨l, el⟩ := a.ext
  obtain ⟨m, em⟩ := b.ext
  refine ⟨⟨l ++ m, by rw [em, el, List.append_assoc]⟩, fun x h n => ?_, fun x o n e => ?_, fun x o u e => b.frz x o u (a.frz x o u e)⟩
  · by_cases q : x ∈ ρ1
    · exact a.new x q n
    · have z := b.new x h q
      cases e : H x with
      | none => rfl
      | some o => rw [a.fr x o n e] at z; cases z
  · refine b.fr x o (fun q => ?_) (a.fr x o n e)
    rw [a.new x q n] at e; cases e
theorem Step.ru {γ : Nat → Addr} {ρ ρ' : List Addr} {H H' : Hp} (s : Step ρ H ρ' H') {u : U} {v : V} (h : RU γ ρ u v) : RU γ ρ' u v := by
  obtain ⟨l, rfl⟩ := s.ext; exact h.mono
theorem Step.rl {γ : Nat → Addr} {ρ ρ' : List Addr} {H H' : Hp} (s : Step ρ H ρ' H') {u : List U} {v : List V} (h : RL γ ρ u v) : RL γ ρ' u v := by
  obtain ⟨l, rfl⟩ := s.ext; exact h.mono

section
variable {γ : Nat → Addr} {ρ : List Addr} {st : VS} {H : Hp}
/-- a new object -/
theorem Rep.new (R : Rep γ ρ st H) {p : Addr} {o : VO} {H' : Hp} (hp : H p = none) (hk : ∀ a u, H a = some u → H' a = some u) (ho : RO γ (ρ ++ [p]) H' p o) : Rep γ (ρ ++ [p]) (st.new o) H' ∧ Step ρ H (ρ ++ [p]) H' := by
  have np : p ∉ ρ := fun q => by obtain ⟨u, e⟩ := R.all p q; rw [hp] at e; cases e
  refine ⟨⟨by rw [List.length_append, R.len]; rfl, ?_, fun a ha => ?_, fun i u e => ?_⟩, ⟨[p], rfl⟩, fun a ha n => ?_, fun a u _ e => hk a u e, fun a o u e => hk a _ e⟩
  · rw [List.nodup_append]
    exact ⟨R.nd, List.nodup_cons.mpr ⟨List.not_mem_nil, List.nodup_nil⟩, fun a ha b hb e => by
      have := List.mem_singleton.mp hb; subst this; subst e; exact np ha⟩
  · rcases List.mem_append.mp ha with q | q
    · obtain ⟨u, e⟩ := R.all a q; exact ⟨u, hk a u e⟩
    · have := List.mem_singleton.mp q; subst this; exact ho.some
  · rw [VS.get_new] at e
    by_cases h : i = st.n
    · rw [if_pos h] at e
      cases e
      refine ⟨p, ?_, ho⟩
      rw [h, ← R.len, List.getElem?_append_right (Nat.le_refl _), Nat.sub_self]; rfl
    · rw [if_neg h] at e
      obtain ⟨a, ea, ra⟩ := R.obj i u e
      obtain ⟨x, ex⟩ := ra.some
      exact ⟨a, by rw [List.getElem?_append_left (List.getElem?_eq_some_iff.mp ea).1]; exact ea, ra.mono ((hk a x ex).trans ex.symm)⟩
  · rcases List.mem_append.mp ha with q | q
    · exact absurd q n
    · have := List.mem_singleton.mp q; subst this; exact hp
theorem new_upd {p : Addr} {o : HO} (hp : H p = none) : ∀ a u, H a = some u → upd H p o a = some u := fun a u e => by
  rw [upd_ne (ne_of_none e hp)]; exact e
/-- an object changed -/
theorem Rep.put (R : Rep γ ρ st H) {i : Nat} {a : Addr} {o : VO} {u : HO} (ea : ρ[i]? = some a) (nf : ∀ o x, H a ≠ some (.frz o x)) (ho : RO γ ρ (upd H a u) a o) : Rep γ ρ (st.put i o) (upd H a u) ∧ Step ρ H ρ (upd H a u) := by
  have ma : a ∈ ρ := List.mem_of_getElem? ea
  refine ⟨⟨R.len, R.nd, fun b hb => ?_, fun j x e => ?_⟩, ⟨[], (List.append_nil _).symm⟩, fun _ h n => absurd h n, fun b x n e => by rw [upd_ne (fun (z : b = a) => n (by rw [z]; exact ma))]; exact e, fun b o x e => by rw [upd_ne (fun (z : b = a) => nf o x (by rw [← z]; exact e))]; exact e⟩
  · by_cases q : b = a
    · subst q; exact ⟨u, upd_same⟩
    · obtain ⟨x, e⟩ := R.all b hb; exact ⟨x, by rw [upd_ne q]; exact e⟩
  · rw [VS.get_put] at e
    by_cases h : j = i
    · rw [if_pos h] at e; cases e
      exact ⟨a, by rw [h]; exact ea, ho⟩
    · rw [if_neg h] at e
      obtain ⟨b, eb, rb⟩ := R.obj j x e
      have nb : b ≠ a := fun z => by
        subst z
        obtain ⟨h1, e1⟩ := List.getElem?_eq_some_iff.mp eb
        obtain ⟨h2, e2⟩ := List.getElem?_eq_some_iff.mp ea
        exact h ((List.getElem_inj R.nd).mp (e1.trans e2.symm))
      exact ⟨b, eb, rb.here (upd_ne nb)⟩
/-- a locked object is unlocked, as it was at the start *-/
theorem Step.unlock {ρ ρ2 : List Addr} {H H2 : Hp} {a : Addr} {u : HO} (s : Step ρ H ρ2 H2) (ma : a ∈ ρ2) (nf : ∀ o x, H a ≠ some (.frz o x)) : Step ρ H ρ2 (upd H2 a u) := by
  refine ⟨s.ext, s.new, fun b x n e => ?_, fun b o x e => ?_⟩
  · rw [upd_ne (fun (z : b = a) => by rw [z] at n e; rw [s.new a ma n] at e; cases e)]; exact s.fr b x n e
  · rw [upd_ne (fun (z : b = a) => nf o x (by rw [← z]; exact e))]; exact s.frz b o x e
theorem Rep.unlock (R : Rep γ ρ st H) {i : Nat} {a : Addr} {o : VO} {u : HO} (ea : ρ[i]? = some a) (ho : RO γ ρ (upd H a u) a o) : Rep γ ρ (st.put i o) (upd H a u) := by
  have ma : a ∈ ρ := List.mem_of_getElem? ea
  refine ⟨R.len, R.nd, fun b hb => ?_, fun j x e => ?_⟩
  · by_cases q : b = a
    · subst q; exact ⟨u, upd_same⟩
    · obtain ⟨x, e⟩ := R.all b hb; exact ⟨x, by rw [upd_ne q]; exact e⟩
  · rw [VS.get_put] at e
    by_cases h : j = i
    · rw [if_pos h] at e; cases e
      exact ⟨a, by rw [h]; exact ea, ho⟩
    · rw [if_neg h] at e
      obtain ⟨b, eb, rb⟩ := R.obj j x e
      have nb : b ≠ a := fun z => by
        subst z
        obtain ⟨h1, e1⟩ := List.getElem?_eq_some_iff.mp eb
        obtain ⟨h2, e2⟩ := List.getElem?_eq_some_iff.mp ea
        exact h ((List.getElem_inj R.nd).mp (e1.trans e2.symm))
      exact ⟨b, eb, rb.here (upd_ne nb)⟩
theorem Rep.get (R : Rep γ ρ st H) {i : Nat} {o : VO} {v : V} (e : st.get i = some o) (r : RU γ ρ (.ref i) v) : ∃ a, v = .ref a ∧ ρ[i]? = some a ∧ RO γ ρ H a o := by
  obtain ⟨a, ea, ev⟩ := r
  obtain ⟨b, eb, rb⟩ := R.obj i o e
  rw [ea] at eb; cases eb
  exact ⟨a, ev, ea, rb⟩
end

/-! ### runs by continuations -/
/-- an exception of the text's own: its class, its fields -/
structure XV where
  c : Nat
  fs : List (Str × U)
inductive Rs (α : Type) where
  | ok (a : α) | ex (x : XV)
inductive Out where
  | nx | bk | ct | rt (u : U) | ex (x : XV)
abbrev Fr := List (Option U)
abbrev Go (α : Type) := (Rs α → VS → Bool) → Bool
abbrev ME := Fr → VS → Go U
abbrev MT := Fr → VS → Go Bool
abbrev MA := Fr → VS → Go (List U)
abbrev GoS := (Out → Fr → VS → Bool) → Bool
abbrev MS := Fr → VS → GoS
abbrev MF := List U → VS → Go U
def bnd {α β : Type} (m : Go α) (f : α → VS → Go β) : Go β := fun κ => m fun r st => match r with
  | .ok a => f a st κ
  | .ex x => κ (.ex x) st
def ret {α : Type} (a : α) (st : VS) : Go α := fun κ => κ (.ok a) st
def bad {α : Type} : Go α := fun _ => false

/-- the frame's slots -/
structure FrR (γ : Nat → Addr) (ρ : List Addr) (σ : Fr) (τ : St) : Prop where
  len : σ.length = τ.length
  at_ : ∀ (i : Nat) (u : U), σ[i]? = some (some u) → ∃ v, τ[i]? = some (some v) ∧ RU γ ρ u v
theorem FrR.step {γ : Nat → Addr} {ρ ρ' : List Addr} {H H' : Hp} (s : Step ρ H ρ' H') {σ : Fr} {τ : St} (h : FrR γ ρ σ τ) : FrR γ ρ' σ τ := ⟨h.len, fun i u e => by
  obtain ⟨v, e1, r⟩ := h.at_ i u e; exact ⟨v, e1, s.ru r⟩⟩
theorem FrR.set {γ : Nat → Addr} {ρ : List Addr} {σ : Fr} {τ : St} (h : FrR γ ρ σ τ) (i : Nat) {u : U} {v : V} (r : RU γ ρ u v) : FrR γ ρ (σ.set i (some u)) (τ.set i (some v)) := ⟨by rw [List.length_set, List.length_set]; exact h.len, fun j w e => by
  by_cases q : i = j
  · subst q
    by_cases l : i < σ.length
    · rw [List.getElem?_set_self l] at e
      cases e
      exact ⟨v, by rw [List.getElem?_set_self (by rw [← h.len]; exact l)], r⟩
    · rw [List.getElem?_eq_none (by rw [List.length_set]; omega)] at e; cases e
  · rw [List.getElem?_set_ne q] at e
    obtain ⟨x, e1, r1⟩ := h.at_ j w e
    exact ⟨x, by rw [List.getElem?_set_ne q]; exact e1, r1⟩⟩
/-- how an exception's value stands -/
def RX (γ : Nat → Addr) (ρ : List Addr) (x : XV) (cls : Value) (d : Option Addr) (H : Hp) : Prop :=
  cls = .ref (γ x.c) ∧ (x.fs = [] ∨ ∃ dd ws, d = some dd ∧ dd ∉ ρ ∧ H dd = some (.xd ws) ∧ RF γ ρ x.fs ws)

/-- what is wanted of a value, of an exception -/
def OkK (γ : Nat → Addr) {α β : Type} (Rv : List Addr → α → β → Prop) (ρ : List Addr) (H : Hp) (κ : Rs α → VS → Bool) (Q : β → Hp → Prop) : Prop :=
  ∀ ρ' st' H' u v, Step ρ H ρ' H' → Rep γ ρ' st' H' → Rv ρ' u v → κ (.ok u) st' = true → Q v H'
def ExK (γ : Nat → Addr) (W : WX) (τ : St) {α : Type} (ρ : List Addr) (H : Hp) (κ : Rs α → VS → Bool) : Prop :=
  ∀ ρ' st' H' x cls d, Step ρ H ρ' H' → Rep γ ρ' st' H' → RX γ ρ' x cls d H' → κ (.ex x) st' = true → W cls d τ H'
/-- the run m stands for the reading t -/
def SimAt (γ : Nat → Addr) (W : WX) (τ : St) {α β : Type} (Rv : List Addr → α → β → Prop) (ρ : List Addr) (H : Hp) (t : (β → Hp → Prop) → Prop) (m : Go α) : Prop :=
  ∀ (κ : Rs α → VS → Bool) (Q : β → Hp → Prop), m κ = true → OkK γ Rv ρ H κ Q → ExK γ W τ ρ H κ → t Q
section
variable {γ : Nat → Addr} {W : WX} {τ : St}
theorem OkK.step {α β : Type} {Rv : List Addr → α → β → Prop} {ρ ρ1 : List Addr} {H H1 : Hp} {κ : Rs α → VS → Bool} {Q : β → Hp → Prop} (h : OkK γ Rv ρ H κ Q) (s : Step ρ H ρ1 H1) : OkK γ Rv ρ1 H1 κ Q := fun ρ' st' H' u v s' => h ρ' st' H' u v (s.trans s')
theorem ExK.step {α : Type} {ρ ρ1 : List Addr} {H H1 : Hp} {κ : Rs α → VS → Bool} (h : ExK γ W τ ρ H κ) (s : Step ρ H ρ1 H1) : ExK γ W τ ρ1 H1 κ := fun ρ' st' H' x c d s' => h ρ' st' H' x c d (s.trans s')
theorem OkK.here {α β : Type} {Rv : List Addr → α → β → Prop} {ρ : List Addr} {H : Hp} {κ : Rs α → VS → Bool} {Q : β → Hp → Prop} (h : OkK γ Rv ρ H κ Q) {st : VS} {u : α} {v : β} (R : Rep γ ρ st H) (r : Rv ρ u v) (k : κ (.ok u) st = true) : Q v H := h ρ st H u v (Step.refl _ _) R r k
theorem SimAt.ret {α β : Type} {Rv : List Addr → α → β → Prop} {ρ : List Addr} {H : Hp} {st : VS} {u : α} {v : β} (R : Rep γ ρ st H) (r : Rv ρ u v) : SimAt γ W τ Rv ρ H (fun Q => Q v H) (ret u st) := fun κ Q hm ok _ => ok.here R r hm
theorem SimAt.bad {α β : Type} {Rv : List Addr → α → β → Prop} {ρ : List Addr} {H : Hp} {t : (β → Hp → Prop) → Prop} : SimAt γ W τ Rv ρ H t (bad : Go α) := fun _ _ hm => nomatch hm
/-- a new object -/
theorem OkK.alloc {ρ : List Addr} {H : Hp} {st : VS} {o : VO} {u : HO} {κ : Rs U → VS → Bool} {Q : VK} (ok : OkK γ (RU γ) ρ H κ Q) (R : Rep γ ρ st H) (hm : κ (.ok (.ref st.n)) (st.new o) = true) (ho : ∀ p, RO γ (ρ ++ [p]) (upd H p u) p o) : ∀ p, H p = none → Q (.ref p) (upd H p u) := fun p hp => by
  obtain ⟨R', S⟩ := R.new hp (new_upd hp) (ho p)
  have r : RU γ (ρ ++ [p]) (.ref st.n) (.ref p) := ⟨p, by rw [← R.len, List.getElem?_append_right (Nat.le_refl _), Nat.sub_self]; rfl, rfl⟩
  exact ok _ _ _ _ _ S R' r hm
end

section
variable (γ : Nat → Addr) (W : WX) (X : Cx)
def SE (e : Expr) (m : ME) : Prop := ∃ t, PE X e t ∧ ∀ ρ st H σ τ, Rep γ ρ st H → FrR γ ρ σ τ → SimAt γ W τ (RU γ) ρ H (t τ H) (m σ st)
def ST (e : Expr) (m : MT) : Prop := ∃ t, PT X e t ∧ ∀ ρ st H σ τ, Rep γ ρ st H → FrR γ ρ σ τ → SimAt γ W τ (fun _ a b => a = b) ρ H (t τ H) (m σ st)
def SW (e : Expr) (m : MT) : Prop := ∃ t, PW X e t ∧ ∀ ρ st H σ τ, Rep γ ρ st H → FrR γ ρ σ τ → SimAt γ W τ (fun _ a b => a = b) ρ H (t τ H) (m σ st)
def SA (es : List Expr) (m : MA) : Prop := ∃ t, PA X es t ∧ ∀ ρ st H σ τ, Rep γ ρ st H → FrR γ ρ σ τ → SimAt γ W τ (RL γ) ρ H (t τ H) (m σ st)
/-- what is wanted behind a statement -/
structure EndsOk (ρ : List Addr) (H : Hp) (κ : Out → Fr → VS → Bool) (D : Ends) : Prop where
  nx : ∀ ρ' st' H' σ' τ', Step ρ H ρ' H' → Rep γ ρ' st' H' → FrR γ ρ' σ' τ' → κ .nx σ' st' = true → D.nx τ' H'
  bk : ∀ ρ' st' H' σ' τ', Step ρ H ρ' H' → Rep γ ρ' st' H' → FrR γ ρ' σ' τ' → κ .bk σ' st' = true → D.bk τ' H'
  ct : ∀ ρ' st' H' σ' τ', Step ρ H ρ' H' → Rep γ ρ' st' H' → FrR γ ρ' σ' τ' → κ .ct σ' st' = true → D.ct τ' H'
  rt : ∀ ρ' st' H' σ' u v, Step ρ H ρ' H' → Rep γ ρ' st' H' → RU γ ρ' u v → κ (.rt u) σ' st' = true → D.rt v H'
  ex : ∀ ρ' st' H' σ' τ' x cls d, Step ρ H ρ' H' → Rep γ ρ' st' H' → FrR γ ρ' σ' τ' → RX γ ρ' x cls d H' → κ (.ex x) σ' st' = true → W cls d τ' H'
def SimS (ρ : List Addr) (H : Hp) (t : Ends → Prop) (m : GoS) : Prop := ∀ (κ : Out → Fr → VS → Bool) (D : Ends), m κ = true → EndsOk γ W ρ H κ D → t D
def SS (s : Stmt) (m : MS) : Prop := ∃ t, PS X s t ∧ ∀ ρ st H σ τ, Rep γ ρ st H → FrR γ ρ σ τ → SimS γ W ρ H (fun D => t D τ H) (m σ st)
def SSs (s : List Stmt) (m : MS) : Prop := ∃ t, PSs X s t ∧ ∀ ρ st H σ τ, Rep γ ρ st H → FrR γ ρ σ τ → SimS γ W ρ H (fun D => t D τ H) (m σ st)
end
theorem EndsOk.step {γ : Nat → Addr} {W : WX} {ρ ρ' : List Addr} {H H' : Hp} {κ : Out → Fr → VS → Bool} {D : Ends} (s : Step ρ H ρ' H') (h : EndsOk γ W ρ H κ D) : EndsOk γ W ρ' H' κ D :=
  ⟨fun _ _ _ _ _ a => h.nx _ _ _ _ _ (s.trans a), fun _ _ _ _ _ a => h.bk _ _ _ _ _ (s.trans a), fun _ _ _ _ _ a => h.ct _ _ _ _ _ (s.trans a), fun _ _ _ _ _ _ a => h.rt _ _ _ _ _ _ (s.trans a), fun _ _ _ _ _ _ _ _ a => h.ex _ _ _ _ _ _ _ _ (s.trans a)⟩
end MV

namespace MV
open PySem L2

/-! ### texts and keys compared -/
def nEq : List Nat → List Nat → Bool
  | [], [] => true
  | a :: r, b :: s => match Nat.beq a b with
    | true => nEq r s
    | false => false
  | _, _ => false
theorem nEq_iff : ∀ a b : List Nat, nEq a b = true ↔ a = b
  | [], [] => by simp [nEq]
  | [], _ :: _ => by simp [nEq]
  | _ :: _, [] => by simp [nEq]
  | a :: r, b :: s => by
    show (match Nat.beq a b with | true => nEq r s | false => false) = true ↔ _
    cases q : Nat.beq a b with
    | true =>
      have := Nat.eq_of_beq_eq_true q
      subst this
      simp [nEq_iff r s]
    | false =>
      have : a ≠ b := fun e => by subst e; rw [Nat.beq_refl] at q; cases q
      simp [this]
def sEq (a b : Str) : Bool := nEq a.cps.toList b.cps.toList
theorem sEq_iff {a b : Str} : sEq a b = true ↔ a = b := by
  unfold sEq
  rw [nEq_iff]
  constructor
  · intro h
    cases a with
    | mk a => cases b with
      | mk b => exact congrArg Str.mk (Array.toList_inj.mp h)
  · intro h; rw [h]
theorem sEq_self (a : Str) : sEq a a = true := sEq_iff.mpr rfl
def iEq : Int → Int → Bool
  | .ofNat a, .ofNat b => Nat.beq a b
  | .negSucc a, .negSucc b => Nat.beq a b
  | _, _ => false
theorem iEq_iff : ∀ {a b : Int}, iEq a b = true ↔ a = b
  | .ofNat a, .ofNat b => ⟨fun h => congrArg _ (Nat.eq_of_beq_eq_true h), fun h => by cases h; exact Nat.beq_refl a⟩
  | .negSucc a, .negSucc b => ⟨fun h => congrArg _ (Nat.eq_of_beq_eq_true h), fun h => by cases h; exact Nat.beq_refl a⟩
  | .ofNat _, .negSucc _ => ⟨(fun h => nomatch h), (fun h => nomatch h)⟩
  | .negSucc _, .ofNat _ => ⟨(fun h => nomatch h), (fun h => nomatch h)⟩
def kEq : Key → Key → Bool
  | .inl a, .inl b => iEq a b
  | .inr a, .inr b => sEq a b
  | _, _ => false
theorem kEq_iff : ∀ {a b : Key}, kEq a b = true ↔ a = b
  | .inl a, .inl b => ⟨fun h => congrArg _ (iEq_iff.mp h), fun h => iEq_iff.mpr (Sum.inl.inj h)⟩
  | .inr a, .inr b => ⟨fun h => congrArg _ (sEq_iff.mp h), fun h => sEq_iff.mpr (Sum.inr.inj h)⟩
  | .inl _, .inr _ => ⟨(fun h => nomatch h), (fun h => nomatch h)⟩
  | .inr _, .inl _ => ⟨(fun h => nomatch h), (fun h => nomatch h)⟩

/-! ### attributes and dicts as lists of pairs -/
def fGet (f : Str) : List (Str × U) → Option U
  | [] => none
  | (g, u) :: r => match sEq f g with
    | true => some u
    | false => fGet f r
def fPut (f : Str) (u : U) : List (Str × U) → List (Str × U)
  | [] => [(f, u)]
  | (g, x) :: r => match sEq g f with
    | true => (g, u) :: r
    | false => (g, x) :: fPut f u r
def kGet (k : Key) : List (Key × U) → Option U
  | [] => none
  | (g, u) :: r => match kEq g k with
    | true => some u
    | false => kGet k r
def kHas (k : Key) : List (Key × U) → Bool
  | [] => false
  | (g, _) :: r => match kEq g k with
    | true => true
    | false => kHas k r
def kRep (k : Key) (u : U) : List (Key × U) → List (Key × U)
  | [] => []
  | (g, x) :: r => match kEq g k with
    | true => (g, u) :: kRep k u r
    | false => (g, x) :: kRep k u r
def kPut (k : Key) (u : U) (l : List (Key × U)) : List (Key × U) := match kHas k l with
  | true => kRep k u l
  | false => l ++ [(k, u)]
section
variable {γ : Nat → Addr} {ρ : List Addr}
theorem RF.get {f : Str} : ∀ {fs : List (Str × U)} {ws : List (Str × V)}, RF γ ρ fs ws → (fGet f fs = none ∧ ws.lookup f = none) ∨ ∃ u v, fGet f fs = some u ∧ ws.lookup f = some v ∧ RU γ ρ u v
  | _, _, .nil => .inl ⟨rfl, rfl⟩
  | (g, u) :: r, (g', v) :: s, .cons ⟨e, h⟩ t => by
    have e : g = g' := e
    subst e
    show ((match sEq f g with | true => some u | false => fGet f r) = none ∧ _) ∨ ∃ u' v', (match sEq f g with | true => some u | false => fGet f r) = some u' ∧ _
    cases q : sEq f g with
    | true =>
      have := sEq_iff.mp q
      subst this
      exact .inr ⟨u, v, rfl, by simp [List.lookup], h⟩
    | false =>
      have n : f ≠ g := fun z => by rw [z, sEq_self] at q; cases q
      have nb : (f == g) = false := beq_eq_false_iff_ne.mpr n
      have el : List.lookup f ((g, v) :: s) = List.lookup f s := by simp only [List.lookup, nb]
      rw [el]
      exact RF.get t
theorem RF.put {f : Str} {u : U} {v : V} (h : RU γ ρ u v) : ∀ {fs : List (Str × U)} {ws : List (Str × V)}, RF γ ρ fs ws → RF γ ρ (fPut f u fs) (putF f v ws)
  | _, _, .nil => .cons ⟨rfl, h⟩ .nil
  | (g, x) :: r, (g', y) :: s, .cons ⟨e, hx⟩ t => by
    have e : g = g' := e
    subst e
    show RF γ ρ (match sEq g f with | true => (g, u) :: r | false => (g, x) :: fPut f u r) (if g = f then (g, v) :: s else (g, y) :: putF f v s)
    cases q : sEq g f with
    | true =>
      rw [if_pos (sEq_iff.mp q)]
      exact .cons ⟨rfl, h⟩ t
    | false =>
      rw [if_neg (fun z => by rw [z, sEq_self] at q; cases q)]
      exact .cons ⟨rfl, hx⟩ (RF.put h t)
theorem RK.get {k : Key} : ∀ {fs : List (Key × U)} {ws : List (Key × V)}, RK γ ρ fs ws → (kGet k fs = none ∧ valV ws k = none) ∨ ∃ u v, kGet k fs = some u ∧ valV ws k = some v ∧ RU γ ρ u v
  | _, _, .nil => .inl ⟨rfl, rfl⟩
  | (g, u) :: r, (g', v) :: s, .cons ⟨e, h⟩ t => by
    have e : g = g' := e
    subst e
    show ((match kEq g k with | true => some u | false => kGet k r) = none ∧ _) ∨ ∃ u' v', (match kEq g k with | true => some u | false => kGet k r) = some u' ∧ _
    cases q : kEq g k with
    | true =>
      refine .inr ⟨u, v, rfl, ?_, h⟩
      exact valV_pos (p := (g, v)) (kEq_iff.mp q)
    | false =>
      have n : ¬ g = k := fun z => by rw [z, kEq_iff.mpr rfl] at q; cases q
      rw [valV_neg (p := (g, v)) n]
      exact RK.get t
theorem RK.has {k : Key} : ∀ {fs : List (Key × U)} {ws : List (Key × V)}, RK γ ρ fs ws → kHas k fs = ws.any fun kv => decide (kv.1 = k)
  | _, _, .nil => rfl
  | (g, u) :: r, (g', v) :: s, .cons ⟨e, h⟩ t => by
    have e : g = g' := e
    subst e
    rw [List.any_cons]
    show (match kEq g k with | true => true | false => kHas k r) = (decide (g = k) || _)
    cases q : kEq g k with
    | true => rw [decide_eq_true (kEq_iff.mp q)]; rfl
    | false => rw [decide_eq_false (fun z => by rw [kEq_iff.mpr z] at q; cases q), RK.has t]; rfl
theorem RK.rep {k : Key} {u : U} {v : V} (h : RU γ ρ u v) : ∀ {fs : List (Key × U)} {ws : List (Key × V)}, RK γ ρ fs ws → RK γ ρ (kRep k u fs) (ws.map fun kv => if kv.1 = k then (kv.1, v) else kv)
  | _, _, .nil => .nil
  | (g, x) :: r, (g', y) :: s, .cons ⟨e, hx⟩ t => by
    have e : g = g' := e
    subst e
    rw [List.map_cons]
    show RK γ ρ (match kEq g k with | true => (g, u) :: kRep k u r | false => (g, x) :: kRep k u r) ((if g = k then (g, v) else (g, y)) :: _)
    cases q : kEq g k with
    | true => rw [if_pos (kEq_iff.mp q)]; exact .cons ⟨rfl, h⟩ (RK.rep h t)
    | false => rw [if_neg (fun z => by rw [kEq_iff.mpr z] at q; cases q)]; exact .cons ⟨rfl, hx⟩ (RK.rep h t)
theorem RK.put {k : Key} {u : U} {v : V} (h : RU γ ρ u v) {fs : List (Key × U)} {ws : List (Key × V)} (r : RK γ ρ fs ws) : RK γ ρ (kPut k u fs) (putK ws k v) := by
  unfold kPut putK
  rw [RK.has r]
  cases (ws.any fun kv => decide (kv.1 = k)) with
  | true => rw [if_pos rfl]; exact RK.rep h r
  | false => rw [if_neg Bool.false_ne_true]; exact Paired.snoc r ⟨rfl, h⟩
end

/-! ### what stands at the top: tuples and lists of the text's own, classes -/
structure GT where
  seq : Nat → Option (Bool × List U)
  fld : Nat → Str → Bool
structure GOk (K : PySem.W.Frag) (γ : Nat → Addr) (g : GT) : Prop where
  seq : ∀ k b xs, g.seq k = some (b, xs) → ∃ ys, RL γ [] xs ys ∧ ∀ H, (bif b then SqT K H (γ k) ys else SqL K H (γ k) ys)
  fld : ∀ c f, g.fld c f = true → Cls K (γ c) ∧ NoAttr K (γ c) f
/-- a list (false) or a tuple (true) -/
def seqOf (g : GT) (st : VS) : U → Option (Bool × List U)
  | .ref i => match st.get i with
    | some (.lst xs) => some (false, xs)
    | some (.fl xs) => some (false, xs)
    | some (.tup xs) => some (true, xs)
    | _ => none
  | .glo k => g.seq k
  | _ => none
section
variable {K : PySem.W.Frag} {γ : Nat → Addr} {g : GT} {ρ : List Addr} {st : VS} {H : Hp}
theorem RL.any {us : List U} {vs : List V} (h : RL γ [] us vs) : RL γ ρ us vs := by
  have := RL.mono (l := ρ) h
  rwa [List.nil_append] at this
theorem seq_ok (G : GOk K γ g) (R : Rep γ ρ st H) {u : U} {v : V} (r : RU γ ρ u v) {b : Bool} {xs : List U} (e : seqOf g st u = some (b, xs)) : ∃ a ys, v = .ref a ∧ RL γ ρ xs ys ∧ (bif b then SqT K H a ys else SqL K H a ys) := by
  cases u with
  | ref i =>
    unfold seqOf at e
    simp only at e
    cases q : st.get i with
    | none => rw [q] at e; cases e
    | some o =>
      rw [q] at e
      cases o with
      | lst zs =>
        cases e
        obtain ⟨a, ev, _, ys, h, rl⟩ := R.get q r
        exact ⟨a, ys, ev, rl, Or.inl (Or.inl h)⟩
      | tup zs =>
        cases e
        obtain ⟨a, ev, _, ys, h, rl⟩ := R.get q r
        exact ⟨a, ys, ev, rl, Or.inl (Or.inl h)⟩
      | fl zs =>
        cases e
        obtain ⟨a, ev, _, ys, h, rl⟩ := R.get q r
        exact ⟨a, ys, ev, rl, Or.inl (Or.inr h)⟩
      | dct lk kvs => cases e
      | ins c fs => cases e
  | glo k =>
    obtain ⟨ys, rl, h⟩ := G.seq k b xs e
    exact ⟨γ k, ys, r, rl.any, h H⟩
  | non => cases e
  | bl _ => cases e
  | int _ => cases e
  | str _ => cases e
  | ty _ => cases e
end
end MV

namespace MV
open PySem L2

/-! ### either of two -/
theorem pe_or {X : Cx} {e : Expr} {t t' : TE} (h : PE X e t) (h' : PE X e t') : PE X e (fun σ H Q => t σ H Q ∨ t' σ H Q) := ⟨fun pins s σ H Q I q => q.elim (fun z => h.run pins s σ H Q I z) fun z => h'.run pins s σ H Q I z⟩
theorem pt_or2 {X : Cx} {e : Expr} {t t' : TT} (h : PT X e t) (h' : PT X e t') : PT X e (fun σ H Q => t σ H Q ∨ t' σ H Q) := ⟨fun pins s σ H Q I q => q.elim (fun z => h.run pins s σ H Q I z) fun z => h'.run pins s σ H Q I z⟩
theorem ps_or {X : Cx} {e : Stmt} {t t' : TS} (h : PS X e t) (h' : PS X e t') : PS X e (fun D σ H => t D σ H ∨ t' D σ H) := ⟨fun pins s σ H D I q => q.elim (fun z => h.run pins s σ H D I z) fun z => h'.run pins s σ H D I z⟩
/-- the first that comes to an end -/
def mOr {α : Type} (m m' : Fr → VS → Go α) : Fr → VS → Go α := fun σ st κ => match m σ st (fun _ _ => true) with
  | true => m σ st κ
  | false => m' σ st κ
def mOrS (m m' : MS) : MS := fun σ st κ => match m σ st (fun _ _ _ => true) with
  | true => m σ st κ
  | false => m' σ st κ
section
variable {γ : Nat → Addr} {W : WX} {X : Cx} {g : GT}
theorem SimAt.or {α β : Type} {τ : St} {Rv : List Addr → α → β → Prop} {ρ : List Addr} {H : Hp} {t t' : (β → Hp → Prop) → Prop} {m m' : Go α} (h : SimAt γ W τ Rv ρ H t m) (h' : SimAt γ W τ Rv ρ H t' m') :
    SimAt γ W τ Rv ρ H (fun Q => t Q ∨ t' Q) (fun κ => match m (fun _ _ => true) with | true => m κ | false => m' κ) := fun κ Q hm ok ex => by
  have hm2 : (match m (fun _ _ => true) with | true => m κ | false => m' κ) = true := hm
  cases q : m (fun _ _ => true) with
  | true => rw [q] at hm2; exact .inl (h κ Q hm2 ok ex)
  | false => rw [q] at hm2; exact .inr (h' κ Q hm2 ok ex)
theorem se_or {e : Expr} {m m' : ME} (h : SE γ W X e m) (h' : SE γ W X e m') : SE γ W X e (mOr m m') := by
  obtain ⟨t, p, s⟩ := h
  obtain ⟨t', p', s'⟩ := h'
  exact ⟨_, pe_or p p', fun ρ st H σ τ R F => SimAt.or (s ρ st H σ τ R F) (s' ρ st H σ τ R F)⟩
theorem st_or {e : Expr} {m m' : MT} (h : ST γ W X e m) (h' : ST γ W X e m') : ST γ W X e (mOr m m') := by
  obtain ⟨t, p, s⟩ := h
  obtain ⟨t', p', s'⟩ := h'
  exact ⟨_, pt_or2 p p', fun ρ st H σ τ R F => SimAt.or (s ρ st H σ τ R F) (s' ρ st H σ τ R F)⟩
theorem ss_or {e : Stmt} {m m' : MS} (h : SS γ W X e m) (h' : SS γ W X e m') : SS γ W X e (mOrS m m') := by
  obtain ⟨t, p, s⟩ := h
  obtain ⟨t', p', s'⟩ := h'
  refine ⟨_, ps_or p p', fun ρ st H σ τ R F κ D hm ok => ?_⟩
  have hm2 : (match m σ st (fun _ _ _ => true) with | true => m σ st κ | false => m' σ st κ) = true := hm
  cases q : m σ st (fun _ _ _ => true) with
  | true => rw [q] at hm2; exact .inl (s ρ st H σ τ R F κ D hm2 ok)
  | false => rw [q] at hm2; exact .inr (s' ρ st H σ τ R F κ D hm2 ok)
/-- what is never run -/
theorem se_dead {e : Expr} : SE γ W X e (fun _ _ => bad) := ⟨fun _ _ _ => False, ⟨fun _ _ _ _ _ _ h => h.elim⟩, fun _ _ _ _ _ _ _ => SimAt.bad⟩
theorem ss_dead {s : Stmt} : SS γ W X s (fun _ _ _ => false) := ⟨fun _ _ _ => False, ⟨fun _ _ _ _ _ _ h => h.elim⟩, fun _ _ _ _ _ _ _ _ _ h => nomatch h⟩

/-! ### names, constants -/
def mVar (i : Nat) : ME := fun σ st κ => match σ[i]? with
  | some (some u) => κ (.ok u) st
  | _ => false
def mC (u : U) : ME := fun _ st κ => κ (.ok u) st
theorem se_var (i : Nat) {x : Str} {pos : Pos} (hN : X.N[i]? = some x := by rfl) (hv : Vis X.env.scope x := by first | exact Or.inl rfl | exact Or.inr (Or.inl rfl) | exact Or.inr (Or.inr rfl)) (hd : (x == ("__debug__" : Str)) = false := by decide)
    (hcd : (x == ("__classdict__" : Str)) = false := by decide) : SE γ W X (.Name x pos) (mVar i) :=
  ⟨tVar i, pe_var hN hv hd hcd, fun ρ st H σ τ R F κ Q hm ok _ => by
    have hm2 : (match σ[i]? with | some (some u) => κ (.ok u) st | _ => false) = true := hm
    cases q : σ[i]? with
    | none => rw [q] at hm2; cases hm2
    | some o =>
      cases o with
      | none => rw [q] at hm2; cases hm2
      | some u =>
        rw [q] at hm2
        obtain ⟨v, e, r⟩ := F.at_ i u q
        exact ⟨v, e, ok.here R r hm2⟩⟩
theorem SimAt.c {τ : St} {u : U} {v : V} {ρ : List Addr} {st : VS} {H : Hp} (R : Rep γ ρ st H) (r : RU γ ρ u v) : SimAt γ W τ (RU γ) ρ H (fun Q => tC v τ H Q) (fun κ => κ (.ok u) st) := SimAt.ret (u := u) R r
theorem se_int {i j pos} : SE γ W X (.Constant (.int i) j pos) (mC (.int i)) := ⟨_, pe_int, fun _ _ _ _ _ R _ => SimAt.c R rfl⟩
theorem se_bl {b j pos} : SE γ W X (.Constant (.bool b) j pos) (mC (.bl b)) := ⟨_, pe_bl, fun _ _ _ _ _ R _ => SimAt.c R rfl⟩
theorem se_non {j pos} : SE γ W X (.Constant .none j pos) (mC .non) := ⟨_, pe_non, fun _ _ _ _ _ R _ => SimAt.c R rfl⟩
theorem se_str {x j pos} : SE γ W X (.Constant (.str x) j pos) (mC (.str x)) := ⟨_, pe_str, fun _ _ _ _ _ R _ => SimAt.c R rfl⟩
/-- an object of the text's own by its name -/
theorem se_glo {x : Str} {k : Nat} {pos : Pos} (hm : X.mg x = some (.ref (γ k))) (hg : Gl X x := by rfl) (hd : (x == ("__debug__" : Str)) = false := by decide) : SE γ W X (.Name x pos) (mC (.glo k)) := ⟨_, pe_glob (v := .ref (γ k)) hg hm rfl hd, fun _ _ _ _ _ R _ => SimAt.c R rfl⟩
theorem se_gint {x : Str} {i : Int} {pos : Pos} (hm : ∃ t, X.mg x = some (.int i t)) (hg : Gl X x := by rfl) (hd : (x == ("__debug__" : Str)) = false := by decide) : SE γ W X (.Name x pos) (mC (.int i)) := by
  obtain ⟨t, hm⟩ := hm
  exact ⟨_, pe_glob (v := .int i) hg hm ⟨t, rfl⟩ hd, fun _ _ _ _ _ R _ => SimAt.c R rfl⟩
theorem se_gstr {x z : Str} {pos : Pos} (hm : ∃ t, X.mg x = some (.str z t)) (hg : Gl X x := by rfl) (hd : (x == ("__debug__" : Str)) = false := by decide) : SE γ W X (.Name x pos) (mC (.str z)) := by
  obtain ⟨t, hm⟩ := hm
  exact ⟨_, pe_glob (v := .str z) hg hm ⟨t, rfl⟩ hd, fun _ _ _ _ _ R _ => SimAt.c R rfl⟩
/-- a built-in class by its name -/
theorem se_ty {x : Str} {n : String} {pos : Pos} (hm : X.mg x = none) (hv : bootBuiltins x = some (.type n)) (hg : Gl X x := by rfl) (hn : x ≠ "__name__" := by decide) (hd : (x == ("__debug__" : Str)) = false := by decide) : SE γ W X (.Name x pos) (mC (.ty n)) :=
  ⟨_, pe_bltn (v := .ty n) hg hm hv rfl hn hd, fun _ _ _ _ _ R _ => SimAt.c R rfl⟩

/-! ### operators and comparisons by values -/
def Leaf2 (γ : Nat → Addr) (W : WX) (r : R2) (f : U → U → VS → Go U) : Prop := ∀ ρ st H τ u1 u2 v1 v2, Rep γ ρ st H → RU γ ρ u1 v1 → RU γ ρ u2 v2 → SimAt γ W τ (RU γ) ρ H (r v1 v2 H) (f u1 u2 st)
def Leaf1 (γ : Nat → Addr) (W : WX) (r : V → Hp → VK → Prop) (f : U → VS → Go U) : Prop := ∀ ρ st H τ u v, Rep γ ρ st H → RU γ ρ u v → SimAt γ W τ (RU γ) ρ H (r v H) (f u st)
def LeafL (γ : Nat → Addr) (W : WX) (r : List V → Hp → VK → Prop) (f : List U → VS → Go U) : Prop := ∀ ρ st H τ us vs, Rep γ ρ st H → RL γ ρ us vs → SimAt γ W τ (RU γ) ρ H (r vs H) (f us st)
def mBin (f : U → U → VS → Go U) (ma mb : ME) : ME := fun σ st => bnd (ma σ st) fun u1 st1 => bnd (mb σ st1) fun u2 st2 => f u1 u2 st2
theorem sim_bin {r : R2} {f : U → U → VS → Go U} {ta tb : TE} {ma mb : ME} (hf : Leaf2 γ W r f) (sa : ∀ ρ st H σ τ, Rep γ ρ st H → FrR γ ρ σ τ → SimAt γ W τ (RU γ) ρ H (ta τ H) (ma σ st)) (sb : ∀ ρ st H σ τ, Rep γ ρ st H → FrR γ ρ σ τ → SimAt γ W τ (RU γ) ρ H (tb τ H) (mb σ st))
    (ρ st H σ τ) (R : Rep γ ρ st H) (F : FrR γ ρ σ τ) : SimAt γ W τ (RU γ) ρ H (tOp r ta tb τ H) (mBin f ma mb σ st) := fun κ Q hm ok ex =>
  sa ρ st H σ τ R F _ _ hm (fun ρ1 st1 H1 u1 v1 s1 R1 r1 k1 => sb ρ1 st1 H1 σ τ R1 (F.step s1) _ _ k1 (fun ρ2 st2 H2 u2 v2 s2 R2 r2 k2 => hf ρ2 st2 H2 τ u1 u2 v1 v2 R2 (s2.ru r1) r2 _ _ k2 (ok.step (s1.trans s2)) (ex.step (s1.trans s2))) (ex.step s1)) ex
theorem se_bin {a b : Expr} {pos : Pos} {op : Operator} {r : R2} {f : U → U → VS → Go U} {ma mb : ME} (ho : OpR X (binaryOp op) r) (hf : Leaf2 γ W r f) (ha : SE γ W X a ma) (hb : SE γ W X b mb) : SE γ W X (.BinOp a op b pos) (mBin f ma mb) := by
  obtain ⟨ta, pa, sa⟩ := ha
  obtain ⟨tb, pb, sb⟩ := hb
  exact ⟨_, pe_op ho pa pb, sim_bin hf sa sb⟩
theorem se_cmp {a b : Expr} {pos : Pos} {op : CmpOp} {r : R2} {f : U → U → VS → Go U} {ma mb : ME} (ho : OpR X (compareOp op) r) (hf : Leaf2 γ W r f) (ha : SE γ W X a ma) (hb : SE γ W X b mb) (hm : behindInMarks op b = false := by first | exact nobehind _ (by decide) (by decide) | rfl) : SE γ W X (.Compare a [op] [b] pos) (mBin f ma mb) := by
  obtain ⟨ta, pa, sa⟩ := ha
  obtain ⟨tb, pb, sb⟩ := hb
  exact ⟨_, pe_cmpR ho pa pb hm, sim_bin hf sa sb⟩
/-- a value as a test: a bool -/
def mTest (m : ME) : MT := fun σ st => bnd (m σ st) fun u st1 κ => match u with
  | .bl b => κ (.ok b) st1
  | _ => false
theorem sim_test {t : TE} {m : ME} (s : ∀ ρ st H σ τ, Rep γ ρ st H → FrR γ ρ σ τ → SimAt γ W τ (RU γ) ρ H (t τ H) (m σ st)) (ρ st H σ τ) (R : Rep γ ρ st H) (F : FrR γ ρ σ τ) : SimAt γ W τ (fun _ a b => a = b) ρ H (tTest t τ H) (mTest m σ st) := fun κ Q hm ok ex =>
  s ρ st H σ τ R F _ _ hm (fun ρ1 st1 H1 u v s1 R1 r1 hm => by
    cases u with
    | bl b => exact ⟨b, r1, ok ρ1 st1 H1 b b s1 R1 rfl hm⟩
    | non => cases hm
    | int _ => cases hm
    | str _ => cases hm
    | ref _ => cases hm
    | glo _ => cases hm
    | ty _ => cases hm) ex
/-- a test by a value that is a bool -/
theorem st_val {e : Expr} {m : ME} (h : SE γ W X e m) (he : ∀ whole, isTrue e X.env whole = (do let v ← whole; standAt e.pos; holding [v] (truthy v)) := by intro _; rfl) : ST γ W X e (mTest m) := by
  obtain ⟨t, p, s⟩ := h
  exact ⟨_, pt_val p he, sim_test s⟩
theorem st_cmp {a b : Expr} {pos : Pos} {op : CmpOp} {r : R2} {f : U → U → VS → Go U} {ma mb : ME} (ho : OpR X (compareOp op) r) (hf : Leaf2 γ W r f) (ha : SE γ W X a ma) (hb : SE γ W X b mb) (hm : behindInMarks op b = false := by first | exact nobehind _ (by decide) (by decide) | rfl) : ST γ W X (.Compare a [op] [b] pos) (mTest (mBin f ma mb)) := by
  obtain ⟨ta, pa, sa⟩ := ha
  obtain ⟨tb, pb, sb⟩ := hb
  exact ⟨_, pt_cmpR ho pa pb hm, sim_test (sim_bin hf sa sb)⟩
/-- a op b op' c -/
def mChain (f f' : U → U → VS → Go U) (ma mb mc : ME) : ME := fun σ st => bnd (ma σ st) fun u1 st1 => bnd (mb σ st1) fun u2 st2 => bnd (f u1 u2 st2) fun k st3 κ => match k with
  | .bl true => bnd (mc σ st3) (fun u3 st4 => f' u2 u3 st4) κ
  | .bl false => κ (.ok (.bl false)) st3
  | _ => false
theorem sim_chain {r r' : R2} {f f' : U → U → VS → Go U} {ta tb tc : TE} {ma mb mc : ME} (hf : Leaf2 γ W r f) (hf' : Leaf2 γ W r' f') (sa : ∀ ρ st H σ τ, Rep γ ρ st H → FrR γ ρ σ τ → SimAt γ W τ (RU γ) ρ H (ta τ H) (ma σ st))
    (sb : ∀ ρ st H σ τ, Rep γ ρ st H → FrR γ ρ σ τ → SimAt γ W τ (RU γ) ρ H (tb τ H) (mb σ st)) (sc : ∀ ρ st H σ τ, Rep γ ρ st H → FrR γ ρ σ τ → SimAt γ W τ (RU γ) ρ H (tc τ H) (mc σ st))
    (ρ st H σ τ) (R : Rep γ ρ st H) (F : FrR γ ρ σ τ) : SimAt γ W τ (RU γ) ρ H (tChain r r' ta tb tc τ H) (mChain f f' ma mb mc σ st) := fun κ Q hm ok ex =>
  sa ρ st H σ τ R F _ _ hm (fun ρ1 st1 H1 u1 v1 s1 R1 r1 k1 => sb ρ1 st1 H1 σ τ R1 (F.step s1) _ _ k1 (fun ρ2 st2 H2 u2 v2 s2 R2 r2 k2 => hf ρ2 st2 H2 τ u1 u2 v1 v2 R2 (s2.ru r1) r2 _ _ k2 (fun ρ3 st3 H3 u3 v3 s3 R3 r3 hm => by
    have S := s1.trans (s2.trans s3)
    cases u3 with
    | bl b =>
      refine ⟨b, r3, ?_⟩
      cases b with
      | true =>
        rw [if_pos rfl]
        exact sc ρ3 st3 H3 σ τ R3 (F.step S) _ _ hm (fun ρ4 st4 H4 u4 v4 s4 R4 r4 k4 => hf' ρ4 st4 H4 τ u2 u4 v2 v4 R4 (s4.ru (s3.ru r2)) r4 _ _ k4 (ok.step (S.trans s4)) (ex.step (S.trans s4))) (ex.step S)
      | false =>
        rw [if_neg Bool.false_ne_true]
        exact ok ρ3 st3 H3 (.bl false) _ S R3 rfl hm
    | non => cases hm
    | int _ => cases hm
    | str _ => cases hm
    | ref _ => cases hm
    | glo _ => cases hm
    | ty _ => cases hm) (ex.step (s1.trans s2))) (ex.step s1)) ex
theorem se_chain {a b c : Expr} {pos : Pos} {op op' : CmpOp} {r r' : R2} {f f' : U → U → VS → Go U} {ma mb mc : ME} (ho : OpR X (compareOp op) r) (ho' : OpR X (compareOp op') r') (hf : Leaf2 γ W r f) (hf' : Leaf2 γ W r' f') (ha : SE γ W X a ma) (hb : SE γ W X b mb) (hc : SE γ W X c mc) (hm : lastMarks [op, op'] [b, c] = false := by rfl) :
    SE γ W X (.Compare a [op, op'] [b, c] pos) (mChain f f' ma mb mc) := by
  obtain ⟨ta, pa, sa⟩ := ha
  obtain ⟨tb, pb, sb⟩ := hb
  obtain ⟨tc, pc, sc⟩ := hc
  exact ⟨_, pe_chain ho ho' pa pb pc hm, sim_chain hf hf' sa sb sc⟩
theorem st_chain {a b c : Expr} {pos : Pos} {op op' : CmpOp} {r r' : R2} {f f' : U → U → VS → Go U} {ma mb mc : ME} (ho : OpR X (compareOp op) r) (ho' : OpR X (compareOp op') r') (hf : Leaf2 γ W r f) (hf' : Leaf2 γ W r' f') (ha : SE γ W X a ma) (hb : SE γ W X b mb) (hc : SE γ W X c mc) (hm : lastMarks [op, op'] [b, c] = false := by rfl) :
    ST γ W X (.Compare a [op, op'] [b, c] pos) (mTest (mChain f f' ma mb mc)) := by
  obtain ⟨ta, pa, sa⟩ := ha
  obtain ⟨tb, pb, sb⟩ := hb
  obtain ⟨tc, pc, sc⟩ := hc
  exact ⟨_, pt_chain ho ho' pa pb pc hm, sim_test (sim_chain hf hf' sa sb sc)⟩

/-! ### and, or, not, if: tests -/
def mAnd (m n : MT) : MT := fun σ st => bnd (m σ st) fun b st1 => match b with
  | true => n σ st1
  | false => ret false st1
def mOrT (m n : MT) : MT := fun σ st => bnd (m σ st) fun b st1 => match b with
  | true => ret true st1
  | false => n σ st1
def mNot (m : MT) : MT := fun σ st => bnd (m σ st) fun b st1 => ret (!b) st1
theorem sim_and {t u : TT} {m n : MT} (sa : ∀ ρ st H σ τ, Rep γ ρ st H → FrR γ ρ σ τ → SimAt γ W τ (fun _ a b => a = b) ρ H (t τ H) (m σ st)) (sb : ∀ ρ st H σ τ, Rep γ ρ st H → FrR γ ρ σ τ → SimAt γ W τ (fun _ a b => a = b) ρ H (u τ H) (n σ st))
    (ρ st H σ τ) (R : Rep γ ρ st H) (F : FrR γ ρ σ τ) : SimAt γ W τ (fun _ a b => a = b) ρ H (tAnd t u τ H) (mAnd m n σ st) := fun κ Q hm ok ex =>
  sa ρ st H σ τ R F _ _ hm (fun ρ1 st1 H1 u1 v1 s1 R1 r1 hm => by
    have r1 : u1 = v1 := r1
    subst r1
    cases u1 with
    | true => show u τ H1 Q; exact sb ρ1 st1 H1 σ τ R1 (F.step s1) κ Q hm (ok.step s1) (ex.step s1)
    | false => show Q false H1; exact ok ρ1 st1 H1 _ _ s1 R1 rfl hm) ex
theorem sim_orT {t u : TT} {m n : MT} (sa : ∀ ρ st H σ τ, Rep γ ρ st H → FrR γ ρ σ τ → SimAt γ W τ (fun _ a b => a = b) ρ H (t τ H) (m σ st)) (sb : ∀ ρ st H σ τ, Rep γ ρ st H → FrR γ ρ σ τ → SimAt γ W τ (fun _ a b => a = b) ρ H (u τ H) (n σ st))
    (ρ st H σ τ) (R : Rep γ ρ st H) (F : FrR γ ρ σ τ) : SimAt γ W τ (fun _ a b => a = b) ρ H (tOr t u τ H) (mOrT m n σ st) := fun κ Q hm ok ex =>
  sa ρ st H σ τ R F _ _ hm (fun ρ1 st1 H1 u1 v1 s1 R1 r1 hm => by
    have r1 : u1 = v1 := r1
    subst r1
    cases u1 with
    | false => show u τ H1 Q; exact sb ρ1 st1 H1 σ τ R1 (F.step s1) κ Q hm (ok.step s1) (ex.step s1)
    | true => show Q true H1; exact ok ρ1 st1 H1 _ _ s1 R1 rfl hm) ex
theorem sw_and1 {a : Expr} {pos : Pos} {m : MT} (h : ST γ W X a m) : SW γ W X (.BoolOp .And [a] pos) m := by
  obtain ⟨t, p, s⟩ := h; exact ⟨_, pw_and1 p, s⟩
theorem sw_or1 {a : Expr} {pos : Pos} {m : MT} (h : ST γ W X a m) : SW γ W X (.BoolOp .Or [a] pos) m := by
  obtain ⟨t, p, s⟩ := h; exact ⟨_, pw_or1 p, s⟩
theorem sw_and {a b : Expr} {rest : List Expr} {pos : Pos} {m n : MT} (h : ST γ W X a m) (h' : SW γ W X (.BoolOp .And (b :: rest) pos) n) : SW γ W X (.BoolOp .And (a :: b :: rest) pos) (mAnd m n) := by
  obtain ⟨t, p, s⟩ := h
  obtain ⟨t', p', s'⟩ := h'
  exact ⟨_, pw_and p p', sim_and s s'⟩
theorem sw_or {a b : Expr} {rest : List Expr} {pos : Pos} {m n : MT} (h : ST γ W X a m) (h' : SW γ W X (.BoolOp .Or (b :: rest) pos) n) : SW γ W X (.BoolOp .Or (a :: b :: rest) pos) (mOrT m n) := by
  obtain ⟨t, p, s⟩ := h
  obtain ⟨t', p', s'⟩ := h'
  exact ⟨_, pw_or p p', sim_orT s s'⟩
theorem SW.st {e : Expr} {m : MT} (h : SW γ W X e m) : ST γ W X e m := by
  obtain ⟨t, p, s⟩ := h; exact ⟨_, p.pt, s⟩
theorem st_not {a : Expr} {pos : Pos} {m : MT} (h : ST γ W X a m) : ST γ W X (.UnaryOp .Not a pos) (mNot m) := by
  obtain ⟨t, p, s⟩ := h
  refine ⟨_, pt_not p, fun ρ st H σ τ R F κ Q hm ok ex => s ρ st H σ τ R F _ _ hm (fun ρ1 st1 H1 u1 v1 s1 R1 r1 hm => ?_) ex⟩
  have r1 : u1 = v1 := r1
  subst r1
  exact ok ρ1 st1 H1 _ _ s1 R1 rfl hm
/-! ### as values -/
def mAndV (m n : ME) : ME := fun σ st => bnd (m σ st) fun u st1 κ => match u with
  | .bl true => n σ st1 κ
  | .bl false => κ (.ok (.bl false)) st1
  | _ => false
def mOrV (m n : ME) : ME := fun σ st => bnd (m σ st) fun u st1 κ => match u with
  | .bl false => n σ st1 κ
  | .bl true => κ (.ok (.bl true)) st1
  | _ => false
def mNotV (m : ME) : ME := fun σ st => bnd (m σ st) fun u st1 κ => match u with
  | .bl b => κ (.ok (.bl (!b))) st1
  | _ => false
theorem se_one {a : Expr} {op pos} {m : ME} (h : SE γ W X a m) : SE γ W X (.BoolOp op [a] pos) m := by
  obtain ⟨t, p, s⟩ := h; exact ⟨_, pe_one p, s⟩
theorem se_and {a b : Expr} {rest : List Expr} {pos : Pos} {m n : ME} (h : SE γ W X a m) (h' : SE γ W X (.BoolOp .And (b :: rest) pos) n) : SE γ W X (.BoolOp .And (a :: b :: rest) pos) (mAndV m n) := by
  obtain ⟨t, p, s⟩ := h
  obtain ⟨t', p', s'⟩ := h'
  refine ⟨_, pe_and p p', fun ρ st H σ τ R F κ Q hm ok ex => s ρ st H σ τ R F _ _ hm (fun ρ1 st1 H1 u1 v1 s1 R1 r1 hm => ?_) ex⟩
  cases u1 with
  | bl b =>
    refine ⟨b, r1, ?_⟩
    cases b with
    | true => show t' τ H1 Q; exact s' ρ1 st1 H1 σ τ R1 (F.step s1) κ Q hm (ok.step s1) (ex.step s1)
    | false => show Q (.bl false) H1; exact ok ρ1 st1 H1 (.bl false) _ s1 R1 rfl hm
  | non => cases hm
  | int _ => cases hm
  | str _ => cases hm
  | ref _ => cases hm
  | glo _ => cases hm
  | ty _ => cases hm
theorem se_orV {a b : Expr} {rest : List Expr} {pos : Pos} {m n : ME} (h : SE γ W X a m) (h' : SE γ W X (.BoolOp .Or (b :: rest) pos) n) : SE γ W X (.BoolOp .Or (a :: b :: rest) pos) (mOrV m n) := by
  obtain ⟨t, p, s⟩ := h
  obtain ⟨t', p', s'⟩ := h'
  refine ⟨_, PE.mk (L2.pe_or p p').run, fun ρ st H σ τ R F κ Q hm ok ex => s ρ st H σ τ R F _ _ hm (fun ρ1 st1 H1 u1 v1 s1 R1 r1 hm => ?_) ex⟩
  cases u1 with
  | bl b =>
    refine ⟨b, r1, ?_⟩
    cases b with
    | false => show t' τ H1 Q; exact s' ρ1 st1 H1 σ τ R1 (F.step s1) κ Q hm (ok.step s1) (ex.step s1)
    | true => show Q (.bl true) H1; exact ok ρ1 st1 H1 (.bl true) _ s1 R1 rfl hm
  | non => cases hm
  | int _ => cases hm
  | str _ => cases hm
  | ref _ => cases hm
  | glo _ => cases hm
  | ty _ => cases hm
theorem se_not {a : Expr} {pos : Pos} {m : ME} (h : SE γ W X a m) : SE γ W X (.UnaryOp .Not a pos) (mNotV m) := by
  obtain ⟨t, p, s⟩ := h
  refine ⟨_, pe_not p, fun ρ st H σ τ R F κ Q hm ok ex => s ρ st H σ τ R F _ _ hm (fun ρ1 st1 H1 u1 v1 s1 R1 r1 hm => ?_) ex⟩
  cases u1 with
  | bl b => exact ⟨b, r1, ok ρ1 st1 H1 (.bl (!b)) _ s1 R1 rfl hm⟩
  | non => cases hm
  | int _ => cases hm
  | str _ => cases hm
  | ref _ => cases hm
  | glo _ => cases hm
  | ty _ => cases hm
def mIf (c : MT) (m n : ME) : ME := fun σ st => bnd (c σ st) fun b st1 => match b with
  | true => m σ st1
  | false => n σ st1
theorem se_if {c a b : Expr} {pos : Pos} {mc : MT} {m n : ME} (hc : ST γ W X c mc) (h : SE γ W X a m) (h' : SE γ W X b n) : SE γ W X (.IfExp c a b pos) (mIf mc m n) := by
  obtain ⟨tc, pc, sc⟩ := hc
  obtain ⟨t, p, s⟩ := h
  obtain ⟨t', p', s'⟩ := h'
  refine ⟨_, pe_ifExp pc p p', fun ρ st H σ τ R F κ Q hm ok ex => sc ρ st H σ τ R F _ _ hm (fun ρ1 st1 H1 u1 v1 s1 R1 r1 hm => ?_) ex⟩
  have r1 : u1 = v1 := r1
  subst r1
  cases u1 with
  | true => show t τ H1 Q; exact s ρ1 st1 H1 σ τ R1 (F.step s1) κ Q hm (ok.step s1) (ex.step s1)
  | false => show t' τ H1 Q; exact s' ρ1 st1 H1 σ τ R1 (F.step s1) κ Q hm (ok.step s1) (ex.step s1)

/-! ### arguments, displays -/
def mNil : MA := fun _ st => ret [] st
def mCons (m : ME) (ms : MA) : MA := fun σ st => bnd (m σ st) fun u st1 => bnd (ms σ st1) fun us st2 => ret (u :: us) st2
theorem sa_nil : SA γ W X [] mNil := ⟨_, pa_nil, fun _ _ _ _ _ R _ => SimAt.ret R .nil⟩
theorem sa_cons {e : Expr} {es : List Expr} {m : ME} {ms : MA} (h : SE γ W X e m) (h' : SA γ W X es ms) (hs : starEach (e :: es) X.env = (false, eval e X.env) :: starEach es X.env := by rfl) : SA γ W X (e :: es) (mCons m ms) := by
  obtain ⟨t, p, s⟩ := h
  obtain ⟨t', p', s'⟩ := h'
  exact ⟨_, pa_cons p p' hs, fun ρ st H σ τ R F κ Q hm ok ex => s ρ st H σ τ R F _ _ hm (fun ρ1 st1 H1 u v s1 R1 r1 k1 => s' ρ1 st1 H1 σ τ R1 (F.step s1) _ _ k1 (fun ρ2 st2 H2 us vs s2 R2 r2 k2 => ok ρ2 st2 H2 _ _ (s1.trans s2) R2 (.cons (s2.ru r1) r2) k2) (ex.step s1)) ex⟩
def line : Nat := 16777216
theorem line_ok {n : Nat} (h : Nat.ble n line = true) : n ≤ sizeLine := by
  have := Nat.le_of_ble_eq_true h
  rw [sizeLine_eq]; exact this
theorem line_lt {n : Nat} (h : Nat.blt n line = true) : n < sizeLine := by
  have : n + 1 ≤ line := Nat.le_of_ble_eq_true h
  rw [sizeLine_eq]; exact this
def mTup (ms : MA) : ME := fun σ st => bnd (ms σ st) fun us st1 κ => match Nat.ble us.length line with
  | true => κ (.ok (.ref st1.n)) (st1.new (.tup us))
  | false => false
def mLst (ms : MA) : ME := fun σ st => bnd (ms σ st) fun us st1 κ => match Nat.ble us.length line with
  | true => κ (.ok (.ref st1.n)) (st1.new (.lst us))
  | false => false
theorem RL.length {ρ : List Addr} {us : List U} {vs : List V} (h : RL γ ρ us vs) : us.length = vs.length := Paired.length h
theorem se_tup {es : List Expr} {x1 pos} {ms : MA} (h : SA γ W X es ms) : SE γ W X (.Tuple es x1 pos) (mTup ms) := by
  obtain ⟨t, p, s⟩ := h
  refine ⟨_, pe_tup p, fun ρ st H σ τ R F κ Q hm ok ex => s ρ st H σ τ R F _ _ hm (fun ρ1 st1 H1 us vs s1 R1 r1 hm => ?_) ex⟩
  have hm2 : (match Nat.ble us.length line with | true => κ (.ok (.ref st1.n)) (st1.new (.tup us)) | false => false) = true := hm
  cases q : Nat.ble us.length line with
  | false => rw [q] at hm2; cases hm2
  | true =>
    rw [q] at hm2
    exact ⟨by rw [← r1.length]; exact line_ok q, (ok.step s1).alloc R1 hm2 (fun p => ⟨vs, upd_same, r1.mono⟩)⟩
theorem se_lst {es : List Expr} {pos} {ms : MA} (h : SA γ W X es ms) : SE γ W X (.List es pos) (mLst ms) := by
  obtain ⟨t, p, s⟩ := h
  refine ⟨_, pe_lst p, fun ρ st H σ τ R F κ Q hm ok ex => s ρ st H σ τ R F _ _ hm (fun ρ1 st1 H1 us vs s1 R1 r1 hm => ?_) ex⟩
  have hm2 : (match Nat.ble us.length line with | true => κ (.ok (.ref st1.n)) (st1.new (.lst us)) | false => false) = true := hm
  cases q : Nat.ble us.length line with
  | false => rw [q] at hm2; cases hm2
  | true =>
    rw [q] at hm2
    exact ⟨by rw [← r1.length]; exact line_ok q, (ok.step s1).alloc R1 hm2 (fun p => ⟨vs, upd_same, r1.mono⟩)⟩
/-- {} -/
def mDict0 : ME := fun _ st κ => κ (.ok (.ref st.n)) (st.new (.dct false []))
theorem se_dict0 {pos} : SE γ W X (.Dict [] [] pos) mDict0 := ⟨_, pe_dnewK, fun ρ st H σ τ R F κ Q hm ok ex => ok.alloc R hm (fun p => ⟨[], upd_same, .nil⟩)⟩

/-! ### attributes -/
def mFld (g : GT) (f : Str) (m : ME) : ME := fun σ st => bnd (m σ st) fun u st1 κ => match u with
  | .ref i => match st1.get i with
    | some (.ins c fs) => match g.fld c f, fGet f fs with
      | true, some w => κ (.ok w) st1
      | _, _ => false
    | _ => false
  | _ => false
theorem se_fld {e : Expr} {f : Str} {pos : Pos} {m : ME} (G : GOk X.K γ g) (h : SE γ W X e m) (hb : attributeBase e f X.env (eval e X.env) = eval e X.env := by rfl) : SE γ W X (.Attribute e f pos) (mFld g f m) := by
  obtain ⟨t, p, s⟩ := h
  refine ⟨_, pe_fld p hb, fun ρ st H σ τ R F κ Q hm ok ex => s ρ st H σ τ R F _ _ hm (fun ρ1 st1 H1 u v s1 R1 r1 hm => ?_) ex⟩
  cases u with
  | ref i =>
    have hm2 : (match st1.get i with | some (.ins c fs) => (match g.fld c f, fGet f fs with | true, some w => κ (.ok w) st1 | _, _ => false) | _ => false) = true := hm
    cases q : st1.get i with
    | none => rw [q] at hm2; cases hm2
    | some o =>
      cases o with
      | ins c fs =>
        rw [q] at hm2
        obtain ⟨a, ev, _, dx, ws, ho, rf⟩ := R1.get q r1
        have hm3 : (match g.fld c f, fGet f fs with | true, some w => κ (.ok w) st1 | _, _ => false) = true := hm2
        cases qf : g.fld c f with
        | false => rw [qf] at hm3; cases hm3
        | true =>
          rw [qf] at hm3
          rcases rf.get (f := f) with ⟨e1, _⟩ | ⟨w, x, e1, e2, rw'⟩
          · rw [e1] at hm3; cases hm3
          · rw [e1] at hm3
            obtain ⟨c1, c2⟩ := G.fld c f qf
            exact ⟨a, _, dx, ws, x, ev, ho, c1, c2, e2, ok ρ1 st1 H1 w x s1 R1 rw' hm3⟩
      | lst _ => rw [q] at hm2; cases hm2
      | fl _ => rw [q] at hm2; cases hm2
      | tup _ => rw [q] at hm2; cases hm2
      | dct _ _ => rw [q] at hm2; cases hm2
  | non => cases hm
  | bl _ => cases hm
  | int _ => cases hm
  | str _ => cases hm
  | glo _ => cases hm
  | ty _ => cases hm
end
end MV

namespace MV
open PySem L2
section
variable {γ : Nat → Addr} {W : WX} {X : Cx} {g : GT}
/-- from a value on to a statement's end -/
def onE (κ : Out → Fr → VS → Bool) (σ : Fr) {α : Type} (f : α → VS → Bool) : Rs α → VS → Bool := fun r st => match r with
  | .ok u => f u st
  | .ex x => κ (.ex x) σ st
theorem EndsOk.exK {ρ : List Addr} {H : Hp} {κ : Out → Fr → VS → Bool} {D : Ends} {σ : Fr} {τ : St} {α : Type} {f : α → VS → Bool} (ok : EndsOk γ W ρ H κ D) (F : FrR γ ρ σ τ) : ExK γ W τ ρ H (onE κ σ f) := fun ρ' st' H' x c d s R r k => ok.ex ρ' st' H' σ τ x c d s R (F.step s) r k

/-! ### blocks -/
def mNext : MS := fun σ st κ => κ .nx σ st
def mSeq (m n : MS) : MS := fun σ st κ => m σ st fun o σ1 st1 => match o with
  | .nx => n σ1 st1 κ
  | .bk => κ .bk σ1 st1
  | .ct => κ .ct σ1 st1
  | .rt u => κ (.rt u) σ1 st1
  | .ex x => κ (.ex x) σ1 st1
theorem sss_nil : SSs γ W X [] mNext := ⟨_, pss_nil, fun ρ st H σ τ R F κ D hm ok => ok.nx ρ st H σ τ (Step.refl _ _) R F hm⟩
theorem sss_cons {s : Stmt} {ss : List Stmt} {m n : MS} (h : SS γ W X s m) (h' : SSs γ W X ss n) : SSs γ W X (s :: ss) (mSeq m n) := by
  obtain ⟨t, p, q⟩ := h
  obtain ⟨t', p', q'⟩ := h'
  exact ⟨_, pss_cons p p', fun ρ st H σ τ R F κ D hm ok => q ρ st H σ τ R F _ _ hm
    ⟨fun ρ1 st1 H1 σ1 τ1 s1 R1 F1 k => q' ρ1 st1 H1 σ1 τ1 R1 F1 κ D k (ok.step s1), fun ρ1 st1 H1 σ1 τ1 s1 R1 F1 k => ok.bk ρ1 st1 H1 σ1 τ1 s1 R1 F1 k, fun ρ1 st1 H1 σ1 τ1 s1 R1 F1 k => ok.ct ρ1 st1 H1 σ1 τ1 s1 R1 F1 k,
      fun ρ1 st1 H1 σ1 u v s1 R1 r k => ok.rt ρ1 st1 H1 σ1 u v s1 R1 r k, fun ρ1 st1 H1 σ1 τ1 x c d s1 R1 F1 r k => ok.ex ρ1 st1 H1 σ1 τ1 x c d s1 R1 F1 r k⟩⟩
/-- the same, the heap brought up to date between the two -/
def mSeqT (m n : MS) : MS := fun σ st κ => m σ st fun o σ1 st1 => match o with
  | .nx => tidy st1 fun st2 => frcL (fun (x : Option U) k => match x with | some u => frcU u fun u' => k (some u') | none => k none) σ1 fun σ2 => n σ2 st2 κ
  | .bk => κ .bk σ1 st1
  | .ct => κ .ct σ1 st1
  | .rt u => κ (.rt u) σ1 st1
  | .ex x => κ (.ex x) σ1 st1
theorem mSeqT_nx (n : MS) (σ1 : Fr) (st1 : VS) (κ : Out → Fr → VS → Bool) : (tidy st1 fun st2 => frcL (fun (x : Option U) k => match x with | some u => frcU u fun u' => k (some u') | none => k none) σ1 fun σ2 => n σ2 st2 κ) = n σ1 st1.tid κ := by
  rw [tidy_eq, frcL_eq]
  intro a k
  cases a with
  | none => rfl
  | some u => exact frcU_eq u _
theorem sss_consT {s : Stmt} {ss : List Stmt} {m n : MS} (h : SS γ W X s m) (h' : SSs γ W X ss n) : SSs γ W X (s :: ss) (mSeqT m n) := by
  obtain ⟨t, p, q⟩ := h
  obtain ⟨t', p', q'⟩ := h'
  exact ⟨_, pss_cons p p', fun ρ st H σ τ R F κ D hm ok => q ρ st H σ τ R F _ _ hm
    ⟨fun ρ1 st1 H1 σ1 τ1 s1 R1 F1 k => q' ρ1 st1.tid H1 σ1 τ1 (R1.same rfl st1.tid_get) F1 κ D ((mSeqT_nx n σ1 st1 κ).symm.trans k) (ok.step s1), fun ρ1 st1 H1 σ1 τ1 s1 R1 F1 k => ok.bk ρ1 st1 H1 σ1 τ1 s1 R1 F1 k, fun ρ1 st1 H1 σ1 τ1 s1 R1 F1 k => ok.ct ρ1 st1 H1 σ1 τ1 s1 R1 F1 k,
      fun ρ1 st1 H1 σ1 u v s1 R1 r k => ok.rt ρ1 st1 H1 σ1 u v s1 R1 r k, fun ρ1 st1 H1 σ1 τ1 x c d s1 R1 F1 r k => ok.ex ρ1 st1 H1 σ1 τ1 x c d s1 R1 F1 r k⟩⟩
theorem sss_one {s : Stmt} {m : MS} (h : SS γ W X s m) : SSs γ W X [s] m := by
  obtain ⟨t, p, q⟩ := h
  exact ⟨_, pss_one p, q⟩
theorem sss_dead {ss : List Stmt} : SSs γ W X ss (fun _ _ _ => false) := ⟨fun _ _ _ => False, ⟨fun _ _ _ _ _ _ h => h.elim⟩, fun _ _ _ _ _ _ _ _ _ h => nomatch h⟩
theorem ss_pass {pos} : SS γ W X (.Pass pos) mNext := ⟨_, ps_pass, fun ρ st H σ τ R F κ D hm ok => ok.nx ρ st H σ τ (Step.refl _ _) R F hm⟩
def mBreak : MS := fun σ st κ => κ .bk σ st
theorem ss_break {pos} : SS γ W X (.Break pos) mBreak := ⟨_, ps_break, fun ρ st H σ τ R F κ D hm ok => ok.bk ρ st H σ τ (Step.refl _ _) R F hm⟩
def mCont : MS := fun σ st κ => κ .ct σ st
theorem ss_cont {pos} : SS γ W X (.Continue pos) mCont := ⟨_, ps_continue, fun ρ st H σ τ R F κ D hm ok => ok.ct ρ st H σ τ (Step.refl _ _) R F hm⟩
def mDrop (m : ME) : MS := fun σ st κ => m σ st (onE κ σ fun _ st1 => κ .nx σ st1)
theorem ss_expr {e : Expr} {pos : Pos} {m : ME} (h : SE γ W X e m) (hs : swapsWith e none pos.line X.env = pure false := by rfl) : SS γ W X (.Expr e pos) (mDrop m) := by
  obtain ⟨t, p, s⟩ := h
  exact ⟨_, L2.ps_expr p hs, fun ρ st H σ τ R F κ D hm ok => s ρ st H σ τ R F _ _ hm (fun ρ1 st1 H1 u v s1 R1 r1 k => ok.nx ρ1 st1 H1 σ τ s1 R1 (F.step s1) k) (ok.exK F)⟩
def mRet (m : ME) : MS := fun σ st κ => m σ st (onE κ σ fun u st1 => κ (.rt u) σ st1)
theorem ss_ret {e : Expr} {pos : Pos} {m : ME} (h : SE γ W X e m) : SS γ W X (.Return (some e) pos) (mRet m) := by
  obtain ⟨t, p, s⟩ := h
  exact ⟨_, ps_ret p, fun ρ st H σ τ R F κ D hm ok => s ρ st H σ τ R F _ _ hm (fun ρ1 st1 H1 u v s1 R1 r1 k => ok.rt ρ1 st1 H1 σ u v s1 R1 r1 k) (ok.exK F)⟩
def mRetN : MS := fun σ st κ => κ (.rt .non) σ st
theorem ss_retN {pos} : SS γ W X (.Return none pos) mRetN := ⟨_, ps_retN, fun ρ st H σ τ R F κ D hm ok => ok.rt ρ st H σ .non .non (Step.refl _ _) R rfl hm⟩
def mIfS (c : MT) (m n : MS) : MS := fun σ st κ => c σ st (onE κ σ fun b st1 => match b with
  | true => m σ st1 κ
  | false => n σ st1 κ)
theorem ss_if {c : Expr} {a b : List Stmt} {pos : Pos} {mc : MT} {m n : MS} (hc : ST γ W X c mc) (h : SSs γ W X a m) (h' : SSs γ W X b n) : SS γ W X (.If c a b pos) (mIfS mc m n) := by
  obtain ⟨tc, pc, sc⟩ := hc
  obtain ⟨t, p, s⟩ := h
  obtain ⟨t', p', s'⟩ := h'
  refine ⟨_, ps_if pc p p', fun ρ st H σ τ R F κ D hm ok => sc ρ st H σ τ R F _ _ hm (fun ρ1 st1 H1 u v s1 R1 r1 k => ?_) (ok.exK F)⟩
  have r1 : u = v := r1
  subst r1
  cases u with
  | true => show t D τ H1; exact s ρ1 st1 H1 σ τ R1 (F.step s1) κ D k (ok.step s1)
  | false => show t' D τ H1; exact s' ρ1 st1 H1 σ τ R1 (F.step s1) κ D k (ok.step s1)

/-! ### targets -/
abbrev MG := U → Fr → VS → (Fr → VS → Bool) → Bool
abbrev MGs := List U → Fr → VS → (Fr → VS → Bool) → Bool
/-- the slots but sl are as before -/
def Same (sl : List Nat) (τ τ' : St) : Prop := τ'.length = τ.length ∧ ∀ j, j ∉ sl → τ'[j]? = τ[j]?
theorem Same.refl (sl : List Nat) (τ : St) : Same sl τ τ := ⟨rfl, fun _ _ => rfl⟩
theorem Same.trans {sl : List Nat} {τ τ1 τ2 : St} (a : Same sl τ τ1) (b : Same sl τ1 τ2) : Same sl τ τ2 := ⟨b.1.trans a.1, fun j h => (b.2 j h).trans (a.2 j h)⟩
theorem Same.mono {sl sm : List Nat} {τ τ' : St} (a : Same sl τ τ') (h : ∀ j ∈ sl, j ∈ sm) : Same sm τ τ' := ⟨a.1, fun j n => a.2 j fun z => n (h j z)⟩
def GK (γ : Nat → Addr) (sl : List Nat) (τ : St) (ρ : List Addr) (H : Hp) (κ : Fr → VS → Bool) (Q : St → Hp → Prop) : Prop := ∀ ρ' st' H' σ' τ', Step ρ H ρ' H' → Rep γ ρ' st' H' → FrR γ ρ' σ' τ' → Same sl τ τ' → κ σ' st' = true → Q τ' H'
def SimG (γ : Nat → Addr) (sl : List Nat) (t : TG) (m : MG) : Prop := ∀ ρ st H σ τ u v, Rep γ ρ st H → FrR γ ρ σ τ → RU γ ρ u v → ∀ κ Q, m u σ st κ = true → GK γ sl τ ρ H κ Q → t v τ H Q
def SimGs (γ : Nat → Addr) (sl : List Nat) (t : TGs) (m : MGs) : Prop := ∀ ρ st H σ τ us vs, Rep γ ρ st H → FrR γ ρ σ τ → RL γ ρ us vs → ∀ κ Q, m us σ st κ = true → GK γ sl τ ρ H κ Q → t vs τ H Q
def SG (γ : Nat → Addr) (X : Cx) (sl : List Nat) (tg : Expr) (m : MG) : Prop := ∃ t, PG X tg t ∧ SimG γ sl t m
def SGs (γ : Nat → Addr) (X : Cx) (sl : List Nat) (tg : List Expr) (m : MGs) : Prop := ∃ t, PGs X tg t ∧ SimGs γ sl t m
def mgName (i : Nat) : MG := fun u σ st κ => κ (σ.set i (some u)) st
theorem sg_name {i : Nat} {x : Str} {pos : Pos} (hN : X.N.Nodup) (hi : X.N[i]? = some x := by rfl) (hx : Loc X.env.scope x := by first | exact Or.inl rfl | exact Or.inr rfl)
    (hf : X.fn x = true ∨ X.env.scope.names.lookup x = some .local := by first | exact .inl rfl | exact .inr rfl | assumption) : SG γ X [i] (.Name x pos) (mgName i) :=
  ⟨_, pg_name hN hi hx hf, fun ρ st H σ τ u v R F r κ Q hm ok => ok ρ st H _ _ (Step.refl _ _) R (F.set i r) ⟨List.length_set, fun j h => List.getElem?_set_ne (fun z => h (by rw [z]; exact List.mem_singleton.mpr rfl))⟩ hm⟩
def mgNil : MGs := fun us σ st κ => match us with
  | [] => κ σ st
  | _ => false
def mgCons (m : MG) (ms : MGs) : MGs := fun us σ st κ => match us with
  | [] => false
  | u :: r => m u σ st fun σ1 st1 => ms r σ1 st1 κ
theorem sgs_nil : SGs γ X [] [] mgNil := ⟨_, pgs_nil, fun ρ st H σ τ us vs R F r κ Q hm ok => by
  cases r with
  | nil => exact ⟨rfl, ok ρ st H σ τ (Step.refl _ _) R F (Same.refl _ _) hm⟩
  | cons _ _ => cases hm⟩
theorem sgs_cons {sl sm : List Nat} {e : Expr} {es : List Expr} {m : MG} {ms : MGs} (h : SG γ X sl e m) (h' : SGs γ X sm es ms) (hs : (assignEach (e :: es) X.env).map (·.2) = assign e X.env :: (assignEach es X.env).map (·.2) := by rfl) : SGs γ X (sl ++ sm) (e :: es) (mgCons m ms) := by
  obtain ⟨t, p, s⟩ := h
  obtain ⟨t', p', s'⟩ := h'
  refine ⟨_, pgs_cons p p' hs, fun ρ st H σ τ us vs R F r κ Q hm ok => ?_⟩
  cases r with
  | nil => cases hm
  | cons r1 rs => exact ⟨_, _, rfl, s ρ st H σ τ _ _ R F r1 _ _ hm fun ρ1 st1 H1 σ1 τ1 s1 R1 F1 S1 k => s' ρ1 st1 H1 σ1 τ1 _ _ R1 F1 (s1.rl rs) κ Q k fun ρ2 st2 H2 σ2 τ2 s2 R2 F2 S2 k2 =>
      ok ρ2 st2 H2 σ2 τ2 (s1.trans s2) R2 F2 ((S1.mono fun j z => List.mem_append_left _ z).trans (S2.mono fun j z => List.mem_append_right _ z)) k2⟩
/-- (a, b, ..) = a tuple, a list -/
def mgTup (g : GT) (n : Nat) (ms : MGs) : MG := fun u σ st κ => match seqOf g st u with
  | some (_, xs) => match Nat.beq xs.length n with
    | true => ms xs σ st κ
    | false => false
  | none => false
theorem sg_tup {sl : List Nat} {es : List Expr} {k : Nat} {pos : Pos} {n : Nat} {ms : MGs} (G : GOk X.K γ g) (hc : X.calm = true) (h : SGs γ X sl es ms) (hn : (assignEach es X.env).length = n := by rfl) (hst : (assignEach es X.env).findIdx? (·.1) = none := by rfl) : SG γ X sl (.Tuple es k pos) (mgTup g n ms) := by
  obtain ⟨t, p, s⟩ := h
  have P : PG X (.Tuple es k pos) (fun v σ H Q => gTup X.K n t v σ H Q ∨ gUnl X.K n t v σ H Q) := ⟨fun pins s σ H v u Q I r hw => hw.elim (fun z => (pg_tup hc p hn hst).run pins s σ H v u Q I r z) fun z => (pg_unl hc p hn hst).run pins s σ H v u Q I r z⟩
  refine ⟨_, P, fun ρ st H σ τ u v R F r κ Q hm ok => ?_⟩
  have hm2 : (match seqOf g st u with | some (_, xs) => (match Nat.beq xs.length n with | true => ms xs σ st κ | false => false) | none => false) = true := hm
  cases q : seqOf g st u with
  | none => rw [q] at hm2; cases hm2
  | some bx =>
    obtain ⟨b, xs⟩ := bx
    rw [q] at hm2
    have hm3 : (match Nat.beq xs.length n with | true => ms xs σ st κ | false => false) = true := hm2
    obtain ⟨a, ys, ev, rl, hs⟩ := seq_ok G R r q
    cases ql : Nat.beq xs.length n with
    | false => rw [ql] at hm3; cases hm3
    | true =>
      rw [ql] at hm3
      have hl : ys.length = n := by rw [← rl.length]; exact Nat.eq_of_beq_eq_true ql
      cases b with
      | true => exact .inl ⟨a, ys, ev, hs, hl, s ρ st H σ τ xs ys R F rl κ Q hm3 ok⟩
      | false => exact .inr ⟨a, ys, ev, hs, hl, s ρ st H σ τ xs ys R F rl κ Q hm3 ok⟩

/-! ### assignments -/
def mAsg (m : ME) (mg : MG) : MS := fun σ st κ => m σ st (onE κ σ fun u st1 => mg u σ st1 fun σ2 st2 => κ .nx σ2 st2)
theorem sim_asg {sl : List Nat} {te : TE} {tg : TG} {m : ME} {mg : MG} (s : ∀ ρ st H σ τ, Rep γ ρ st H → FrR γ ρ σ τ → SimAt γ W τ (RU γ) ρ H (te τ H) (m σ st)) (sg : SimG γ sl tg mg)
    (ρ st H σ τ) (R : Rep γ ρ st H) (F : FrR γ ρ σ τ) : SimS γ W ρ H (fun D => tAsg te tg D τ H) (mAsg m mg σ st) := fun κ D hm ok =>
  s ρ st H σ τ R F _ _ hm (fun ρ1 st1 H1 u v s1 R1 r1 k => sg ρ1 st1 H1 σ τ u v R1 (F.step s1) r1 _ _ k fun ρ2 st2 H2 σ2 τ2 s2 R2 F2 _ k2 => ok.nx ρ2 st2 H2 σ2 τ2 (s1.trans s2) R2 F2 k2) (ok.exK F)
theorem ss_asg {sl : List Nat} {tg e : Expr} {pos : Pos} {m : ME} {mg : MG} (h : SE γ W X e m) (hg : SG γ X sl tg mg) (hs : swapsWithSole [tg] e pos.line X.env = pure false := by rfl) (hw : swappedStores [tg] e X.env = pure none := by rfl)
    (h1 : (assignEach [tg] X.env).map (·.2) = [assign tg X.env] := by rfl) : SS γ W X (.Assign [tg] e pos) (mAsg m mg) := by
  obtain ⟨t, p, s⟩ := h
  obtain ⟨t', p', s'⟩ := hg
  exact ⟨_, ps_asg p p' hs hw h1, sim_asg s s'⟩
theorem ss_set {i : Nat} {x : Str} {e : Expr} {pos pos' : Pos} {m : ME} (hN : X.N.Nodup) (h : SE γ W X e m) (hi : X.N[i]? = some x := by rfl) (hx : Loc X.env.scope x := by first | exact Or.inl rfl | exact Or.inr rfl) (hs : swapsWith e (some (.Name x pos')) pos.line X.env = pure false := by rfl)
    (hf : X.fn x = true ∨ X.env.scope.names.lookup x = some .local := by first | exact .inl rfl | exact .inr rfl | assumption) : SS γ W X (.Assign [.Name x pos'] e pos) (mAsg m (mgName i)) := by
  obtain ⟨t, p, s⟩ := h
  refine ⟨_, ps_set hN hi hx p hs hf, sim_asg (sl := [i]) s fun ρ st H σ τ u v R F r κ Q hm ok => ok ρ st H _ _ (Step.refl _ _) R (F.set i r) ⟨List.length_set, fun j h => List.getElem?_set_ne (fun z => h (by rw [z]; exact List.mem_singleton.mpr rfl))⟩ hm⟩
/-- a, b = x, y -/
def mPar (is : List Nat) (ms : MA) : MS := fun σ st κ => ms σ st (onE κ σ fun us st1 => match is, us with
  | [i, j], [u, v] => κ .nx ((σ.set i (some u)).set j (some v)) st1
  | [i, j, l], [u, v, w] => κ .nx (((σ.set i (some u)).set j (some v)).set l (some w)) st1
  | _, _ => false)
theorem ss_par {i j : Nat} {x y : Str} {a b : Expr} {kt k2 : Nat} {pt pt2 px py pos : Pos} {m : MA} (hc : X.calm = true) (hN : X.N.Nodup) (h : SA γ W X [a, b] m) (hi : X.N[i]? = some x := by rfl) (hj : X.N[j]? = some y := by rfl) (hij : i ≠ j := by decide) (hx : X.env.scope.names.lookup x = some .local := by rfl) (hy : X.env.scope.names.lookup y = some .local := by rfl)
    (hw : swappedStores [.Tuple [.Name x px, .Name y py] kt pt] (.Tuple [a, b] k2 pt2) X.env = pure (some [x, y]) := by rfl) : SS γ W X (.Assign [.Tuple [.Name x px, .Name y py] kt pt] (.Tuple [a, b] k2 pt2) pos) (mPar [i, j] m) := by
  obtain ⟨t, p, s⟩ := h
  refine ⟨_, ps_par hc hN hi hj hij hx hy p (hw := hw), fun ρ st H σ τ R F κ D hm ok => s ρ st H σ τ R F _ _ hm (fun ρ1 st1 H1 us vs s1 R1 r1 k => ?_) (ok.exK F)⟩
  cases r1 with
  | nil => cases k
  | cons r1 r =>
    cases r with
    | nil => cases k
    | cons r2 r =>
      cases r with
      | nil => exact ⟨_, _, rfl, ok.nx ρ1 st1 H1 _ _ s1 R1 (((F.step s1).set i r1).set j r2) k⟩
      | cons _ _ => cases k
theorem ss_par3 {i j l : Nat} {x y z : Str} {a b c : Expr} {kt k2 : Nat} {pt pt2 px py pz pos : Pos} {m : MA} (hc : X.calm = true) (hN : X.N.Nodup) (h : SA γ W X [a, b, c] m) (hi : X.N[i]? = some x := by rfl) (hj : X.N[j]? = some y := by rfl) (hl : X.N[l]? = some z := by rfl) (hij : i ≠ j := by decide) (hil : i ≠ l := by decide) (hjl : j ≠ l := by decide)
    (hx : X.env.scope.names.lookup x = some .local := by rfl) (hy : X.env.scope.names.lookup y = some .local := by rfl) (hz : X.env.scope.names.lookup z = some .local := by rfl)
    (hw : swappedStores [.Tuple [.Name x px, .Name y py, .Name z pz] kt pt] (.Tuple [a, b, c] k2 pt2) X.env = pure (some [x, y, z]) := by rfl) : SS γ W X (.Assign [.Tuple [.Name x px, .Name y py, .Name z pz] kt pt] (.Tuple [a, b, c] k2 pt2) pos) (mPar [i, j, l] m) := by
  obtain ⟨t, p, s⟩ := h
  refine ⟨_, ps_par3 hc hN hi hj hl hij hil hjl hx hy hz p (hw := hw), fun ρ st H σ τ R F κ D hm ok => s ρ st H σ τ R F _ _ hm (fun ρ1 st1 H1 us vs s1 R1 r1 k => ?_) (ok.exK F)⟩
  cases r1 with
  | nil => cases k
  | cons r1 r =>
    cases r with
    | nil => cases k
    | cons r2 r =>
      cases r with
      | nil => cases k
      | cons r3 r =>
        cases r with
        | nil => exact ⟨_, _, _, rfl, ok.nx ρ1 st1 H1 _ _ s1 R1 ((((F.step s1).set i r1).set j r2).set l r3) k⟩
        | cons _ _ => cases k
/-- o.f = e -/
def mSetF (g : GT) (f : Str) (mo me : ME) : MS := fun σ st κ => me σ st (onE κ σ fun w st1 => mo σ st1 (onE κ σ fun u st2 => match u with
  | .ref i => match st2.get i with
    | some (.ins c fs) => match g.fld c f, Nat.blt fs.length 1000 with
      | true, true => κ .nx σ (st2.put i (.ins c (fPut f w fs)))
      | _, _ => false
    | _ => false
  | _ => false))
theorem ss_setF {o e : Expr} {f : Str} {pos pos' : Pos} {mo me : ME} (G : GOk X.K γ g) (ho : SE γ W X o mo) (he : SE γ W X e me) (hs : swapsWith e (some (.Attribute o f pos')) pos.line X.env = pure false := by rfl) : SS γ W X (.Assign [.Attribute o f pos'] e pos) (mSetF g f mo me) := by
  obtain ⟨t, p, s⟩ := ho
  obtain ⟨t', p', s'⟩ := he
  refine ⟨_, ps_fld p p' hs, fun ρ st H σ τ R F κ D hm ok => s' ρ st H σ τ R F _ _ hm (fun ρ1 st1 H1 w x s1 R1 r1 k => s ρ1 st1 H1 σ τ R1 (F.step s1) _ _ k (fun ρ2 st2 H2 u v s2 R2 r2 k2 => ?_) ((ok.step s1).exK (F.step s1))) (ok.exK F)⟩
  have S := s1.trans s2
  cases u with
  | ref i =>
    have hm2 : (match st2.get i with | some (.ins c fs) => (match g.fld c f, Nat.blt fs.length 1000 with | true, true => κ .nx σ (st2.put i (.ins c (fPut f w fs))) | _, _ => false) | _ => false) = true := k2
    cases q : st2.get i with
    | none => rw [q] at hm2; cases hm2
    | some o =>
      cases o with
      | ins c fs =>
        rw [q] at hm2
        obtain ⟨a, ev, ea, dx, ws, hh, rf⟩ := R2.get q r2
        have hm3 : (match g.fld c f, Nat.blt fs.length 1000 with | true, true => κ .nx σ (st2.put i (.ins c (fPut f w fs))) | _, _ => false) = true := hm2
        cases qf : g.fld c f with
        | false => rw [qf] at hm3; cases hm3
        | true =>
          cases ql : Nat.blt fs.length 1000 with
          | false => rw [qf, ql] at hm3; cases hm3
          | true =>
            rw [qf, ql] at hm3
            obtain ⟨c1, c2⟩ := G.fld c f qf
            have ro : RO γ ρ2 (upd H2 a (.ins (γ c) dx (putF f x ws))) a (.ins c (fPut f w fs)) := ⟨dx, _, upd_same, rf.put (s2.ru r1)⟩
            obtain ⟨R3, S3⟩ := R2.put (o := .ins c (fPut f w fs)) ea (by rw [hh]; intro _ _ z; cases z) ro
            have hl : ws.length < 1000 := by
              have := Paired.length rf
              rw [← this]; exact Nat.le_of_ble_eq_true ql
            exact ⟨a, _, dx, ws, ev, hh, c1, c2, hl, ok.nx ρ2 _ _ σ τ (S.trans S3) R3 (F.step (S.trans S3)) hm3⟩
      | lst _ => rw [q] at hm2; cases hm2
      | fl _ => rw [q] at hm2; cases hm2
      | tup _ => rw [q] at hm2; cases hm2
      | dct _ _ => rw [q] at hm2; cases hm2
  | non => cases k2
  | bl _ => cases k2
  | int _ => cases k2
  | str _ => cases k2
  | glo _ => cases k2
  | ty _ => cases k2
/-- i += e, a name that holds an int -/
def mAugI (f : Int → Int → Int) (i : Nat) (m : ME) : MS := fun σ st κ => match σ[i]? with
  | some (some (.int a)) => m σ st (onE κ σ fun u st1 => match u with
    | .int b => κ .nx (σ.set i (some (.int (f a b)))) st1
    | _ => false)
  | _ => false
theorem ss_augI {i : Nat} {x : Str} {op : Operator} {f : Int → Int → Int} {e : Expr} {pos pos' : Pos} {m : ME} (hN : X.N.Nodup) (ho : PIp X op (ipI f)) (h : SE γ W X e m) (hi : X.N[i]? = some x := by rfl) (hx : Loc X.env.scope x := by first | exact Or.inl rfl | exact Or.inr rfl)
    (hf : X.fn x = true ∨ X.env.scope.names.lookup x = some .local := by first | exact .inl rfl | exact .inr rfl | assumption) : SS γ W X (.AugAssign (.Name x pos') op e pos) (mAugI f i m) := by
  obtain ⟨t, p, s⟩ := h
  refine ⟨_, ps_aug hN hi hx p ho hf, fun ρ st H σ τ R F κ D hm ok => ?_⟩
  have hm2 : (match σ[i]? with | some (some (.int a)) => m σ st (onE κ σ fun u st1 => match u with | .int b => κ .nx (σ.set i (some (.int (f a b)))) st1 | _ => false) | _ => false) = true := hm
  cases q : σ[i]? with
  | none => rw [q] at hm2; cases hm2
  | some o =>
    cases o with
    | none => rw [q] at hm2; cases hm2
    | some w =>
      cases w with
      | int a =>
        rw [q] at hm2
        obtain ⟨v, e1, r⟩ := F.at_ i _ q
        have r : v = .int a := r
        subst r
        refine ⟨_, e1, s ρ st H σ τ R F _ _ hm2 (fun ρ1 st1 H1 u v s1 R1 r1 k => ?_) (ok.exK F)⟩
        cases u with
        | int b => exact ⟨a, b, rfl, r1, ok.nx ρ1 st1 H1 _ _ s1 R1 ((F.step s1).set i (u := .int (f a b)) (v := .int (f a b)) rfl) k⟩
        | non => cases k
        | bl _ => cases k
        | str _ => cases k
        | ref _ => cases k
        | glo _ => cases k
        | ty _ => cases k
      | non => rw [q] at hm2; cases hm2
      | bl _ => rw [q] at hm2; cases hm2
      | str _ => rw [q] at hm2; cases hm2
      | ref _ => rw [q] at hm2; cases hm2
      | glo _ => rw [q] at hm2; cases hm2
      | ty _ => rw [q] at hm2; cases hm2
end
end MV

namespace MV
open PySem L2
section
variable {γ : Nat → Addr} {W : WX} {X : Cx} {g : GT}

/-! ### readings that are made of the runs: the same in every context -/
def tM (γ : Nat → Addr) (W : WX) (m : ME) : TE := fun τ H Q => ∃ ρ st σ κ, Rep γ ρ st H ∧ FrR γ ρ σ τ ∧ m σ st κ = true ∧ OkK γ (RU γ) ρ H κ Q ∧ ExK γ W τ ρ H κ
def tMt (γ : Nat → Addr) (W : WX) (m : MT) : TT := fun τ H Q => ∃ ρ st σ κ, Rep γ ρ st H ∧ FrR γ ρ σ τ ∧ m σ st κ = true ∧ OkK γ (fun _ a b => a = b) ρ H κ Q ∧ ExK γ W τ ρ H κ
def tMg (γ : Nat → Addr) (sl : List Nat) (m : MG) : TG := fun v τ H Q => ∃ ρ st σ u κ, Rep γ ρ st H ∧ FrR γ ρ σ τ ∧ RU γ ρ u v ∧ m u σ st κ = true ∧ GK γ sl τ ρ H κ Q
theorem SE.pe {e : Expr} {m : ME} (h : SE γ W X e m) : PE X e (tM γ W m) := by
  obtain ⟨t, p, s⟩ := h
  exact ⟨fun pins sh τ H Q I ⟨ρ, st, σ, κ, R, F, hm, ok, ex⟩ => p.run pins sh τ H Q I (s ρ st H σ τ R F κ Q hm ok ex)⟩
theorem ST.pt {e : Expr} {m : MT} (h : ST γ W X e m) : PT X e (tMt γ W m) := by
  obtain ⟨t, p, s⟩ := h
  exact ⟨fun pins sh τ H Q I ⟨ρ, st, σ, κ, R, F, hm, ok, ex⟩ => p.run pins sh τ H Q I (s ρ st H σ τ R F κ Q hm ok ex)⟩
theorem SG.pg {sl : List Nat} {e : Expr} {m : MG} (h : SG γ X sl e m) : PG X e (tMg γ sl m) := by
  obtain ⟨t, p, s⟩ := h
  exact ⟨fun pins sh τ H v u Q I r ⟨ρ, st, σ, w, κ, R, F, ru, hm, ok⟩ => p.run pins sh τ H v u Q I r (s ρ st H σ τ w v R F ru κ Q hm ok)⟩

/-! ### while -/
def loopK (κ : Out → Fr → VS → Bool) (nxt : Fr → VS → Bool) : Out → Fr → VS → Bool := fun o σ st => match o with
  | .nx => nxt σ st
  | .ct => nxt σ st
  | .bk => κ .nx σ st
  | .rt u => κ (.rt u) σ st
  | .ex x => κ (.ex x) σ st
def wLoop (c : MT) (b : MS) : Nat → MS
  | 0, _, _, _ => false
  | n + 1, σ, st, κ => c σ st (onE κ σ fun t st1 => match t with
    | false => κ .nx σ st1
    | true => b σ st1 (loopK κ fun σ2 st2 => wLoop c b n σ2 st2 κ))
def mWhile (n : Nat) (c : MT) (b : MS) : MS := wLoop c b n
theorem ss_while {c : Expr} {body : List Stmt} {pos : Pos} {mc : MT} {m : MS} (n : Nat) (hp : PassesOwn (model X.prog X.w) X.A X.env X.xe) (hc : ST γ W X c mc) (hb : SSs γ W X body m) : SS γ W X (.While c body [] pos) (mWhile n mc m) := by
  obtain ⟨tc, pc, sc⟩ := hc
  obtain ⟨t, p, s⟩ := hb
  refine ⟨_, ps_while hp pc p, fun ρ st H σ τ R F κ D hm ok => ⟨fun k τ' H' => ∃ ρ' st' σ', Step ρ H ρ' H' ∧ Rep γ ρ' st' H' ∧ FrR γ ρ' σ' τ' ∧ wLoop mc m k σ' st' κ = true, ⟨n, ρ, st, σ, Step.refl _ _, R, F, hm⟩, fun k τ' H' ⟨ρ', st', σ', s1, R1, F1, hk⟩ => ?_⟩⟩
  cases k with
  | zero => cases hk
  | succ k =>
    refine sc ρ' st' H' σ' τ' R1 F1 _ _ hk (fun ρ2 st2 H2 u v s2 R2 r2 k2 => ?_) ((ok.step s1).exK F1)
    have r2 : u = v := r2
    subst r2
    have S2 := s1.trans s2
    cases u with
    | false => rw [if_neg Bool.false_ne_true]; exact ok.nx ρ2 st2 H2 σ' τ' S2 R2 (F1.step s2) k2
    | true =>
      rw [if_pos rfl]
      refine ⟨fun τ3 H3 => ∃ ρ3 st3 σ3, Step ρ H ρ3 H3 ∧ Rep γ ρ3 st3 H3 ∧ FrR γ ρ3 σ3 τ3 ∧ wLoop mc m k σ3 st3 κ = true, fun τ3 H3 h3 => ⟨k, Nat.lt_succ_self k, h3⟩, s ρ2 st2 H2 σ' τ' R2 (F1.step s2) _ _ k2
        ⟨fun ρ3 st3 H3 σ3 τ3 s3 R3 F3 k3 => ⟨ρ3, st3, σ3, S2.trans s3, R3, F3, k3⟩, fun ρ3 st3 H3 σ3 τ3 s3 R3 F3 k3 => ok.nx ρ3 st3 H3 σ3 τ3 (S2.trans s3) R3 F3 k3, fun ρ3 st3 H3 σ3 τ3 s3 R3 F3 k3 => ⟨ρ3, st3, σ3, S2.trans s3, R3, F3, k3⟩,
          fun ρ3 st3 H3 σ3 u v s3 R3 r3 k3 => ok.rt ρ3 st3 H3 σ3 u v (S2.trans s3) R3 r3 k3, fun ρ3 st3 H3 σ3 τ3 x cl d s3 R3 F3 r3 k3 => ok.ex ρ3 st3 H3 σ3 τ3 x cl d (S2.trans s3) R3 F3 r3 k3⟩⟩

/-! ### what is walked -/
inductive Itm where
  | seq (b : Bool) (u : U)
  | rng (lo : Int) (n : Nat)
  | enum (u : U)
  /-- b: strict -/
  | zip (b : Bool) (u v : U)
  | chars (x : Str)
  | items (i : Nat) (lk : Bool) | keys (i : Nat) (lk : Bool) | vals (i : Nat) (lk : Bool)
inductive Yl where
  | one (u : U)
  | pair (u v : U)
def Yl.u : Yl → VS → U
  | .one u, _ => u
  | .pair _ _, st => .ref st.n
def Yl.st : Yl → VS → VS
  | .one _, st => st
  | .pair u v, st => st.new (.tup [u, v])
def kU : Key → U
  | .inl i => .int i
  | .inr x => .str x
/-- the i-th thing: none, a mistake; some none, the end -/
def Itm.next (g : GT) (st : VS) (i : Nat) : Itm → Option (Option Yl)
  | .seq b u => match seqOf g st u with
    | some (b', xs) => match b, b' with
      | true, true | false, false => match xs[i]? with
        | some x => some (some (.one x))
        | none => some none
      | _, _ => none
    | none => none
  | .rng lo n => match Nat.blt i n with
    | true => some (some (.one (.int (lo + i))))
    | false => some none
  | .enum u => match seqOf g st u with
    | some (false, xs) => match xs[i]? with
      | some x => some (some (.pair (.int i) x))
      | none => some none
    | _ => none
  | .zip b u v => match seqOf g st u, seqOf g st v with
    | some (false, xs), some (false, ys) => match xs[i]?, ys[i]? with
      | some x, some y => some (some (.pair x y))
      | none, none => some none
      | _, _ => match b with
        | true => none
        | false => some none
    | _, _ => none
  | .chars x => match x.cps.toList[i]? with
    | some c => some (some (.one (.str ⟨#[c]⟩)))
    | none => some none
  | .items d _ => match st.get d with
    | some (.dct true kvs) => match kvs[i]? with
      | some (k, x) => some (some (.pair (kU k) x))
      | none => some none
    | _ => none
  | .keys d _ => match st.get d with
    | some (.dct true kvs) => match kvs[i]? with
      | some (k, x) => some (some (.one (kU k)))
      | none => some none
    | _ => none
  | .vals d _ => match st.get d with
    | some (.dct true kvs) => match kvs[i]? with
      | some (k, x) => some (some (.one x))
      | none => some none
    | _ => none
/-- J walks as it does, from ρ and H on -/
def ItOk (γ : Nat → Addr) (g : GT) (ρ : List Addr) (H : Hp) (it : Itm) (J : It) : Prop := ∀ ρ' st' H', Step ρ H ρ' H' → Rep γ ρ' st' H' → ∀ i,
  (it.next g st' i = some none → J.stop i H') ∧ ∀ y, it.next g st' i = some (some y) → J.go i H' ∧ ∀ x H'', J.yld i H' x H'' → ∃ ρ'', Step ρ' H' ρ'' H'' ∧ Rep γ ρ'' (y.st st') H'' ∧ RU γ ρ'' (y.u st') x
theorem ItOk.step {ρ ρ1 : List Addr} {H H1 : Hp} {it : Itm} {J : It} (h : ItOk γ g ρ H it J) (s : Step ρ H ρ1 H1) : ItOk γ g ρ1 H1 it J := fun ρ' st' H' s' => h ρ' st' H' (s.trans s')
/-- which dict is to be unlocked at the end -/
def Itm.lk : Itm → Option Nat
  | .items i true => some i
  | .keys i true => some i
  | .vals i true => some i
  | _ => none
/-- the dicts that were not locked when X's def was called -/
def NF (X : Cx) (d : Addr) : Prop := ∀ o' u', X.H_0 d ≠ some (.frz o' u')
/-- what is to be unlocked was not locked at H -/
def LkOk (N : Addr → Prop) (H : Hp) (ρ : List Addr) (it : Itm) : Prop := ∀ i, it.lk = some i → ∃ a, ρ[i]? = some a ∧ N a ∧ ∀ o x, H a ≠ some (.frz o x)
theorem LkOk.no {N : Addr → Prop} {H : Hp} {ρ : List Addr} {it : Itm} (h : it.lk = none := by rfl) : LkOk N H ρ it := fun i e => by rw [h] at e; cases e
theorem LkOk.step {N : Addr → Prop} {H H1 H2 : Hp} {ρ ρ' : List Addr} {it : Itm} (h : LkOk N H ρ it) (s : Step ρ H1 ρ' H2) : LkOk N H ρ' it := fun i e => by
  obtain ⟨a, ea, x⟩ := h i e
  obtain ⟨l, rfl⟩ := s.ext
  exact ⟨a, by rw [List.getElem?_append_left (List.getElem?_eq_some_iff.mp ea).1]; exact ea, x⟩
abbrev MI := Fr → VS → Go Itm
def SimI (γ : Nat → Addr) (W : WX) (g : GT) (N : Addr → Prop) (wi : TI) (m : MI) : Prop := ∀ ρ st H σ τ, Rep γ ρ st H → FrR γ ρ σ τ → ∀ (κ : Rs Itm → VS → Bool) (Rr : It → Hp → Prop), m σ st κ = true →
  (∀ ρ' st' H' it J, Step ρ H ρ' H' → Rep γ ρ' st' H' → ItOk γ g ρ' H' it J → LkOk N H ρ' it → κ (.ok it) st' = true → Rr J H') → ExK γ W τ ρ H κ → wi τ H Rr
def SI (γ : Nat → Addr) (W : WX) (g : GT) (X : Cx) (tg iter : Expr) (m : MI) : Prop := ∃ wi, PI X tg iter wi ∧ SimI γ W g (NF X) wi m
theorem pi_or {tg e : Expr} {t t' : TI} (h : PI X tg e t) (h' : PI X tg e t') : PI X tg e (fun σ H R => t σ H R ∨ t' σ H R) := ⟨fun pins s σ H R I q => q.elim (fun z => h.run pins s σ H R I z) fun z => h'.run pins s σ H R I z⟩
theorem si_or {tg e : Expr} {m m' : MI} (h : SI γ W g X tg e m) (h' : SI γ W g X tg e m') : SI γ W g X tg e (mOr m m') := by
  obtain ⟨t, p, s⟩ := h
  obtain ⟨t', p', s'⟩ := h'
  refine ⟨_, pi_or p p', fun ρ st H σ τ R F κ Rr hm ok ex => ?_⟩
  have hm2 : (match m σ st (fun _ _ => true) with | true => m σ st κ | false => m' σ st κ) = true := hm
  cases q : m σ st (fun _ _ => true) with
  | true => rw [q] at hm2; exact .inl (s ρ st H σ τ R F κ Rr hm2 ok ex)
  | false => rw [q] at hm2; exact .inr (s' ρ st H σ τ R F κ Rr hm2 ok ex)

/-- a list or a tuple -/
def miSeq (g : GT) (m : ME) : MI := fun σ st => bnd (m σ st) fun u st1 κ => match seqOf g st1 u with
  | some (b, _) => κ (.ok (.seq b u)) st1
  | none => false
theorem seq_next {ρ : List Addr} {H : Hp} (G : GOk X.K γ g) {u : U} {a : Addr} (ru : RU γ ρ u (.ref a)) (b : Bool) : ItOk γ g ρ H (.seq b u) (bif b then Itt X.K a else Itl X.K a) := fun ρ' st' H' s R i => by
  have ru' := s.ru ru
  have key : ∀ b' xs, seqOf g st' u = some (b', xs) → ∃ ys, RL γ ρ' xs ys ∧ (bif b' then SqT X.K H' a ys else SqL X.K H' a ys) := fun b' xs q => by
    obtain ⟨a', ys, ev, rl, h⟩ := seq_ok G R ru' q
    cases ev
    exact ⟨ys, rl, h⟩
  have hx : ∀ (b' : Bool) (xs : List U), seqOf g st' u = some (b', xs) → (Itm.seq b u).next g st' i = (match b, b' with | true, true | false, false => (match xs[i]? with | some x => some (some (.one x)) | none => some none) | _, _ => none) := fun b' xs q => by
    show (match seqOf g st' u with | some (b', xs) => _ | none => none) = _
    rw [q]
  cases q : seqOf g st' u with
  | none =>
    have e : (Itm.seq b u).next g st' i = none := by
      show (match seqOf g st' u with | some (b', xs) => _ | none => none) = _
      rw [q]
    rw [e]
    exact ⟨(fun h => nomatch h), (fun _ h => nomatch h)⟩
  | some bx =>
    obtain ⟨b', xs⟩ := bx
    rw [hx b' xs q]
    obtain ⟨ys, rl, h⟩ := key b' xs q
    have hl := rl.length
    cases b <;> cases b'
    · cases e : xs[i]? with
      | none => exact ⟨fun _ => ⟨ys, h, by rw [← hl]; exact List.getElem?_eq_none_iff.mp e⟩, (fun _ z => nomatch z)⟩
      | some x =>
        obtain ⟨hi, ex⟩ := List.getElem?_eq_some_iff.mp e
        have hy : ys[i]? = some (ys[i]'(by rw [← hl]; exact hi)) := List.getElem?_eq_getElem _
        refine ⟨(fun z => nomatch z), fun y z => ?_⟩
        cases z
        refine ⟨⟨ys, _, h, hy⟩, fun x' H'' ⟨e1, e2⟩ => ?_⟩
        subst e1
        have e3 := e2 ys h
        obtain ⟨v, hv, rv⟩ := pget rl e
        rw [e3] at hv; cases hv
        exact ⟨ρ', Step.refl _ _, R, rv⟩
    · exact ⟨(fun z => nomatch z), (fun _ z => nomatch z)⟩
    · exact ⟨(fun z => nomatch z), (fun _ z => nomatch z)⟩
    · cases e : xs[i]? with
      | none => exact ⟨fun _ => ⟨ys, h, by rw [← hl]; exact List.getElem?_eq_none_iff.mp e⟩, (fun _ z => nomatch z)⟩
      | some x =>
        obtain ⟨hi, ex⟩ := List.getElem?_eq_some_iff.mp e
        have hy : ys[i]? = some (ys[i]'(by rw [← hl]; exact hi)) := List.getElem?_eq_getElem _
        refine ⟨(fun z => nomatch z), fun y z => ?_⟩
        cases z
        refine ⟨⟨ys, _, h, hy⟩, fun x' H'' ⟨e1, e2⟩ => ?_⟩
        subst e1
        have e3 := e2 ys h
        obtain ⟨v, hv, rv⟩ := pget rl e
        rw [e3] at hv; cases hv
        exact ⟨ρ', Step.refl _ _, R, rv⟩


def iSq (K : PySem.W.Frag) (tl : TE) : TI := fun σ H R => tl σ H fun x H1 => ∃ a, x = .ref a ∧ (((∃ xs, SqL K H1 a xs) ∧ R (Itl K a) H1) ∨ ((∃ xs, SqT K H1 a xs) ∧ R (Itt K a) H1))
theorem pi_sq {tg l : Expr} {tl : TE} (hl : PE X l tl) : PI X tg l (iSq X.K tl) := by
  refine ⟨fun pins s σ H R I h => ?_⟩
  refine thn (hl.run pins s σ H _ I h) fun v s1 ⟨x, H1, I1, r1, q1⟩ => ?_
  obtain ⟨a, e, q1⟩ := q1
  subst e
  cases r1
  rcases q1 with ⟨⟨xs, hq⟩, q⟩ | ⟨⟨xs, hq⟩, q⟩
  · obtain ⟨its, rv, p, hz⟩ := I1.list hq
    refine wpAny_pyIter_list p.isList ?_
    refine ⟨s1.heap.objs.size, [s1.heap.objs.size], _, _, H1, rfl, I1.kept (t' := s1.toks) fun b o e => Heap.get?_push_of_some _ e, turn_list a _, ⟨_, Heap.get?_push_size _ rfl, rfl, rfl⟩, fun b hb => ?_, q⟩
    have e : b = s1.heap.objs.size := by simpa using hb
    subst e
    exact I1.fpOk (Nat.le_refl _) (I1.hok.fresh (Nat.le_refl _))
  · obtain ⟨its, rv, p, hz⟩ := I1.tuple hq
    refine wpAny_pyIter_tuple (show s1.heap.IsTuple a its.toArray from p) ?_
    refine ⟨s1.heap.objs.size, [s1.heap.objs.size], _, _, H1, rfl, I1.kept (t' := s1.toks) fun b o e => Heap.get?_push_of_some _ e, turn_tuple a _, ⟨_, Heap.get?_push_size _ rfl, rfl, rfl⟩, fun b hb => ?_, q⟩
    have e : b = s1.heap.objs.size := by simpa using hb
    subst e
    exact I1.fpOk (Nat.le_refl _) (I1.hok.fresh (Nat.le_refl _))
theorem si_seq {tg e : Expr} {m : ME} (G : GOk X.K γ g) (h : SE γ W X e m) : SI γ W g X tg e (miSeq g m) := by
  obtain ⟨t, p, s⟩ := h
  refine ⟨_, pi_sq p, fun ρ st H σ τ R F κ Rr hm ok ex => s ρ st H σ τ R F _ _ hm (fun ρ1 st1 H1 u v s1 R1 r1 k => ?_) ex⟩
  have k2 : (match seqOf g st1 u with | some (b, _) => κ (.ok (.seq b u)) st1 | none => false) = true := k
  cases q : seqOf g st1 u with
  | none => rw [q] at k2; cases k2
  | some bx =>
    obtain ⟨b, xs⟩ := bx
    rw [q] at k2
    obtain ⟨a, ys, ev, rl, hs⟩ := seq_ok G R1 r1 q
    subst ev
    cases b with
    | true => exact ⟨a, rfl, .inr ⟨⟨ys, hs⟩, ok ρ1 st1 H1 _ _ s1 R1 (seq_next G r1 true) LkOk.no k2⟩⟩
    | false => exact ⟨a, rfl, .inl ⟨⟨ys, hs⟩, ok ρ1 st1 H1 _ _ s1 R1 (seq_next G r1 false) LkOk.no k2⟩⟩
/-- an int in range's bounds -/
def inR (i : Int) : Bool := match decide (-4611686018427387904 ≤ i), decide (i < 4611686018427387904) with
  | true, true => true
  | _, _ => false
theorem inR_ok {i : Int} (h : inR i = true) : -(2 ^ 62) ≤ i ∧ i < 2 ^ 62 := by
  unfold inR at h
  cases q : decide (-4611686018427387904 ≤ i) <;> cases q2 : decide (i < 4611686018427387904) <;> rw [q, q2] at h <;> first | (cases h; done) | exact ⟨of_decide_eq_true q, of_decide_eq_true q2⟩
/-- range(n), range(a, b) -/
def miRng1 (ms : ME) : MI := fun σ st => bnd (ms σ st) fun u st1 κ => match u with
  | .int j => match inR j with
    | true => κ (.ok (.rng 0 j.toNat)) st1
    | false => false
  | _ => false
def miRng2 (ma mb : ME) : MI := fun σ st => bnd (ma σ st) fun u st1 => bnd (mb σ st1) fun w st2 κ => match u, w with
  | .int i, .int j => match inR i, inR j with
    | true, true => κ (.ok (.rng i (j - i).toNat)) st2
    | _, _ => false
  | _, _ => false
theorem rng_next {ρ : List Addr} {H : Hp} (lo : Int) (n : Nat) : ItOk γ g ρ H (.rng lo n) (Itr lo n) := fun ρ' st' H' s R i => by
  show ((match Nat.blt i n with | true => some (some (Yl.one (.int (lo + i)))) | false => some none) = some none → n ≤ i) ∧ ∀ y, (match Nat.blt i n with | true => some (some (Yl.one (.int (lo + i)))) | false => some none) = some (some y) → _
  cases q : Nat.blt i n with
  | true =>
    refine ⟨(fun z => nomatch z), fun y z => ?_⟩
    cases z
    refine ⟨Nat.le_of_ble_eq_true q, fun x H'' ⟨e1, e2⟩ => ?_⟩
    subst e1
    exact ⟨ρ', Step.refl _ _, R, e2⟩
  | false =>
    refine ⟨fun _ => ?_, (fun _ z => nomatch z)⟩
    refine Nat.le_of_not_lt fun z => ?_
    have : Nat.blt i n = true := Nat.ble_eq_true_of_le z
    rw [q] at this; cases this
theorem si_rng1 {tg a : Expr} {p pos : Pos} {m : ME} (hm : X.mg "range" = none) (h : SE γ W X a m) (hg : Gl X "range" := by rfl) (hs : starEach [a] X.env = [(false, eval a X.env)] := by rfl) : SI γ W g X tg (.Call (.Name "range" p) [a] [] pos) (miRng1 m) := by
  obtain ⟨t, pt, s⟩ := h
  refine ⟨_, pi_range1 hg hm (pa_cons pt pa_nil hs) (hs := hs), fun ρ st H σ τ R F κ Rr hm ok ex => s ρ st H σ τ R F _ _ hm (fun ρ1 st1 H1 u v s1 R1 r1 k => ?_) ex⟩
  cases u with
  | int j =>
    have r1 : v = .int j := r1
    subst r1
    have k2 : (match inR j with | true => κ (.ok (.rng 0 j.toNat)) st1 | false => false) = true := k
    cases q : inR j with
    | false => rw [q] at k2; cases k2
    | true =>
      rw [q] at k2
      obtain ⟨q1, q2⟩ := inR_ok q
      exact ⟨j, rfl, q1, q2, ok ρ1 st1 H1 _ _ s1 R1 (rng_next 0 j.toNat) LkOk.no k2⟩
  | non => cases k
  | bl _ => cases k
  | str _ => cases k
  | ref _ => cases k
  | glo _ => cases k
  | ty _ => cases k
theorem si_rng2 {tg a b : Expr} {p pos : Pos} {ma mb : ME} (hm : X.mg "range" = none) (h : SE γ W X a ma) (h' : SE γ W X b mb) (hg : Gl X "range" := by rfl) (hs : starEach [a, b] X.env = [(false, eval a X.env), (false, eval b X.env)] := by rfl) (hs2 : starEach [b] X.env = [(false, eval b X.env)] := by rfl) :
    SI γ W g X tg (.Call (.Name "range" p) [a, b] [] pos) (miRng2 ma mb) := by
  obtain ⟨t, pt, s⟩ := h
  obtain ⟨t', pt', s'⟩ := h'
  refine ⟨_, pi_range2 hg hm (pa_cons pt (pa_cons pt' pa_nil hs2) (by rw [hs, hs2])) (hs := hs) (hs2 := hs2), fun ρ st H σ τ R F κ Rr hm ok ex => s ρ st H σ τ R F _ _ hm (fun ρ1 st1 H1 u v s1 R1 r1 k => s' ρ1 st1 H1 σ τ R1 (F.step s1) _ _ k (fun ρ2 st2 H2 u2 v2 s2 R2 r2 k2 => ?_) (ex.step s1)) ex⟩
  cases u <;> cases u2 <;> first | (cases k2; done) | skip
  rename_i i j
  have r1 : v = .int i := r1
  have r2 : v2 = .int j := r2
  subst r1
  subst r2
  have k3 : (match inR i, inR j with | true, true => κ (.ok (.rng i (j - i).toNat)) st2 | _, _ => false) = true := k2
  cases q : inR i <;> cases q2 : inR j <;> rw [q, q2] at k3 <;> first | (cases k3; done) | skip
  obtain ⟨q1, q3⟩ := inR_ok q
  obtain ⟨q4, q5⟩ := inR_ok q2
  exact ⟨i, j, rfl, ⟨q1, q3, q4, q5⟩, ok ρ2 st2 H2 _ _ (s1.trans s2) R2 (rng_next i (j - i).toNat) LkOk.no k3⟩

/-! ### enumerate(list) -/
def miEnum (g : GT) (m : ME) : MI := fun σ st => bnd (m σ st) fun u st1 κ => match seqOf g st1 u with
  | some (false, _) => κ (.ok (.enum u)) st1
  | _ => false
/-- a pair just made -/
theorem pair_new {ρ : List Addr} {st : VS} {H : Hp} (R : Rep γ ρ st H) {u w : U} {x y : V} {T : Addr} (ru : RU γ ρ u x) (rw_ : RU γ ρ w y) (hT : H T = none) : ∃ ρ'', Step ρ H ρ'' (upd H T (.tup [x, y])) ∧ Rep γ ρ'' (st.new (.tup [u, w])) (upd H T (.tup [x, y])) ∧ RU γ ρ'' (.ref st.n) (.ref T) := by
  have ro : RO γ (ρ ++ [T]) (upd H T (.tup [x, y])) T (.tup [u, w]) := ⟨[x, y], upd_same, .cons ru.mono (.cons rw_.mono .nil)⟩
  obtain ⟨R', S⟩ := R.new hT (new_upd hT) ro
  refine ⟨_, S, R', T, ?_, rfl⟩
  rw [← R.len, List.getElem?_append_right (Nat.le_refl _), Nat.sub_self]; rfl
theorem enum_next {ρ : List Addr} {H : Hp} (G : GOk X.K γ g) {u : U} {a : Addr} (ru : RU γ ρ u (.ref a)) : ItOk γ g ρ H (.enum u) (Ite X.K a) := fun ρ' st' H' s R i => by
  have ru' := s.ru ru
  show ((match seqOf g st' u with | some (false, xs) => (match xs[i]? with | some x => some (some (Yl.pair (.int i) x)) | none => some none) | _ => none) = some none → _) ∧ ∀ y, (match seqOf g st' u with | some (false, xs) => (match xs[i]? with | some x => some (some (Yl.pair (.int i) x)) | none => some none) | _ => none) = some (some y) → _
  cases q : seqOf g st' u with
  | none => exact ⟨(fun h => nomatch h), (fun _ h => nomatch h)⟩
  | some bx =>
    obtain ⟨b', xs⟩ := bx
    obtain ⟨a', ys, ev, rl, h⟩ := seq_ok G R ru' q
    cases ev
    cases b' with
    | true => exact ⟨(fun h => nomatch h), (fun _ h => nomatch h)⟩
    | false =>
      show ((match xs[i]? with | some x => some (some (Yl.pair (.int i) x)) | none => some none) = some none → _) ∧ ∀ y, (match xs[i]? with | some x => some (some (Yl.pair (.int i) x)) | none => some none) = some (some y) → _
      cases e : xs[i]? with
      | none => exact ⟨fun _ => ⟨ys, h, by rw [← rl.length]; exact List.getElem?_eq_none_iff.mp e⟩, (fun _ z => nomatch z)⟩
      | some x =>
        obtain ⟨v, hv, rv⟩ := pget rl e
        refine ⟨(fun z => nomatch z), fun y z => ?_⟩
        cases z
        refine ⟨⟨ys, v, h, hv⟩, fun x' H'' ⟨T, x1, e1, e2, e3, e4⟩ => ?_⟩
        have e5 := e4 ys h
        rw [hv] at e5; cases e5
        subst e1 e3
        exact pair_new R (u := .int i) rfl rv e2
theorem si_enum {e : Expr} {p pos tpos : Pos} {elts : List Expr} {kk : Nat} {m : ME} (G : GOk X.K γ g) (hm : X.mg "enumerate" = none) (h : SE γ W X e m) (hg : Gl X "enumerate" := by rfl) (hs : starEach [e] X.env = [(false, eval e X.env)] := by rfl) :
    SI γ W g X (.Tuple elts kk tpos) (.Call (.Name "enumerate" p) [e] [] pos) (miEnum g m) := by
  obtain ⟨t, pt, s⟩ := h
  refine ⟨_, pi_enum hg hm (pa_cons pt pa_nil hs) (hs := hs), fun ρ st H σ τ R F κ Rr hm ok ex => s ρ st H σ τ R F _ _ hm (fun ρ1 st1 H1 u v s1 R1 r1 k => ?_) ex⟩
  have k2 : (match seqOf g st1 u with | some (false, _) => κ (.ok (.enum u)) st1 | _ => false) = true := k
  cases q : seqOf g st1 u with
  | none => rw [q] at k2; cases k2
  | some bx =>
    obtain ⟨b, xs⟩ := bx
    rw [q] at k2
    obtain ⟨a, ys, ev, rl, hs⟩ := seq_ok G R1 r1 q
    subst ev
    cases b with
    | true => cases k2
    | false => exact ⟨a, ys, rfl, hs, ok ρ1 st1 H1 _ _ s1 R1 (enum_next G r1) LkOk.no k2⟩

/-! ### d.items(), d.values(), d: the dict is locked while it is walked -/
def tLockR (N : Addr → Prop) (te : TE) : TE := fun σ H Q => te σ H fun x H1 => (∃ d kvs, x = .ref d ∧ H1 d = some (.dK kvs) ∧ (N d → ∀ od, Q x (upd H1 d (.frz od (.dK kvs))))) ∨ ∃ d od kvs, x = .ref d ∧ H1 d = some (.frz od (.dK kvs)) ∧ Q x H1
theorem pe_lockR {e : Expr} {te : TE} (he : PE X e te) : PE X e (tLockR (NF X) te) := by
  refine ⟨fun pins s σ H Q I h => ?_⟩
  refine thn (he.run pins s σ H _ I h) fun u s1 ⟨x, H1, I1, rx, q⟩ => ?_
  rcases q with ⟨d, kvs, ex, hd, q⟩ | ⟨d, od, kvs, ex, hd, q⟩
  · obtain ⟨od, I2⟩ := I1.lock hd trivial
    exact ⟨x, _, I2, rx, q (I1.nofrz hd trivial) od⟩
  · exact ⟨x, H1, I1, rx, q⟩
def miDict (k : Nat → Bool → Itm) (m : ME) : MI := fun σ st => bnd (m σ st) fun u st1 κ => match u with
  | .ref i => match st1.get i with
    | some (.dct false kvs) => κ (.ok (k i true)) (st1.put i (.dct true kvs))
    | some (.dct true _) => κ (.ok (k i false)) st1
    | _ => false
  | _ => false
theorem sim_dict {N : Addr → Prop} {te : TE} {J : Addr → Obj → List (Key × V) → It} {k : Nat → Bool → Itm} {m : ME} {C : (It → Hp → Prop) → VK} (hk : ∀ i lk, (k i lk).lk = bif lk then some i else none)
    (hP : ∀ (R : It → Hp → Prop) d o kvs (H1 : Hp), H1 d = some (.frz o (.dK kvs)) → R (J d o kvs) H1 → C R (.ref d) H1)
    (hJ : ∀ (ρ : List Addr) (H : Hp) (i : Nat) (lk : Bool) (d : Addr) (o : Obj) (kvs : List (Key × V)), ρ[i]? = some d → H d = some (.frz o (.dK kvs)) → ItOk γ g ρ H (k i lk) (J d o kvs))
    (s : ∀ ρ st H σ τ, Rep γ ρ st H → FrR γ ρ σ τ → SimAt γ W τ (RU γ) ρ H (te τ H) (m σ st)) : SimI γ W g N (fun σ H R => tLockR N te σ H (C R)) (miDict k m) := fun ρ st H σ τ R F κ Rr hm ok ex => by
  refine s ρ st H σ τ R F _ _ hm (fun ρ1 st1 H1 u v s1 R1 r1 kk => ?_) ex
  cases u with
  | ref i =>
    have k2 : (match st1.get i with | some (.dct false kvs) => κ (.ok (k i true)) (st1.put i (.dct true kvs)) | some (.dct true _) => κ (.ok (k i false)) st1 | _ => false) = true := kk
    cases q : st1.get i with
    | none => rw [q] at k2; cases k2
    | some o =>
      rw [q] at k2
      cases o with
      | dct lk kvs =>
        obtain ⟨a, ev, ea, ws, hh, rk⟩ := R1.get q r1
        subst ev
        cases lk with
        | false =>
          refine .inl ⟨a, ws, rfl, hh, fun hn od => ?_⟩
          have ro : RO γ ρ1 (upd H1 a (.frz od (.dK ws))) a (.dct true kvs) := ⟨ws, ⟨od, upd_same⟩, rk⟩
          have nf1 : ∀ o x, H1 a ≠ some (.frz o x) := fun o x z => by
            have hh : H1 a = some (.dK ws) := hh
            rw [hh] at z; cases z
          obtain ⟨R2, S2⟩ := R1.put (o := .dct true kvs) ea nf1 ro
          exact hP _ a od ws _ upd_same (ok ρ1 _ _ _ _ (s1.trans S2) R2 (hJ ρ1 _ i true a od ws ea upd_same) (fun j ej => by
            rw [hk] at ej; cases ej; exact ⟨a, ea, hn, fun o x z => nf1 o x (s1.frz a o x z)⟩) k2)
        | true =>
          obtain ⟨od, hh⟩ := hh
          exact .inr ⟨a, od, ws, rfl, hh, hP _ a od ws _ hh (ok ρ1 _ _ _ _ s1 R1 (hJ ρ1 _ i false a od ws ea hh) (LkOk.no (by rw [hk]; rfl)) k2)⟩
      | lst _ => cases k2
      | fl _ => cases k2
      | tup _ => cases k2
      | ins _ _ => cases k2
  | non => cases kk
  | bl _ => cases kk
  | int _ => cases kk
  | str _ => cases kk
  | glo _ => cases kk
  | ty _ => cases kk
theorem kU_ru {ρ : List Addr} (k : Key) : RU γ ρ (kU k) (kV k) := by
  cases k <;> rfl
/-- the dict that is walked, later -/
theorem dict_at {ρ : List Addr} {H : Hp} {i : Nat} {d : Addr} {o : Obj} {kvs : List (Key × V)} (ea : ρ[i]? = some d) (hd : H d = some (.frz o (.dK kvs))) {ρ' : List Addr} {st' : VS} {H' : Hp} (s : Step ρ H ρ' H') (R : Rep γ ρ' st' H') {us : List (Key × U)}
    (q : st'.get i = some (.dct true us)) : H' d = some (.frz o (.dK kvs)) ∧ RK γ ρ' us kvs := by
  have hd' := s.frz d o _ hd
  obtain ⟨a, ea', ws, ⟨o', h⟩, rk⟩ := R.obj i _ q
  obtain ⟨l, rfl⟩ := s.ext
  rw [List.getElem?_append_left (List.getElem?_eq_some_iff.mp ea).1, ea] at ea'
  cases ea'
  rw [hd'] at h
  cases h
  exact ⟨hd', rk⟩
theorem items_next (ρ : List Addr) (H : Hp) (i : Nat) (lk : Bool) (d : Addr) (o : Obj) (kvs : List (Key × V)) (ea : ρ[i]? = some d) (hd : H d = some (.frz o (.dK kvs))) : ItOk γ g ρ H (.items i lk) (Iti d o kvs) := fun ρ' st' H' s R j => by
  show ((match st'.get i with | some (.dct true kvs) => (match kvs[j]? with | some (k, x) => some (some (Yl.pair (kU k) x)) | none => some none) | _ => none) = some none → _) ∧ ∀ y, (match st'.get i with | some (.dct true kvs) => (match kvs[j]? with | some (k, x) => some (some (Yl.pair (kU k) x)) | none => some none) | _ => none) = some (some y) → _
  cases q : st'.get i with
  | none => exact ⟨(fun h => nomatch h), (fun _ h => nomatch h)⟩
  | some ob =>
    cases ob with
    | dct l us =>
      cases l with
      | false => exact ⟨(fun h => nomatch h), (fun _ h => nomatch h)⟩
      | true =>
        obtain ⟨hd', rk⟩ := dict_at ea hd s R q
        have hl : us.length = kvs.length := Paired.length rk
        show ((match us[j]? with | some (k, x) => some (some (Yl.pair (kU k) x)) | none => some none) = some none → _) ∧ ∀ y, (match us[j]? with | some (k, x) => some (some (Yl.pair (kU k) x)) | none => some none) = some (some y) → _
        cases e : us[j]? with
        | none => exact ⟨fun _ => ⟨hd', by rw [← hl]; exact List.getElem?_eq_none_iff.mp e⟩, (fun _ z => nomatch z)⟩
        | some kx =>
          obtain ⟨k, x⟩ := kx
          obtain ⟨⟨k', v⟩, hv, e1, rv⟩ := pget rk e
          have e1 : k = k' := e1
          subst e1
          refine ⟨(fun z => nomatch z), fun y z => ?_⟩
          cases z
          refine ⟨⟨hd', by rw [← hl]; exact (List.getElem?_eq_some_iff.mp e).1⟩, fun x' H'' ⟨T, k2, v2, e3, e4, e5, e6⟩ => ?_⟩
          rw [hv] at e3; cases e3
          subst e4 e6
          exact pair_new R (kU_ru k) rv e5
    | lst _ => exact ⟨(fun h => nomatch h), (fun _ h => nomatch h)⟩
    | fl _ => exact ⟨(fun h => nomatch h), (fun _ h => nomatch h)⟩
    | tup _ => exact ⟨(fun h => nomatch h), (fun _ h => nomatch h)⟩
    | ins _ _ => exact ⟨(fun h => nomatch h), (fun _ h => nomatch h)⟩
theorem keys_next (ρ : List Addr) (H : Hp) (i : Nat) (lk : Bool) (d : Addr) (o : Obj) (kvs : List (Key × V)) (ea : ρ[i]? = some d) (hd : H d = some (.frz o (.dK kvs))) : ItOk γ g ρ H (.keys i lk) (Itk d o kvs) := fun ρ' st' H' s R j => by
  show ((match st'.get i with | some (.dct true kvs) => (match kvs[j]? with | some (k, x) => some (some (Yl.one (kU k))) | none => some none) | _ => none) = some none → _) ∧ ∀ y, (match st'.get i with | some (.dct true kvs) => (match kvs[j]? with | some (k, x) => some (some (Yl.one (kU k))) | none => some none) | _ => none) = some (some y) → _
  cases q : st'.get i with
  | none => exact ⟨(fun h => nomatch h), (fun _ h => nomatch h)⟩
  | some ob =>
    cases ob with
    | dct l us =>
      cases l with
      | false => exact ⟨(fun h => nomatch h), (fun _ h => nomatch h)⟩
      | true =>
        obtain ⟨hd', rk⟩ := dict_at ea hd s R q
        have hl : us.length = kvs.length := Paired.length rk
        show ((match us[j]? with | some (k, x) => some (some (Yl.one (kU k))) | none => some none) = some none → _) ∧ ∀ y, (match us[j]? with | some (k, x) => some (some (Yl.one (kU k))) | none => some none) = some (some y) → _
        cases e : us[j]? with
        | none => exact ⟨fun _ => ⟨hd', by rw [← hl]; exact List.getElem?_eq_none_iff.mp e⟩, (fun _ z => nomatch z)⟩
        | some kx =>
          obtain ⟨k, x⟩ := kx
          obtain ⟨⟨k', v⟩, hv, e1, rv⟩ := pget rk e
          have e1 : k = k' := e1
          subst e1
          refine ⟨(fun z => nomatch z), fun y z => ?_⟩
          cases z
          refine ⟨⟨hd', by rw [← hl]; exact (List.getElem?_eq_some_iff.mp e).1⟩, fun x' H'' ⟨e2, k2, v2, e3, e4⟩ => ?_⟩
          rw [hv] at e3; cases e3
          subst e2 e4
          exact ⟨ρ', Step.refl _ _, R, kU_ru k⟩
    | lst _ => exact ⟨(fun h => nomatch h), (fun _ h => nomatch h)⟩
    | fl _ => exact ⟨(fun h => nomatch h), (fun _ h => nomatch h)⟩
    | tup _ => exact ⟨(fun h => nomatch h), (fun _ h => nomatch h)⟩
    | ins _ _ => exact ⟨(fun h => nomatch h), (fun _ h => nomatch h)⟩
theorem vals_next (ρ : List Addr) (H : Hp) (i : Nat) (lk : Bool) (d : Addr) (o : Obj) (kvs : List (Key × V)) (ea : ρ[i]? = some d) (hd : H d = some (.frz o (.dK kvs))) : ItOk γ g ρ H (.vals i lk) (Itd d o kvs) := fun ρ' st' H' s R j => by
  show ((match st'.get i with | some (.dct true kvs) => (match kvs[j]? with | some (k, x) => some (some (Yl.one x)) | none => some none) | _ => none) = some none → _) ∧ ∀ y, (match st'.get i with | some (.dct true kvs) => (match kvs[j]? with | some (k, x) => some (some (Yl.one x)) | none => some none) | _ => none) = some (some y) → _
  cases q : st'.get i with
  | none => exact ⟨(fun h => nomatch h), (fun _ h => nomatch h)⟩
  | some ob =>
    cases ob with
    | dct l us =>
      cases l with
      | false => exact ⟨(fun h => nomatch h), (fun _ h => nomatch h)⟩
      | true =>
        obtain ⟨hd', rk⟩ := dict_at ea hd s R q
        have hl : us.length = kvs.length := Paired.length rk
        show ((match us[j]? with | some (k, x) => some (some (Yl.one x)) | none => some none) = some none → _) ∧ ∀ y, (match us[j]? with | some (k, x) => some (some (Yl.one x)) | none => some none) = some (some y) → _
        cases e : us[j]? with
        | none => exact ⟨fun _ => ⟨hd', by rw [← hl]; exact List.getElem?_eq_none_iff.mp e⟩, (fun _ z => nomatch z)⟩
        | some kx =>
          obtain ⟨k, x⟩ := kx
          obtain ⟨⟨k', v⟩, hv, e1, rv⟩ := pget rk e
          refine ⟨(fun z => nomatch z), fun y z => ?_⟩
          cases z
          refine ⟨⟨hd', by rw [← hl]; exact (List.getElem?_eq_some_iff.mp e).1⟩, fun x' H'' ⟨e2, k2, e3⟩ => ?_⟩
          rw [hv] at e3; cases e3
          subst e2
          exact ⟨ρ', Step.refl _ _, R, rv⟩
    | lst _ => exact ⟨(fun h => nomatch h), (fun _ h => nomatch h)⟩
    | fl _ => exact ⟨(fun h => nomatch h), (fun _ h => nomatch h)⟩
    | tup _ => exact ⟨(fun h => nomatch h), (fun _ h => nomatch h)⟩
    | ins _ _ => exact ⟨(fun h => nomatch h), (fun _ h => nomatch h)⟩
theorem si_items {e : Expr} {apos cpos tpos : Pos} {elts : List Expr} {kk : Nat} {m : ME} (h : SE γ W X e m) (hb : attributeBase e "items" X.env (eval e X.env) = eval e X.env := by rfl) (hl : (apos.endLine == cpos.line) = true := by rfl) :
    SI γ W g X (.Tuple elts kk tpos) (.Call (.Attribute e "items" apos) [] [] cpos) (miDict .items m) := by
  obtain ⟨t, p, s⟩ := h
  exact ⟨_, pi_items (pe_lockR p) hb hl, sim_dict (fun i lk => by cases lk <;> rfl) (fun R d o kvs H1 h q => ⟨d, o, kvs, rfl, h, q⟩) items_next s⟩
theorem si_vals {tg e : Expr} {apos cpos : Pos} {m : ME} (h : SE γ W X e m) (hb : attributeBase e "values" X.env (eval e X.env) = eval e X.env := by rfl) (hl : (apos.endLine == cpos.line) = true := by rfl) :
    SI γ W g X tg (.Call (.Attribute e "values" apos) [] [] cpos) (miDict .vals m) := by
  obtain ⟨t, p, s⟩ := h
  exact ⟨_, pi_values (pe_lockR p) hb hl, sim_dict (fun i lk => by cases lk <;> rfl) (fun R d o kvs H1 h q => ⟨d, o, kvs, rfl, h, q⟩) vals_next s⟩
theorem si_keys {tg e : Expr} {m : ME} (h : SE γ W X e m) : SI γ W g X tg e (miDict .keys m) := by
  obtain ⟨t, p, s⟩ := h
  exact ⟨_, pi_keys (pe_lockR p), sim_dict (fun i lk => by cases lk <;> rfl) (fun R d o kvs H1 h q => ⟨d, o, rfl, .inl ⟨kvs, h, q⟩⟩) keys_next s⟩
/-- a text's signs -/
def miStr (m : ME) : MI := fun σ st => bnd (m σ st) fun u st1 κ => match u with
  | .str x => κ (.ok (.chars x)) st1
  | _ => false
theorem str_next {ρ : List Addr} {H : Hp} (x : Str) : ItOk γ g ρ H (.chars x) (Its x) := fun ρ' st' H' s R i => by
  show ((match x.cps.toList[i]? with | some c => some (some (Yl.one (.str ⟨#[c]⟩))) | none => some none) = some none → _) ∧ ∀ y, (match x.cps.toList[i]? with | some c => some (some (Yl.one (.str ⟨#[c]⟩))) | none => some none) = some (some y) → _
  cases e : x.cps.toList[i]? with
  | none =>
    refine ⟨fun _ => ?_, (fun _ z => nomatch z)⟩
    have := List.getElem?_eq_none_iff.mp e
    first | exact this | (rw [Array.length_toList] at this; exact this)
  | some c =>
    refine ⟨(fun z => nomatch z), fun y z => ?_⟩
    cases z
    have hc := (List.getElem?_eq_some_iff.mp e).1
    have e2 : x.cps[i]? = some c := by simpa using e
    refine ⟨by first | exact hc | (rw [Array.length_toList] at hc; exact hc), fun x' H'' h => ?_⟩
    obtain ⟨e3, c', e4, e5⟩ := h
    subst e3
    have e6 : c = c' := Option.some.inj (e2.symm.trans e4)
    subst e6
    exact ⟨ρ', Step.refl _ _, R, e5⟩
theorem si_str {tg e : Expr} {m : ME} (h : SE γ W X e m) : SI γ W g X tg e (miStr m) := by
  obtain ⟨t, p, s⟩ := h
  refine ⟨_, pi_str p, fun ρ st H σ τ R F κ Rr hm ok ex => s ρ st H σ τ R F _ _ hm (fun ρ1 st1 H1 u v s1 R1 r1 k => ?_) ex⟩
  cases u with
  | str x => exact ⟨x, r1, ok ρ1 st1 H1 _ _ s1 R1 (str_next x) LkOk.no k⟩
  | non => cases k
  | bl _ => cases k
  | int _ => cases k
  | ref _ => cases k
  | glo _ => cases k
  | ty _ => cases k
/-- a list, a tuple, a dict by its keys, a text -/
def miAny (g : GT) (m : ME) : MI := mOr (miSeq g m) (mOr (miDict .keys m) (miStr m))
theorem si_any {tg e : Expr} {m : ME} (G : GOk X.K γ g) (h : SE γ W X e m) : SI γ W g X tg e (miAny g m) := si_or (si_seq G h) (si_or (si_keys h) (si_str h))

/-! ### at a walk's end the dict is unlocked -/
def unl (it : Itm) (st : VS) : Option VS := match it.lk with
  | none => some st
  | some i => match st.get i with
    | some (.dct true kvs) => some (st.put i (.dct false kvs))
    | _ => none
def UN (N : Addr → Prop) (P : Hp → Prop) (H : Hp) : Prop := P H ∨ ∃ d od u, N d ∧ H d = some (.frz od u) ∧ P (upd H d u)
theorem UN.inv {P : Hp → Prop} {pins : List (Addr × Obj)} {σ : St} {H : Hp} {s : Shared} (I : Inv X pins σ H s) (h : UN (NF X) P H) : ∃ H', Inv X pins σ H' s ∧ P H' := by
  rcases h with h | ⟨d, od, u, hn, hd, h⟩
  · exact ⟨H, I, h⟩
  · exact ⟨_, I.unlock hd hn, h⟩
def UD (N : Addr → Prop) (D : Ends) : Ends := ⟨fun σ => UN N (D.nx σ), fun v => UN N (D.rt v), fun σ => UN N (D.bk σ), fun σ => UN N (D.ct σ)⟩
theorem ps_unl {st : Stmt} {t : TS} (h : PS X st t) : PS X st (fun D σ H => t (UD (NF X) D) σ H) := by
  refine ⟨fun pins s σ H D I hw => thn (h.run pins s σ H _ I hw) fun f s1 q => ?_⟩
  cases f with
  | next => obtain ⟨σ', H', I2, q⟩ := q; obtain ⟨H2, I3, q⟩ := UN.inv I2 q; exact ⟨σ', _, I3, q⟩
  | brk => obtain ⟨σ', H', I2, q⟩ := q; obtain ⟨H2, I3, q⟩ := UN.inv I2 q; exact ⟨σ', _, I3, q⟩
  | cont => obtain ⟨σ', H', I2, q⟩ := q; obtain ⟨H2, I3, q⟩ := UN.inv I2 q; exact ⟨σ', _, I3, q⟩
  | ret v => obtain ⟨x, σ', H', I2, r, q⟩ := q; obtain ⟨H2, I3, q⟩ := UN.inv I2 q; exact ⟨x, σ', _, I3, r, q⟩
theorem pe_unl {e : Expr} {t : TE} (h : PE X e t) : PE X e (fun σ H Q => t σ H fun v => UN (NF X) (Q v)) := by
  refine ⟨fun pins s σ H Q I hw => thn (h.run pins s σ H _ I hw) fun v s1 ⟨x, H', I2, r, q⟩ => ?_⟩
  obtain ⟨H2, I3, q⟩ := UN.inv I2 q
  exact ⟨x, H2, I3, r, q⟩
/-- the end of a walk -/
theorem unl_ok {N : Addr → Prop} {H0 H : Hp} {ρ0 ρ : List Addr} {st st' : VS} {it : Itm} {P : Hp → Prop} (S : Step ρ0 H0 ρ H) (R : Rep γ ρ st H) (L : LkOk N H0 ρ it) (e : unl it st = some st') (h : ∀ H', Step ρ0 H0 ρ H' → Rep γ ρ st' H' → P H') : UN N P H := by
  unfold unl at e
  cases q : it.lk with
  | none => rw [q] at e; cases e; exact .inl (h H S R)
  | some i =>
    rw [q] at e
    have e2 : (match st.get i with | some (.dct true kvs) => some (st.put i (.dct false kvs)) | _ => none) = some st' := e
    obtain ⟨a, ea, hn, nf⟩ := L i q
    cases q2 : st.get i with
    | none => rw [q2] at e2; cases e2
    | some o =>
      rw [q2] at e2
      cases o with
      | dct lk kvs =>
        cases lk with
        | true =>
          cases e2
          obtain ⟨b, eb, ws, ⟨od, hh⟩, rk⟩ := R.obj i _ q2
          rw [ea] at eb; cases eb
          have ro : RO γ ρ (upd H a (.dK ws)) a (.dct false kvs) := ⟨ws, upd_same, rk⟩
          exact .inr ⟨a, od, .dK ws, hn, hh, h _ (S.unlock (List.mem_of_getElem? ea) nf) (R.unlock ea ro)⟩
        | false => cases e2
      | lst _ => cases e2
      | fl _ => cases e2
      | tup _ => cases e2
      | ins _ _ => cases e2

/-! ### for -/
def finK (it : Itm) (κ : Out → Fr → VS → Bool) (o : Out) (σ : Fr) (st : VS) : Bool := match unl it st with
  | some st' => κ o σ st'
  | none => false
def loopU (it : Itm) (κ : Out → Fr → VS → Bool) (nxt : Fr → VS → Bool) : Out → Fr → VS → Bool := fun o σ st => match o with
  | .nx => nxt σ st
  | .ct => nxt σ st
  | .bk => finK it κ .nx σ st
  | .rt u => finK it κ (.rt u) σ st
  | .ex x => κ (.ex x) σ st
def fLoop (g : GT) (it : Itm) (mg : MG) (b : MS) : Nat → Nat → MS
  | 0, _, _, _ => fun _ => false
  | n + 1, i, σ, st => fun κ => match it.next g st i with
    | none => false
    | some none => finK it κ .nx σ st
    | some (some y) => mg (y.u st) σ (y.st st) fun σ1 st1 => b σ1 st1 (loopU it κ fun σ2 st2 => fLoop g it mg b n (i + 1) σ2 st2 κ)
def mFor (g : GT) (n : Nat) (mi : MI) (mg : MG) (b : MS) : MS := fun σ st κ => mi σ st (onE κ σ fun it st1 => fLoop g it mg b n 0 σ st1 κ)
theorem ss_for {tg iter : Expr} {body : List Stmt} {pos : Pos} {sl : List Nat} {mi : MI} {mg : MG} {m : MS} (n : Nat) (hp : PassesOwn (model X.prog X.w) X.A X.env X.xe) (hc : X.calm = true) (hi : SI γ W g X tg iter mi) (hg : SG γ X sl tg mg) (hb : SSs γ W X body m)
    (hs : ∀ x, foldedSetIterable iter X.env x = pure x := by intro _; rfl) : SS γ W X (.For tg iter body [] pos) (mFor g n mi mg m) := by
  obtain ⟨ti, pi, si⟩ := hi
  obtain ⟨tg', pg, sg⟩ := hg
  obtain ⟨t, p, s⟩ := hb
  refine ⟨_, ps_unl (ps_for hp hc pi pg p hs), fun ρ st H σ τ R F κ D hm ok => si ρ st H σ τ R F _ _ hm (fun ρ1 st1 H1 it J s1 R1 iok lok k1 => ?_) (ok.exK F)⟩
  refine ⟨fun i k τ' H' => ∃ ρ' st' σ', Step ρ H ρ' H' ∧ Step ρ1 H1 ρ' H' ∧ Rep γ ρ' st' H' ∧ FrR γ ρ' σ' τ' ∧ fLoop g it mg m k i σ' st' κ = true, ⟨n, ρ1, st1, σ, s1, Step.refl _ _, R1, F.step s1, k1⟩, fun i k τ' H' ⟨ρ', st', σ', S, S1, R', F', hk⟩ => ?_⟩
  cases k with
  | zero => cases hk
  | succ k =>
    obtain ⟨stop, go⟩ := iok ρ' st' H' S1 R' i
    have hk2 : (match it.next g st' i with | none => false | some none => finK it κ .nx σ' st' | some (some y) => mg (y.u st') σ' (y.st st') fun σ1 st1 => m σ1 st1 (loopU it κ fun σ2 st2 => fLoop g it mg m k (i + 1) σ2 st2 κ)) = true := hk
    -- the ends
    have fin : ∀ {ρ2 : List Addr} {st2 : VS} {H2 : Hp} {o : Out} {σ2 : Fr} {P : Hp → Prop}, Step ρ H ρ2 H2 → Step ρ1 H1 ρ2 H2 → Rep γ ρ2 st2 H2 → finK it κ o σ2 st2 = true → (∀ st3 H3, Step ρ H ρ2 H3 → Rep γ ρ2 st3 H3 → κ o σ2 st3 = true → P H3) → UN (NF X) P H2 := fun {ρ2 st2 H2 o σ2 P} S2 S12 R2 e h => by
      unfold finK at e
      cases q : unl it st2 with
      | none => rw [q] at e; cases e
      | some st3 => rw [q] at e; exact unl_ok S2 R2 (lok.step S12) q fun H3 S3 R3 => h st3 H3 S3 R3 e
    cases q : it.next g st' i with
    | none => rw [q] at hk2; cases hk2
    | some oy =>
      rw [q] at hk2
      cases oy with
      | none => exact .inl ⟨stop q, fin S S1 R' hk2 fun st3 H3 S3 R3 e => ok.nx ρ' st3 H3 σ' τ' S3 R3 ⟨F'.len, F'.at_⟩ e⟩
      | some y =>
        obtain ⟨hgo, hy⟩ := go y q
        refine .inr ⟨hgo, fun τ2 H2 => ∃ ρ2 st2 σ2, Step ρ H ρ2 H2 ∧ Step ρ1 H1 ρ2 H2 ∧ Rep γ ρ2 st2 H2 ∧ FrR γ ρ2 σ2 τ2 ∧ fLoop g it mg m k (i + 1) σ2 st2 κ = true, fun τ2 H2 z => ⟨k, Nat.lt_succ_self k, z⟩, fun x H'' hyl => ?_⟩
        obtain ⟨ρ2, S2, R2, r2⟩ := hy x H'' hyl
        refine sg ρ2 _ H'' σ' τ' _ _ R2 (F'.step S2) r2 _ _ hk2 fun ρ3 st3 H3 σ3 τ3 S3 R3 F3 _ k3 => s ρ3 st3 H3 σ3 τ3 R3 F3 _ _ k3 ?_
        have SS := S.trans (S2.trans S3)
        have SS1 := S1.trans (S2.trans S3)
        exact ⟨fun ρ4 st4 H4 σ4 τ4 S4 R4 F4 k4 => ⟨ρ4, st4, σ4, SS.trans S4, SS1.trans S4, R4, F4, k4⟩, fun ρ4 st4 H4 σ4 τ4 S4 R4 F4 k4 => fin (SS.trans S4) (SS1.trans S4) R4 k4 fun st5 H5 S5 R5 e => ok.nx ρ4 st5 H5 σ4 τ4 S5 R5 F4 e,
          fun ρ4 st4 H4 σ4 τ4 S4 R4 F4 k4 => ⟨ρ4, st4, σ4, SS.trans S4, SS1.trans S4, R4, F4, k4⟩, fun ρ4 st4 H4 σ4 u v S4 R4 r4 k4 => fin (SS.trans S4) (SS1.trans S4) R4 k4 fun st5 H5 S5 R5 e => ok.rt ρ4 st5 H5 σ4 u v S5 R5 r4 e,
          fun ρ4 st4 H4 σ4 τ4 x cl d S4 R4 F4 r4 k4 => ok.ex ρ4 st4 H4 σ4 τ4 x cl d (SS.trans S4) R4 F4 r4 k4⟩

/-! ### a list comprehension -/
def wipeU (σ : Fr) : List Nat → Fr
  | [] => σ
  | v :: vs => (wipeU σ vs).set v none
theorem FrR.wiped {ρ : List Addr} {σ : Fr} {τ : St} (F : FrR γ ρ σ τ) : ∀ vs : List Nat, FrR γ ρ (wipeU σ vs) (wipe τ vs)
  | [] => F
  | v :: vs => by
    have h := FrR.wiped F vs
    refine ⟨by show ((wipeU σ vs).set v none).length = ((wipe τ vs).set v none).length; rw [List.length_set, List.length_set]; exact h.len, fun j u e => ?_⟩
    have e2 : ((wipeU σ vs).set v none)[j]? = some (some u) := e
    by_cases q : v = j
    · subst q
      rw [List.getElem?_set] at e2
      simp at e2
    · rw [List.getElem?_set_ne q] at e2
      obtain ⟨x, e1, r1⟩ := h.at_ j u e2
      exact ⟨x, by show ((wipe τ vs).set v none)[j]? = _; rw [List.getElem?_set_ne q]; exact e1, r1⟩
theorem wipe_get (τ : St) (j : Nat) : ∀ vs : List Nat, (wipe τ vs)[j]? = if j ∈ vs ∧ j < τ.length then some none else τ[j]?
  | [] => by simp [wipe]
  | v :: vs => by
    have ih := wipe_get τ j vs
    show ((wipe τ vs).set v none)[j]? = _
    by_cases q : v = j
    · subst q
      by_cases l : v < τ.length
      · rw [List.getElem?_set_self (by rw [wipe_length]; exact l), if_pos ⟨List.mem_cons_self, l⟩]
      · rw [List.getElem?_eq_none (by rw [List.length_set, wipe_length]; omega), if_neg (fun z => l z.2), List.getElem?_eq_none (by omega)]
    · rw [List.getElem?_set_ne q, ih]
      have : (j ∈ vs ∧ j < τ.length) ↔ (j ∈ v :: vs ∧ j < τ.length) := by
        rw [List.mem_cons]
        constructor
        · exact fun h => ⟨.inr h.1, h.2⟩
        · exact fun h => ⟨h.1.resolve_left (fun z => q z.symm), h.2⟩
      by_cases z : j ∈ vs ∧ j < τ.length
      · rw [if_pos z, if_pos (this.mp z)]
      · rw [if_neg z, if_neg (fun y => z (this.mpr y))]
theorem wipe_same {τ τ' : St} {sl vs : List Nat} (h : Same sl (wipe τ vs) τ') (hs : ∀ j ∈ sl, j ∈ vs) : wipe τ' vs = wipe τ vs := by
  have hl : τ'.length = τ.length := by rw [h.1, wipe_length]
  refine List.ext_getElem? fun j => ?_
  rw [wipe_get, wipe_get, hl]
  by_cases z : j ∈ vs ∧ j < τ.length
  · rw [if_pos z, if_pos z]
  · rw [if_neg z, if_neg z]
    by_cases y : j ∈ vs
    · rw [List.getElem?_eq_none (by rw [hl]; exact Nat.le_of_not_lt fun q => z ⟨y, q⟩), List.getElem?_eq_none (Nat.le_of_not_lt fun q => z ⟨y, q⟩)]
    · rw [h.2 j (fun q => y (hs j q)), wipe_get, if_neg z]
/-- no exception leaves it -/
def noX {α : Type} (f : α → VS → Bool) : Rs α → VS → Bool := fun r st => match r with
  | .ok u => f u st
  | .ex _ => false
def W0 : WX := fun _ _ _ _ => False
theorem noX_ex {W : WX} {τ : St} {ρ : List Addr} {H : Hp} {α : Type} {f : α → VS → Bool} : ExK γ W τ ρ H (noX f) := fun _ _ _ _ _ _ _ _ _ k => nomatch k
def finE (it : Itm) (κ : Rs U → VS → Bool) (u : U) (st : VS) : Bool := match unl it st with
  | some st' => κ (.ok u) st'
  | none => false
def cLoop (g : GT) (it : Itm) (mg : MG) (mt : MT) (me : ME) (σw : Fr) (d : Nat) : Nat → Nat → VS → (Rs U → VS → Bool) → Bool
  | 0, _, _ => fun _ => false
  | n + 1, i, st => fun κ => match it.next g st i with
    | none => false
    | some none => finE it κ (.ref d) st
    | some (some y) => mg (y.u st) σw (y.st st) fun σ1 st1 => mt σ1 st1 (noX fun b st2 => match b with
      | false => cLoop g it mg mt me σw d n (i + 1) st2 κ
      | true => me σ1 st2 (noX fun u st3 => match st3.get d with
        | some (.lst acc) => match Nat.blt acc.length line with
          | true => cLoop g it mg mt me σw d n (i + 1) (st3.put d (.lst (acc ++ [u]))) κ
          | false => false
        | _ => false))
def mLc (g : GT) (n : Nat) (vs : List Nat) (mi : MI) (mg : MG) (mt : MT) (me : ME) : ME := fun σ st => bnd (mi σ st) fun it st1 κ => cLoop g it mg mt me (wipeU σ vs) st1.n n 0 (st1.new (.lst [])) κ
def mYes : MT := fun _ st => ret true st
theorem sim_lc {sl vs : List Nat} {N : Addr → Prop} {wi : TI} {mi : MI} {mg : MG} {mt : MT} {me : ME} (n : Nat) (si : SimI γ W g N wi mi) (hsl : ∀ j ∈ sl, j ∈ vs) (ρ st H σ τ) (R : Rep γ ρ st H) (F : FrR γ ρ σ τ) :
    SimAt γ W τ (RU γ) ρ H (fun Q => tLc wi (tMg γ sl mg) (tMt γ W0 mt) (tM γ W0 me) vs τ H fun v => UN N (Q v)) (mLc g n vs mi mg mt me σ st) := fun κ Q hm ok ex => si ρ st H σ τ R F _ _ hm (fun ρ1 st1 H1 it J s1 R1 iok lok k1 D hD => by
  have ro : RO γ (ρ1 ++ [D]) (upd H1 D (.lst [])) D (.lst []) := ⟨[], upd_same, .nil⟩
  obtain ⟨R2, S2⟩ := R1.new hD (new_upd hD) ro
  have eD : (ρ1 ++ [D])[st1.n]? = some D := by rw [← R1.len, List.getElem?_append_right (Nat.le_refl _), Nat.sub_self]; rfl
  refine ⟨fun i k H' => ∃ ρ' st', Step (ρ1 ++ [D]) (upd H1 D (.lst [])) ρ' H' ∧ Rep γ ρ' st' H' ∧ cLoop g it mg mt me (wipeU σ vs) st1.n k i st' κ = true, ⟨n, ρ1 ++ [D], _, Step.refl _ _, R2, k1⟩, fun i k H' ⟨ρ', st', S', R', hk⟩ => ?_⟩
  have S1 : Step ρ1 H1 ρ' H' := S2.trans S'
  have S0 : Step ρ H ρ' H' := s1.trans S1
  cases k with
  | zero => cases hk
  | succ k =>
    obtain ⟨stop, go⟩ := iok ρ' st' H' S1 R' i
    have hk2 : (match it.next g st' i with
      | none => false
      | some none => finE it κ (.ref st1.n) st'
      | some (some y) => mg (y.u st') (wipeU σ vs) (y.st st') fun σ1 st3 => mt σ1 st3 (noX fun b st2 => match b with
        | false => cLoop g it mg mt me (wipeU σ vs) st1.n k (i + 1) st2 κ
        | true => me σ1 st2 (noX fun u st3 => match st3.get st1.n with
          | some (.lst acc) => match Nat.blt acc.length line with
            | true => cLoop g it mg mt me (wipeU σ vs) st1.n k (i + 1) (st3.put st1.n (.lst (acc ++ [u]))) κ
            | false => false
          | _ => false))) = true := hk
    have eD' : ρ'[st1.n]? = some D := by
      obtain ⟨l, e⟩ := S'.ext
      rw [e, List.getElem?_append_left (List.getElem?_eq_some_iff.mp eD).1]; exact eD
    cases q : it.next g st' i with
    | none => rw [q] at hk2; cases hk2
    | some oy =>
      rw [q] at hk2
      cases oy with
      | none =>
        refine .inl ⟨stop q, ?_⟩
        have e : finE it κ (.ref st1.n) st' = true := hk2
        unfold finE at e
        cases q2 : unl it st' with
        | none => rw [q2] at e; cases e
        | some st3 =>
          rw [q2] at e
          have rD : RU γ ρ' (.ref st1.n) (.ref D) := ⟨D, eD', rfl⟩
          exact unl_ok S0 R' (lok.step S1) q2 fun H3 S3 R3 => ok ρ' st3 H3 _ _ S3 R3 rD e
      | some y =>
        obtain ⟨hgo, hy⟩ := go y q
        refine .inr ⟨hgo, fun H2 => ∃ ρ2 st2, Step (ρ1 ++ [D]) (upd H1 D (.lst [])) ρ2 H2 ∧ Rep γ ρ2 st2 H2 ∧ cLoop g it mg mt me (wipeU σ vs) st1.n k (i + 1) st2 κ = true, fun H2 z => ⟨k, Nat.lt_succ_self k, z⟩, fun x H'' hyl => ?_⟩
        obtain ⟨ρ2, S2', R2', r2⟩ := hy x H'' hyl
        refine ⟨ρ2, _, _, _, _, R2', (F.wiped vs).step (S0.trans S2'), r2, hk2, fun ρ3 st3 H3 σ3 τ3 S3 R3 F3 sm k3 => ⟨wipe_same sm hsl, ρ3, st3, σ3, _, R3, F3, k3, fun ρ4 st4 H4 b b' S4 R4 eb k4 => ?_, noX_ex⟩⟩
        have eb : b = b' := eb
        subst eb
        have SA := S'.trans (S2'.trans (S3.trans S4))
        cases b with
        | false => exact iteF ⟨ρ4, st4, SA, R4, k4⟩
        | true =>
          refine iteT ?_
          refine ⟨ρ4, st4, σ3, _, R4, F3.step S4, k4, fun ρ5 st5 H5 u v S5 R5 r5 k5 => ?_, noX_ex⟩
          have k6 : (match st5.get st1.n with
            | some (.lst acc) => (match Nat.blt acc.length line with
              | true => cLoop g it mg mt me (wipeU σ vs) st1.n k (i + 1) (st5.put st1.n (.lst (acc ++ [u]))) κ
              | false => false)
            | _ => false) = true := k5
          have SB := SA.trans S5
          have eD5 : ρ5[st1.n]? = some D := by
            obtain ⟨l, e⟩ := SB.ext
            rw [e, List.getElem?_append_left (List.getElem?_eq_some_iff.mp eD).1]; exact eD
          cases q5 : st5.get st1.n with
          | none => rw [q5] at k6; cases k6
          | some o =>
            rw [q5] at k6
            cases o with
            | lst acc =>
              have k7 : (match Nat.blt acc.length line with
                | true => cLoop g it mg mt me (wipeU σ vs) st1.n k (i + 1) (st5.put st1.n (.lst (acc ++ [u]))) κ
                | false => false) = true := k6
              cases q6 : Nat.blt acc.length line with
              | false => rw [q6] at k7; cases k7
              | true =>
                rw [q6] at k7
                obtain ⟨a, ea, ys, hh, rl⟩ := R5.obj _ _ q5
                rw [eD5] at ea; cases ea
                have ro : RO γ ρ5 (upd H5 D (.lst (ys ++ [v]))) D (.lst (acc ++ [u])) := ⟨_, upd_same, Paired.snoc rl r5⟩
                obtain ⟨R6, S6⟩ := R5.put (o := .lst (acc ++ [u])) eD5 (by rw [hh]; intro _ _ z; cases z) ro
                exact ⟨ys, hh, by rw [← rl.length]; exact line_lt q6, ρ5, _, SB.trans S6, R6, k7⟩
            | fl _ => cases k6
            | tup _ => cases k6
            | dct _ _ => cases k6
            | ins _ _ => cases k6) ex
end
end MV

namespace MV
open PySem PySem.Spec PyProof.Rows L2

/-! ### list comprehensions as expressions -/
section
variable {γ : Nat → Addr} {W : WX} {X : Cx} {g : GT}
theorem pts_nilM : PTs X [] (tMt γ W0 mYes) := ⟨fun pins s τ H Q I ⟨ρ, st, σ, κ, R, F, hm, ok, _⟩ => (pts_nil (X := X)).run pins s τ H Q I (ok.here (v := true) R rfl hm)⟩
theorem ST.pts1 {c : Expr} {m : MT} (h : ST γ W0 X c m) : PTs X [c] (tMt γ W0 m) := pts_one h.pt
theorem se_lc {elt tg iter : Expr} {ifs : List Expr} {scope : Scope} {own : List (Str × Nat)} {pos : Pos} {sl : List Nat} {mi : MI} {mg : MG} {mt : MT} {me : ME} (n : Nat) (hc : X.calm = true) (hN : X.N.Nodup) (hi : SI γ W g X tg iter mi) (ok : BlkOk X.N X.env.scope scope own)
    (hg : ∀ (s : Shared) (H : Hp) (C : Addr) (cl : List (Str × Addr)) (fp : List Addr), SG γ (X.blk s H scope (compEnvC scope cl C X.env) fp) sl tg mg) (ht : ∀ (s : Shared) (H : Hp) (C : Addr) (cl : List (Str × Addr)) (fp : List Addr), PTs (X.blk s H scope (compEnvC scope cl C X.env) fp) ifs (tMt γ W0 mt))
    (he : ∀ (s : Shared) (H : Hp) (C : Addr) (cl : List (Str × Addr)) (fp : List Addr), SE γ W0 (X.blk s H scope (compEnvC scope cl C X.env) fp) elt me) (hsl : ∀ j ∈ sl, j ∈ own.map (·.2) := by decide) (hs : ∀ x, foldedSetIterable iter X.env x = pure x := by intro _; rfl) :
    SE γ W X (.ListComp elt [⟨tg, iter, ifs, 0⟩] scope pos) (mLc g n (own.map (·.2)) mi mg mt me) := by
  obtain ⟨ti, pi, si⟩ := hi
  exact ⟨_, pe_unl (pe_lc hc hN pi ok (fun s H C cl fp => (hg s H C cl fp).pg) ht (fun s H C cl fp => (he s H C cl fp).pe) hs), fun ρ st H σ τ R F => sim_lc n si hsl ρ st H σ τ R F⟩
theorem ss_setLc {i : Nat} {y : Str} {py : Pos} {elt tg iter : Expr} {ifs : List Expr} {scope : Scope} {own : List (Str × Nat)} {pos spos : Pos} {sl : List Nat} {mi : MI} {mg : MG} {mt : MT} {me : ME} (n : Nat) (hc : X.calm = true) (hN : X.N.Nodup) (hi : SI γ W g X tg iter mi) (ok : BlkOk X.N X.env.scope scope own)
    (hg : ∀ (s : Shared) (H : Hp) (C : Addr) (cl : List (Str × Addr)) (fp : List Addr), SG γ (X.blk s H scope (compEnvC scope cl C X.env) fp) sl tg mg) (ht : ∀ (s : Shared) (H : Hp) (C : Addr) (cl : List (Str × Addr)) (fp : List Addr), PTs (X.blk s H scope (compEnvC scope cl C X.env) fp) ifs (tMt γ W0 mt))
    (he : ∀ (s : Shared) (H : Hp) (C : Addr) (cl : List (Str × Addr)) (fp : List Addr), SE γ W0 (X.blk s H scope (compEnvC scope cl C X.env) fp) elt me) (hy : X.N[i]? = some y := by rfl) (hyl : X.env.scope.names.lookup y = some .local := by rfl)
    (hsw : swapsWith (.ListComp elt [⟨tg, iter, ifs, 0⟩] scope pos) (some (.Name y py)) spos.line X.env = pure true := by exact sw_true rfl rfl rfl (by decide +kernel)) (hsl : ∀ j ∈ sl, j ∈ own.map (·.2) := by decide) (hs : ∀ x, foldedSetIterable iter X.env x = pure x := by intro _; rfl) :
    SS γ W X (.Assign [.Name y py] (.ListComp elt [⟨tg, iter, ifs, 0⟩] scope pos) spos) (mAsg (mLc g n (own.map (·.2)) mi mg mt me) (mgName i)) := by
  obtain ⟨ti, pi, si⟩ := hi
  refine ⟨_, ps_unl (ps_setLc hc hN hy hyl hsw pi ok (fun s H C cl fp => (hg s H C cl fp).pg) ht (fun s H C cl fp => (he s H C cl fp).pe) hs), fun ρ st H σ τ R F κ D hm ok => ?_⟩
  exact sim_lc n si hsl ρ st H σ τ R F _ (fun v H1 => D.nx (τ.set i (some v)) H1) hm (fun ρ1 st1 H1 u v s1 R1 r1 k => ok.nx ρ1 st1 H1 _ _ s1 R1 ((F.step s1).set i r1) k) (ok.exK F)

/-! ### what a def promises: its run -/
def SpM (γ : Nat → Addr) (n : Nat) (mf : MF) : Sp := fun vs H Q E => vs.length = n ∧ ∃ ρ st us κ, Rep γ ρ st H ∧ RL γ ρ us vs ∧ mf us st (noX κ) = true ∧ OkK γ (RU γ) ρ H (noX κ) Q
def callM (mf : MF) (n : Nat) (us : List U) (st : VS) : Go U := fun κ => match Nat.beq us.length n with
  | true => mf us st (noX fun u st' => κ (.ok u) st')
  | false => false
theorem sim_call {ρ : List Addr} {st : VS} {H : Hp} {τ : L2.St} {n : Nat} {mf : MF} {us : List U} {vs : List V} (R : Rep γ ρ st H) (r : RL γ ρ us vs) : SimAt γ W τ (RU γ) ρ H (fun Q => SpM γ n mf vs H Q E0) (callM mf n us st) := fun κ Q hm ok _ => by
  have hm2 : (match Nat.beq us.length n with | true => mf us st (noX fun u st' => κ (.ok u) st') | false => false) = true := hm
  cases q : Nat.beq us.length n with
  | false => rw [q] at hm2; cases hm2
  | true =>
    rw [q] at hm2
    exact ⟨r.length.symm.trans (Nat.eq_of_beq_eq_true q), ρ, st, us, _, R, r, hm2, fun ρ' st' H' u v s R' r' k => ok ρ' st' H' u v s R' r' k⟩
/-- the slots at a def's entry -/
def mDef (np nl : Nat) (m : MS) : MF := fun us st κ => match Nat.beq us.length np with
  | true => m (us.map some ++ List.replicate nl none) st fun o _ st' => match o with
    | .nx => κ (.ok .non) st'
    | .rt u => κ (.ok u) st'
    | .ex x => κ (.ex x) st'
    | .bk => false
    | .ct => false
  | false => false
theorem fr_start {ρ : List Addr} {us : List U} {vs : List V} (r : RL γ ρ us vs) (nl : Nat) : FrR γ ρ (us.map some ++ List.replicate nl none) (vs.map some ++ List.replicate nl none) := by
  refine ⟨by simp [r.length], fun i u e => ?_⟩
  by_cases h : i < us.length
  · rw [List.getElem?_append_left (by simpa using h)] at e
    rw [List.getElem?_map] at e
    cases q : us[i]? with
    | none => rw [q] at e; cases e
    | some w =>
      rw [q] at e
      cases e
      obtain ⟨v, hv, rv⟩ := pget r q
      exact ⟨v, by rw [List.getElem?_append_left (by simpa [r.length] using h), List.getElem?_map, hv]; rfl, rv⟩
  · rw [List.getElem?_append_right (by simpa using h)] at e
    rw [List.getElem?_replicate] at e
    split at e <;> cases e
end
section
variable {γ : Nat → Addr} {P : Program} {w : World} {K : PySem.W.Frag} {mg : Str → Option Value} {base : Heap}
/-- a def keeps its promise: the body's run (no exception leaves it) -/
theorem fn_okM {x qual : Str} {params : Arguments} {body : List Stmt} {scope : Scope} {dvs : List V} {kws : List (Str × V)} {f : Addr} {fd : FuncData} {N ps : List Str} {k np nl : Nat} {m : MS} (F : FunD K x qual params body scope dvs kws f fd) (S : FnScope N ps scope) (hnp : ps.length = np) (hN : N.length = np + nl)
    (h : ∀ (cdv : Value) (A : Around) (outer : List Env) (s : Shared) (H : Hp), Room k (A.deeper (envOfC qual scope s.heap.objs.size f cdv)) → SSs γ W0 (cxOf CX0 P w K mg base N qual scope f cdv A outer s H E0).nox body m) :
    FnOk P w K mg base CX0 (k + 1) f fd ps (SpM γ np (mDef np nl m)) := by
  refine F.ok S (fun vs H Q E q => q.1.trans hnp.symm) fun cdv A outer s H vs Q E hr ⟨hl, ρ, st, us, κ, R, r, hm, ok⟩ => ?_
  obtain ⟨t, p, q⟩ := h cdv A outer s H hr
  have hm2 : (match Nat.beq us.length np with
    | true => m (us.map some ++ List.replicate nl none) st fun o _ st' => match o with
      | .nx => noX κ (.ok .non) st'
      | .rt u => noX κ (.ok u) st'
      | .ex x => noX κ (.ex x) st'
      | .bk => false
      | .ct => false
    | false => false) = true := hm
  cases z : Nat.beq us.length np with
  | false => rw [z] at hm2; cases hm2
  | true =>
    rw [z] at hm2
    have es : L2.start N vs = vs.map some ++ List.replicate nl none := by
      unfold L2.start
      rw [hN, hl, Nat.add_sub_cancel_left]
    refine ⟨t, PSs.nox p, ?_⟩
    rw [es]
    refine q ρ st H _ _ R (fr_start r nl) _ _ hm2 ⟨fun ρ1 st1 H1 σ1 τ1 s1 R1 F1 k1 => ok ρ1 st1 H1 .non .non s1 R1 rfl k1, fun _ _ _ _ _ _ _ _ k1 => ?_, fun _ _ _ _ _ _ _ _ k1 => ?_, fun ρ1 st1 H1 σ1 u v s1 R1 r1 k1 => ok ρ1 st1 H1 u v s1 R1 r1 k1, fun ρ1 st1 H1 σ1 τ1 x c d s1 R1 F1 r1 k1 => ?_⟩
    · cases k1
    · cases k1
    · cases k1
end
/-! ### calls: positional values -/
section
variable {γ : Nat → Addr} {W : WX} {X : Cx} {g : GT} {k n : Nat} {f C : Addr} {mf : MF}
/-- the def at f, called by positional values, runs mf -/
abbrev FnM (X : Cx) (γ : Nat → Addr) (k : Nat) (f : Addr) (n : Nat) (mf : MF) : Prop := FnR X.prog X.w X.K X.mg X.base CX0 k f (SpM γ n mf)
def mCall (mf : MF) (n : Nat) (ms : MA) : ME := fun σ st => bnd (ms σ st) fun us st1 => callM mf n us st1
theorem sim_calls {t : TA} {ms : MA} (s : ∀ ρ st H σ τ, Rep γ ρ st H → FrR γ ρ σ τ → SimAt γ W τ (RL γ) ρ H (t τ H) (ms σ st)) (ρ st H σ τ) (R : Rep γ ρ st H) (F : FrR γ ρ σ τ) :
    SimAt γ W τ (RU γ) ρ H (fun Q => t τ H fun vs H1 => SpM γ n mf vs H1 Q E0) (mCall mf n ms σ st) := fun κ Q hm ok ex =>
  s ρ st H σ τ R F _ _ hm (fun ρ1 st1 H1 us vs s1 R1 r1 k1 => sim_call (W := W) (τ := τ) R1 r1 _ _ k1 (ok.step s1) (ex.step s1)) ex
theorem se_call {x : Str} {e : Expr} {es : List Expr} {p pos : Pos} {ms : MA} (F : FnM X γ k f n mf) (hr : Room k X.A) (hm : X.mg x = some (.ref f)) (hk : PySem.W.keepIn X.K (.ref f) = true) (ha : SA γ W X (e :: es) ms) (hg : Gl X x := by rfl) (hd : (x == ("__debug__" : Str)) = false := by decide)
    (he : starEach (e :: es) X.env = (false, eval e X.env) :: starEach es X.env := by rfl) (hpl : (backTo pos (starEach es X.env)).any (·.1) = false := by rfl) : SE γ W X (.Call (.Name x p) (e :: es) [] pos) (mCall mf n ms) := by
  obtain ⟨t, pa, s⟩ := ha
  have P : PE X (.Call (.Name x p) (e :: es) [] pos) (fun σ H Q => t σ H fun vs H1 => SpM γ n mf vs H1 Q E0) := by
    refine ⟨fun pins s σ H Q I h => ?_⟩
    refine wpAny_Call_Name_kw (ld_glob I hg hm ?_ hd)
    refine PySem.W.callWith_K (h₀ := X.base) I.ok.mod.kin hk (thn (pa.run pos pins s σ H _ I h) fun us s1 ⟨vs, H1, I1, r, q⟩ => ⟨I1.kIn, ?_⟩) he hpl
    exact wpAny_call (run_fnR F hr L2.pass0 I1 r q)
  exact ⟨_, P, sim_calls s⟩
theorem se_call0 {x : Str} {p pos : Pos} (F : FnM X γ k f n mf) (hr : Room k X.A) (hm : X.mg x = some (.ref f)) (hk : PySem.W.keepIn X.K (.ref f) = true) (hg : Gl X x := by rfl) (hd : (x == ("__debug__" : Str)) = false := by decide) : SE γ W X (.Call (.Name x p) [] [] pos) (mCall mf n mNil) := by
  have P : PE X (.Call (.Name x p) [] [] pos) (fun σ H Q => tNil σ H fun vs H1 => SpM γ n mf vs H1 Q E0) := by
    refine ⟨fun pins s σ H Q I h => ?_⟩
    refine wpAny_Call_Name_kw (ld_glob I hg hm ?_ hd)
    exact PySem.W.callWith_K0 I.kIn hk (wpAny_call (run_fnR (us := []) F hr L2.pass0 I .nil h))
  exact ⟨_, P, sim_calls fun ρ st H σ τ R F => SimAt.ret R .nil⟩
/-- o.m(..), o an instance of the class c -/
def mMeth (c : Nat) (m : Str) (mf : MF) (n : Nat) (mo : ME) (ms : MA) : ME := fun σ st => bnd (mo σ st) fun u st1 => match u with
  | .ref i => match st1.get i with
    | some (.ins c' fs) => match Nat.beq c' c, fGet m fs with
      | true, none => bnd (ms σ st1) fun us st2 => callM mf n (u :: us) st2
      | _, _ => bad
    | _ => bad
  | _ => bad
def tMe (C : Addr) (m : Str) (sp : Sp) (ta : TE) (t : TA) : TE := fun σ H Q => ta σ H fun x H1 => ∃ a dx fs, x = .ref a ∧ H1 a = some (.ins C dx fs) ∧ fs.lookup m = none ∧ t σ H1 fun vs H2 => sp (x :: vs) H2 Q E0
theorem sim_meth {c : Nat} {m : Str} {ta : TE} {t : TA} {mo : ME} {ms : MA} (sa : ∀ ρ st H σ τ, Rep γ ρ st H → FrR γ ρ σ τ → SimAt γ W τ (RU γ) ρ H (ta τ H) (mo σ st)) (s : ∀ ρ st H σ τ, Rep γ ρ st H → FrR γ ρ σ τ → SimAt γ W τ (RL γ) ρ H (t τ H) (ms σ st)) (ρ st H σ τ) (R : Rep γ ρ st H) (F : FrR γ ρ σ τ) :
    SimAt γ W τ (RU γ) ρ H (tMe (γ c) m (SpM γ n mf) ta t τ H) (mMeth c m mf n mo ms σ st) := fun κ Q hm ok ex =>
  sa ρ st H σ τ R F _ _ hm (fun ρ1 st1 H1 u v s1 R1 r1 k1 => by
    cases u with
    | ref i =>
      have k2 : (match st1.get i with
        | some (.ins c' fs) => (match Nat.beq c' c, fGet m fs with
          | true, none => bnd (ms σ st1) fun us st2 => callM mf n (.ref i :: us) st2
          | _, _ => bad)
        | _ => bad) κ = true := k1
      cases q : st1.get i with
      | none => rw [q] at k2; cases k2
      | some o =>
        rw [q] at k2
        cases o with
        | ins c' fs =>
          obtain ⟨a, ev, ea, dx, ws, hh, rf⟩ := R1.get q r1
          subst ev
          have k3 : (match Nat.beq c' c, fGet m fs with
            | true, none => bnd (ms σ st1) fun us st2 => callM mf n (.ref i :: us) st2
            | _, _ => bad) κ = true := k2
          cases qc : Nat.beq c' c with
          | false => rw [qc] at k3; cases k3
          | true =>
            have ec := Nat.eq_of_beq_eq_true qc
            subst ec
            cases qf : fGet m fs with
            | some w => rw [qc, qf] at k3; cases k3
            | none =>
              rw [qc, qf] at k3
              have hl : ws.lookup m = none := by
                rcases rf.get (f := m) with ⟨_, e⟩ | ⟨_, _, e, _⟩
                · exact e
                · rw [qf] at e; cases e
              exact ⟨a, dx, ws, rfl, hh, hl, s ρ1 st1 H1 σ τ R1 (F.step s1) _ _ k3 (fun ρ2 st2 H2 us vs s2 R2 r2 k4 => sim_call (W := W) (τ := τ) R2 (.cons (s2.ru r1) r2) _ _ k4 (ok.step (s1.trans s2)) (ex.step (s1.trans s2))) (ex.step s1)⟩
        | lst _ => cases k2
        | fl _ => cases k2
        | tup _ => cases k2
        | dct _ _ => cases k2
    | non => cases k1
    | bl _ => cases k1
    | int _ => cases k1
    | str _ => cases k1
    | glo _ => cases k1
    | ty _ => cases k1) ex
theorem se_meth {c : Nat} {o e : Expr} {es : List Expr} {m : Str} {apos pos : Pos} {mo : ME} {ms : MA} {pl : Sem Bool} (hc : Cls X.K (γ c)) (hme : Meth X.K (γ c) m f) (F : FnM X γ k f n mf) (hr : Room k X.A) (ho : SE γ W X o mo) (ha : SA γ W X (e :: es) ms)
    (hst : starEach (e :: es) X.env = (false, eval e X.env) :: starEach es X.env := by rfl) (hpl : (backTo pos (starEach es X.env)).any (·.1) = false := by rfl)
    (ht : eval (.Call (.Attribute o m apos) (e :: es) [] pos) X.env = (do
      let ov ← eval o X.env
      standAt apos.atName
      let (f, first) ← holding [ov] (getMethod ov m pl)
      callWith pos f first (backTo pos (starEach (e :: es) X.env)) (backToKw pos (keywordEach [] X.env))) := by rfl) : SE γ W X (.Call (.Attribute o m apos) (e :: es) [] pos) (mMeth c m mf n mo ms) := by
  obtain ⟨to, po, so⟩ := ho
  obtain ⟨t, pa, s⟩ := ha
  exact ⟨_, pe_methR (pl := pl) po hc hme F hr L2.pass0 pa hst hpl ht, sim_meth so s⟩
theorem se_meth0 {c : Nat} {o : Expr} {m : Str} {apos pos : Pos} {mo : ME} {pl : Sem Bool} (hc : Cls X.K (γ c)) (hme : Meth X.K (γ c) m f) (F : FnM X γ k f n mf) (hr : Room k X.A) (ho : SE γ W X o mo)
    (ht : eval (.Call (.Attribute o m apos) [] [] pos) X.env = (do
      let ov ← eval o X.env
      standAt apos.atName
      let (f, first) ← holding [ov] (getMethod ov m pl)
      callWith pos f first (backTo pos (starEach [] X.env)) (backToKw pos (keywordEach [] X.env))) := by rfl) : SE γ W X (.Call (.Attribute o m apos) [] [] pos) (mMeth c m mf n mo mNil) := by
  obtain ⟨to, po, so⟩ := ho
  have P : PE X (.Call (.Attribute o m apos) [] [] pos) (tMe (γ c) m (SpM γ n mf) to tNil) := by
    refine ⟨fun pins s σ H Q I h => ?_⟩
    refine PySem.W.methodCall_KW (pl := pl) (thn (po.run pins s σ H _ I h) fun u s1 ⟨x, H1, I1, rx, a, dx, fs, ex, ea, l, q⟩ => ?_) ht
    subst ex
    obtain rfl : u = Value.ref a := rx
    refine getmeth_ok I1 ea hc hme l ?_
    exact PySem.W.callWith_K0 (first := [.ref a]) I1.kIn hme.kp (wpAny_call (run_fnR (us := [.ref a]) (vs := [.ref a]) F hr L2.pass0 I1 (.cons rfl .nil) q))
  exact ⟨_, P, sim_meth so fun ρ st H σ τ R F => SimAt.ret R .nil⟩
/-- C(..) -/
def mMake (c : Nat) (mf : MF) (n : Nat) (ms : MA) : ME := fun σ st => bnd (ms σ st) fun us st1 => bnd (callM mf n (.ref st1.n :: us) (st1.new (.ins c []))) fun u st2 κ => match u with
  | .non => κ (.ok (.ref st1.n)) st2
  | _ => false
theorem sim_make {c : Nat} {t : TA} {ms : MA} (s : ∀ ρ st H σ τ, Rep γ ρ st H → FrR γ ρ σ τ → SimAt γ W τ (RL γ) ρ H (t τ H) (ms σ st)) (ρ st H σ τ) (R : Rep γ ρ st H) (F : FrR γ ρ σ τ) :
    SimAt γ W τ (RU γ) ρ H (StX.tMakeR (γ c) (SpM γ n mf) E0 t τ H) (mMake c mf n ms σ st) := fun κ Q hm ok ex =>
  s ρ st H σ τ R F _ _ hm (fun ρ1 st1 H1 us vs s1 R1 r1 k1 x dx hx hdx ne => by
    have ro : RO γ (ρ1 ++ [x]) (upd (upd H1 dx (.own x)) x (.ins (γ c) dx [])) x (.ins c []) := ⟨dx, [], upd_same, .nil⟩
    have hk : ∀ a u, H1 a = some u → (upd (upd H1 dx (.own x)) x (.ins (γ c) dx [])) a = some u := fun a u e => by
      rw [upd_ne (ne_of_none e hx), upd_ne (ne_of_none e hdx)]; exact e
    obtain ⟨R2, S2⟩ := R1.new hx hk ro
    have ex0 : (ρ1 ++ [x])[st1.n]? = some x := by rw [← R1.len, List.getElem?_append_right (Nat.le_refl _), Nat.sub_self]; rfl
    have rx : RU γ (ρ1 ++ [x]) (.ref st1.n) (.ref x) := ⟨x, ex0, rfl⟩
    refine sim_call (W := W) (τ := τ) R2 (.cons rx r1.mono) _ _ k1 (fun ρ3 st3 H3 u v s3 R3 r3 k3 => ?_) (ex.step (s1.trans S2))
    cases u with
    | non => exact ⟨r3, ok ρ3 st3 H3 _ _ (s1.trans (S2.trans s3)) R3 (s3.ru rx) k3⟩
    | bl _ => cases k3
    | int _ => cases k3
    | str _ => cases k3
    | ref _ => cases k3
    | glo _ => cases k3
    | ty _ => cases k3) ex
theorem se_make {c : Nat} {x : Str} {e : Expr} {es : List Expr} {p pos : Pos} {ms : MA} (M : Mk X.K (γ c) f) (F : FnM X γ k f n mf) (hr : Room (k + 1) X.A) (hm : X.mg x = some (.ref (γ c))) (ha : SA γ W X (e :: es) ms) (hg : Gl X x := by rfl) (hd : (x == ("__debug__" : Str)) = false := by decide)
    (he : starEach (e :: es) X.env = (false, eval e X.env) :: starEach es X.env := by rfl) (hpl : (backTo pos (starEach es X.env)).any (·.1) = false := by rfl) : SE γ W X (.Call (.Name x p) (e :: es) [] pos) (mMake c mf n ms) := by
  obtain ⟨t, pa, s⟩ := ha
  exact ⟨_, StX.pe_makeR M F hr hg hm L2.pass0 pa hd he hpl, sim_make s⟩
theorem se_make0 {c : Nat} {x : Str} {p pos : Pos} (M : Mk X.K (γ c) f) (F : FnM X γ k f n mf) (hr : Room (k + 1) X.A) (hm : X.mg x = some (.ref (γ c))) (hg : Gl X x := by rfl) (hd : (x == ("__debug__" : Str)) = false := by decide) : SE γ W X (.Call (.Name x p) [] [] pos) (mMake c mf n mNil) := by
  have P : PE X (.Call (.Name x p) [] [] pos) (StX.tMakeR (γ c) (SpM γ n mf) E0 tNil) := by
    refine ⟨fun pins s σ H Q I h => ?_⟩
    refine wpAny_Call_Name_kw (ld_glob I hg hm ?_ hd)
    exact PySem.W.callWith_K0 I.kIn M.kp (StX.run_makeR (us := []) M F hr L2.pass0 I .nil h)
  exact ⟨_, P, sim_make fun ρ st H σ τ R F => SimAt.ret R .nil⟩

/-! ### own __contains__, __len__, __getitem__, properties -/
theorem run_wp {pins : List (Addr × Obj)} {σ : L2.St} {H : Hp} {s : Shared} {Q : VK} {us : List Value} {vs : List V} {sp : Sp} {A : Around} {E' : Value → Shared → Prop} (F : FnR X.prog X.w X.K X.mg X.base CX0 k f sp) (hr : Room k A) (e0 : Env0 X.prog X.w X.K X.mg X.base A X.stack s H) (I : Inv X pins σ H s) (r : Vals vs us) (h : sp vs H Q E0) :
    wpAny (model X.prog X.w) A (call (.ref f) us) (EP X pins σ Q) E' s := by
  refine wpAny_call (codeAny_mono (F A X.stack s H us vs Q E0 hr e0 r h) fun r s' hq => ?_)
  cases r with
  | error e => exact False.elim hq
  | ok fl =>
    cases fl with
    | ret u => exact I.after hq
    | next => exact False.elim hq
    | brk => exact False.elim hq
    | cont => exact False.elim hq
def rOwnIn (C : Addr) (sp : Sp) (neg : Bool) : R2 := fun x y H Q => ∃ a dx fs, y = .ref a ∧ H a = some (.ins C dx fs) ∧ sp [.ref a, x] H (fun v H' => ∃ b, v = .bl b ∧ Q (.bl (bif neg then !b else b)) H') E0
theorem op_in_own {sp : Sp} (hs : PySem.W.findIn X.K (.ref C) "__contains__" = some (some (.ref f))) (hf : PySem.W.isFn X.K (.ref f) = true) (F : FnR X.prog X.w X.K X.mg X.base CX0 k f sp) (hr : Room k X.A) : OpR X (compareOp .In) (rOwnIn C sp false) := by
  intro pins s σ H x y v u Q I rx ry h
  obtain ⟨a, dx, fs, rfl, ea, h⟩ := h
  obtain rfl : u = Value.ref a := ry
  obtain ⟨mA, O, _, _, _, _⟩ := ins_get I.hok ea
  obtain ⟨od, J, _⟩ := O.look
  obtain ⟨m, Fm⟩ := I.fr
  refine PySem.W.in_K Fm I.ok.mod.kin J hs hf (thn (run_wp (vs := [.ref a, x]) F hr I.env0 I (.cons rfl (.cons rx .nil)) h) fun r s1 ⟨z, H1, I1, rz, b, ez, q⟩ => ?_)
  subst ez
  cases rz
  exact wpAny_truthy_bool ⟨.bl b, H1, I1, rfl, q⟩
theorem op_notin_own {sp : Sp} (hs : PySem.W.findIn X.K (.ref C) "__contains__" = some (some (.ref f))) (hf : PySem.W.isFn X.K (.ref f) = true) (F : FnR X.prog X.w X.K X.mg X.base CX0 k f sp) (hr : Room k X.A) : OpR X (compareOp .NotIn) (rOwnIn C sp true) := by
  intro pins s σ H x y v u Q I rx ry h
  obtain ⟨a, dx, fs, rfl, ea, h⟩ := h
  obtain rfl : u = Value.ref a := ry
  obtain ⟨mA, O, _, _, _, _⟩ := ins_get I.hok ea
  obtain ⟨od, J, _⟩ := O.look
  obtain ⟨m, Fm⟩ := I.fr
  refine PySem.W.notIn_K Fm I.ok.mod.kin J hs hf (thn (run_wp (vs := [.ref a, x]) F hr I.env0 I (.cons rfl (.cons rx .nil)) h) fun r s1 ⟨z, H1, I1, rz, b, ez, q⟩ => ?_)
  subst ez
  cases rz
  exact wpAny_truthy_bool ⟨.bl (!b), H1, I1, rfl, q⟩
/-- o is an instance of the class c: its own method on it and x -/
def fOwn2 (c : Nat) (mf : MF) (post : Bool → Bool) : U → U → VS → Go U := fun x o st => match o with
  | .ref i => match st.get i with
    | some (.ins c' _) => match Nat.beq c' c with
      | true => bnd (callM mf 2 [o, x] st) fun (u : U) st1 κ => match u with
        | .bl b => κ (.ok (.bl (post b))) st1
        | _ => false
      | false => bad
    | _ => bad
  | _ => bad
theorem leaf_ownIn {c : Nat} (neg : Bool) : Leaf2 γ W (rOwnIn (γ c) (SpM γ 2 mf) neg) (fOwn2 c mf fun b => bif neg then !b else b) := fun ρ st H τ x o vx vo R rx ro κ Q hm ok ex => by
  cases o with
  | ref i =>
    have k2 : (match st.get i with
      | some (.ins c' _) => (match Nat.beq c' c with
        | true => bnd (callM mf 2 [.ref i, x] st) fun (u : U) st1 κ => match u with
          | .bl b => κ (Rs.ok (U.bl (bif neg then !b else b))) st1
          | _ => false
        | false => bad)
      | _ => bad) κ = true := hm
    cases q : st.get i with
    | none => rw [q] at k2; cases k2
    | some ob =>
      rw [q] at k2
      cases ob with
      | ins c' fs =>
        obtain ⟨a, ev, ea, dx, ws, hh, rf⟩ := R.get q ro
        subst ev
        have k3 : (match Nat.beq c' c with
          | true => bnd (callM mf 2 [.ref i, x] st) fun (u : U) st1 κ => match u with
            | .bl b => κ (Rs.ok (U.bl (bif neg then !b else b))) st1
            | _ => false
          | false => bad) κ = true := k2
        cases qc : Nat.beq c' c with
        | false => rw [qc] at k3; cases k3
        | true =>
          have ec := Nat.eq_of_beq_eq_true qc
          subst ec
          rw [qc] at k3
          refine ⟨a, dx, ws, rfl, hh, sim_call (W := W) (τ := τ) R (.cons ro (.cons rx .nil)) _ _ k3 (fun ρ1 st1 H1 u v s1 R1 r1 k1 => ?_) ex⟩
          cases u with
          | bl b => exact ⟨b, r1, ok ρ1 st1 H1 (.bl _) _ s1 R1 rfl k1⟩
          | non => cases k1
          | int _ => cases k1
          | str _ => cases k1
          | ref _ => cases k1
          | glo _ => cases k1
          | ty _ => cases k1
      | lst _ => cases k2
      | fl _ => cases k2
      | tup _ => cases k2
      | dct _ _ => cases k2
  | non => cases hm
  | bl _ => cases hm
  | int _ => cases hm
  | str _ => cases hm
  | glo _ => cases hm
  | ty _ => cases hm
end
end MV

namespace MV
open PySem PySem.Spec PyProof.Rows L2
section
variable {γ : Nat → Addr} {W : WX} {X : Cx} {g : GT} {ρ : List Addr} {st : VS} {H : Hp}

/-! ### operators: packages -/
def fOr2 (f f' : U → U → VS → Go U) : U → U → VS → Go U := fun a b st κ => match f a b st (fun _ _ => true) with
  | true => f a b st κ
  | false => f' a b st κ
theorem Leaf2.or {r r' : R2} {f f' : U → U → VS → Go U} (h : Leaf2 γ W r f) (h' : Leaf2 γ W r' f') : Leaf2 γ W (fun x y H Q => r x y H Q ∨ r' x y H Q) (fOr2 f f') :=
  fun ρ st H τ u1 u2 v1 v2 R r1 r2 => SimAt.or (h ρ st H τ u1 u2 v1 v2 R r1 r2) (h' ρ st H τ u1 u2 v1 v2 R r1 r2)
def Op2 (X : Cx) (γ : Nat → Addr) (W : WX) (fo : Value → Value → Sem Value) (f : U → U → VS → Go U) : Prop := ∃ r, OpR X fo r ∧ Leaf2 γ W r f
theorem Op2.or {fo : Value → Value → Sem Value} {f f' : U → U → VS → Go U} (h : Op2 X γ W fo f) (h' : Op2 X γ W fo f') : Op2 X γ W fo (fOr2 f f') := by
  obtain ⟨r, a, b⟩ := h
  obtain ⟨r', a', b'⟩ := h'
  exact ⟨_, OpR.or a a', Leaf2.or b b'⟩
theorem se_bin2 {a b : Expr} {pos : Pos} {op : Operator} {f : U → U → VS → Go U} {ma mb : ME} (ho : Op2 X γ W (binaryOp op) f) (ha : SE γ W X a ma) (hb : SE γ W X b mb) : SE γ W X (.BinOp a op b pos) (mBin f ma mb) := by
  obtain ⟨r, p, q⟩ := ho
  exact se_bin p q ha hb
theorem se_cmp2 {a b : Expr} {pos : Pos} {op : CmpOp} {f : U → U → VS → Go U} {ma mb : ME} (ho : Op2 X γ W (compareOp op) f) (ha : SE γ W X a ma) (hb : SE γ W X b mb) (hm : behindInMarks op b = false := by first | exact nobehind _ (by decide) (by decide) | rfl) : SE γ W X (.Compare a [op] [b] pos) (mBin f ma mb) := by
  obtain ⟨r, p, q⟩ := ho
  exact se_cmp p q ha hb hm
theorem st_cmp2 {a b : Expr} {pos : Pos} {op : CmpOp} {f : U → U → VS → Go U} {ma mb : ME} (ho : Op2 X γ W (compareOp op) f) (ha : SE γ W X a ma) (hb : SE γ W X b mb) (hm : behindInMarks op b = false := by first | exact nobehind _ (by decide) (by decide) | rfl) : ST γ W X (.Compare a [op] [b] pos) (mTest (mBin f ma mb)) := by
  obtain ⟨r, p, q⟩ := ho
  exact st_cmp p q ha hb hm
theorem se_chain2 {a b c : Expr} {pos : Pos} {op op' : CmpOp} {f f' : U → U → VS → Go U} {ma mb mc : ME} (ho : Op2 X γ W (compareOp op) f) (ho' : Op2 X γ W (compareOp op') f') (ha : SE γ W X a ma) (hb : SE γ W X b mb) (hc : SE γ W X c mc) (hm : lastMarks [op, op'] [b, c] = false := by rfl) :
    SE γ W X (.Compare a [op, op'] [b, c] pos) (mChain f f' ma mb mc) := by
  obtain ⟨r, p, q⟩ := ho
  obtain ⟨r', p', q'⟩ := ho'
  exact se_chain p p' q q' ha hb hc hm
theorem st_chain2 {a b c : Expr} {pos : Pos} {op op' : CmpOp} {f f' : U → U → VS → Go U} {ma mb mc : ME} (ho : Op2 X γ W (compareOp op) f) (ho' : Op2 X γ W (compareOp op') f') (ha : SE γ W X a ma) (hb : SE γ W X b mb) (hc : SE γ W X c mc) (hm : lastMarks [op, op'] [b, c] = false := by rfl) :
    ST γ W X (.Compare a [op, op'] [b, c] pos) (mTest (mChain f f' ma mb mc)) := by
  obtain ⟨r, p, q⟩ := ho
  obtain ⟨r', p', q'⟩ := ho'
  exact st_chain p p' q q' ha hb hc hm

/-! ### ints -/
def fI (c : Int → Int → Bool) (h : Int → Int → U) : U → U → VS → Go U := fun a b st κ => match a, b with
  | .int i, .int j => match c i j with
    | true => κ (.ok (h i j)) st
    | false => false
  | _, _ => false
theorem leaf_I {C : Int → Int → Prop} {gv : Int → Int → V} {c : Int → Int → Bool} {h : Int → Int → U} (hc : ∀ i j, c i j = true → C i j) (e : ∀ i j, RU γ [] (h i j) (gv i j)) : Leaf2 γ W (fun x y H Q => ∃ i j, x = .int i ∧ y = .int j ∧ C i j ∧ Q (gv i j) H) (fI c h) := fun ρ st H τ u1 u2 v1 v2 R r1 r2 κ Q hm ok ex => by
  cases u1 <;> cases u2 <;> first | (cases hm; done) | skip
  rename_i i j
  have hm2 : (match c i j with | true => κ (.ok (h i j)) st | false => false) = true := hm
  cases q : c i j with
  | false => rw [q] at hm2; cases hm2
  | true =>
    rw [q] at hm2
    have z := RU.mono (l := ρ) (e i j)
    rw [List.nil_append] at z
    exact ⟨i, j, r1, r2, hc i j q, ok.here R z hm2⟩
theorem leaf_I0 {gv : Int → Int → V} {h : Int → Int → U} (e : ∀ i j, RU γ [] (h i j) (gv i j)) : Leaf2 γ W (fun x y H Q => ∃ i j, x = .int i ∧ y = .int j ∧ Q (gv i j) H) (fI (fun _ _ => true) h) := fun ρ st H τ u1 u2 v1 v2 R r1 r2 κ Q hm ok ex => by
  obtain ⟨i, j, a, b, _, q⟩ := leaf_I (W := W) (C := fun _ _ => True) (c := fun _ _ => true) (fun _ _ _ => trivial) e ρ st H τ u1 u2 v1 v2 R r1 r2 κ Q hm ok ex
  exact ⟨i, j, a, b, q⟩
def fAddI : U → U → VS → Go U := fI (fun _ _ => true) fun i j => .int (i + j)
theorem o_addI : Op2 X γ W (binaryOp .Add) fAddI := ⟨_, op_add, leaf_I0 fun _ _ => rfl⟩
def fSub : U → U → VS → Go U := fI (fun _ _ => true) fun i j => .int (i - j)
theorem o_sub : Op2 X γ W (binaryOp .Sub) fSub := ⟨_, op_sub, leaf_I0 fun _ _ => rfl⟩
def fMod : U → U → VS → Go U := fI (fun _ j => decide (0 < j)) fun i j => .int (i % j)
theorem o_mod : Op2 X γ W (binaryOp .Mod) fMod := ⟨_, op_mod, leaf_I (C := fun _ j => 0 < j) (fun _ _ => of_decide_eq_true) fun _ _ => rfl⟩
def fLt : U → U → VS → Go U := fI (fun _ _ => true) fun i j => .bl (decide (i < j))
theorem o_lt : Op2 X γ W (compareOp .Lt) fLt := ⟨_, op_lt, leaf_I0 fun _ _ => rfl⟩
def fLe : U → U → VS → Go U := fI (fun _ _ => true) fun i j => .bl (decide (i ≤ j))
theorem o_le : Op2 X γ W (compareOp .LtE) fLe := ⟨_, op_le, leaf_I0 fun _ _ => rfl⟩
def fGt : U → U → VS → Go U := fI (fun _ _ => true) fun i j => .bl (decide (j < i))
theorem o_gt : Op2 X γ W (compareOp .Gt) fGt := ⟨_, op_gt, leaf_I0 fun _ _ => rfl⟩
def fGe : U → U → VS → Go U := fI (fun _ _ => true) fun i j => .bl (decide (j ≤ i))
theorem o_ge : Op2 X γ W (compareOp .GtE) fGe := ⟨_, op_ge, leaf_I0 fun _ _ => rfl⟩
/-- texts joined -/
def fAddS : U → U → VS → Go U := fun a b st κ => match a, b with
  | .str x, .str y => match Nat.ble (x.length + y.length) line with
    | true => κ (.ok (.str (x ++ y))) st
    | false => false
  | _, _ => false
theorem o_addS : Op2 X γ W (binaryOp .Add) fAddS := ⟨_, op_add_str, fun ρ st H τ u1 u2 v1 v2 R r1 r2 κ Q hm ok ex => by
  cases u1 <;> cases u2 <;> first | (cases hm; done) | skip
  rename_i x y
  have hm2 : (match Nat.ble (x.length + y.length) line with | true => κ (.ok (.str (x ++ y))) st | false => false) = true := hm
  cases q : Nat.ble (x.length + y.length) line with
  | false => rw [q] at hm2; cases hm2
  | true => rw [q] at hm2; exact ⟨x, y, r1, r2, line_ok q, ok.here (u := .str (x ++ y)) R rfl hm2⟩⟩
/-- lists joined -/
def fCat : U → U → VS → Go U := fun a b st κ => match a, b with
  | .ref i, .ref j => match st.get i, st.get j with
    | some (.lst xs), some (.lst ys) => match Nat.ble (xs.length + ys.length) line with
      | true => κ (.ok (.ref st.n)) (st.new (.lst (xs ++ ys)))
      | false => false
    | _, _ => false
  | _, _ => false
theorem papp {α β : Type} {F : α → β → Prop} : ∀ {xs xs' : List α} {ys ys' : List β}, Paired F xs ys → Paired F xs' ys' → Paired F (xs ++ xs') (ys ++ ys')
  | _, _, _, _, .nil, h => h
  | _, _, _, _, .cons r t, h => .cons r (papp t h)
theorem o_cat : Op2 X γ W (binaryOp .Add) fCat := ⟨_, op_cat, fun ρ st H τ u1 u2 v1 v2 R r1 r2 κ Q hm ok ex => by
  cases u1 <;> cases u2 <;> first | (cases hm; done) | skip
  rename_i i j
  have hm2 : (match st.get i, st.get j with
    | some (.lst xs), some (.lst ys) => (match Nat.ble (xs.length + ys.length) line with
      | true => κ (.ok (.ref st.n)) (st.new (.lst (xs ++ ys)))
      | false => false)
    | _, _ => false) = true := hm
  cases q1 : st.get i with
  | none => rw [q1] at hm2; cases hm2
  | some o1 =>
    cases q2 : st.get j with
    | none => rw [q1, q2] at hm2; cases o1 <;> cases hm2
    | some o2 =>
      rw [q1, q2] at hm2
      cases o1 <;> cases o2 <;> first | (cases hm2; done) | skip
      rename_i xs ys
      have hm3 : (match Nat.ble (xs.length + ys.length) line with
        | true => κ (.ok (.ref st.n)) (st.new (.lst (xs ++ ys)))
        | false => false) = true := hm2
      cases q : Nat.ble (xs.length + ys.length) line with
      | false => rw [q] at hm3; cases hm3
      | true =>
        rw [q] at hm3
        obtain ⟨a, ea, _, vs, ha, ra⟩ := R.get q1 r1
        obtain ⟨b, eb, _, ws, hb, rb⟩ := R.get q2 r2
        refine ⟨a, b, vs, ws, ea, eb, ha, hb, by rw [← ra.length, ← rb.length]; exact line_ok q, ok.alloc R hm3 fun p => ⟨vs ++ ws, upd_same, papp ra.mono rb.mono⟩⟩⟩
def fAdd : U → U → VS → Go U := fOr2 fAddI (fOr2 fAddS fCat)
theorem o_add : Op2 X γ W (binaryOp .Add) fAdd := o_addI.or (o_addS.or o_cat)

/-! ### is None -/
def isN : U → Bool
  | .non => true
  | _ => false
theorem isN_ok {u : U} {v : V} (r : RU γ ρ u v) : decide (v = .non) = isN u := by
  cases u with
  | non => have r : v = .non := r; subst r; rfl
  | bl b => have r : v = .bl b := r; subst r; rfl
  | int b => have r : v = .int b := r; subst r; rfl
  | str b => have r : v = .str b := r; subst r; rfl
  | ref i => obtain ⟨a, _, r⟩ := r; subst r; rfl
  | glo k => have r : v = .ref (γ k) := r; subst r; rfl
  | ty n => have r : v = .ty n := r; subst r; rfl
def fIsN (neg : Bool) : U → U → VS → Go U := fun a b st κ => match b with
  | .non => κ (.ok (.bl (bif neg then !isN a else isN a))) st
  | _ => false
theorem o_isN : Op2 X γ W (compareOp .Is) (fIsN false) := ⟨_, op_isN, fun ρ st H τ u1 u2 v1 v2 R r1 r2 κ Q hm ok ex => by
  cases u2 <;> first | (cases hm; done) | skip
  exact ⟨r2, by rw [isN_ok r1]; exact ok.here (u := .bl (isN u1)) R rfl hm⟩⟩
theorem o_notN : Op2 X γ W (compareOp .IsNot) (fIsN true) := ⟨_, op_notN, fun ρ st H τ u1 u2 v1 v2 R r1 r2 κ Q hm ok ex => by
  cases u2 <;> first | (cases hm; done) | skip
  exact ⟨r2, by rw [isN_ok r1]; exact ok.here (u := .bl (!isN u1)) R rfl hm⟩⟩

/-! ### flat values: in -/
def bEq : Bool → Bool → Bool
  | true, true => true
  | false, false => true
  | _, _ => false
def bI : Bool → Int
  | true => 1
  | false => 0
def flatU : U → Bool
  | .non => true
  | .bl _ => true
  | .int _ => true
  | .str _ => true
  | _ => false
def eqF : U → U → Bool
  | .non, .non => true
  | .bl a, .bl b => bEq a b
  | .bl a, .int b => iEq (bI a) b
  | .int a, .bl b => iEq a (bI b)
  | .int a, .int b => iEq a b
  | .str a, .str b => sEq a b
  | _, _ => false
theorem iEq_beq (a b : Int) : (a == b) = iEq a b := by
  cases q : iEq a b with
  | true => rw [iEq_iff.mp q]; exact beq_self_eq_true b
  | false => exact beq_eq_false_iff_ne.mpr fun z => by rw [iEq_iff.mpr z] at q; cases q
theorem sEq_beq (a b : Str) : (a == b) = sEq a b := by
  cases q : sEq a b with
  | true => rw [sEq_iff.mp q]; exact beq_self_eq_true b
  | false => exact beq_eq_false_iff_ne.mpr fun z => by rw [sEq_iff.mpr z] at q; cases q
def vOf : U → V
  | .non => .non
  | .bl b => .bl b
  | .int i => .int i
  | .str x => .str x
  | _ => .non
theorem flat_ok {u : U} {v : V} (f : flatU u = true) (r : RU γ ρ u v) : v = vOf u ∧ flatV v = true := by
  cases u <;> first | (cases f; done) | exact ⟨r, by rw [show v = _ from r]; rfl⟩
theorem eqF_ok {u w : U} (f : flatU u = true) (h : flatU w = true) : eqV (vOf u) (vOf w) = eqF u w := by
  cases u <;> first | (cases f; done) | skip
  all_goals cases w <;> first | (cases h; done) | rfl | skip
  · rename_i a b; cases a <;> cases b <;> rfl
  · rename_i a b
    show ((if a then 1 else 0) == b) = iEq (bI a) b
    rw [← iEq_beq]; cases a <;> rfl
  · rename_i a b
    show (a == (if b then 1 else 0)) = iEq a (bI b)
    rw [← iEq_beq]; cases b <;> rfl
  · exact iEq_beq _ _
  · exact sEq_beq _ _
def allFlat : List U → Bool
  | [] => true
  | u :: r => match flatU u with
    | true => allFlat r
    | false => false
def anyEq (x : U) : List U → Bool
  | [] => false
  | u :: r => match eqF u x with
    | true => true
    | false => anyEq x r
theorem allFlat_ok : ∀ {us : List U} {vs : List V}, allFlat us = true → RL γ ρ us vs → vs.all flatV = true ∧ vs = us.map vOf ∧ ∀ u ∈ us, flatU u = true
  | _, _, _, .nil => ⟨rfl, rfl, fun _ h => nomatch h⟩
  | u :: r, v :: s, h, .cons a t => by
    have h2 : (match flatU u with | true => allFlat r | false => false) = true := h
    cases q : flatU u with
    | false => rw [q] at h2; cases h2
    | true =>
      rw [q] at h2
      obtain ⟨e, f⟩ := flat_ok q a
      obtain ⟨e2, e3, e4⟩ := allFlat_ok h2 t
      refine ⟨by rw [List.all_cons, f, e2]; rfl, by rw [e, e3]; rfl, fun w hw => ?_⟩
      rcases List.mem_cons.mp hw with z | z
      · rw [z]; exact q
      · exact e4 w z
theorem anyEq_ok {x : U} (fx : flatU x = true) : ∀ {us : List U}, (∀ u ∈ us, flatU u = true) → inV (vOf x) (us.map vOf) = anyEq x us
  | [], _ => rfl
  | u :: r, h => by
    show (eqV (vOf u) (vOf x) || inV (vOf x) (r.map vOf)) = (match eqF u x with | true => true | false => anyEq x r)
    rw [eqF_ok (h u List.mem_cons_self) fx, anyEq_ok fx fun w hw => h w (List.mem_cons_of_mem _ hw)]
    cases eqF u x <;> rfl
def fInSeq (g : GT) (neg : Bool) : U → U → VS → Go U := fun a b st κ => match seqOf g st b with
  | some (_, xs) => match flatU a, allFlat xs with
    | true, true => κ (.ok (.bl (bif neg then !anyEq a xs else anyEq a xs))) st
    | _, _ => false
  | none => false
theorem leaf_inSeq {K : PySem.W.Frag} (G : GOk K γ g) (neg : Bool) : Leaf2 γ W (rIn K neg) (fInSeq g neg) := fun ρ st H τ u1 u2 v1 v2 R r1 r2 κ Q hm ok ex => by
  have hm2 : (match seqOf g st u2 with
    | some (_, xs) => (match flatU u1, allFlat xs with
      | true, true => κ (.ok (.bl (bif neg then !anyEq u1 xs else anyEq u1 xs))) st
      | _, _ => false)
    | none => false) = true := hm
  cases q : seqOf g st u2 with
  | none => rw [q] at hm2; cases hm2
  | some bx =>
    obtain ⟨b, xs⟩ := bx
    rw [q] at hm2
    have hm3 : (match flatU u1, allFlat xs with
      | true, true => κ (.ok (.bl (bif neg then !anyEq u1 xs else anyEq u1 xs))) st
      | _, _ => false) = true := hm2
    obtain ⟨a, ys, ev, rl, hs⟩ := seq_ok G R r2 q
    cases q1 : flatU u1 <;> cases q2 : allFlat xs <;> rw [q1, q2] at hm3 <;> first | (cases hm3; done) | skip
    obtain ⟨e1, e2⟩ := flat_ok q1 r1
    obtain ⟨e3, e4, e5⟩ := allFlat_ok q2 rl
    refine ⟨a, ys, ev, ?_, e2, e3, ?_⟩
    · cases b with
      | true => exact .inr hs
      | false => exact .inl hs
    · rw [e1, e4, anyEq_ok q1 e5]
      cases neg with
      | true => exact ok.here (u := .bl (!anyEq u1 xs)) R rfl hm3
      | false => exact ok.here (u := .bl (anyEq u1 xs)) R rfl hm3
theorem o_inSeq (G : GOk X.K γ g) : Op2 X γ W (compareOp .In) (fInSeq g false) := ⟨_, op_in_seq, leaf_inSeq G false⟩
theorem o_ninSeq (G : GOk X.K γ g) : Op2 X γ W (compareOp .NotIn) (fInSeq g true) := ⟨_, op_notIn_seq, leaf_inSeq G true⟩

/-! ### in a dict -/
def kOf : U → Option Key
  | .int i => some (.inl i)
  | .str x => some (.inr x)
  | _ => none
theorem kOf_ok {u : U} {v : V} {k : Key} (e : kOf u = some k) (r : RU γ ρ u v) : v = kV k := by
  cases u <;> cases e <;> exact r
def rDin (neg : Bool) : R2 := fun y x H Q => (∃ a o, x = .ref a ∧ DGet H a y o ∧ Q (.bl (bif neg then !o.isSome else o.isSome)) H) ∨ ∃ a kvs, x = .ref a ∧ y = .non ∧ Rd H a (.dK kvs) ∧ Q (.bl neg) H
theorem op_din (hu : X.A.units + 1 < cLine) : OpR X (compareOp .In) (rDin false) := by
  intro pins s σ H x y v u Q I rx ry h
  rcases h with ⟨a, ov, ex, gg, q⟩ | ⟨a, kvs, ex, ey, gg, q⟩
  · subst ex
    obtain rfl : u = Value.ref a := ry
    exact d_in hu I gg rx fun s3 I3 => ⟨.bl ov.isSome, H, I3, rfl, q⟩
  · subst ex ey
    obtain rfl : u = Value.ref a := ry
    obtain rfl : v = Value.none := rx
    exact d_inNone I gg fun s3 I3 => ⟨.bl false, H, I3, rfl, q⟩
theorem op_dnin (hu : X.A.units + 1 < cLine) : OpR X (compareOp .NotIn) (rDin true) := by
  intro pins s σ H x y v u Q I rx ry h
  rcases h with ⟨a, ov, ex, gg, q⟩ | ⟨a, kvs, ex, ey, gg, q⟩
  · subst ex
    obtain rfl : u = Value.ref a := ry
    exact d_notIn hu I gg rx fun s3 I3 => ⟨.bl (!ov.isSome), H, I3, rfl, q⟩
  · subst ex ey
    obtain rfl : u = Value.ref a := ry
    obtain rfl : v = Value.none := rx
    exact d_notInNone I gg fun s3 I3 => ⟨.bl true, H, I3, rfl, q⟩
def isSm {α : Type} : Option α → Bool
  | some _ => true
  | none => false
def nkOf : U → Option (Option Key)
  | .non => some none
  | .int i => some (some (.inl i))
  | .str x => some (some (.inr x))
  | _ => none
def fInD (neg : Bool) : U → U → VS → Go U := fun a b st κ => match b with
  | .ref i => match st.get i with
    | some (.dct _ kvs) => match nkOf a with
      | some none => κ (.ok (.bl neg)) st
      | some (some k) => κ (.ok (.bl (bif neg then !isSm (kGet k kvs) else isSm (kGet k kvs)))) st
      | none => false
    | _ => false
  | _ => false
theorem dct_rd {a : Addr} {lk : Bool} {kvs : List (Key × U)} (h : RO γ ρ H a (.dct lk kvs)) : ∃ ws, Rd H a (.dK ws) ∧ RK γ ρ kvs ws := by
  obtain ⟨ws, h, r⟩ := h
  cases lk with
  | true => exact ⟨ws, .inr h, r⟩
  | false => exact ⟨ws, .inl h, r⟩
theorem leaf_inD (neg : Bool) : Leaf2 γ W (rDin neg) (fInD neg) := fun ρ st H τ u1 u2 v1 v2 R r1 r2 κ Q hm ok ex => by
  cases u2 <;> first | (cases hm; done) | skip
  rename_i i
  have hm2 : (match st.get i with
    | some (.dct _ kvs) => (match nkOf u1 with
      | some none => κ (.ok (.bl neg)) st
      | some (some k) => κ (.ok (.bl (bif neg then !isSm (kGet k kvs) else isSm (kGet k kvs)))) st
      | none => false)
    | _ => false) = true := hm
  cases q : st.get i with
  | none => rw [q] at hm2; cases hm2
  | some o =>
    rw [q] at hm2
    cases o <;> first | (cases hm2; done) | skip
    rename_i lk kvs
    obtain ⟨a, ev, _, ro⟩ := R.get q r2
    obtain ⟨ws, rd, rk⟩ := dct_rd ro
    have key : ∀ k, kOf u1 = some k → κ (.ok (.bl (bif neg then !isSm (kGet k kvs) else isSm (kGet k kvs)))) st = true → rDin neg v1 v2 H Q := fun k ek hk => by
      refine .inl ⟨a, valV ws k, ev, .inl ⟨ws, k, rd, kOf_ok ek r1, rfl⟩, ?_⟩
      have e : isSm (kGet k kvs) = (valV ws k).isSome := by
        rcases rk.get (k := k) with ⟨e1, e2⟩ | ⟨_, _, e1, e2, _⟩ <;> rw [e1, e2] <;> rfl
      rw [← e]
      exact ok.here (u := .bl (bif neg then !isSm (kGet k kvs) else isSm (kGet k kvs))) R rfl hk
    cases u1 with
    | non => exact .inr ⟨a, ws, ev, r1, rd, ok.here (u := .bl neg) R rfl hm2⟩
    | int j => exact key _ rfl hm2
    | str x => exact key _ rfl hm2
    | bl _ => cases hm2
    | ref _ => cases hm2
    | glo _ => cases hm2
    | ty _ => cases hm2
theorem o_inD (hu : X.A.units + 1 < cLine) : Op2 X γ W (compareOp .In) (fInD false) := ⟨_, op_din hu, leaf_inD false⟩
theorem o_ninD (hu : X.A.units + 1 < cLine) : Op2 X γ W (compareOp .NotIn) (fInD true) := ⟨_, op_dnin hu, leaf_inD true⟩

/-! ### a sign in a text -/
def nMem (c : Nat) : List Nat → Bool
  | [] => false
  | d :: r => match Nat.beq c d with
    | true => true
    | false => nMem c r
theorem nMem_ok (c : Nat) : ∀ l : List Nat, decide (c ∈ l) = nMem c l
  | [] => rfl
  | d :: r => by
    show _ = (match Nat.beq c d with | true => true | false => nMem c r)
    rw [← nMem_ok c r]
    cases q : Nat.beq c d with
    | true => rw [Nat.eq_of_beq_eq_true q]; exact decide_eq_true List.mem_cons_self
    | false =>
      have n : c ≠ d := fun z => by rw [z, Nat.beq_refl] at q; cases q
      by_cases h : c ∈ r
      · rw [decide_eq_true h, decide_eq_true (List.mem_cons_of_mem _ h)]
      · rw [decide_eq_false h, decide_eq_false (fun z => (List.mem_cons.mp z).elim n h)]
def fInSign (neg : Bool) : U → U → VS → Go U := fun a b st κ => match a, b with
  | .str x, .str z => match x.cps.toList with
    | [c] => κ (.ok (.bl (bif neg then !nMem c z.cps.toList else nMem c z.cps.toList))) st
    | _ => false
  | _, _ => false
theorem sign_eq {x : Str} {c : Nat} (h : x.cps.toList = [c]) : x = ⟨#[c]⟩ := by
  cases x with
  | mk a => exact congrArg Str.mk (Array.toList_inj.mp h)
theorem leaf_inSign (neg : Bool) : Leaf2 γ W (fun x y H Q => ∃ (c : Nat) (z : Str), x = .str ⟨#[c]⟩ ∧ y = .str z ∧ Q (.bl (bif neg then !decide (c ∈ z.cps.toList) else decide (c ∈ z.cps.toList))) H) (fInSign neg) := fun ρ st H τ u1 u2 v1 v2 R r1 r2 κ Q hm ok ex => by
  cases u1 <;> cases u2 <;> first | (cases hm; done) | skip
  rename_i x z
  have hm2 : (match x.cps.toList with
    | [c] => κ (.ok (.bl (bif neg then !nMem c z.cps.toList else nMem c z.cps.toList))) st
    | _ => false) = true := hm
  cases q : x.cps.toList with
  | nil => rw [q] at hm2; cases hm2
  | cons c t =>
    cases t with
    | cons _ _ => rw [q] at hm2; cases hm2
    | nil =>
      rw [q] at hm2
      refine ⟨c, z, by rw [← sign_eq q]; exact r1, r2, ?_⟩
      rw [nMem_ok]
      exact ok.here (u := .bl (bif neg then !nMem c z.cps.toList else nMem c z.cps.toList)) R rfl hm2
theorem o_inSign : Op2 X γ W (compareOp .In) (fInSign false) := ⟨_, op_in_sign, leaf_inSign false⟩
theorem o_ninSign : Op2 X γ W (compareOp .NotIn) (fInSign true) := ⟨_, op_notIn_sign, leaf_inSign true⟩
/-- in a tuple, a list, a dict, a text -/
def fIn (g : GT) (neg : Bool) : U → U → VS → Go U := fOr2 (fInSeq g neg) (fOr2 (fInD neg) (fInSign neg))
theorem o_in (G : GOk X.K γ g) (hu : X.A.units + 1 < cLine) : Op2 X γ W (compareOp .In) (fIn g false) := (o_inSeq G).or ((o_inD hu).or o_inSign)
theorem o_nin (G : GOk X.K γ g) (hu : X.A.units + 1 < cLine) : Op2 X γ W (compareOp .NotIn) (fIn g true) := (o_ninSeq G).or ((o_ninD hu).or o_ninSign)
end
end MV

namespace MV
open PySem PySem.Spec PyProof.Rows L2

/-! ### data that is compared -/
def mapD {α β : Type} (f : α → Option β) : List α → Option (List β)
  | [] => some []
  | a :: r => match f a with
    | some b => match mapD f r with
      | some bs => some (b :: bs)
      | none => none
    | none => none
def uD (g : GT) (st : VS) : Nat → U → Option PyData
  | 0, _ => none
  | n + 1, u => match u with
    | .non => some .none
    | .bl b => some (.bool b)
    | .int i => some (.int i)
    | .str x => some (.str x)
    | _ => match seqOf g st u with
      | some (false, xs) => match mapD (uD g st n) xs with
        | some ds => some (.list ds)
        | none => none
      | some (true, xs) => match mapD (uD g st n) xs with
        | some ds => some (.tuple ds)
        | none => none
      | none => none
def allB {α : Type} (f : α → Bool) : List α → Bool
  | [] => true
  | a :: r => match f a with
    | true => allB f r
    | false => false
def dSh : Nat → PyData → Bool
  | 0, d => match d with
    | .none => true
    | .bool _ => true
    | .int _ => true
    | .str x => allB (fun c => Nat.blt c 0x110000) x.cps.toList
    | _ => false
  | n + 1, d => match d with
    | .none => true
    | .bool _ => true
    | .int _ => true
    | .str x => allB (fun c => Nat.blt c 0x110000) x.cps.toList
    | .list xs => allB (dSh n) xs
    | .tuple xs => allB (dSh n) xs
    | .dict _ => false
def zipB {α : Type} (f : α → α → Option Bool) : List α → List α → Option Bool
  | [], [] => some true
  | a :: r, b :: s => match f a b with
    | some true => zipB f r s
    | some false => some false
    | none => none
  | _, _ => some false
/-- d == e, at most n deep -/
def dEq : Nat → PyData → PyData → Option Bool
  | 0, _, _ => none
  | n + 1, d, e => match d, e with
    | .none, .none => some true
    | .bool a, .bool b => some (bEq a b)
    | .bool a, .int b => some (iEq (bI a) b)
    | .int a, .bool b => some (iEq a (bI b))
    | .int a, .int b => some (iEq a b)
    | .str a, .str b => some (sEq a b)
    | .list xs, .list ys => zipB (dEq n) xs ys
    | .tuple xs, .tuple ys => zipB (dEq n) xs ys
    | .dict _, _ => none
    | _, .dict _ => none
    | _, _ => some false
theorem allB_iff {α : Type} {f : α → Bool} : ∀ {l : List α}, allB f l = true → ∀ a ∈ l, f a = true
  | [], _, _, h => nomatch h
  | b :: r, h, a, ha => by
    have h2 : (match f b with | true => allB f r | false => false) = true := h
    cases q : f b with
    | false => rw [q] at h2; cases h2
    | true =>
      rw [q] at h2
      rcases List.mem_cons.mp ha with z | z
      · rw [z]; exact q
      · exact allB_iff h2 a z
theorem strOk_ok {x : Str} (h : allB (fun c => Nat.blt c 0x110000) x.cps.toList = true) : PyData.strOk x = true := by
  unfold PyData.strOk
  rw [Array.all_eq_true_iff_forall_mem]
  intro c hc
  have := allB_iff h c (by simpa using hc)
  exact decide_eq_true (Nat.le_of_ble_eq_true this)
theorem dSh_ok : ∀ (n : Nat) (d : PyData), dSh n d = true → d.canLay0 = true ∧ d.depth ≤ n
  | 0, d, h => by
    cases d with
    | none => exact ⟨rfl, by simp [PyData.depth]⟩
    | bool b => exact ⟨rfl, by simp [PyData.depth]⟩
    | int i => exact ⟨rfl, by simp [PyData.depth]⟩
    | str x => exact ⟨by simp only [PyData.canLay0]; exact strOk_ok h, by simp [PyData.depth]⟩
    | list _ => cases h
    | tuple _ => cases h
    | dict _ => cases h
  | n + 1, d, h => by
    have key : ∀ ds : List PyData, allB (dSh n) ds = true → PyData.canLayAll0 ds = true ∧ PyData.depthAll ds ≤ n := fun ds => by
      induction ds with
      | nil => intro _; exact ⟨by simp [PyData.canLayAll0], by simp [PyData.depthAll]⟩
      | cons x r ih =>
        intro hh
        have h2 : (match dSh n x with | true => allB (dSh n) r | false => false) = true := hh
        cases q : dSh n x with
        | false => rw [q] at h2; cases h2
        | true =>
          rw [q] at h2
          obtain ⟨a, b⟩ := ih h2
          obtain ⟨c, e⟩ := dSh_ok n x q
          exact ⟨by simp [PyData.canLayAll0, a, c], by simp only [PyData.depthAll]; omega⟩
    cases d with
    | none => exact ⟨rfl, by simp [PyData.depth]⟩
    | bool b => exact ⟨rfl, by simp [PyData.depth]⟩
    | int i => exact ⟨rfl, by simp [PyData.depth]⟩
    | str x => exact ⟨by simp only [PyData.canLay0]; exact strOk_ok h, by simp [PyData.depth]⟩
    | list xs => obtain ⟨a, b⟩ := key xs h; exact ⟨by simp only [PyData.canLay0]; exact a, by simp only [PyData.depth]; omega⟩
    | tuple xs => obtain ⟨a, b⟩ := key xs h; exact ⟨by simp only [PyData.canLay0]; exact a, by simp only [PyData.depth]; omega⟩
    | dict _ => cases h
theorem shaped_ok {d : PyData} (h : dSh 40 d = true) : SeqAt.shaped d = true := by
  obtain ⟨a, b⟩ := dSh_ok 40 d h
  exact Bool.and_eq_true_iff.mpr ⟨a, decide_eq_true (by omega)⟩
theorem zipB_ok {n : Nat} (ih : ∀ d e b, dEq n d e = some b → PyData.eqv d e = b) : ∀ (xs ys : List PyData) (b : Bool), zipB (dEq n) xs ys = some b → PyData.eqvAll xs ys = b
  | [], [], b, h => by cases h; rfl
  | [], _ :: _, b, h => by cases h; rfl
  | _ :: _, [], b, h => by cases h; rfl
  | x :: r, y :: s, b, h => by
    have h2 : (match dEq n x y with | some true => zipB (dEq n) r s | some false => some false | none => none) = some b := h
    simp only [PyData.eqvAll]
    cases q : dEq n x y with
    | none => rw [q] at h2; cases h2
    | some c =>
      rw [q] at h2
      rw [ih x y c q]
      cases c with
      | false => cases h2; rfl
      | true => rw [zipB_ok ih r s b h2]; rfl
theorem dEq_ok : ∀ (n : Nat) (d e : PyData) (b : Bool), dEq n d e = some b → PyData.eqv d e = b
  | 0, _, _, _, h => nomatch h
  | n + 1, d, e, b, h => by
    have ih := dEq_ok n
    cases d <;> cases e <;> first | (cases h; done) | (cases h; simp only [PyData.eqv]; done) | skip
    · rename_i x y
      cases h
      simp only [PyData.eqv]
      cases x <;> cases y <;> rfl
    · rename_i x y
      cases h
      simp only [PyData.eqv]
      rw [← iEq_beq]; cases x <;> rfl
    · rename_i x y
      cases h
      simp only [PyData.eqv]
      rw [← iEq_beq]; cases y <;> rfl
    · cases h
      simp only [PyData.eqv]
      exact iEq_beq _ _
    · cases h
      simp only [PyData.eqv]
      exact sEq_beq _ _
    · simp only [PyData.eqv]; exact zipB_ok ih _ _ b h
    · simp only [PyData.eqv]; exact zipB_ok ih _ _ b h
section
variable {γ : Nat → Addr} {W : WX} {X : Cx} {g : GT} {ρ : List Addr} {st : VS} {H : Hp}
theorem mapD_cons {α β : Type} {f : α → Option β} {a : α} {r : List α} : mapD f (a :: r) = (match f a with | some b => (match mapD f r with | some bs => some (b :: bs) | none => none) | none => none) := rfl
theorem mapD_ok {K : PySem.W.Frag} {f : U → Option PyData} (ih : ∀ u v d, f u = some d → RU γ ρ u v → Dp K H v d) : ∀ (us : List U) (vs : List V) (ds : List PyData), mapD f us = some ds → RL γ ρ us vs → DpAll K H vs ds
  | _, _, _, e, .nil => by cases e; exact .nil
  | u :: r, v :: s, ds, e, .cons a t => by
    rw [mapD_cons] at e
    cases q : f u with
    | none => rw [q] at e; cases e
    | some d =>
      cases q2 : mapD f r with
      | none => rw [q, q2] at e; cases e
      | some bs => rw [q, q2] at e; cases e; exact .cons (ih u v d q a) (mapD_ok ih r s bs q2 t)
theorem uD_ok {K : PySem.W.Frag} (G : GOk K γ g) (R : Rep γ ρ st H) : ∀ (n : Nat) (u : U) (v : V) (d : PyData), uD g st n u = some d → RU γ ρ u v → Dp K H v d
  | 0, _, _, _, e, _ => nomatch e
  | n + 1, u, v, d, e, r => by
    have ih := uD_ok G R n
    have rest : (match seqOf g st u with
      | some (false, xs) => (match mapD (uD g st n) xs with
        | some ds => some (PyData.list ds)
        | none => none)
      | some (true, xs) => (match mapD (uD g st n) xs with
        | some ds => some (PyData.tuple ds)
        | none => none)
      | none => none) = some d → Dp K H v d := fun e => by
      cases q : seqOf g st u with
      | none => rw [q] at e; cases e
      | some bx =>
        obtain ⟨b, xs⟩ := bx
        rw [q] at e
        obtain ⟨a, ys, ev, rl, hs⟩ := seq_ok G R r q
        subst ev
        cases b with
        | false =>
          have e3 : (match mapD (uD g st n) xs with | some ds => some (PyData.list ds) | none => none) = some d := e
          cases q2 : mapD (uD g st n) xs with
          | none => rw [q2] at e3; cases e3
          | some ds => rw [q2] at e3; cases e3; exact .lst hs (mapD_ok ih xs ys ds q2 rl)
        | true =>
          have e3 : (match mapD (uD g st n) xs with | some ds => some (PyData.tuple ds) | none => none) = some d := e
          cases q2 : mapD (uD g st n) xs with
          | none => rw [q2] at e3; cases e3
          | some ds => rw [q2] at e3; cases e3; exact .tup hs (mapD_ok ih xs ys ds q2 rl)
    cases u with
    | non => have r : v = .non := r; subst r; cases e; exact .non
    | bl b => have r : v = .bl b := r; subst r; cases e; exact .bl b
    | int b => have r : v = .int b := r; subst r; cases e; exact .int b
    | str b => have r : v = .str b := r; subst r; cases e; exact .str b
    | ref i => exact rest e
    | glo k => exact rest e
    | ty n => exact rest e
def fEqD (g : GT) (neg : Bool) : U → U → VS → Go U := fun a b st κ => match uD g st 30 a with
  | some d => match uD g st 30 b with
    | some e => match dSh 40 d, dSh 40 e, dEq 40 d e with
      | true, true, some r => κ (.ok (.bl (bif neg then !r else r))) st
      | _, _, _ => false
    | none => false
  | none => false
theorem leaf_eqD {K : PySem.W.Frag} (G : GOk K γ g) (neg : Bool) : Leaf2 γ W (fun x y H Q => ∃ d e, Dp K H x d ∧ Dp K H y e ∧ SeqAt.shaped d = true ∧ SeqAt.shaped e = true ∧ Q (.bl (bif neg then !PyData.eqv d e else PyData.eqv d e)) H) (fEqD g neg) := fun ρ st H τ u1 u2 v1 v2 R r1 r2 κ Q hm ok ex => by
  have hm2 : (match uD g st 30 u1 with
    | some d => (match uD g st 30 u2 with
      | some e => (match dSh 40 d, dSh 40 e, dEq 40 d e with
        | true, true, some r => κ (.ok (.bl (bif neg then !r else r))) st
        | _, _, _ => false)
      | none => false)
    | none => false) = true := hm
  cases q1 : uD g st 30 u1 with
  | none => rw [q1] at hm2; cases hm2
  | some d =>
    cases q2 : uD g st 30 u2 with
    | none => rw [q1, q2] at hm2; cases hm2
    | some e =>
      rw [q1, q2] at hm2
      have hm3 : (match dSh 40 d, dSh 40 e, dEq 40 d e with
        | true, true, some r => κ (.ok (.bl (bif neg then !r else r))) st
        | _, _, _ => false) = true := hm2
      cases q3 : dSh 40 d with
      | false => rw [q3] at hm3; cases hm3
      | true =>
        cases q4 : dSh 40 e with
        | false => rw [q3, q4] at hm3; cases hm3
        | true =>
          cases q5 : dEq 40 d e with
          | none => rw [q3, q4, q5] at hm3; cases hm3
          | some r =>
            rw [q3, q4, q5] at hm3
            refine ⟨d, e, uD_ok G R 30 _ _ _ q1 r1, uD_ok G R 30 _ _ _ q2 r2, shaped_ok q3, shaped_ok q4, ?_⟩
            rw [dEq_ok 40 d e r q5]
            exact ok.here (u := .bl (bif neg then !r else r)) R rfl hm3
theorem o_eqD (G : GOk X.K γ g) (hu : X.A.units + 64 < cLine) : Op2 X γ W (compareOp .Eq) (fEqD g false) := ⟨_, op_eqD hu, leaf_eqD G false⟩
theorem o_neD (G : GOk X.K γ g) (hu : X.A.units + 64 < cLine) : Op2 X γ W (compareOp .NotEq) (fEqD g true) := ⟨_, op_neD hu, leaf_eqD G true⟩

/-! ### two lists of different lengths, whatever is in them -/
def rLenNe (K : PySem.W.Frag) (neg : Bool) : R2 := fun x y H Q => ∃ a b xs ys, x = .ref a ∧ y = .ref b ∧ SqL K H a xs ∧ SqL K H b ys ∧ xs.length ≠ ys.length ∧ Q (.bl neg) H
theorem lst_of {s : Shared} {a : Addr} {its : List Value} (p : PlainL s.heap a its.toArray) : s.heap.IsList a its.toArray := by
  obtain ⟨o, m, e, c, d, q⟩ := p
  exact ⟨o, e, c, m, q⟩
theorem op_lenNe (hu : X.A.units < cLine) : OpR X (compareOp .Eq) (rLenNe X.K false) := by
  intro pins s σ H x y v u Q I rx ry ⟨a, b, xs, ys, ex, ey, ha, hb, hl, q⟩
  subst ex ey
  obtain rfl : v = Value.ref a := rx
  obtain rfl : u = Value.ref b := ry
  obtain ⟨its, r1, p1, _⟩ := I.list ha
  obtain ⟨jts, r2, p2, _⟩ := I.list hb
  refine SeqAt.eq_list_lengthsAt (lst_of p1) (lst_of p2) ?_ hu ⟨.bl false, H, I, rfl, q⟩
  simp only [List.size_toArray, ← r1.length, ← r2.length]
  exact bne_iff_ne.mpr hl
theorem op_lenNeN (hu : X.A.units < cLine) : OpR X (compareOp .NotEq) (rLenNe X.K true) := by
  intro pins s σ H x y v u Q I rx ry ⟨a, b, xs, ys, ex, ey, ha, hb, hl, q⟩
  subst ex ey
  obtain rfl : v = Value.ref a := rx
  obtain rfl : u = Value.ref b := ry
  obtain ⟨its, r1, p1, _⟩ := I.list ha
  obtain ⟨jts, r2, p2, _⟩ := I.list hb
  refine SeqAt.RcNeAt.lists_lengths (lst_of p1) (lst_of p2) ?_ hu X.prog X.w _ _ ⟨.bl true, H, I, rfl, q⟩
  simp only [List.size_toArray, ← r1.length, ← r2.length]
  exact bne_iff_ne.mpr hl
def fLenNe (g : GT) (neg : Bool) : U → U → VS → Go U := fun a b st κ => match seqOf g st a, seqOf g st b with
  | some (false, xs), some (false, ys) => match Nat.beq xs.length ys.length with
    | false => κ (.ok (.bl neg)) st
    | true => false
  | _, _ => false
theorem leaf_lenNe {K : PySem.W.Frag} (G : GOk K γ g) (neg : Bool) : Leaf2 γ W (rLenNe K neg) (fLenNe g neg) := fun ρ st H τ u1 u2 v1 v2 R r1 r2 κ Q hm ok ex => by
  have hm2 : (match seqOf g st u1, seqOf g st u2 with
    | some (false, xs), some (false, ys) => (match Nat.beq xs.length ys.length with
      | false => κ (.ok (.bl neg)) st
      | true => false)
    | _, _ => false) = true := hm
  cases q1 : seqOf g st u1 with
  | none => rw [q1] at hm2; cases hm2
  | some bx =>
    obtain ⟨b1, xs⟩ := bx
    cases q2 : seqOf g st u2 with
    | none => rw [q1, q2] at hm2; cases b1 <;> cases hm2
    | some bx =>
      obtain ⟨b2, ys⟩ := bx
      rw [q1, q2] at hm2
      cases b1 <;> cases b2 <;> first | (cases hm2; done) | skip
      have hm3 : (match Nat.beq xs.length ys.length with
        | false => κ (.ok (.bl neg)) st
        | true => false) = true := hm2
      obtain ⟨a, vs, ea, ra, ha⟩ := seq_ok G R r1 q1
      obtain ⟨b, ws, eb, rb, hb⟩ := seq_ok G R r2 q2
      cases q : Nat.beq xs.length ys.length with
      | true => rw [q] at hm3; cases hm3
      | false =>
        rw [q] at hm3
        refine ⟨a, b, vs, ws, ea, eb, ha, hb, fun z => ?_, ok.here (u := .bl neg) R rfl hm3⟩
        rw [← ra.length, ← rb.length] at z
        rw [z, Nat.beq_refl] at q; cases q
def fEq (g : GT) (neg : Bool) : U → U → VS → Go U := fOr2 (fEqD g neg) (fLenNe g neg)
theorem o_eq (G : GOk X.K γ g) (hu : X.A.units + 64 < cLine) : Op2 X γ W (compareOp .Eq) (fEq g false) := (o_eqD G hu).or ⟨_, op_lenNe (by omega), leaf_lenNe G false⟩
theorem o_ne (G : GOk X.K γ g) (hu : X.A.units + 64 < cLine) : Op2 X γ W (compareOp .NotEq) (fEq g true) := (o_neD G hu).or ⟨_, op_lenNeN (by omega), leaf_lenNe G true⟩

/-! ### subscripts -/
def IxR2 (X : Cx) (r : R2) : Prop :=
  ∀ (value slice : Expr) (pins : List (Addr × Obj)) (s : Shared) (σ : L2.St) (H : Hp) (x y : V) (v u : Value) (Q : VK), Inv X pins σ H s → RelV x v → RelV y u → r x y H Q →
    subscripted slice false v u = operate [v, u] (getItem v u) → subscripted slice true v u = runValue (.builtin "lifetime.subscript" ⟨[v, u], []⟩) → wpAny (model X.prog X.w) X.A (subscriptTail value slice v u) (EP X pins σ Q) X.xe s
theorem IxR.two {r : R2} (h : IxR X r) : IxR2 X r := fun value slice pins s σ H x y v u Q I rx ry q hs _ => h value slice pins s σ H x y v u Q I rx ry q hs
def Ix2 (X : Cx) (γ : Nat → Addr) (W : WX) (f : U → U → VS → Go U) : Prop := ∃ r, IxR2 X r ∧ Leaf2 γ W r f
theorem Ix2.or {f f' : U → U → VS → Go U} (h : Ix2 X γ W f) (h' : Ix2 X γ W f') : Ix2 X γ W (fOr2 f f') := by
  obtain ⟨r, a, b⟩ := h
  obtain ⟨r', a', b'⟩ := h'
  exact ⟨_, fun value slice pins s σ H x y v u Q I rx ry q hs hs2 => q.elim (fun z => a value slice pins s σ H x y v u Q I rx ry z hs hs2) fun z => a' value slice pins s σ H x y v u Q I rx ry z hs hs2, Leaf2.or b b'⟩
def PlainIx2 (b : Expr) : Prop := ∀ o i, subscripted b true o i = runValue (.builtin "lifetime.subscript" ⟨[o, i], []⟩)
theorem se_ix2 {a b : Expr} {pos : Pos} {f : U → U → VS → Go U} {ma mb : ME} (ho : Ix2 X γ W f) (ha : SE γ W X a ma) (hb : SE γ W X b mb) (hs : PlainIx b := by intro _ _; rfl) (hs2 : PlainIx2 b := by intro _ _; rfl) : SE γ W X (.Subscript a b pos) (mBin f ma mb) := by
  obtain ⟨r, p, q⟩ := ho
  obtain ⟨ta, pa, sa⟩ := ha
  obtain ⟨tb, pb, sb⟩ := hb
  have P : PE X (.Subscript a b pos) (tOp r ta tb) := ⟨fun pins s σ H Q I h => Subscript_ (binT pa pb I h fun v u s2 x y H2 I2 rx ry q => p a b pins s2 σ H2 x y v u Q I2 rx ry q (hs _ _) (hs2 _ _))⟩
  exact ⟨_, P, sim_bin q sa sb⟩
def uAt (xs : List U) : Int → Option U
  | .ofNat n => xs[n]?
  | .negSucc m => match Nat.blt m xs.length with
    | true => xs[xs.length - 1 - m]?
    | false => none
theorem uAt_ok {xs : List U} {ys : List V} (rl : RL γ ρ xs ys) {i : Int} {u : U} (e : uAt xs i = some u) : ∃ v, atI ys i = some v ∧ RU γ ρ u v := by
  have hl := rl.length
  cases i with
  | ofNat n =>
    obtain ⟨v, hv, rv⟩ := pget rl (show xs[n]? = some u from e)
    refine ⟨v, ?_, rv⟩
    have hn : n < ys.length := (List.getElem?_eq_some_iff.mp hv).1
    show (ixN ys.length (n : Int)).bind _ = _
    unfold ixN
    rw [if_pos (Int.natCast_nonneg n), if_pos (by exact_mod_cast hn)]
    exact hv
  | negSucc m =>
    have e2 : (match Nat.blt m xs.length with | true => xs[xs.length - 1 - m]? | false => none) = some u := e
    cases q : Nat.blt m xs.length with
    | false => rw [q] at e2; cases e2
    | true =>
      rw [q] at e2
      have hm : m < xs.length := Nat.le_of_ble_eq_true q
      obtain ⟨v, hv, rv⟩ := pget rl e2
      refine ⟨v, ?_, rv⟩
      unfold atI ixN
      have h0 : ¬ (0 ≤ Int.negSucc m) := by simp
      have h1 : -(ys.length : Int) ≤ Int.negSucc m := by rw [Int.negSucc_eq]; omega
      rw [if_neg h0, if_pos h1]
      have e3 : (Int.negSucc m + (ys.length : Int)).toNat = xs.length - 1 - m := by rw [Int.negSucc_eq]; omega
      show ys[(Int.negSucc m + (ys.length : Int)).toNat]? = some v
      rw [e3]; exact hv
def fIxS (g : GT) : U → U → VS → Go U := fun a b st κ => match b with
  | .int i => match seqOf g st a with
    | some (_, xs) => match uAt xs i with
      | some u => κ (.ok u) st
      | none => false
    | none => false
  | _ => false
theorem o_ixS (G : GOk X.K γ g) : Ix2 X γ W (fIxS g) := ⟨_, IxR.two (IxR.or ix_list ix_tup), fun ρ st H τ u1 u2 v1 v2 R r1 r2 κ Q hm ok ex => by
  cases u2 <;> first | (cases hm; done) | skip
  rename_i i
  have hm2 : (match seqOf g st u1 with
    | some (_, xs) => (match uAt xs i with
      | some u => κ (.ok u) st
      | none => false)
    | none => false) = true := hm
  cases q : seqOf g st u1 with
  | none => rw [q] at hm2; cases hm2
  | some bx =>
    obtain ⟨b, xs⟩ := bx
    rw [q] at hm2
    have hm3 : (match uAt xs i with
      | some u => κ (.ok u) st
      | none => false) = true := hm2
    obtain ⟨a, ys, ev, rl, hs⟩ := seq_ok G R r1 q
    cases q2 : uAt xs i with
    | none => rw [q2] at hm3; cases hm3
    | some u =>
      rw [q2] at hm3
      obtain ⟨v, hv, rv⟩ := uAt_ok rl q2
      cases b with
      | false => exact .inl ⟨a, ys, i, v, ev, r2, hs, hv, ok.here R rv hm3⟩
      | true => exact .inr ⟨a, ys, i, v, ev, r2, hs, hv, ok.here R rv hm3⟩⟩
def rDGet : R2 := fun x y H Q => ∃ a v, x = .ref a ∧ DGet H a y (some v) ∧ Q v H
theorem ix_dict (hu : X.A.units + 1 < cLine) : IxR X rDGet := by
  intro value slice pins s σ H x y v u Q I rx ry ⟨a, z, ex, gg, q⟩ hs
  subst ex
  obtain rfl : v = Value.ref a := rx
  have hT := dict_typeIs I gg
  unfold subscriptTail
  refine wpAny_bind ?_
  rw [getitemInPython_of_ne hT.not_modules]
  refine wpAny_bind (wpAny_specialOf hT PySem.F.slot_dict_getitem.lookup ?_)
  have fin : wpAny (model X.prog X.w) X.A (subscripted slice false (.ref a) u) (fun r s₃ => wpAny (model X.prog X.w) X.A (letTemporaryGo value (.ref a) r >>= fun _ => pure r) (EP X pins σ Q) X.xe s₃) X.xe s := by
    rw [hs]
    refine wpAny_operating (d_getItem hu I gg ry fun w' s3 I3 rw' => wpAny_bind (wpAny_letTemporaryGo (wpAny_pure ⟨z, H, I3, rw', q⟩)))
  first
    | exact wpAny_pure (wpAny_bind fin)
    | exact wpAny_bind fin
    | exact wpAny_pure fin
def fIxD : U → U → VS → Go U := fun a b st κ => match a with
  | .ref i => match st.get i with
    | some (.dct _ kvs) => match kOf b with
      | some k => match kGet k kvs with
        | some u => κ (.ok u) st
        | none => false
      | none => false
    | _ => false
  | _ => false
theorem o_ixD (hu : X.A.units + 1 < cLine) : Ix2 X γ W fIxD := ⟨_, IxR.two (ix_dict hu), fun ρ st H τ u1 u2 v1 v2 R r1 r2 κ Q hm ok ex => by
  cases u1 <;> first | (cases hm; done) | skip
  rename_i i
  have hm2 : (match st.get i with
    | some (.dct _ kvs) => (match kOf u2 with
      | some k => (match kGet k kvs with
        | some u => κ (.ok u) st
        | none => false)
      | none => false)
    | _ => false) = true := hm
  cases q : st.get i with
  | none => rw [q] at hm2; cases hm2
  | some o =>
    rw [q] at hm2
    cases o <;> first | (cases hm2; done) | skip
    rename_i lk kvs
    have hm3 : (match kOf u2 with
      | some k => (match kGet k kvs with
        | some u => κ (.ok u) st
        | none => false)
      | none => false) = true := hm2
    obtain ⟨a, ev, _, ro⟩ := R.get q r1
    obtain ⟨ws, rd, rk⟩ := dct_rd ro
    cases q2 : kOf u2 with
    | none => rw [q2] at hm3; cases hm3
    | some k =>
      rw [q2] at hm3
      have hm4 : (match kGet k kvs with
        | some u => κ (.ok u) st
        | none => false) = true := hm3
      rcases rk.get (k := k) with ⟨e1, e2⟩ | ⟨u, v, e1, e2, ru⟩
      · rw [e1] at hm4; cases hm4
      · rw [e1] at hm4
        exact ⟨a, v, ev, .inl ⟨ws, k, rd, kOf_ok q2 r2, e2.symm⟩, ok.here R ru hm4⟩⟩
/-- o[x] by the class's own __getitem__ -/
def rOwn2 (C : Addr) (sp : Sp) : R2 := fun o x H Q => ∃ a dx fs, o = .ref a ∧ H a = some (.ins C dx fs) ∧ sp [.ref a, x] H Q E0
theorem ix_own {k : Nat} {f C : Addr} {sp : Sp} (hs : PySem.W.findIn X.K (.ref C) "__getitem__" = some (some (.ref f))) (hf : PySem.W.fnIn X.K f = true) (hfn : PySem.W.isFn X.K (.ref f) = true) (F : FnR X.prog X.w X.K X.mg X.base CX0 k f sp) (hr : Room (k + 1) X.A) : IxR2 X (rOwn2 C sp) := by
  intro value slice pins s σ H x y v u Q I rx ry ⟨a, dx, fs, ex, ea, h⟩ _ hs2
  subst ex
  obtain rfl : v = Value.ref a := rx
  obtain ⟨mA, O, _, _, _, _⟩ := ins_get I.hok ea
  obtain ⟨od, J, _⟩ := O.look
  obtain ⟨m, Fm⟩ := I.fr
  exact PySem.W.sub_K Fm I.ok.mod.kin J hs hf hfn (run_wp (vs := [.ref a, y]) F hr.in1 I.env0.in1 I (.cons rfl (.cons ry .nil)) h) hs2
/-- the instance's own method on the two -/
def fSelf2 (c : Nat) (mf : MF) : U → U → VS → Go U := fun o x st => match o with
  | .ref i => match st.get i with
    | some (.ins c' _) => match Nat.beq c' c with
      | true => callM mf 2 [o, x] st
      | false => bad
    | _ => bad
  | _ => bad
theorem leaf_self2 {c : Nat} {mf : MF} : Leaf2 γ W (rOwn2 (γ c) (SpM γ 2 mf)) (fSelf2 c mf) := fun ρ st H τ o x vo vx R ro rx κ Q hm ok ex => by
  cases o <;> first | (cases hm; done) | skip
  rename_i i
  have k2 : (match st.get i with
    | some (.ins c' _) => (match Nat.beq c' c with
      | true => callM mf 2 [.ref i, x] st
      | false => bad)
    | _ => bad) κ = true := hm
  cases q : st.get i with
  | none => rw [q] at k2; cases k2
  | some ob =>
    rw [q] at k2
    cases ob <;> first | (cases k2; done) | skip
    rename_i c' fs
    obtain ⟨a, ev, ea, dx, ws, hh, rf⟩ := R.get q ro
    subst ev
    have k3 : (match Nat.beq c' c with
      | true => callM mf 2 [.ref i, x] st
      | false => bad) κ = true := k2
    cases qc : Nat.beq c' c with
    | false => rw [qc] at k3; cases k3
    | true =>
      have ec := Nat.eq_of_beq_eq_true qc
      subst ec
      rw [qc] at k3
      exact ⟨a, dx, ws, rfl, hh, sim_call (W := W) (τ := τ) R (.cons ro (.cons rx .nil)) _ _ k3 ok ex⟩
theorem o_ixOwn {k c : Nat} {f : Addr} {mf : MF} (hs : PySem.W.findIn X.K (.ref (γ c)) "__getitem__" = some (some (.ref f))) (hf : PySem.W.fnIn X.K f = true) (hfn : PySem.W.isFn X.K (.ref f) = true) (F : FnM X γ k f 2 mf) (hr : Room (k + 1) X.A) : Ix2 X γ W (fSelf2 c mf) := ⟨_, ix_own hs hf hfn F hr, leaf_self2⟩
theorem o_inOwn {k c : Nat} {f : Addr} {mf : MF} (hs : PySem.W.findIn X.K (.ref (γ c)) "__contains__" = some (some (.ref f))) (hfn : PySem.W.isFn X.K (.ref f) = true) (F : FnM X γ k f 2 mf) (hr : Room k X.A) : Op2 X γ W (compareOp .In) (fOwn2 c mf fun b => bif false then !b else b) := ⟨_, op_in_own hs hfn F hr, leaf_ownIn false⟩
theorem o_ninOwn {k c : Nat} {f : Addr} {mf : MF} (hs : PySem.W.findIn X.K (.ref (γ c)) "__contains__" = some (some (.ref f))) (hfn : PySem.W.isFn X.K (.ref f) = true) (F : FnM X γ k f 2 mf) (hr : Room k X.A) : Op2 X γ W (compareOp .NotIn) (fOwn2 c mf fun b => bif true then !b else b) := ⟨_, op_notin_own hs hfn F hr, leaf_ownIn true⟩
end
end MV

namespace MV
open PySem PySem.Calls PyProof.Rows PyProof.V PySem.Spec
open PySem.W (KdxG kdx_alive)

/-! ### list(enumerate(xs)) -/
/-- an enumerate whose last tuple is held elsewhere -/
abbrev EnF (h : Heap) (e it : Addr) (i : Int) (a : Addr) (f : Bool) (item : Value) : Prop :=
  h.get? e = some { cls := .type "enumerate", dict := none, data := .fields #[rawInt a, .bool f, .ref it, rawInt i, .none, item], slots := #[] }
section
variable {prog : Program} {w : World} {A : Around} {E : Value → Shared → Prop} {s : Shared}
theorem enf_next {e it l a : Addr} {f : Bool} {oa : Obj} {i : Nat} {items : Array Value} {x old : Value} {Q : Option Value → Shared → Prop}
    (he : EnF s.heap e it i a f old) (ha : s.heap.get? a = some oa) (hae : a ≠ e) (hai : a ≠ it) (hit : s.heap.IsListIter it l i) (hl : s.heap.IsList l items) (hx : items[i]? = some x) (hne : e ≠ it)
    (hQ : ∀ h' tk, EnF h' e it ((i : Int) + 1) a true old → h'.IsListIter it l (i + 1) →
      h'.get? s.heap.objs.size = some { cls := .type "tuple", data := .seq #[.int i tk, x] } → h'.objs.size = s.heap.objs.size + 1 →
      (∀ b o, b ≠ e → b ≠ it → s.heap.get? b = some o → h'.get? b = some o) → Q (some (.ref s.heap.objs.size)) { s with heap := h', toks := s.toks + 1 }) :
    wpAny (model prog w) A (pyNext (.ref e)) Q E s := by
  obtain ⟨hp, g, d, tk, os⟩ := s
  have hT : Shared.TypeIs ⟨hp, g, d, tk, os⟩ (.ref e) "enumerate" := ⟨_, he, rfl⟩
  unfold pyNext
  refine wpAny_bind (wpAny_attempt (wpAny_callSpecial?_slot (name := Str.ofString "__next__") hT PySem.F.slot_enumerate_next
    (wpAny_call_entry PySem.F.slot_enumerate_next hT PySem.F.entry_enumerate_next ?_ (PySem.F.args_enumerate_next_1 _))))
  show wpAny _ _ (field (.ref e) 2 >>= _) _ _ _
  refine wpAny_bind (wpAny_field he rfl (x := .ref it) rfl ?_)
  refine wpAny_bind (wpAny_nextOf_list_item hit hl hx fun h₁ hit₁ hs₁ => ?_)
  replace hs₁ : Heap.SameBut it hp h₁ := hs₁
  have he₁ : EnF h₁ e it i a f old := (hs₁.2 e hne).trans he
  show wpAny _ _ (field (.ref e) 3 >>= _) _ _ ⟨h₁, g, d, tk, os⟩
  refine wpAny_bind (wpAny_field he₁ rfl (x := rawInt i) rfl ?_)
  show wpAny _ _ (field (.ref e) 4 >>= _) _ _ ⟨h₁, g, d, tk, os⟩
  refine wpAny_bind (wpAny_field he₁ rfl (x := .none) rfl ?_)
  show wpAny _ _ (mkInt i >>= _) _ _ ⟨h₁, g, d, tk, os⟩
  refine wpAny_bind (wpAny_mkInt ?_)
  show wpAny _ _ (setField (.ref e) 3 (rawInt ((i : Int) + 1)) >>= _) _ _ ⟨h₁, g, d, tk + 1, os⟩
  refine wpAny_bind (wpAny_setField_rec he₁ (by simp) fun h₂ he₂ hs₂ => ?_)
  replace hs₂ : Heap.SameBut e h₁ h₂ := hs₂
  replace he₂ : EnF h₂ e it ((i : Int) + 1) a f old := he₂
  show wpAny _ _ (setField (.ref e) 4 .none >>= _) _ _ ⟨h₂, g, d, tk + 1, os⟩
  refine wpAny_bind (wpAny_setField_rec he₂ (by simp) fun h₃ he₃ hs₃ => ?_)
  replace hs₃ : Heap.SameBut e h₂ h₃ := hs₃
  replace he₃ : EnF h₃ e it ((i : Int) + 1) a f old := he₃
  show wpAny _ _ (newTuple [.int i tk, x] >>= _) _ _ ⟨h₃, g, d, tk + 1, os⟩
  refine wpAny_bind (wpAny_newTuple ?_)
  have he₄ : EnF (h₃.push { cls := .type "tuple", data := .seq #[.int i tk, x] }) e it ((i : Int) + 1) a f old := Heap.get?_push_of_some _ he₃
  generalize hh₄ : h₃.push { cls := .type "tuple", data := .seq #[.int i tk, x] } = h₄ at he₄
  have hsz : h₃.objs.size = hp.objs.size := by rw [hs₃.1, hs₂.1, hs₁.1]
  have hel : e < hp.objs.size := Heap.lt_size he
  have ht₄ : h₄.get? hp.objs.size = some { cls := .type "tuple", data := .seq #[.int i tk, x] } := by rw [← hh₄, ← hsz]; exact Heap.get?_push_size _ rfl
  have hz₄ : h₄.objs.size = hp.objs.size + 1 := by rw [← hh₄, Heap.size_push, hsz]
  have hk₄ : ∀ b o, b ≠ e → b ≠ it → hp.get? b = some o → h₄.get? b = some o := fun b o hbe hbi hb => by
    rw [← hh₄]; exact Heap.get?_push_of_some _ (hs₃.extBut b o hbe (hs₂.extBut b o hbe (hs₁.extBut b o hbi hb)))
  have hit₄ : h₄.IsListIter it l (i + 1) := by
    rw [← hh₄]; obtain ⟨o, ho, r⟩ := (hit₁.extBut hs₂.extBut (Ne.symm hne)).extBut hs₃.extBut (Ne.symm hne); exact ⟨o, Heap.get?_push_of_some _ ho, r⟩
  have ha₄ : h₄.get? a = some oa := hk₄ a oa hae hai ha
  show wpAny _ _ (Builtin.SmallTypes.ownedTupleIsFree (.ref e) >>= _) _ _ ⟨h₄, g, d, tk + 1, os⟩
  rw [hsz]
  clear hh₄ he₃ hs₃ he₂ hs₂ he₁ hs₁ hit₁ hsz h₃ h₂ h₁
  have fin : ∀ h₅ : Heap, EnF h₅ e it ((i : Int) + 1) a true old → Heap.SameBut e h₄ h₅ → Q (some (.ref hp.objs.size)) ⟨h₅, g, d, tk + 1, os⟩ := fun h₅ he₅ hs₅ =>
    hQ h₅ tk he₅ (hit₄.extBut hs₅.extBut (Ne.symm hne)) (hs₅.extBut _ _ (Nat.ne_of_gt hel) ht₄) (by show h₅.objs.size = hp.objs.size + 1; rw [hs₅.1, hz₄]) fun b o hb hb2 q => hs₅.extBut b o hb (hk₄ b o hb hb2 q)
  refine wpAny_bind ?_
  unfold Builtin.SmallTypes.ownedTupleIsFree
  refine wpAny_bind (wpAny_field he₄ rfl (x := rawInt a) rfl ?_)
  show wpAny _ _ (loadIfAlive ((a : Int).toNat) >>= _) _ _ _
  rw [Int.toNat_natCast]
  refine wpAny_bind (kdx_alive ha₄ ?_)
  simp only [Option.isNone_some, Bool.false_eq_true, if_false]
  refine wpAny_bind (wpAny_field he₄ rfl (x := .bool f) rfl ?_)
  cases f with
  | true =>
    rw [if_neg (show ¬ ((Value.bool true != Value.bool true) = true) from Bool.false_ne_true)]
    refine wpAny_pure ?_
    simp only [Bool.false_eq_true, if_false]
    exact wpAny_pure ⟨_, rfl, wpAny_pure (fin h₄ he₄ (Heap.SameBut.refl _ _))⟩
  | false =>
    rw [if_pos (show (Value.bool false != Value.bool true) = true from rfl)]
    refine wpAny_bind (wpAny_setField_rec he₄ (by simp) fun h₅ he₅ hs₅ => ?_)
    replace hs₅ : Heap.SameBut e h₄ h₅ := hs₅
    replace he₅ : EnF h₅ e it ((i : Int) + 1) a true old := he₅
    refine wpAny_pure ?_
    simp only [Bool.false_eq_true, if_false]
    exact wpAny_pure ⟨_, rfl, wpAny_pure (fin h₅ he₅ hs₅)⟩
theorem enf_end {e it l a : Addr} {f : Bool} {i : Nat} {items : Array Value} {old : Value} {Q : Option Value → Shared → Prop} (hh : A.handled = none)
    (he : EnF s.heap e it i a f old) (hit : s.heap.IsListIter it l i) (hl : s.heap.IsList l items) (hx : items[i]? = none)
    (hQ : ∀ h', Heap.ExtBut it s.heap h' → Q none { s with heap := h' }) : wpAny (model prog w) A (pyNext (.ref e)) Q E s := by
  have hT : s.TypeIs (.ref e) "enumerate" := ⟨_, he, rfl⟩
  unfold pyNext
  refine wpAny_bind (wpAny_attempt (wpAny_callSpecial?_slot (name := Str.ofString "__next__") hT PySem.F.slot_enumerate_next
    (wpAny_call_entry PySem.F.slot_enumerate_next hT PySem.F.entry_enumerate_next ?_ (PySem.F.args_enumerate_next_1 _))))
  show wpAny _ _ (field (.ref e) 2 >>= _) _ _ _
  refine wpAny_bind (wpAny_field he rfl (x := .ref it) rfl ?_)
  refine wpAny_bind (wpAny_nextOf_list_end hh hit hl hx fun h' x he' hx' => ?_)
  obtain ⟨o, ho, hc⟩ := hx'
  refine wpAny_bind (wpAny_isInstance (T := "StopIteration") (b := true) ⟨o, ho, hc⟩ isSubtype_stop ?_)
  exact wpAny_pure (hQ _ he')
def EnSt (h : Heap) (e it l S : Addr) (i : Nat) : Prop := h.IsListIter it l i ∧ ((i = 0 ∧ IsEnum h e it 0 .none) ∨ ∃ a f oa old, EnF h e it i a f old ∧ h.get? a = some oa ∧ a ≠ e ∧ a ≠ it ∧ a ≠ S)
theorem EnSt.keep {h h' : Heap} {e it l S : Addr} {i : Nat} (x : EnSt h e it l S i) (hk : ∀ b o, b ≠ S → h.get? b = some o → h'.get? b = some o) (he : e ≠ S) (hI : it ≠ S) : EnSt h' e it l S i := by
  obtain ⟨z, x⟩ := x
  refine ⟨z.at fun o q => hk it o hI q, ?_⟩
  rcases x with ⟨q, hit⟩ | ⟨a, f, oa, old, hit, ha, hae, hai, haS⟩
  · exact .inl ⟨q, hk _ _ he hit⟩
  · exact .inr ⟨a, f, oa, old, hk _ _ he hit, hk _ _ haS ha, hae, hai, haS⟩
theorem en_item {e it l S : Addr} {i : Nat} {items : Array Value} {x : Value} {Q : Option Value → Shared → Prop} (hst : EnSt s.heap e it l S i) (hS : S < s.heap.objs.size) (hne : e ≠ it)
    (hl : s.heap.IsList l items) (hx : items[i]? = some x)
    (hQ : ∀ h' tk tk', EnSt h' e it l S (i + 1) → h'.get? s.heap.objs.size = some { cls := .type "tuple", data := .seq #[.int i tk, x] } → h'.objs.size = s.heap.objs.size + 1 →
      (∀ b o, b ≠ e → b ≠ it → s.heap.get? b = some o → h'.get? b = some o) → Q (some (.ref s.heap.objs.size)) { s with heap := h', toks := tk' }) :
    wpAny (model prog w) A (pyNext (.ref e)) Q E s := by
  obtain ⟨hit, q⟩ := hst
  obtain ⟨oi, hoi, _⟩ := id hit
  have hil : it < s.heap.objs.size := Heap.lt_size hoi
  rcases q with ⟨rfl, he⟩ | ⟨a, f, oa, old, he, ha, hae, hai, haS⟩
  · exact wpAny_pyNext_enum_item he hit hl hx hne fun h' a b c d k => hQ h' _ _ ⟨b, .inr ⟨_, false, _, x, a, c, Nat.ne_of_gt (Heap.lt_size he), Nat.ne_of_gt hil, Nat.ne_of_gt hS⟩⟩ c d k
  · refine enf_next he ha hae hai hit hl hx hne fun h' tk a' b c d k => hQ h' tk _ ⟨b, .inr ⟨a, true, oa, old, ?_, k a oa hae hai ha, hae, hai, haS⟩⟩ c d k
    exact a'
theorem en_done {e it l S : Addr} {i : Nat} {items : Array Value} {Q : Option Value → Shared → Prop} (hh : A.handled = none) (hst : EnSt s.heap e it l S i) (hl : s.heap.IsList l items) (hx : items[i]? = none)
    (hQ : ∀ h', Heap.ExtBut it s.heap h' → Q none { s with heap := h' }) : wpAny (model prog w) A (pyNext (.ref e)) Q E s := by
  obtain ⟨hit, q⟩ := hst
  rcases q with ⟨rfl, he⟩ | ⟨a, f, oa, old, he, ha, hae, hai, haS⟩
  · exact wpAny_pyNext_enum_end hh he hit hl hx hQ
  · exact enf_end hh he hit hl hx hQ
end
section
variable {prog : Program} {w : World} {K : Type} [DecidableEq K] {knd : KeyKind prog w K} {A : Around} {s : Shared} {R : Result → Shared → Prop} {kvs : List (K × Value)} {items : Array Value}
theorem en_loop {S I it l : Addr} (hh : A.handled = none) (hIS : I < S) (hit : it < I) (hSl : l ≠ S) (hIl : l ≠ I) (hil : l ≠ it) (hn : kvs.length ≤ sizeLine) (hsz0 : items.size = kvs.length) (hkv : ∀ (i : Nat) (k : K) (x : Value), kvs[i]? = some (k, x) → items[i]? = some x ∧ ∀ tk, knd.is k (.int i tk) = true) (res : Value) {h₁ : Heap}
    (hR : ∀ h' tk acc c as, (∀ b o, b ≠ S → b ≠ I → b ≠ it → h₁.get? b = some o → h'.get? b = some o) → h'.get? S = some { cls := .type "list", dict := none, data := .seq acc c, slots := #[] } → as.length = kvs.length → KdxG knd kvs S h' as →
      acc.toList = as.map Value.ref → R (.ok (.ret res)) { s with heap := h', toks := tk }) :
    ∀ (k i : Nat) (h : Heap) (tk c : Nat) (acc : Array Value) (as : List Addr), kvs.length - i = k → i ≤ kvs.length → EnSt h I it l S i → h.IsList l items → (∀ b o, b ≠ S → b ≠ I → b ≠ it → h₁.get? b = some o → h.get? b = some o) →
      h.get? S = some { cls := .type "list", dict := none, data := .seq acc c, slots := #[] } → acc.toList = as.map Value.ref → as.length = i → KdxG knd kvs S h as →
      codeAny (model prog w) A (.builtin "list.extend.loop" ⟨[.ref S, .ref I, res], []⟩) R { s with heap := h, toks := tk } := by
  have hne : S ≠ I := Nat.ne_of_gt hIS
  have hSit : S ≠ it := Nat.ne_of_gt (Nat.lt_trans hit hIS)
  have hIit : I ≠ it := Nat.ne_of_gt hit
  intro k
  induction k with
  | zero =>
    intro i h tk c acc as hk hi hst hD hkeep hS hacc hal hG
    have hin : i = kvs.length := by omega
    refine codeAny_builtin PySem.F.entry_extend_loop ?_
    rw [Around.under_plainId PySem.F.plain_extend_loop _]
    show wpAny _ A.in1 (pyNext (.ref I) >>= _) _ _ _
    refine wpAny_bind (en_done (s := { s with heap := h, toks := tk }) (A := A.in1) hh hst hD (Array.getElem?_eq_none (by omega)) fun h' he => ?_)
    refine wpAny_pure (hR h' tk acc c as (fun b o h1 h2 h3 e => he b o h3 (hkeep b o h1 h2 h3 e)) (he S _ hSit hS) (by omega) ⟨hG.rise, hG.above, fun j a hj => ?_⟩ hacc)
    obtain ⟨key, kk, x, e1, e2, e3⟩ := hG.pairs j a hj
    exact ⟨key, kk, x, e1, e2, he a _ (Nat.ne_of_gt (Nat.lt_trans (Nat.lt_trans hit hIS) (hG.above a (List.mem_of_getElem? hj)))) e3⟩
  | succ k ih =>
    intro i h tk c acc as hk hi hst hD hkeep hS hacc hal hG
    have hlt : i < kvs.length := by omega
    obtain ⟨⟨kk, x⟩, hx⟩ : ∃ p, kvs[i]? = some p := ⟨kvs[i], List.getElem?_eq_getElem hlt⟩
    obtain ⟨hx2, hkey⟩ := hkv i kk x hx
    have hsz : acc.size = i := by rw [← Array.length_toList, hacc, List.length_map, hal]
    refine codeAny_builtin PySem.F.entry_extend_loop ?_
    rw [Around.under_plainId PySem.F.plain_extend_loop _]
    show wpAny _ A.in1 (pyNext (.ref I) >>= _) _ _ _
    refine wpAny_bind (en_item (s := { s with heap := h, toks := tk }) (S := S) hst (Heap.lt_size hS) hIit hD hx2 fun h' tk1 tk2 hst' ht hz hkp => ?_)
    dsimp only at ht hz hkp ⊢
    have hS' := hkp S _ hne hSit hS
    have up : ∀ b o, b ≠ S → h'.get? b = some o → (h'.update S (Obj.mapSeq (·.push (Value.ref h.objs.size)))).get? b = some o := fun b o hb e => (Heap.get?_update_other _ _ (Ne.symm hb)).trans e
    have hSl' : S < h.objs.size := Heap.lt_size hS
    show wpAny _ A.in1 (updateSeq S (·.push (Value.ref h.objs.size)) >>= _) _ _ _
    refine wpAny_bind ?_
    refine wpAny_updateSeq hS' rfl (wpAny_pure ⟨plainId_quiet PySem.F.plain_extend_loop _, ih (i + 1) _ tk2 _ (acc.push (Value.ref h.objs.size)) (as ++ [h.objs.size]) (by omega) hlt (hst'.keep up (Ne.symm hne) (Ne.symm hSit)) ?_
      (fun b o h1 h2 h3 e => up b o h1 (hkp b o h2 h3 (hkeep b o h1 h2 h3 e))) (Heap.get?_update_self _ hS' rfl) (by rw [Array.toList_push, hacc, List.map_append]; rfl) (by rw [List.length_append, hal]; rfl) ⟨?_, ?_, ?_⟩⟩) (by rw [hsz]; omega) (by show (acc.push (Value.ref h.objs.size)).size ≤ sizeLine + 1; rw [Array.size_push, hsz]; omega)
    · obtain ⟨o, ho, r⟩ := hD
      exact ⟨o, up l o hSl (hkp l o hIl hil ho), r⟩
    · refine List.pairwise_append.mpr ⟨hG.rise, List.pairwise_singleton _ _, fun a ha b hb => ?_⟩
      rw [List.mem_singleton.mp hb]
      exact hG.there ha
    · intro a ha
      rcases List.mem_append.mp ha with ha | ha
      · exact hG.above a ha
      · rw [List.mem_singleton.mp ha]; exact hSl'
    · intro j b hj
      rcases Nat.lt_trichotomy j as.length with h1 | h1 | h1
      · rw [List.getElem?_append_left h1] at hj
        obtain ⟨key', k', x', e1, e2, e3⟩ := hG.pairs j b hj
        have hb := hG.above b (List.mem_of_getElem? hj)
        exact ⟨key', k', x', e1, e2, up b _ (Nat.ne_of_gt hb) (hkp b _ (Nat.ne_of_gt (Nat.lt_trans hIS hb)) (Nat.ne_of_gt (Nat.lt_trans (Nat.lt_trans hit hIS) hb)) e3)⟩
      · subst h1
        have hb : h.objs.size = b := by simpa using hj
        subst hb
        exact ⟨_, kk, x, by rw [hal]; exact hx, hkey tk1, by rw [hal] at *; exact up _ _ (Nat.ne_of_gt hSl') ht⟩
      · have hnone : (as ++ [h.objs.size])[j]? = none := List.getElem?_eq_none (by rw [List.length_append, List.length_singleton]; omega)
        rw [hnone] at hj; cases hj
end
theorem en_nolen : typeLookup (.type "enumerate") "__len__" = pure none := by rw [typeLookup_type, builtinLookup_eq_fast]; kernel_rfl
theorem en_nohint : typeLookup (.type "enumerate") "__length_hint__" = pure none := by rw [typeLookup_type, builtinLookup_eq_fast]; kernel_rfl
section
variable {prog : Program} {w : World} {K : Type} [DecidableEq K] {knd : KeyKind prog w K} {A : Around} {E : Value → Shared → Prop} {s : Shared} {I it l : Addr} {kvs : List (K × Value)} {items : Array Value}
theorem en_hint (hT : s.TypeIs (.ref I) "enumerate") {Q : Bool → Shared → Prop} (h : Q true s) : wpAny (model prog w) A (Builtin.List.listLengthHint (.ref I)) Q E s := by
  unfold Builtin.List.listLengthHint
  refine wpAny_bind (wpAny_specialOf hT en_nolen ?_)
  show wpAny _ _ (specialOf (Value.ref I) (Str.ofString "__length_hint__") >>= _) _ _ _
  refine wpAny_bind (wpAny_specialOf hT en_nohint ?_)
  exact wpAny_pure h
theorem en_extend {R : Result → Shared → Prop} (hh : A.handled = none) (he : IsEnum s.heap I it 0 .none) (hit : s.heap.IsListIter it l 0) (hl : s.heap.IsList l items) (hiI : it < I) (hIl : l ≠ I) (hil : l ≠ it) (hsz0 : items.size = kvs.length) (hkv : ∀ (i : Nat) (k : K) (x : Value), kvs[i]? = some (k, x) → items[i]? = some x ∧ ∀ tk, knd.is k (.int i tk) = true)
    (S : Addr) (hIS : I < S) (hSl : l ≠ S) (res : Value) (c₀ : Nat) (hS : s.heap.get? S = some { cls := .type "list", data := .seq #[] c₀ })
    (hR : ∀ h' tk acc c as, (∀ b o, b ≠ S → b ≠ I → b ≠ it → s.heap.get? b = some o → h'.get? b = some o) → h'.get? S = some { cls := .type "list", dict := none, data := .seq acc c, slots := #[] } → as.length = kvs.length → KdxG knd kvs S h' as →
      acc.toList = as.map Value.ref → R (.ok (.ret res)) { s with heap := h', toks := tk }) (hn : kvs.length ≤ sizeLine) :
    wpAny (model prog w) A.in1 (Builtin.List.listExtendWith (.ref S) (.ref I) res)
      (fun fin s' => match fin with | .done f => R (.ok f) s' | .again c' => c'.quiet = true ∧ codeAny (model prog w) A c' R s') (fun e s' => R (.error e) s') s := by
  have hT : s.TypeIs (.ref I) "enumerate" := ⟨_, he, rfl⟩
  have hSne : S ≠ I := Nat.ne_of_gt hIS
  have hSit : S ≠ it := Nat.ne_of_gt (Nat.lt_trans hiI hIS)
  have key : ∀ (h : Heap) (c₁ tk : Nat), (∀ b o, b ≠ S → s.heap.get? b = some o → h.get? b = some o) →
      h.get? S = some { cls := .type "list", data := .seq #[] c₁ } → codeAny (model prog w) A (.builtin "list.extend.loop" ⟨[.ref S, .ref I, res], []⟩) R { s with heap := h, toks := tk } := by
    intro h c₁ tk hk hS₁
    refine en_loop (knd := knd) (kvs := kvs) (items := items) (s := s) (h₁ := s.heap) hh hIS hiI hSl hIl hil hn hsz0 hkv res hR
      kvs.length 0 h tk c₁ #[] [] (Nat.sub_zero _) (Nat.zero_le _) ⟨hit.at fun o q => hk it o (Ne.symm hSit) q, .inl ⟨rfl, hk I _ (Ne.symm hSne) he⟩⟩ ?_ (fun b o hb _ _ e => hk b o hb e) hS₁ rfl rfl
      ⟨List.Pairwise.nil, (fun _ ha => nomatch ha), (fun j a hj => by simp at hj)⟩
    obtain ⟨o, ho, r⟩ := hl
    exact ⟨o, hk l o hSl ho, r⟩
  unfold Builtin.List.listExtendWith
  refine wpAny_bind (wpAny_typeOf (T := "enumerate") hT ?_)
  have h1 : Builtin.List.listSameRef (.ref S) (.ref I) = false := by simp [Builtin.List.listSameRef, hSne]
  have h2 : (Value.type "enumerate" == Value.type "list") = false := by decide
  have h3 : (Value.type "enumerate" == Value.type "tuple") = false := by decide
  simp only [h1, h2, h3, Bool.or_false, Bool.false_eq_true, if_false]
  refine wpAny_bind (wpAny_pyIter_enum he ?_)
  refine wpAny_bind (wpAny_holding (en_hint hT ?_))
  refine wpAny_ite_split (fun _ => ?_) (fun _ => wpAny_pure ⟨plainId_quiet PySem.F.plain_extend_loop _, key _ c₀ _ (fun b o _ e => e) hS⟩)
  refine wpAny_bind (wpAny_rule ?_)
  refine wpAny_bind ?_
  show wpAny _ _ (updateSeq S (·.push .none) >>= fun _ => updateSeq S (·.pop)) _ _ _
  refine wpAny_bind (wpAny_updateSeq hS rfl ?_)
  have hS₂ := Heap.get?_update_self (Obj.mapSeq (·.push Value.none)) hS rfl
  refine wpAny_updateSeq (hz := by seq_fits) hS₂ rfl ?_
  have hS₃ := Heap.get?_update_self (Obj.mapSeq (·.pop)) hS₂ rfl
  refine wpAny_pure ⟨plainId_quiet PySem.F.plain_extend_loop _, key _ _ _ (fun b o hb e => ?_) hS₃⟩
  exact (Heap.get?_update_other _ _ (Ne.symm hb)).trans ((Heap.get?_update_other _ _ (Ne.symm hb)).trans e)
theorem en_init {R : Result → Shared → Prop} (hh : A.handled = none) (he : IsEnum s.heap I it 0 .none) (hit : s.heap.IsListIter it l 0) (hl : s.heap.IsList l items) (hiI : it < I) (hIl : l ≠ I) (hil : l ≠ it) (hsz0 : items.size = kvs.length) (hkv : ∀ (i : Nat) (k : K) (x : Value), kvs[i]? = some (k, x) → items[i]? = some x ∧ ∀ tk, knd.is k (.int i tk) = true)
    (S : Addr) (hIS : I < S) (hSl : l ≠ S) (hS : s.heap.get? S = some { cls := .type "list", data := .seq #[] })
    (hR : ∀ h' tk acc c as, (∀ b o, b ≠ S → b ≠ I → b ≠ it → s.heap.get? b = some o → h'.get? b = some o) → h'.get? S = some { cls := .type "list", dict := none, data := .seq acc c, slots := #[] } → as.length = kvs.length → KdxG knd kvs S h' as →
      acc.toList = as.map Value.ref → R (.ok (.ret .none)) { s with heap := h', toks := tk }) (hn : kvs.length ≤ sizeLine) :
    wpAny (model prog w) A.in1 (Builtin.«list.__init__» ⟨[.ref S, .ref I], []⟩)
      (fun fin s' => match fin with | .done f => R (.ok f) s' | .again c' => c'.quiet = true ∧ codeAny (model prog w) A c' R s') (fun e s' => R (.error e) s') s := by
  show wpAny _ _ (do let old ← Builtin.List.listItems (.ref S); Builtin.List.listUpdate (.ref S) (fun _ => #[]); letGo old.toList.reverse; Builtin.List.listExtendWith (.ref S) (.ref I) .none) _ _ s
  refine wpAny_bind ?_
  unfold Builtin.List.listItems
  refine wpAny_bind (wpAny_seqItems hS rfl (wpAny_pure ?_))
  show wpAny _ _ (updateSeq S (fun _ => #[]) >>= fun _ => letGo (#[] : Array Value).toList.reverse >>= fun _ => Builtin.List.listExtendWith (.ref S) (.ref I) .none) _ _ s
  refine wpAny_bind (wpAny_updateSeq hS rfl ?_)
  have hS₂ := Heap.get?_update_self (Obj.mapSeq (fun _ => (#[] : Array Value))) hS rfl
  have oth : ∀ b o, b ≠ S → s.heap.get? b = some o → (s.heap.update S (Obj.mapSeq (fun _ => (#[] : Array Value)))).get? b = some o :=
    fun b o hb e => (Heap.get?_update_other _ _ (Ne.symm hb)).trans e
  refine wpAny_bind (wpAny_letGo ?_)
  have hSit : it ≠ S := Nat.ne_of_lt (Nat.lt_trans hiI hIS)
  refine en_extend (knd := knd) (kvs := kvs) (items := items) hh (oth I _ (Nat.ne_of_lt hIS) he) (hit.at fun o q => oth it o hSit q) (by obtain ⟨o, ho, r⟩ := hl; exact ⟨o, oth l o hSl ho, r⟩) hiI hIl hil hsz0 hkv S hIS hSl .none _ hS₂ (fun h' tk acc c as hk hS' hl' hG hacc => ?_) hn
  exact hR h' tk acc c as (fun b o hb hb2 hb3 e => hk b o hb hb2 hb3 (oth b o hb e)) hS' hl' hG hacc
/-- list(e) for a new enumerate -/
theorem en_call {Q : Value → Shared → Prop} (hh : A.handled = none) (he : IsEnum s.heap I it 0 .none) (hit : s.heap.IsListIter it l 0) (hl : s.heap.IsList l items) (hiI : it < I) (hIl : l ≠ I) (hil : l ≠ it) (hsz0 : items.size = kvs.length) (hkv : ∀ (i : Nat) (k : K) (x : Value), kvs[i]? = some (k, x) → items[i]? = some x ∧ ∀ tk, knd.is k (.int i tk) = true)
    (hn : kvs.length ≤ sizeLine)
    (hQ : ∀ h' tk acc c as, (∀ b o, b ≠ I → b ≠ it → s.heap.get? b = some o → h'.get? b = some o) → h'.get? s.heap.objs.size = some { cls := .type "list", dict := none, data := .seq acc c, slots := #[] } → as.length = kvs.length → KdxG knd kvs s.heap.objs.size h' as →
      acc.toList = as.map Value.ref → Q (.ref s.heap.objs.size) { s with heap := h', toks := tk }) :
    wpAny (model prog w) A (call (.type "list") [.ref I]) Q E s := by
  refine callType_codes (Q₁ := fun obj s₁ => obj = .ref s.heap.objs.size ∧ s₁ = { s with heap := s.heap.push { cls := .type "list", data := .seq #[] } }) PySem.F.called_list (PySem.F.typeCall_list_1 _) PySem.F.entry_list_init
    (code_list_new _ ⟨rfl, rfl⟩) fun obj s₁ h₁ => ?_
  obtain ⟨rfl, rfl⟩ := h₁
  have hS : (s.heap.push { cls := .type "list", data := .seq #[] }).get? s.heap.objs.size = some { cls := .type "list", data := .seq #[] } := Heap.get?_push_size _ rfl
  have hI : I < s.heap.objs.size := Heap.lt_size he
  have hd : l < s.heap.objs.size := let ⟨_, ho, _⟩ := hl; Heap.lt_size ho
  refine ⟨⟨_, hS, rfl⟩, PySem.F.args_list_init_2 _ _, en_init (knd := knd) (kvs := kvs) (items := items) (A := A.in1) hh (Heap.get?_push_of_some _ he) (hit.at fun o q => Heap.get?_push_of_some _ q) (by obtain ⟨o, ho, r⟩ := hl; exact ⟨o, Heap.get?_push_of_some _ ho, r⟩) hiI hIl hil hsz0 hkv _ hI (Nat.ne_of_lt hd) hS (fun h' tk acc c as hk hS' hl' hG hacc => ?_) hn⟩
  exact ⟨rfl, hQ h' tk acc c as (fun b o h1 h2 e => hk b o (Nat.ne_of_lt (Heap.lt_size e)) h1 h2 (Heap.get?_push_of_some _ e)) hS' hl' hG hacc⟩
end
end MV

namespace MV
open PySem PySem.Spec PyProof.Rows L2

/-- what a new list of new pairs is -/
def rPairs (kvs : List (Key × V)) : Hp → VK → Prop := fun H Q => ∀ (H' : Hp) (p : Addr) (ts : List Addr), (∀ b o, H b = some o → H' b = some o) → H p = none → (∀ t ∈ ts, H t = none) → ts.Nodup → p ∉ ts → H' p = some (.lst (ts.map V.ref)) → Paired (fun (t : Addr) (q : Key × V) => H' t = some (.tup [kV q.1, q.2])) ts kvs → Q (.ref p) H'
def ixV : List V → Nat → List (Key × V)
  | [], _ => []
  | v :: r, n => (.inl (n : Nat), v) :: ixV r (n + 1)
def ixW : List Value → Nat → List (Key × Value)
  | [], _ => []
  | v :: r, n => (.inl (n : Nat), v) :: ixW r (n + 1)
theorem ixW_get : ∀ (l : List Value) (n i : Nat) (k : Key) (x : Value), (ixW l n)[i]? = some (k, x) → l[i]? = some x ∧ k = .inl ((n + i : Nat) : Int)
  | [], _, _, _, _, h => by simp [ixW] at h
  | v :: r, n, 0, k, x, h => by
    have h : some ((Sum.inl (n : Int) : Key), v) = some (k, x) := h
    cases h
    exact ⟨rfl, rfl⟩
  | v :: r, n, i + 1, k, x, h => by
    obtain ⟨a, b⟩ := ixW_get r (n + 1) i k x h
    exact ⟨a, by rw [b]; congr 1; omega⟩
theorem ixW_len : ∀ (l : List Value) (n : Nat), (ixW l n).length = l.length
  | [], _ => rfl
  | _ :: r, n => by show (ixW r (n + 1)).length + 1 = r.length + 1; rw [ixW_len r]
theorem ixV_len : ∀ (l : List V) (n : Nat), (ixV l n).length = l.length
  | [], _ => rfl
  | _ :: r, n => by show (ixV r (n + 1)).length + 1 = r.length + 1; rw [ixV_len r]
theorem ix_kv : ∀ {vs : List V} {us : List Value} (n : Nat), Vals vs us → KV (ixV vs n) (ixW us n)
  | _, _, _, .nil => .nil
  | _, _, n, .cons r t => .cons ⟨rfl, r⟩ (ix_kv (n + 1) t)
def rEnumL (K : PySem.W.Frag) : V → Hp → VK → Prop := fun x H Q => ∃ (a : Addr) (xs : List V), x = .ref a ∧ SqL K H a xs ∧ rPairs (ixV xs 0) H Q
def tListEnum (K : PySem.W.Frag) (te : TE) : TE := fun σ H Q => te σ H fun x H1 => rEnumL K x H1 Q
section
variable {X : Cx} {e : Expr} {te : TE} {p p2 apos cpos pos pos2 : Pos}
theorem pairs_nodup {ts : List Addr} {s : Shared} {h' : Heap} {K : Type} [DecidableEq K] {knd : PySem.KeyKind X.prog X.w K} {vs : List (K × Value)} {lo : Addr} (hG : PySem.W.KdxG knd vs lo h' ts) : ts.Nodup := List.Pairwise.imp (fun {a b} (h : a < b) => Nat.ne_of_lt h) hG.rise
theorem pairs_laid {pins : List (Addr × Obj)} {σ : L2.St} {H : Hp} {s : Shared} {h' : Heap} {tk : Nat} {S : Addr} {kvs : List (Key × V)} {vs : List (Key × Value)} {acc : Array Value} {c : Nat} {as : List Addr} (I : Inv X pins σ H s) (hSs : s.heap.objs.size ≤ S) (hz : kvs.length ≤ sizeLine) (kv : KV kvs vs)
    (hk : ∀ b o, s.heap.get? b = some o → h'.get? b = some o) (hS : h'.get? S = some { cls := .type "list", dict := none, data := .seq acc c, slots := #[] }) (hl : as.length = vs.length) (hG : PySem.W.KdxG (mixKind X.prog X.w) vs S h' as) (hacc : acc.toList = as.map Value.ref) :
    ∃ H' : Hp, (∀ b o, H b = some o → H' b = some o) ∧ H S = none ∧ (∀ t ∈ as, H t = none) ∧ as.Nodup ∧ S ∉ as ∧ H' S = some (.lst (as.map V.ref)) ∧ Paired (fun (t : Addr) (q : Key × V) => H' t = some (.tup [kV q.1, q.2])) as kvs ∧ Inv X pins σ H' { s with heap := h', toks := tk } := by
  have lk : kvs.length = vs.length := Paired.length kv
  have hSn : S ∉ as := fun z => Nat.lt_irrefl _ (hG.above _ z)
  have nd : as.Nodup := List.Pairwise.imp (fun {a b} (h : a < b) => Nat.ne_of_lt h) hG.rise
  have new : ∀ t ∈ as, H t = none := fun t ht => I.hok.fresh (Nat.le_of_lt (Nat.lt_of_le_of_lt hSs (hG.above t ht)))
  have newS : H S = none := I.hok.fresh hSs
  have atP := LiI.putT_at as kvs (upd H S (.lst (as.map V.ref))) (by omega) nd
  have off : ∀ b, b ∉ as → b ≠ S → LiI.putT (upd H S (.lst (as.map V.ref))) as kvs b = H b := fun b h1 h2 => by rw [LiI.putT_off as kvs _ h1, upd_ne h2]
  have low : ∀ b o, s.heap.get? b = some o → b ∉ as ∧ b ≠ S := fun b o e => ⟨fun z => absurd (Heap.lt_size e) (Nat.not_lt.mpr (Nat.le_of_lt (Nat.lt_of_le_of_lt hSs (hG.above b z)))), Nat.ne_of_lt (Nat.lt_of_lt_of_le (Heap.lt_size e) hSs)⟩
  have kp : ∀ b u, H b = some u → (LiI.putT (upd H S (.lst (as.map V.ref))) as kvs) b = some u := fun b u e => by
    rw [off b (fun z => by rw [new b z] at e; cases e) (fun z => by rw [z, newS] at e; cases e)]
    exact e
  have eS : LiI.putT (upd H S (.lst (as.map V.ref))) as kvs S = some (.lst (as.map V.ref)) := by rw [LiI.putT_off as kvs _ hSn, upd_same]
  refine ⟨LiI.putT (upd H S (.lst (as.map V.ref))) as kvs, kp, newS, new, nd, hSn, eS, atP, ?_⟩
  refine I.call' (ch := []) rfl ⟨fun b o q _ _ _ => hk b o q, fun b o q _ _ _ => ⟨o.slots, hk b o q⟩, fun b o q n _ => ?_, fun b o q _ => ⟨o, hk b o q⟩, fun b xs q => kp b _ q, fun b o u q => kp b _ q, fun b ps q => ⟨#[], by rw [kp b _ q]; simp⟩⟩ (fun b u q => ?_) I.bare fun b z => by simp at z
  · obtain ⟨z1, z2⟩ := low b o q
    rw [off b z1 z2]
    exact n
  · by_cases hb : b ∈ as
    · obtain ⟨j, pk, e1, e2, e3⟩ := LiI.paired_ix atP hb
      rw [e3] at q
      cases q
      obtain ⟨key, k, x, f1, f2, f3⟩ := hG.pairs j b e1
      obtain ⟨qv, g1, g2, g3⟩ := LiI.paired_get kv e2
      rw [f1] at g1
      cases g1
      have rk : RelV (kV pk.1) key := by
        rw [g2]
        exact relV_key (show keyIs k key = true from f2)
      exact ⟨by show 2 ≤ sizeLine; decide, [key, x], .cons rk (.cons g3 .nil), ⟨_, f3, rfl, _, rfl⟩⟩
    · by_cases hb2 : b = S
      · rw [hb2] at q ⊢
        rw [eS] at q
        cases q
        refine ⟨by rw [List.length_map]; omega, acc.toList, c, by rw [hacc]; exact LiI.vals_refs as, ?_⟩
        rw [Array.toArray_toList]
        exact hS
      · rw [off b hb hb2] at q
        exact (I.hok b u q).stay (fun d v _ y => hk d v y) (fun d y => kp d _ y) fun d xs y => kp d _ y
/-- list(enumerate(e)) -/
theorem pe_listEnum (hc : X.calm = true) (he : PE X e te) (hg : Gl X "list") (hm : X.mg "list" = none) (hv : bootBuiltins "list" = some (.type "list")) (hg2 : Gl X "enumerate") (hm2 : X.mg "enumerate" = none)
    (hs : starEach [.Call (.Name "enumerate" p2) [e] [] pos2] X.env = (false, eval (.Call (.Name "enumerate" p2) [e] [] pos2) X.env) :: starEach [] X.env := by rfl) (hs2 : starEach [e] X.env = (false, eval e X.env) :: starEach [] X.env := by rfl) :
    PE X (.Call (.Name "list" p) [.Call (.Name "enumerate" p2) [e] [] pos2] [] pos) (tListEnum X.K te) := by
  refine ⟨fun pins s σ H Q I hq => ?_⟩
  refine wpAny_Call_Name_kw (ld_blt I hg hm hv ?_)
  refine PyProof.Rows.callWith_type1 ?_ hs rfl
  rw [hs]
  show wpAny _ _ (spliced ((false, eval (.Call (.Name "enumerate" p2) [e] [] pos2) X.env) :: backTo pos (starEach [] X.env))) _ _ s
  refine Calls.spliced_cons ?_
  have hq2 : tCons te tNil σ H (fun vs H1 => match vs with | [x] => rEnumL X.K x H1 Q | _ => False) := hq
  refine Call_ (ld_blt I hg2 hm2 boot_enumerate (PyProof.Rows.callWith_type1 (thn ((pa_cons he pa_nil hs2).run pos2 pins s σ H _ I hq2) fun us s1 ⟨vs, H1, I1, r1, q1⟩ => ?_) hs2 rfl))
  cases r1 with
  | nil => exact q1.elim
  | cons r rr =>
    cases rr with
    | cons _ _ => exact q1.elim
    | nil =>
      obtain ⟨a, xs, ex, hsq, q⟩ := q1
      subst ex
      cases r
      obtain ⟨its, rv, p', hz⟩ := I1.list hsq
      have hL : s1.heap.IsList a its.toArray := lst_of p'
      obtain ⟨oa, hoa, _⟩ := id hL
      have hal : a < s1.heap.objs.size := Heap.lt_size hoa
      refine call_enumerate_list hL fun h' hen hit hsz hk => ?_
      have I2 : Inv X pins σ H1 { s1 with heap := h' } := I1.kept (t' := s1.toks) hk
      refine Calls.spliced_nil ?_
      have hkv : ∀ (i : Nat) (k : Key) (x : Value), (ixW its 0)[i]? = some (k, x) → its.toArray[i]? = some x ∧ ∀ tk, (mixKind X.prog X.w).is k (.int i tk) = true := fun i k x e => by
        obtain ⟨z1, z2⟩ := ixW_get its 0 i k x e
        refine ⟨by simpa using z1, fun tk => ?_⟩
        subst z2
        show Value.isInt ((0 + i : Nat) : Int) (Value.int (i : Int) tk) = true
        simp [Value.isInt]
      refine en_call (knd := mixKind X.prog X.w) (kvs := ixW its 0) (items := its.toArray) (I1.ok.hd hc) hen hit (by obtain ⟨o, ho, z⟩ := hL; exact ⟨o, hk a o ho, z⟩) (Nat.lt_succ_self _) (Nat.ne_of_lt (Nat.lt_succ_of_lt hal)) (Nat.ne_of_lt hal) (by rw [ixW_len]; simp) hkv (by rw [ixW_len, ← rv.length]; exact hz) fun h'' tk acc c as hk2 hS hl hG hacc => ?_
      -- the enumerate and the list's iterator are objects of no name
      have kv := ix_kv 0 rv
      have hk3 : ∀ b o, s1.heap.get? b = some o → h''.get? b = some o := fun b o z => hk2 b o (Nat.ne_of_lt (Nat.lt_succ_of_lt (Heap.lt_size z))) (Nat.ne_of_lt (Heap.lt_size z)) (hk b o z)
      obtain ⟨H', k1, k2, k3, k4, k5, k6, k7, J⟩ := pairs_laid (tk := tk) I1 (by show s1.heap.objs.size ≤ h'.objs.size; omega) (by rw [ixV_len]; exact hz) kv hk3 hS hl hG hacc
      exact ⟨.ref _, H', J, rfl, q H' _ as k1 k2 k3 k4 k5 k6 k7⟩
/-- list(e.items()) -/
def rItemsN : V → Hp → VK → Prop := fun x H Q => ∃ (d : Addr) (kvs : List (Key × V)), x = .ref d ∧ H d = some (.dK kvs) ∧ rPairs kvs H Q
def tListItemsN (te : TE) : TE := fun σ H Q => te σ H fun x H1 => rItemsN x H1 Q
theorem pe_listItemsN (hc : X.calm = true) (he : PE X e te) (hg : Gl X "list") (hm : X.mg "list" = none) (hv : bootBuiltins "list" = some (.type "list")) (hbase : attributeBase e "items" X.env (eval e X.env) = eval e X.env := by rfl) (hline : (apos.endLine == cpos.line) = true := by rfl)
    (hs : starEach [.Call (.Attribute e "items" apos) [] [] cpos] X.env = (false, eval (.Call (.Attribute e "items" apos) [] [] cpos) X.env) :: starEach [] X.env := by rfl) :
    PE X (.Call (.Name "list" p) [.Call (.Attribute e "items" apos) [] [] cpos] [] pos) (tListItemsN te) := by
  refine ⟨fun pins s σ H Q I hq => ?_⟩
  refine wpAny_Call_Name_kw (ld_blt I hg hm hv ?_)
  refine PyProof.Rows.callWith_type1 ?_ hs rfl
  rw [hs]
  show wpAny _ _ (spliced ((false, eval (.Call (.Attribute e "items" apos) [] [] cpos) X.env) :: backTo pos (starEach [] X.env))) _ _ s
  refine Calls.spliced_cons ?_
  refine wpAny_Call_method (T := "dict") (id := "dict.items") hbase rfl hline PySem.F.plainAttrs_dict PySem.F.slot_dict_items PySem.F.type_dict_items (thn (he.run pins s σ H _ I hq) fun u s1 ⟨x, H1, I1, rx, d, kvs, ex, hd, q⟩ => ?_)
  subst ex
  obtain rfl : u = Value.ref d := rx
  obtain ⟨hz, hs0, vs, kv, hdo⟩ := I1.hok d _ hd
  obtain ⟨ep, hat⟩ := hdo.dictAt
  have lk : kvs.length = vs.length := Paired.length kv
  have I2 : Inv X pins σ H1 { s1 with heap := s1.heap.push { cls := .type "dict_items", data := .fields #[.ref d] } } := I1.kept (t' := s1.toks) fun b ob q => Heap.get?_push_of_some _ q
  refine ⟨hdo.typeIs, hdo.mapOf.noDict, ?_⟩
  show wpAny _ _ (callWith cpos (.builtin "dict.items") [.ref d] [] []) _ X.xe s1
  refine method_meetsIn PySem.F.slot_dict_items PySem.F.entry_dict_items rfl (PySem.evalArgs_none ⟨rfl, hdo.typeIs, PySem.F.args_dict_items_1 _, _, meets_dict_items (mixKind X.prog X.w) d hs0, ⟨vs, hdo⟩, ?_⟩)
  refine Calls.spliced_nil ?_
  refine PySem.W.kdx_call (knd := mixKind X.prog X.w) (kvs := vs) (ep := ep) (I1.ok.hd hc) ⟨_, Heap.get?_push_size _ rfl, rfl, rfl⟩ (hat.push _) (by omega) fun h' tk acc c as hk hS hl hG hacc => ?_
  obtain ⟨H', k1, k2, k3, k4, k5, k6, k7, J⟩ := pairs_laid (tk := tk) I2 (Nat.le_refl _) hz kv hk hS hl hG hacc
  exact ⟨.ref _, H', J, rfl, q H' _ as k1 k2 k3 k4 k5 k6 k7⟩
end

/-! ### in the virtual heap -/
def mkP : List (Key × U) → VS → List U → (List U → VS → Bool) → Bool
  | [], st, acc, k => k acc st
  | (q, u) :: r, st, acc, k => mkP r (st.new (.tup [kU q, u])) (acc ++ [.ref st.n]) k
section
variable {γ : Nat → Addr} {W : WX} {X : Cx} {g : GT}
theorem Rep.ext {ρ : List Addr} {st : VS} {H H' : Hp} (R : Rep γ ρ st H) (hk : ∀ a o, H a = some o → H' a = some o) : Rep γ ρ st H' := ⟨R.len, R.nd, fun a ha => by
  obtain ⟨o, e⟩ := R.all a ha; exact ⟨o, hk a o e⟩, fun i o e => by
  obtain ⟨a, ea, ro⟩ := R.obj i o e
  obtain ⟨x, ex⟩ := ro.some
  exact ⟨a, ea, ro.here ((hk a x ex).trans ex.symm)⟩⟩
theorem mkP_ok {k : List U → VS → Bool} : ∀ (kus : List (Key × U)) (kvs : List (Key × V)) (ts : List Addr) (ρ : List Addr) (st : VS) (H : Hp) (acc : List U) (av : List V), Rep γ ρ st H → RK γ ρ kus kvs → RL γ ρ acc av → ts.Nodup → (∀ t ∈ ts, H t = none) → ts.length = kvs.length → mkP kus st acc k = true →
    ∃ st' us', k us' st' = true ∧ Rep γ (ρ ++ ts) st' (LiI.putT H ts kvs) ∧ RL γ (ρ ++ ts) us' (av ++ ts.map V.ref)
  | _, _, ts, ρ, st, H, acc, av, R, .nil, ra, nd, hn, hl, h => by
    cases ts with
    | cons _ _ => cases hl
    | nil => exact ⟨st, acc, h, by rw [List.append_nil]; exact R, by rw [List.append_nil, List.map_nil, List.append_nil]; exact ra⟩
  | (q, u) :: r, (q', v) :: s, ts, ρ, st, H, acc, av, R, .cons ⟨e, ru⟩ t, ra, nd, hn, hl, h => by
    have e : q = q' := e
    subst e
    cases ts with
    | nil => cases hl
    | cons a ts =>
      have ha := hn a List.mem_cons_self
      have nd' := List.nodup_cons.mp nd
      have ro : RO γ (ρ ++ [a]) (upd H a (.tup [kV q, v])) a (.tup [kU q, u]) := ⟨_, upd_same, .cons (kU_ru q) (.cons ru.mono .nil)⟩
      obtain ⟨R2, S2⟩ := R.new ha (new_upd ha) ro
      have rr : RU γ (ρ ++ [a]) (.ref st.n) (.ref a) := ⟨a, by rw [← R.len, List.getElem?_append_right (Nat.le_refl _), Nat.sub_self]; rfl, rfl⟩
      have rk : RK γ (ρ ++ [a]) r s := pmap (fun _ _ z => ⟨z.1, z.2.mono⟩) t
      have h' : mkP r (st.new (.tup [kU q, u])) (acc ++ [.ref st.n]) k = true := h
      obtain ⟨st', us', h1, h2, h3⟩ := mkP_ok r s ts (ρ ++ [a]) _ _ (acc ++ [.ref st.n]) (av ++ [.ref a]) R2 rk (Paired.snoc ra.mono rr) nd'.2 (fun b hb => by rw [upd_ne (fun (z : b = a) => nd'.1 (by rw [← z]; exact hb))]; exact hn b (List.mem_cons_of_mem _ hb)) (Nat.succ.inj hl) h'
      refine ⟨st', us', h1, ?_, ?_⟩
      · rw [List.append_assoc] at h2; exact h2
      · rw [List.append_assoc, List.append_assoc] at h3; exact h3
/-- a new list of new pairs -/
def mPairs (kus : List (Key × U)) (st : VS) : Go U := fun κ => mkP kus st [] fun us st1 => κ (.ok (.ref st1.n)) (st1.new (.lst us))
theorem sim_pairs {ρ : List Addr} {st : VS} {H : Hp} {τ : L2.St} {kus : List (Key × U)} {kvs : List (Key × V)} (R : Rep γ ρ st H) (rk : RK γ ρ kus kvs) : SimAt γ W τ (RU γ) ρ H (fun Q => rPairs kvs H Q) (mPairs kus st) := fun κ Q hm ok ex H' p ts hk hp hts nd hpt hl hP => by
  have hlen : ts.length = kvs.length := Paired.length hP
  obtain ⟨st', us', h1, h2, h3⟩ := mkP_ok kus kvs ts ρ st H [] [] R rk .nil nd hts hlen hm
  have e0 : LiI.putT H ts kvs p = none := by rw [LiI.putT_off ts kvs H hpt]; exact hp
  have h3 : RL γ (ρ ++ ts) us' (ts.map V.ref) := h3
  have ro : RO γ (ρ ++ ts ++ [p]) (upd (LiI.putT H ts kvs) p (.lst (ts.map V.ref))) p (.lst us') := ⟨_, upd_same, h3.mono⟩
  obtain ⟨R3, _⟩ := h2.new e0 (new_upd e0) ro
  have sub : ∀ a o, upd (LiI.putT H ts kvs) p (.lst (ts.map V.ref)) a = some o → H' a = some o := fun a o e => by
    by_cases q : a = p
    · subst q; rw [upd_same] at e; cases e; exact hl
    · rw [upd_ne q] at e
      by_cases ht : a ∈ ts
      · obtain ⟨j, y, e1, e2, e3⟩ := LiI.paired_ix (LiI.putT_at ts kvs H hlen nd) ht
        obtain ⟨y', e4, e5⟩ := LiI.paired_get hP e1
        rw [e2] at e4; cases e4
        rw [e3] at e; cases e; exact e5
      · rw [LiI.putT_off ts kvs H ht] at e; exact hk a o e
  have R4 := R3.ext sub
  have S : Step ρ H (ρ ++ ts ++ [p]) H' := ⟨⟨ts ++ [p], by rw [List.append_assoc]⟩, fun a ha n => by
    rw [List.append_assoc] at ha
    rcases List.mem_append.mp ha with z | z
    · exact absurd z n
    · rcases List.mem_append.mp z with z | z
      · exact hts a z
      · rw [List.mem_singleton.mp z]; exact hp, fun a o _ e => hk a o e, fun a o u e => hk a _ e⟩
  exact ok _ _ _ (.ref st'.n) (.ref p) S R4 ⟨p, by rw [← h2.len, List.getElem?_append_right (Nat.le_refl _), Nat.sub_self]; rfl, rfl⟩ h1
def ixU : List U → Nat → List (Key × U)
  | [], _ => []
  | v :: r, n => (.inl (n : Nat), v) :: ixU r (n + 1)
theorem ixU_ok {ρ : List Addr} : ∀ {us : List U} {vs : List V} (n : Nat), RL γ ρ us vs → RK γ ρ (ixU us n) (ixV vs n)
  | _, _, _, .nil => .nil
  | _, _, n, .cons r t => .cons ⟨rfl, r⟩ (ixU_ok (n + 1) t)
def mListEnum (g : GT) (m : ME) : ME := fun σ st => bnd (m σ st) fun u st1 => match seqOf g st1 u with
  | some (false, xs) => mPairs (ixU xs 0) st1
  | _ => bad
theorem se_listEnum {e : Expr} {p p2 pos pos2 : Pos} {m : ME} (G : GOk X.K γ g) (hc : X.calm = true) (h : SE γ W X e m) (hm : X.mg "list" = none) (hm2 : X.mg "enumerate" = none) (hg : Gl X "list" := by rfl) (hg2 : Gl X "enumerate" := by rfl)
    (hs : starEach [.Call (.Name "enumerate" p2) [e] [] pos2] X.env = (false, eval (.Call (.Name "enumerate" p2) [e] [] pos2) X.env) :: starEach [] X.env := by rfl) (hs2 : starEach [e] X.env = (false, eval e X.env) :: starEach [] X.env := by rfl) :
    SE γ W X (.Call (.Name "list" p) [.Call (.Name "enumerate" p2) [e] [] pos2] [] pos) (mListEnum g m) := by
  obtain ⟨t, pt, s⟩ := h
  refine ⟨_, pe_listEnum hc pt hg hm rfl hg2 hm2 hs hs2, fun ρ st H σ τ R F κ Q hm ok ex => s ρ st H σ τ R F _ _ hm (fun ρ1 st1 H1 u v s1 R1 r1 k => ?_) ex⟩
  have k2 : (match seqOf g st1 u with
    | some (false, xs) => mPairs (ixU xs 0) st1
    | _ => bad) κ = true := k
  cases q : seqOf g st1 u with
  | none => rw [q] at k2; cases k2
  | some bx =>
    obtain ⟨b, xs⟩ := bx
    rw [q] at k2
    cases b with
    | true => cases k2
    | false =>
      obtain ⟨a, ys, ev, rl, hs⟩ := seq_ok G R1 r1 q
      exact ⟨a, ys, ev, hs, sim_pairs (W := W) (τ := τ) R1 (ixU_ok 0 rl) κ Q k2 (ok.step s1) (ex.step s1)⟩
def mListItems (m : ME) : ME := fun σ st => bnd (m σ st) fun u st1 => match u with
  | .ref i => match st1.get i with
    | some (.dct false kvs) => mPairs kvs st1
    | _ => bad
  | _ => bad
theorem se_listItems {e : Expr} {p apos cpos pos : Pos} {m : ME} (hc : X.calm = true) (h : SE γ W X e m) (hm : X.mg "list" = none) (hg : Gl X "list" := by rfl) (hbase : attributeBase e "items" X.env (eval e X.env) = eval e X.env := by rfl) (hline : (apos.endLine == cpos.line) = true := by rfl)
    (hs : starEach [.Call (.Attribute e "items" apos) [] [] cpos] X.env = (false, eval (.Call (.Attribute e "items" apos) [] [] cpos) X.env) :: starEach [] X.env := by rfl) : SE γ W X (.Call (.Name "list" p) [.Call (.Attribute e "items" apos) [] [] cpos] [] pos) (mListItems m) := by
  obtain ⟨t, pt, s⟩ := h
  refine ⟨_, pe_listItemsN hc pt hg hm rfl hbase hline hs, fun ρ st H σ τ R F κ Q hm ok ex => s ρ st H σ τ R F _ _ hm (fun ρ1 st1 H1 u v s1 R1 r1 k => ?_) ex⟩
  cases u <;> first | (cases k; done) | skip
  rename_i i
  have k2 : (match st1.get i with
    | some (.dct false kvs) => mPairs kvs st1
    | _ => bad) κ = true := k
  cases q : st1.get i with
  | none => rw [q] at k2; cases k2
  | some o =>
    rw [q] at k2
    cases o <;> first | (cases k2; done) | skip
    rename_i lk kvs
    cases lk with
    | true => cases k2
    | false =>
      obtain ⟨a, ev, _, ws, hh, rk⟩ := R1.get q r1
      exact ⟨a, ws, ev, hh, sim_pairs (W := W) (τ := τ) R1 rk κ Q k2 (ok.step s1) (ex.step s1)⟩
end
end MV

namespace MV
open PySem PySem.Spec PyProof.Rows L2
section
variable {γ : Nat → Addr} {W : WX} {X : Cx} {g : GT} {ρ : List Addr} {st : VS} {H : Hp}

/-! ### calls of builtins -/
def fOrL (f f' : List U → VS → Go U) : List U → VS → Go U := fun us st κ => match f us st (fun _ _ => true) with
  | true => f us st κ
  | false => f' us st κ
def Cb (X : Cx) (γ : Nat → Addr) (W : WX) (fv : Value) (f : List U → VS → Go U) : Prop := ∃ r, CallR X fv r ∧ LeafL γ W r f
theorem Cb.or {fv : Value} {f f' : List U → VS → Go U} (h : Cb X γ W fv f) (h' : Cb X γ W fv f') : Cb X γ W fv (fOrL f f') := by
  obtain ⟨r, a, b⟩ := h
  obtain ⟨r', a', b'⟩ := h'
  exact ⟨_, CallR.or a a', fun ρ st H τ us vs R rl => SimAt.or (b ρ st H τ us vs R rl) (b' ρ st H τ us vs R rl)⟩
def mCb (f : List U → VS → Go U) (ms : MA) : ME := fun σ st => bnd (ms σ st) fun us st1 => f us st1
theorem sim_cb {r : List V → Hp → VK → Prop} {f : List U → VS → Go U} {t : TA} {ms : MA} (hf : LeafL γ W r f) (s : ∀ ρ st H σ τ, Rep γ ρ st H → FrR γ ρ σ τ → SimAt γ W τ (RL γ) ρ H (t τ H) (ms σ st)) (ρ st H σ τ) (R : Rep γ ρ st H) (F : FrR γ ρ σ τ) :
    SimAt γ W τ (RU γ) ρ H (fun Q => t τ H fun vs H1 => r vs H1 Q) (mCb f ms σ st) := fun κ Q hm ok ex =>
  s ρ st H σ τ R F _ _ hm (fun ρ1 st1 H1 us vs s1 R1 r1 k1 => hf ρ1 st1 H1 τ us vs R1 r1 _ _ k1 (ok.step s1) (ex.step s1)) ex
theorem se_callB {x : Str} {id : String} {e : Expr} {es : List Expr} {p pos : Pos} {f : List U → VS → Go U} {ms : MA} (hc : Cb X γ W (.builtin id) f) (hm : X.mg x = none) (hv : bootBuiltins x = some (.builtin id)) (ha : SA γ W X (e :: es) ms) (hg : Gl X x := by rfl) (hn : x ≠ "__name__" := by decide) (hdb : (x == ("__debug__" : Str)) = false := by decide)
    (he : starEach (e :: es) X.env = (false, eval e X.env) :: starEach es X.env := by rfl) (hpl : (backTo pos (starEach es X.env)).any (·.1) = false := by rfl) : SE γ W X (.Call (.Name x p) (e :: es) [] pos) (mCb f ms) := by
  obtain ⟨r, a, b⟩ := hc
  obtain ⟨t, pt, s⟩ := ha
  exact ⟨_, pe_callB a hg hm hv pt hn hdb he hpl, sim_cb b s⟩
theorem se_callTy {x : Str} {T : String} {e : Expr} {es : List Expr} {p pos : Pos} {f : List U → VS → Go U} {ms : MA} (hc : Cb X γ W (.type T) f) (hm : X.mg x = none) (hv : bootBuiltins x = some (.type T)) (ha : SA γ W X (e :: es) ms) (hg : Gl X x := by rfl) (hn : x ≠ "__name__" := by decide) (hdb : (x == ("__debug__" : Str)) = false := by decide)
    (he : starEach (e :: es) X.env = (false, eval e X.env) :: starEach es X.env := by rfl) (hpl : (backTo pos (starEach es X.env)).any (·.1) = false := by rfl) : SE γ W X (.Call (.Name x p) (e :: es) [] pos) (mCb f ms) := by
  obtain ⟨r, a, b⟩ := hc
  obtain ⟨t, pt, s⟩ := ha
  exact ⟨_, pe_callTy a hg hm hv pt hn hdb he hpl, sim_cb b s⟩
theorem RL.one {us : List U} {v : V} (r : RL γ ρ us [v]) : ∃ u, us = [u] ∧ RU γ ρ u v := by
  cases r with
  | cons a t => cases t; exact ⟨_, rfl, a⟩
/-- a value alone -/
def f1 (f : U → VS → Go U) : List U → VS → Go U := fun us st κ => match us with
  | [u] => f u st κ
  | _ => false
theorem leaf1 {r : V → Hp → VK → Prop} {f : U → VS → Go U} (h : Leaf1 γ W r f) : LeafL γ W (fun vs H Q => ∃ x, vs = [x] ∧ r x H Q) (f1 f) := fun ρ st H τ us vs R rl κ Q hm ok ex => by
  cases rl with
  | nil => cases hm
  | cons a t =>
    cases t with
    | cons _ _ => cases hm
    | nil => exact ⟨_, rfl, h ρ st H τ _ _ R a κ Q hm ok ex⟩
/-- len -/
def fLenS (g : GT) : U → VS → Go U := fun u st κ => match u with
  | .str x => match Nat.ble x.length line with
    | true => κ (.ok (.int x.length)) st
    | false => false
  | _ => match seqOf g st u with
    | some (_, xs) => κ (.ok (.int xs.length)) st
    | none => false
theorem cb_lenS (G : GOk X.K γ g) : Cb X γ W (.builtin "len") (f1 (fLenS g)) := ⟨fun vs H Q => ∃ x, vs = [x] ∧ ∃ n : Nat, LenV X.K x H n ∧ Q (.int n) H, fun pins s σ H xs us Q I r ⟨x, e1, n, e2, q⟩ => call_len pins s σ H xs us Q I r ⟨x, n, e1, e2, q⟩, leaf1 fun ρ st H τ u v R ru κ Q hm ok ex => by
  have rest : (match seqOf g st u with
    | some (_, xs) => κ (.ok (.int xs.length)) st
    | none => false) = true → ∃ n : Nat, LenV X.K v H n ∧ Q (.int n) H := fun h => by
    cases q : seqOf g st u with
    | none => rw [q] at h; cases h
    | some bx =>
      obtain ⟨b, xs⟩ := bx
      rw [q] at h
      obtain ⟨a, ys, ev, rl, hs⟩ := seq_ok G R ru q
      subst ev
      refine ⟨xs.length, ?_, ok.here (u := .int xs.length) R rfl h⟩
      cases b with
      | true => exact .inr ⟨ys, hs, rl.length⟩
      | false => exact .inl ⟨ys, hs, rl.length⟩
  cases u with
  | str x =>
    have hm2 : (match Nat.ble x.length line with | true => κ (.ok (.int x.length)) st | false => false) = true := hm
    cases q : Nat.ble x.length line with
    | false => rw [q] at hm2; cases hm2
    | true =>
      rw [q] at hm2
      have ru : v = .str x := ru
      subst ru
      exact ⟨x.length, ⟨line_ok q, rfl⟩, ok.here (u := .int x.length) R rfl hm2⟩
  | non => exact rest hm
  | bl _ => exact rest hm
  | int _ => exact rest hm
  | ref _ => exact rest hm
  | glo _ => exact rest hm
  | ty _ => exact rest hm⟩
def fLenD : U → VS → Go U := fun u st κ => match u with
  | .ref i => match st.get i with
    | some (.dct _ kvs) => κ (.ok (.int kvs.length)) st
    | _ => false
  | _ => false
theorem cb_lenD : Cb X γ W (.builtin "len") (f1 fLenD) := ⟨fun vs H Q => ∃ x, vs = [x] ∧ ∃ a kvs, x = .ref a ∧ Rd H a (.dK kvs) ∧ Q (.int (kvs.length : Nat)) H, fun pins s σ H xs us Q I r ⟨x, e1, a, kvs, e2, rd, q⟩ => by
    subst e1 e2
    obtain ⟨u, rfl, ru⟩ := vals1 r
    cases ru
    exact d_len I rd fun t s' I' => ⟨.int kvs.length, H, I', ⟨t, rfl⟩, q⟩, leaf1 fun ρ st H τ u v R ru κ Q hm ok ex => by
  cases u <;> first | (cases hm; done) | skip
  rename_i i
  have hm2 : (match st.get i with | some (.dct _ kvs) => κ (.ok (.int kvs.length)) st | _ => false) = true := hm
  cases q : st.get i with
  | none => rw [q] at hm2; cases hm2
  | some o =>
    rw [q] at hm2
    cases o <;> first | (cases hm2; done) | skip
    rename_i lk kvs
    obtain ⟨a, ev, _, ro⟩ := R.get q ru
    obtain ⟨ws, rd, rk⟩ := dct_rd ro
    refine ⟨a, ws, ev, rd, ?_⟩
    rw [← show kvs.length = ws.length from Paired.length rk]
    exact ok.here (u := .int kvs.length) R rfl hm2⟩
/-- len of an instance: its own __len__ -/
def rLenOwn (C : Addr) (sp : Sp) : List V → Hp → VK → Prop := fun vs H Q => ∃ x, vs = [x] ∧ ∃ a dx fs, x = .ref a ∧ H a = some (.ins C dx fs) ∧ sp [.ref a] H (fun v H' => ∃ n : Int, v = .int n ∧ (0 ≤ n ∧ n < 2 ^ 63) ∧ Q (.int n) H') E0
theorem cr_lenOwn {k : Nat} {f C : Addr} {sp : Sp} (hs : PySem.W.findIn X.K (.ref C) "__len__" = some (some (.ref f))) (hf : PySem.W.isFn X.K (.ref f) = true) (F : FnR X.prog X.w X.K X.mg X.base CX0 k f sp) (hr : Room (k + 1) X.A) : CallR X (.builtin "len") (rLenOwn C sp) := by
  intro pins s σ H xs us Q I r ⟨x, e1, a, dx, fs, ex, ea, h⟩
  subst e1 ex
  obtain ⟨u, rfl, ru⟩ := vals1 r
  obtain rfl : u = Value.ref a := ru
  obtain ⟨mA, O, _, _, _, _⟩ := ins_get I.hok ea
  obtain ⟨od, J, _⟩ := O.look
  obtain ⟨m, Fm⟩ := I.fr
  refine PySem.W.len_K Fm I.ok.mod.kin J hs hf (thn (run_wp (vs := [.ref a]) F hr.in1 I.env0.in1 I (.cons rfl .nil) h) fun r s1 ⟨z, H1, I1, rz, n, ez, hn, q⟩ => ?_)
  subst ez
  obtain ⟨t, rfl⟩ := rz
  exact ⟨hn, .int n, H1, I1.tok _, ⟨_, rfl⟩, q⟩
def fLenOwn (c : Nat) (mf : MF) : U → VS → Go U := fun u st => match u with
  | .ref i => match st.get i with
    | some (.ins c' _) => match Nat.beq c' c with
      | true => bnd (callM mf 1 [.ref i] st) fun w st1 κ => match w with
        | .int n => match decide (0 ≤ n), decide (n < 9223372036854775808) with
          | true, true => κ (.ok (.int n)) st1
          | _, _ => false
        | _ => false
      | false => bad
    | _ => bad
  | _ => bad
theorem cb_lenOwn {k c : Nat} {f : Addr} {mf : MF} (hs : PySem.W.findIn X.K (.ref (γ c)) "__len__" = some (some (.ref f))) (hf : PySem.W.isFn X.K (.ref f) = true) (F : FnM X γ k f 1 mf) (hr : Room (k + 1) X.A) : Cb X γ W (.builtin "len") (f1 (fLenOwn c mf)) := ⟨_, cr_lenOwn hs hf F hr, leaf1 fun ρ st H τ u v R ru κ Q hm ok ex => by
  cases u <;> first | (cases hm; done) | skip
  rename_i i
  have k2 : (match st.get i with
    | some (.ins c' _) => (match Nat.beq c' c with
      | true => bnd (callM mf 1 [.ref i] st) fun w st1 κ => match w with
        | .int n => (match decide (0 ≤ n), decide (n < 9223372036854775808) with
          | true, true => κ (Rs.ok (U.int n)) st1
          | _, _ => false)
        | _ => false
      | false => bad)
    | _ => bad) κ = true := hm
  cases q : st.get i with
  | none => rw [q] at k2; cases k2
  | some ob =>
    rw [q] at k2
    cases ob <;> first | (cases k2; done) | skip
    rename_i c' fs
    obtain ⟨a, ev, ea, dx, ws, hh, rf⟩ := R.get q ru
    subst ev
    have k3 : (match Nat.beq c' c with
      | true => bnd (callM mf 1 [.ref i] st) fun w st1 κ => match w with
        | .int n => (match decide (0 ≤ n), decide (n < 9223372036854775808) with
          | true, true => κ (Rs.ok (U.int n)) st1
          | _, _ => false)
        | _ => false
      | false => bad) κ = true := k2
    cases qc : Nat.beq c' c with
    | false => rw [qc] at k3; cases k3
    | true =>
      have ec := Nat.eq_of_beq_eq_true qc
      subst ec
      rw [qc] at k3
      refine ⟨a, dx, ws, rfl, hh, sim_call (W := W) (τ := τ) R (.cons ru .nil) _ _ k3 (fun ρ1 st1 H1 w x s1 R1 r1 k4 => ?_) ex⟩
      cases w <;> first | (cases k4; done) | skip
      rename_i n
      have k5 : (match decide (0 ≤ n), decide (n < 9223372036854775808) with
        | true, true => κ (Rs.ok (U.int n)) st1
        | _, _ => false) = true := k4
      cases q1 : decide (0 ≤ n) <;> cases q2 : decide (n < 9223372036854775808) <;> rw [q1, q2] at k5 <;> first | (cases k5; done) | skip
      exact ⟨n, r1, ⟨of_decide_eq_true q1, of_decide_eq_true q2⟩, ok ρ1 st1 H1 (.int n) _ s1 R1 rfl k5⟩⟩
/-- list(a list, a tuple), list(a dict) -/
def fListS (g : GT) : U → VS → Go U := fun u st κ => match seqOf g st u with
  | some (_, xs) => κ (.ok (.ref st.n)) (st.new (.lst xs))
  | none => false
theorem cb_listS (G : GOk X.K γ g) : Cb X γ W (.type "list") (f1 (fListS g)) := ⟨fun vs H Q => ∃ x, vs = [x] ∧ ∃ p ys, x = .ref p ∧ (SqL X.K H p ys ∨ SqT X.K H p ys) ∧ ∀ l, H l = none → Q (.ref l) (upd H l (.lst ys)), fun pins s σ H xs us Q I r ⟨x, e1, p, ys, e2, hs, q⟩ => call_list_of pins s σ H xs us Q I r ⟨p, ys, by rw [e1, e2], hs, q⟩, leaf1 fun ρ st H τ u v R ru κ Q hm ok ex => by
  have hm2 : (match seqOf g st u with | some (_, xs) => κ (.ok (.ref st.n)) (st.new (.lst xs)) | none => false) = true := hm
  cases q : seqOf g st u with
  | none => rw [q] at hm2; cases hm2
  | some bx =>
    obtain ⟨b, xs⟩ := bx
    rw [q] at hm2
    obtain ⟨a, ys, ev, rl, hs⟩ := seq_ok G R ru q
    refine ⟨a, ys, ev, ?_, ok.alloc R hm2 fun p => ⟨ys, upd_same, rl.mono⟩⟩
    cases b with
    | true => exact .inr hs
    | false => exact .inl hs⟩
def kUs : List (Key × U) → List U
  | [] => []
  | (k, _) :: r => kU k :: kUs r
theorem kUs_ok : ∀ {us : List (Key × U)} {vs : List (Key × V)}, RK γ ρ us vs → RL γ ρ (kUs us) (vs.map fun kv => kV kv.1)
  | _, _, .nil => .nil
  | (k, u) :: r, (k', v) :: s, .cons ⟨e, _⟩ t => by
    have e : k = k' := e
    subst e
    exact .cons (kU_ru k) (kUs_ok t)
def fListD : U → VS → Go U := fun u st κ => match u with
  | .ref i => match st.get i with
    | some (.dct _ kvs) => κ (.ok (.ref st.n)) (st.new (.lst (kUs kvs)))
    | _ => false
  | _ => false
theorem cb_listD (hc : X.calm = true) : Cb X γ W (.type "list") (f1 fListD) := ⟨fun vs H Q => ∃ x, vs = [x] ∧ ∃ a kvs, x = .ref a ∧ Rd H a (.dK kvs) ∧ ∀ p, H p = none → Q (.ref p) (upd H p (.lst (kvs.map fun kv => kV kv.1))), fun pins s σ H xs us Q I r ⟨x, e1, a, kvs, e2, rd, q⟩ => call_listD hc pins s σ H xs us Q I r ⟨a, kvs, by rw [e1, e2], rd, q⟩, leaf1 fun ρ st H τ u v R ru κ Q hm ok ex => by
  cases u <;> first | (cases hm; done) | skip
  rename_i i
  have hm2 : (match st.get i with | some (.dct _ kvs) => κ (.ok (.ref st.n)) (st.new (.lst (kUs kvs))) | _ => false) = true := hm
  cases q : st.get i with
  | none => rw [q] at hm2; cases hm2
  | some o =>
    rw [q] at hm2
    cases o <;> first | (cases hm2; done) | skip
    rename_i lk kvs
    obtain ⟨a, ev, _, ro⟩ := R.get q ru
    obtain ⟨ws, rd, rk⟩ := dct_rd ro
    exact ⟨a, ws, ev, rd, ok.alloc R hm2 fun p => ⟨_, upd_same, (kUs_ok rk).mono⟩⟩⟩
def fList (g : GT) : List U → VS → Go U := fOrL (f1 (fListS g)) (f1 fListD)
theorem cb_list (G : GOk X.K γ g) (hc : X.calm = true) : Cb X γ W (.type "list") (fList g) := (cb_listS G).or (cb_listD hc)
/-- dict(d) -/
def fDictD : U → VS → Go U := fun u st κ => match u with
  | .ref i => match st.get i with
    | some (.dct _ kvs) => κ (.ok (.ref st.n)) (st.new (.dct false kvs))
    | _ => false
  | _ => false
theorem cb_dictD : Cb X γ W (.type "dict") (f1 fDictD) := ⟨fun vs H Q => ∃ x, vs = [x] ∧ ∃ a kvs, x = .ref a ∧ Rd H a (.dK kvs) ∧ ∀ p, H p = none → Q (.ref p) (upd H p (.dK kvs)), fun pins s σ H xs us Q I r ⟨x, e1, a, kvs, e2, rd, q⟩ => call_dictD pins s σ H xs us Q I r ⟨a, kvs, by rw [e1, e2], rd, q⟩, leaf1 fun ρ st H τ u v R ru κ Q hm ok ex => by
  cases u <;> first | (cases hm; done) | skip
  rename_i i
  have hm2 : (match st.get i with | some (.dct _ kvs) => κ (.ok (.ref st.n)) (st.new (.dct false kvs)) | _ => false) = true := hm
  cases q : st.get i with
  | none => rw [q] at hm2; cases hm2
  | some o =>
    rw [q] at hm2
    cases o <;> first | (cases hm2; done) | skip
    rename_i lk kvs
    obtain ⟨a, ev, _, ro⟩ := R.get q ru
    obtain ⟨ws, rd, rk⟩ := dct_rd ro
    exact ⟨a, ws, ev, rd, ok.alloc R hm2 fun p => ⟨ws, upd_same, pmap (fun _ _ z => ⟨z.1, z.2.mono⟩) rk⟩⟩⟩
/-- all, any, sum, abs -/
def blsOf : List U → Option (List Bool)
  | [] => some []
  | .bl b :: r => match blsOf r with
    | some l => some (b :: l)
    | none => none
  | _ :: _ => none
theorem blsOf_ok : ∀ {us : List U} {vs : List V} {l : List Bool}, blsOf us = some l → RL γ ρ us vs → vs = l.map V.bl
  | _, _, l, h, .nil => by cases h; rfl
  | u :: r, v :: s, l, h, .cons a t => by
    cases u <;> first | (cases h; done) | skip
    rename_i b
    have h2 : (match blsOf r with | some l => some (b :: l) | none => none) = some l := h
    cases q : blsOf r with
    | none => rw [q] at h2; cases h2
    | some l2 =>
      rw [q] at h2; cases h2
      rw [show v = .bl b from a, blsOf_ok q t]; rfl
def intsOf : List U → Option (List Int)
  | [] => some []
  | .int b :: r => match intsOf r with
    | some l => some (b :: l)
    | none => none
  | _ :: _ => none
theorem intsOf_ok : ∀ {us : List U} {vs : List V} {l : List Int}, intsOf us = some l → RL γ ρ us vs → vs = l.map V.int
  | _, _, l, h, .nil => by cases h; rfl
  | u :: r, v :: s, l, h, .cons a t => by
    cases u <;> first | (cases h; done) | skip
    rename_i b
    have h2 : (match intsOf r with | some l => some (b :: l) | none => none) = some l := h
    cases q : intsOf r with
    | none => rw [q] at h2; cases h2
    | some l2 =>
      rw [q] at h2; cases h2
      rw [show v = .int b from a, intsOf_ok q t]; rfl
theorem intsOf_map : ∀ {us : List U} {l : List Int}, intsOf us = some l → us = l.map U.int
  | [], _, h => by cases h; rfl
  | u :: r, l, h => by
    cases u <;> first | (cases h; done) | skip
    rename_i b
    have h2 : (match intsOf r with | some l => some (b :: l) | none => none) = some l := h
    cases q : intsOf r with
    | none => rw [q] at h2; cases h2
    | some l2 =>
      rw [q] at h2; cases h2
      rw [intsOf_map q]; rfl
def anyB : List Bool → Bool
  | [] => false
  | true :: _ => true
  | false :: r => anyB r
def allT : List Bool → Bool
  | [] => true
  | false :: _ => false
  | true :: r => allT r
theorem anyB_ok : ∀ l : List Bool, l.any id = anyB l
  | [] => rfl
  | true :: _ => rfl
  | false :: r => anyB_ok r
theorem allT_ok : ∀ l : List Bool, l.all id = allT l
  | [] => rfl
  | false :: _ => rfl
  | true :: r => allT_ok r
def fBls (g : GT) (h : List Bool → Bool) : U → VS → Go U := fun u st κ => match seqOf g st u with
  | some (false, xs) => match blsOf xs with
    | some l => κ (.ok (.bl (h l))) st
    | none => false
  | _ => false
theorem leaf_bls {K : PySem.W.Frag} (G : GOk K γ g) {h h' : List Bool → Bool} (e : ∀ l, h' l = h l) : LeafL γ W (fun vs H Q => ∃ (a : Addr) (bs : List Bool), vs = [V.ref a] ∧ SqL K H a (bs.map V.bl) ∧ Q (.bl (h' bs)) H) (f1 (fBls g h)) := fun ρ st H τ us vs R rl κ Q hm ok ex => by
  obtain ⟨x, ex1, q⟩ := leaf1 (W := W) (r := fun x H Q => ∃ (a : Addr) (bs : List Bool), x = V.ref a ∧ SqL K H a (bs.map V.bl) ∧ Q (.bl (h' bs)) H) (f := fBls g h) (fun ρ st H τ u v R ru κ Q hm ok ex => by
    have hm2 : (match seqOf g st u with
      | some (false, xs) => (match blsOf xs with
        | some l => κ (.ok (.bl (h l))) st
        | none => false)
      | _ => false) = true := hm
    cases q : seqOf g st u with
    | none => rw [q] at hm2; cases hm2
    | some bx =>
      obtain ⟨b, xs⟩ := bx
      rw [q] at hm2
      cases b with
      | true => cases hm2
      | false =>
        have hm3 : (match blsOf xs with
          | some l => κ (.ok (.bl (h l))) st
          | none => false) = true := hm2
        obtain ⟨a, ys, ev, rl, hs⟩ := seq_ok G R ru q
        cases q2 : blsOf xs with
        | none => rw [q2] at hm3; cases hm3
        | some l =>
          rw [q2] at hm3
          have ey := blsOf_ok q2 rl
          subst ey
          exact ⟨a, l, ev, hs, by rw [e]; exact ok.here (u := .bl (h l)) R rfl hm3⟩) ρ st H τ us vs R rl κ Q hm ok ex
  obtain ⟨a, bs, e1, e2, e3⟩ := q
  exact ⟨a, bs, by rw [ex1, e1], e2, e3⟩
theorem cb_any (G : GOk X.K γ g) (hc : X.calm = true) : Cb X γ W (.builtin "any") (f1 (fBls g anyB)) := ⟨_, cr_any hc, leaf_bls G anyB_ok⟩
theorem cb_all (G : GOk X.K γ g) (hc : X.calm = true) : Cb X γ W (.builtin "all") (f1 (fBls g allT)) := ⟨_, cr_all hc, leaf_bls G allT_ok⟩
def sumI : List Int → Int
  | [] => 0
  | i :: r => i + sumI r
theorem sumI_ok : ∀ l : List Int, l.sum = sumI l
  | [] => rfl
  | i :: r => by rw [List.sum_cons, sumI_ok r]; rfl
def fSum (g : GT) : U → VS → Go U := fun u st κ => match seqOf g st u with
  | some (false, xs) => match intsOf xs with
    | some l => κ (.ok (.int (sumI l))) st
    | none => false
  | _ => false
theorem cb_sum (G : GOk X.K γ g) (hc : X.calm = true) : Cb X γ W (.builtin "sum") (f1 (fSum g)) := ⟨fun vs H Q => ∃ x, vs = [x] ∧ ∃ (a : Addr) (ns : List Int), x = V.ref a ∧ SqL X.K H a (ns.map V.int) ∧ Q (.int ns.sum) H, fun pins s σ H xs us Q I r ⟨x, e1, a, ns, e2, hs, q⟩ => cr_sum hc pins s σ H xs us Q I r ⟨a, ns, by rw [e1, e2], hs, q⟩, leaf1 fun ρ st H τ u v R ru κ Q hm ok ex => by
  have hm2 : (match seqOf g st u with
    | some (false, xs) => (match intsOf xs with
      | some l => κ (.ok (.int (sumI l))) st
      | none => false)
    | _ => false) = true := hm
  cases q : seqOf g st u with
  | none => rw [q] at hm2; cases hm2
  | some bx =>
    obtain ⟨b, xs⟩ := bx
    rw [q] at hm2
    cases b with
    | true => cases hm2
    | false =>
      have hm3 : (match intsOf xs with
        | some l => κ (.ok (.int (sumI l))) st
        | none => false) = true := hm2
      obtain ⟨a, ys, ev, rl, hs⟩ := seq_ok G R ru q
      cases q2 : intsOf xs with
      | none => rw [q2] at hm3; cases hm3
      | some l =>
        rw [q2] at hm3
        have ey := intsOf_ok q2 rl
        subst ey
        exact ⟨a, l, ev, hs, by rw [sumI_ok]; exact ok.here (u := .int (sumI l)) R rfl hm3⟩⟩
def fAbs : U → VS → Go U := fun u st κ => match u with
  | .int i => κ (.ok (.int (if i < 0 then -i else i))) st
  | _ => false
theorem cb_abs : Cb X γ W (.builtin "abs") (f1 fAbs) := ⟨fun vs H Q => ∃ x, vs = [x] ∧ ∃ i : Int, x = V.int i ∧ Q (.int (if i < 0 then -i else i)) H, fun pins s σ H xs us Q I r ⟨x, e1, i, e2, q⟩ => call_abs pins s σ H xs us Q I r ⟨i, by rw [e1, e2], q⟩, leaf1 fun ρ st H τ u v R ru κ Q hm ok ex => by
  cases u <;> first | (cases hm; done) | skip
  rename_i i
  exact ⟨i, ru, ok.here (u := .int (if i < 0 then -i else i)) R rfl hm⟩⟩
end
end MV

namespace MV
open PySem PySem.Spec PyProof.Rows L2

/-! ### isinstance of a built-in class -/
inductive Tg where
  | non | bl | int | str | lst | tup | dct
def Tg.v : Tg → Value
  | .non => .type "NoneType"
  | .bl => .type "bool"
  | .int => .type "int"
  | .str => .type "str"
  | .lst => .type "list"
  | .tup => .type "tuple"
  | .dct => .type "dict"
def tagOf (st : VS) : U → Option Tg
  | .non => some .non
  | .bl _ => some .bl
  | .int _ => some .int
  | .str _ => some .str
  | .ref i => match st.get i with
    | some (.lst _) => some .lst
    | some (.tup _) => some .tup
    | some (.dct _ _) => some .dct
    | _ => none
  | _ => none
def isInt : Tg → Bool
  | .int => true
  | .bl => true
  | _ => false
def isBool : Tg → Bool
  | .bl => true
  | _ => false
def isStr : Tg → Bool
  | .str => true
  | _ => false
def isList : Tg → Bool
  | .lst => true
  | _ => false
def isTuple : Tg → Bool
  | .tup => true
  | _ => false
def isDict : Tg → Bool
  | .dct => true
  | _ => false
theorem isInt_ok (K : PySem.W.Frag) (t : Tg) : PySem.W.kitOne K t.v (.type "int") = some (isInt t) := by cases t <;> kernel_rfl
theorem isBool_ok (K : PySem.W.Frag) (t : Tg) : PySem.W.kitOne K t.v (.type "bool") = some (isBool t) := by cases t <;> kernel_rfl
theorem isStr_ok (K : PySem.W.Frag) (t : Tg) : PySem.W.kitOne K t.v (.type "str") = some (isStr t) := by cases t <;> kernel_rfl
theorem isList_ok (K : PySem.W.Frag) (t : Tg) : PySem.W.kitOne K t.v (.type "list") = some (isList t) := by cases t <;> kernel_rfl
theorem isTuple_ok (K : PySem.W.Frag) (t : Tg) : PySem.W.kitOne K t.v (.type "tuple") = some (isTuple t) := by cases t <;> kernel_rfl
theorem isDict_ok (K : PySem.W.Frag) (t : Tg) : PySem.W.kitOne K t.v (.type "dict") = some (isDict t) := by cases t <;> kernel_rfl
section
variable {γ : Nat → Addr} {W : WX} {X : Cx} {g : GT} {ρ : List Addr} {st : VS} {H : Hp}
theorem tagOf_ok {K : PySem.W.Frag} (R : Rep γ ρ st H) {u : U} {v : V} (r : RU γ ρ u v) {t : Tg} (e : tagOf st u = some t) : TyX K H v t.v := by
  cases u with
  | non => cases e; rw [show v = .non from r]; exact .base .non
  | bl b => cases e; rw [show v = .bl b from r]; exact .base (.bl b)
  | int b => cases e; rw [show v = .int b from r]; exact .base (.int b)
  | str b => cases e; rw [show v = .str b from r]; exact .base (.str b)
  | glo k => cases e
  | ty n => cases e
  | ref i =>
    have e2 : (match st.get i with | some (.lst _) => some Tg.lst | some (.tup _) => some Tg.tup | some (.dct _ _) => some Tg.dct | _ => none) = some t := e
    cases q : st.get i with
    | none => rw [q] at e2; cases e2
    | some o =>
      rw [q] at e2
      obtain ⟨a, ev, _, ro⟩ := R.get q r
      subst ev
      cases o with
      | lst xs => cases e2; obtain ⟨ys, h, _⟩ := ro; exact .base (.lst h)
      | fl xs => cases e2
      | tup xs => cases e2; obtain ⟨ys, h, _⟩ := ro; exact .base (.tup h)
      | dct lk kvs =>
        cases e2
        obtain ⟨ws, rd, _⟩ := dct_rd ro
        rcases rd with h | ⟨o, h⟩
        · exact .base (.dK h)
        · exact .fDict h
      | ins c fs => cases e2
def mIsi (tb : Tg → Bool) (m : ME) : ME := fun σ st => bnd (m σ st) fun u st1 κ => match tagOf st1 u with
  | some t => κ (.ok (.bl (tb t))) st1
  | none => false
theorem se_isi {e : Expr} {T : Str} {n : String} {p pT pos : Pos} {m : ME} {tb : Tg → Bool} (ht : ∀ t : Tg, PySem.W.kitOne X.K t.v (.type n) = some (tb t)) (h : SE γ W X e m) (hm : X.mg "isinstance" = none) (hmT : X.mg T = none) (hvT : bootBuiltins T = some (.type n)) (hg : Gl X "isinstance" := by rfl) (hgT : Gl X T := by rfl)
    (hnT : T ≠ "__name__" := by decide) (hdT : (T == ("__debug__" : Str)) = false := by decide)
    (he : starEach [e, .Name T pT] X.env = (false, eval e X.env) :: starEach [.Name T pT] X.env := by rfl) (he2 : starEach [.Name T pT] X.env = (false, eval (.Name T pT) X.env) :: starEach [] X.env := by rfl) (hpl : (backTo pos (starEach [.Name T pT] X.env)).any (·.1) = false := by rfl) :
    SE γ W X (.Call (.Name "isinstance" p) [e, .Name T pT] [] pos) (mIsi tb m) := by
  obtain ⟨t, pt, s⟩ := h
  have pT' : PE X (.Name T pT) (tC (.ty n)) := pe_bltn (v := .ty n) hgT hmT hvT rfl hnT hdT
  refine ⟨_, pe_callB call_isi hg hm rfl (pa_cons pt (pa_cons pT' pa_nil he2) he) (he := he) (hpl := hpl), fun ρ st H σ τ R F κ Q hm ok ex => s ρ st H σ τ R F _ _ hm (fun ρ1 st1 H1 u v s1 R1 r1 k => ?_) ex⟩
  have k2 : (match tagOf st1 u with | some t => κ (.ok (.bl (tb t))) st1 | none => false) = true := k
  cases q : tagOf st1 u with
  | none => rw [q] at k2; cases k2
  | some tg =>
    rw [q] at k2
    exact ⟨v, .ty n, tg.v, .type n, tb tg, rfl, .ty n, tagOf_ok R1 r1 q, ht tg, ok ρ1 st1 H1 (.bl (tb tg)) _ s1 R1 rfl k2⟩

/-! ### a list's methods -/
def LeafM (γ : Nat → Addr) (W : WX) (r : V → List V → Hp → VK → Prop) (f : U → List U → VS → Go U) : Prop := ∀ ρ st H τ u us v vs, Rep γ ρ st H → RU γ ρ u v → RL γ ρ us vs → SimAt γ W τ (RU γ) ρ H (r v vs H) (f u us st)
def Mt2 (X : Cx) (γ : Nat → Addr) (W : WX) (id : String) (f : U → List U → VS → Go U) : Prop := ∃ r, MtR X id r ∧ LeafM γ W r f
def isLst (st : VS) : U → Bool
  | .ref i => match st.get i with
    | some (.lst _) => true
    | _ => false
  | _ => false
theorem isLst_ok {K : PySem.W.Frag} (R : Rep γ ρ st H) {u : U} {v : V} (r : RU γ ρ u v) (e : isLst st u = true) : tyV K "list" v H := by
  cases u <;> first | (cases e; done) | skip
  rename_i i
  have e2 : (match st.get i with | some (.lst _) => true | _ => false) = true := e
  cases q : st.get i with
  | none => rw [q] at e2; cases e2
  | some o =>
    rw [q] at e2
    cases o <;> first | (cases e2; done) | skip
    obtain ⟨a, ev, _, ys, h, _⟩ := R.get q r
    subst ev
    exact .inl ⟨rfl, ys, .inl (.inl h)⟩
def mMt (f : U → List U → VS → Go U) (mo : ME) (ms : MA) : ME := fun σ st => bnd (mo σ st) fun u st1 => match isLst st1 u with
  | true => bnd (ms σ st1) fun us st2 => f u us st2
  | false => bad
theorem se_bm {o e : Expr} {es : List Expr} {name : Str} {id : String} {apos cpos : Pos} {f : U → List U → VS → Go U} {mo : ME} {ms : MA} (slot : Slot "list" name id) (hty : typeOf (.builtin id) = pure (.type "method_descriptor")) (hm : Mt2 X γ W id f) (ho : SE γ W X o mo) (ha : SA γ W X (e :: es) ms)
    (hbase : attributeBase o name X.env (eval o X.env) = eval o X.env := by rfl)
    (hfew : ((backTo cpos (starEach (e :: es) X.env)).all (fun x => !x.1) && (backToKw cpos (keywordEach [] X.env)).all (fun x => x.1.isSome)
      && decide ((e :: es).length + ([] : List Keyword).length + (if ([] : List Keyword).isEmpty then 0 else 1) < 30)) = true := by rfl)
    (hline : (apos.endLine == cpos.line) = true := by rfl) (hs : starEach (e :: es) X.env = (false, eval e X.env) :: starEach es X.env := by rfl) (hplain : (backTo cpos (starEach es X.env)).any (·.1) = false := by rfl) :
    SE γ W X (.Call (.Attribute o name apos) (e :: es) [] cpos) (mMt f mo ms) := by
  obtain ⟨r, a, b⟩ := hm
  obtain ⟨to, po, so⟩ := ho
  obtain ⟨t, pt, s⟩ := ha
  refine ⟨_, pe_bm PySem.F.plainAttrs_list slot hty a po pt hbase hfew hline hs hplain, fun ρ st H σ τ R F κ Q hm ok ex => so ρ st H σ τ R F _ _ hm (fun ρ1 st1 H1 u v s1 R1 r1 k => ?_) ex⟩
  have k2 : (match isLst st1 u with | true => bnd (ms σ st1) fun us st2 => f u us st2 | false => bad) κ = true := k
  cases q : isLst st1 u with
  | false => rw [q] at k2; cases k2
  | true =>
    rw [q] at k2
    exact ⟨isLst_ok R1 r1 q, s ρ1 st1 H1 σ τ R1 (F.step s1) _ _ k2 (fun ρ2 st2 H2 us vs s2 R2 r2 k3 => b ρ2 st2 H2 τ u us v vs R2 (s2.ru r1) r2 _ _ k3 (ok.step (s1.trans s2)) (ex.step (s1.trans s2))) (ex.step s1)⟩
theorem se_bm0 {o : Expr} {name : Str} {id : String} {apos cpos : Pos} {f : U → List U → VS → Go U} {mo : ME} (slot : Slot "list" name id) (hty : typeOf (.builtin id) = pure (.type "method_descriptor")) (hm : Mt2 X γ W id f) (ho : SE γ W X o mo)
    (hbase : attributeBase o name X.env (eval o X.env) = eval o X.env := by rfl) (hline : (apos.endLine == cpos.line) = true := by rfl) : SE γ W X (.Call (.Attribute o name apos) [] [] cpos) (mMt f mo mNil) := by
  obtain ⟨r, a, b⟩ := hm
  obtain ⟨to, po, so⟩ := ho
  refine ⟨_, pe_bm0 PySem.F.plainAttrs_list slot hty a po hbase hline, fun ρ st H σ τ R F κ Q hm ok ex => so ρ st H σ τ R F _ _ hm (fun ρ1 st1 H1 u v s1 R1 r1 k => ?_) ex⟩
  have k2 : (match isLst st1 u with | true => bnd (mNil σ st1) fun us st2 => f u us st2 | false => bad) κ = true := k
  cases q : isLst st1 u with
  | false => rw [q] at k2; cases k2
  | true =>
    rw [q] at k2
    exact ⟨isLst_ok R1 r1 q, b ρ1 st1 H1 τ u [] v [] R1 r1 .nil _ _ k2 (ok.step s1) (ex.step s1)⟩
/-- a list changed -/
theorem OkK.putL {i : Nat} {a : Addr} {xs : List U} {ys zs : List V} {κ : Rs U → VS → Bool} {Q : VK} {u : U} {v : V} (ok : OkK γ (RU γ) ρ H κ Q) (R : Rep γ ρ st H) (ea : ρ[i]? = some a) (hh : H a = some (.lst ys)) (rl : RL γ ρ xs zs) (ru : RU γ ρ u v) (h : κ (.ok u) (st.put i (.lst xs)) = true) : Q v (upd H a (.lst zs)) := by
  have ro : RO γ ρ (upd H a (.lst zs)) a (.lst xs) := ⟨zs, upd_same, rl⟩
  obtain ⟨R2, S2⟩ := R.put ea (by rw [hh]; intro _ _ z; cases z) ro
  exact ok ρ _ _ u v S2 R2 ru h
def fAppend : U → List U → VS → Go U := fun u us st κ => match u, us with
  | .ref i, [w] => match st.get i with
    | some (.lst xs) => match Nat.blt xs.length line with
      | true => κ (.ok .non) (st.put i (.lst (xs ++ [w])))
      | false => false
    | _ => false
  | _, _ => false
theorem mt2_append : Mt2 X γ W "list.append" fAppend := ⟨_, mt_append, fun ρ st H τ u us v vs R ru rl κ Q hm ok ex => by
  cases u <;> first | (cases hm; done) | skip
  rename_i i
  cases rl with
  | nil => cases hm
  | cons a t =>
    cases t with
    | cons _ _ => cases hm
    | nil =>
      rename_i w x
      have hm2 : (match st.get i with
        | some (.lst xs) => (match Nat.blt xs.length line with
          | true => κ (.ok .non) (st.put i (.lst (xs ++ [w])))
          | false => false)
        | _ => false) = true := hm
      cases q : st.get i with
      | none => rw [q] at hm2; cases hm2
      | some o =>
        rw [q] at hm2
        cases o <;> first | (cases hm2; done) | skip
        rename_i xs
        have hm3 : (match Nat.blt xs.length line with
          | true => κ (.ok .non) (st.put i (.lst (xs ++ [w])))
          | false => false) = true := hm2
        obtain ⟨d, ev, ea, ys, hh, rl⟩ := R.get q ru
        subst ev
        cases q2 : Nat.blt xs.length line with
        | false => rw [q2] at hm3; cases hm3
        | true =>
          rw [q2] at hm3
          exact ⟨d, ys, x, rfl, rfl, hh, by rw [← rl.length]; exact line_lt q2, ok.putL (u := .non) (v := .non) R ea hh (Paired.snoc rl a) rfl hm3⟩⟩
theorem pdropLast {α β : Type} {F : α → β → Prop} : ∀ {xs : List α} {ys : List β}, Paired F xs ys → Paired F xs.dropLast ys.dropLast
  | _, _, .nil => .nil
  | _, _, .cons r .nil => .nil
  | _, _, .cons r (.cons r2 t) => .cons r (pdropLast (.cons r2 t))
theorem perase {α β : Type} {F : α → β → Prop} : ∀ {xs : List α} {ys : List β} (i : Nat), Paired F xs ys → Paired F (xs.eraseIdx i) (ys.eraseIdx i)
  | _, _, _, .nil => .nil
  | _, _, 0, .cons r t => t
  | _, _, i + 1, .cons r t => .cons r (perase i t)
def fPop : U → List U → VS → Go U := fun u us st κ => match u, us with
  | .ref i, [] => match st.get i with
    | some (.lst xs) => match xs[xs.length - 1]? with
      | some w => κ (.ok w) (st.put i (.lst xs.dropLast))
      | none => false
    | _ => false
  | _, _ => false
theorem mt2_pop : Mt2 X γ W "list.pop" fPop := ⟨_, mt_pop, fun ρ st H τ u us v vs R ru rl κ Q hm ok ex => by
  cases u <;> first | (cases hm; done) | skip
  rename_i i
  cases rl with
  | cons a t => cases hm
  | nil =>
    have hm2 : (match st.get i with
      | some (.lst xs) => (match xs[xs.length - 1]? with
        | some w => κ (.ok w) (st.put i (.lst xs.dropLast))
        | none => false)
      | _ => false) = true := hm
    cases q : st.get i with
    | none => rw [q] at hm2; cases hm2
    | some o =>
      rw [q] at hm2
      cases o <;> first | (cases hm2; done) | skip
      rename_i xs
      have hm3 : (match xs[xs.length - 1]? with
        | some w => κ (.ok w) (st.put i (.lst xs.dropLast))
        | none => false) = true := hm2
      obtain ⟨d, ev, ea, ys, hh, rl⟩ := R.get q ru
      subst ev
      cases q2 : xs[xs.length - 1]? with
      | none => rw [q2] at hm3; cases hm3
      | some w =>
        rw [q2] at hm3
        obtain ⟨y, hy, ry⟩ := pget rl q2
        rw [rl.length] at hy
        exact ⟨d, ys, y, rfl, rfl, hh, hy, ok.putL R ea hh (pdropLast rl) ry hm3⟩⟩
def iIdx (k : Int) : List Int → Option Nat
  | [] => none
  | i :: r => match iEq i k with
    | true => some 0
    | false => match iIdx k r with
      | some j => some (j + 1)
      | none => none
theorem iIdx_ok {k : Int} : ∀ {ns : List Int} {j : Nat}, iIdx k ns = some j → ns[j]? = some k ∧ ∀ m : Nat, m < j → ns[m]? ≠ some k
  | [], _, h => nomatch h
  | i :: r, j, h => by
    have h2 : (match iEq i k with | true => some 0 | false => (match iIdx k r with | some j => some (j + 1) | none => none)) = some j := h
    cases q : iEq i k with
    | true =>
      rw [q] at h2; cases h2
      exact ⟨by rw [iEq_iff.mp q]; rfl, fun m hm => absurd hm (Nat.not_lt_zero m)⟩
    | false =>
      rw [q] at h2
      cases q2 : iIdx k r with
      | none => rw [q2] at h2; cases h2
      | some j2 =>
        rw [q2] at h2; cases h2
        obtain ⟨a, b⟩ := iIdx_ok q2
        refine ⟨a, fun m hm => ?_⟩
        cases m with
        | zero =>
          intro z
          have z : some i = some k := z
          cases z
          rw [iEq_iff.mpr rfl] at q; cases q
        | succ m => exact b m (Nat.lt_of_succ_lt_succ hm)
theorem rl_ints : ∀ l : List Int, RL γ ρ (l.map U.int) (l.map V.int)
  | [] => .nil
  | _ :: r => .cons rfl (rl_ints r)
def intOf : U → Option Int
  | .int i => some i
  | _ => none
theorem intOf_ok {u : U} {v : V} {i : Int} (e : intOf u = some i) (r : RU γ ρ u v) : v = .int i := by
  cases u <;> cases e
  exact r
def fRemove : U → List U → VS → Go U := fun u us st κ => match u, us with
  | .ref i, [w] => match st.get i with
    | some (.lst xs) => match intsOf xs, intOf w with
      | some ns, some k => match iIdx k ns with
        | some j => κ (.ok .non) (st.put i (.lst ((ns.eraseIdx j).map U.int)))
        | none => false
      | _, _ => false
    | _ => false
  | _, _ => false
theorem mt2_remove : Mt2 X γ W "list.remove" fRemove := ⟨_, mt_remove, fun ρ st H τ u us v vs R ru rl κ Q hm ok ex => by
  cases u <;> first | (cases hm; done) | skip
  rename_i i
  cases rl with
  | nil => cases hm
  | cons a t =>
    cases t with
    | cons _ _ => cases hm
    | nil =>
      rename_i w x
      have hm2 : (match st.get i with
        | some (.lst xs) => (match intsOf xs, intOf w with
          | some ns, some k => (match iIdx k ns with
            | some j => κ (.ok .non) (st.put i (.lst ((ns.eraseIdx j).map U.int)))
            | none => false)
          | _, _ => false)
        | _ => false) = true := hm
      cases q : st.get i with
      | none => rw [q] at hm2; cases hm2
      | some o =>
        rw [q] at hm2
        cases o <;> first | (cases hm2; done) | skip
        rename_i xs
        have hm3 : (match intsOf xs, intOf w with
          | some ns, some k => (match iIdx k ns with
            | some j => κ (.ok .non) (st.put i (.lst ((ns.eraseIdx j).map U.int)))
            | none => false)
          | _, _ => false) = true := hm2
        obtain ⟨d, ev, ea, ys, hh, rl⟩ := R.get q ru
        subst ev
        cases q2 : intsOf xs with
        | none => rw [q2] at hm3; cases hm3
        | some ns =>
          cases q4 : intOf w with
          | none => rw [q2, q4] at hm3; cases hm3
          | some k =>
            rw [q2, q4] at hm3
            have hm4 : (match iIdx k ns with
              | some j => κ (.ok .non) (st.put i (.lst ((ns.eraseIdx j).map U.int)))
              | none => false) = true := hm3
            have ey := intsOf_ok q2 rl
            subst ey
            cases q3 : iIdx k ns with
            | none => rw [q3] at hm4; cases hm4
            | some j =>
              rw [q3] at hm4
              obtain ⟨z1, z2⟩ := iIdx_ok q3
              have ex2 := intOf_ok q4 a
              subst ex2
              exact ⟨d, ns, k, j, rfl, rfl, hh, z1, z2, ok.putL (u := .non) (v := .non) R ea hh (rl_ints _) rfl hm4⟩⟩

/-! ### o[i] = v -/
def rSetLD : TSet := fun o i v H Q => rSetL o i v H Q ∨ rSetD o i v H Q
theorem set_ld (hu : X.A.units + 1 < cLine) : PSet X rSetLD := fun pins s σ H o i v ov iv u Q I ro ri rv h => h.elim (fun z => set_list pins s σ H o i v ov iv u Q I ro ri rv z) fun z => set_dict hu pins s σ H o i v ov iv u Q I ro ri rv z
def uIx (n : Nat) : Int → Option Nat
  | .ofNat m => match Nat.blt m n with
    | true => some m
    | false => none
  | .negSucc m => match Nat.blt m n with
    | true => some (n - 1 - m)
    | false => none
theorem uIx_ok {n : Nat} {i : Int} {j : Nat} (e : uIx n i = some j) : ixN n i = some j := by
  unfold ixN
  cases i with
  | ofNat m =>
    have e2 : (match Nat.blt m n with | true => some m | false => none) = some j := e
    cases q : Nat.blt m n with
    | false => rw [q] at e2; cases e2
    | true =>
      rw [q] at e2
      have ej : m = j := Option.some.inj e2
      have hm : m < n := Nat.le_of_ble_eq_true q
      have h1 : (0 : Int) ≤ Int.ofNat m := Int.natCast_nonneg m
      have h2 : Int.ofNat m < (n : Int) := by simpa using hm
      rw [if_pos h1, if_pos h2, ← ej]; rfl
  | negSucc m =>
    have e2 : (match Nat.blt m n with | true => some (n - 1 - m) | false => none) = some j := e
    cases q : Nat.blt m n with
    | false => rw [q] at e2; cases e2
    | true =>
      rw [q] at e2
      have ej : n - 1 - m = j := Option.some.inj e2
      have hm : m < n := Nat.le_of_ble_eq_true q
      have h0 : ¬ (0 ≤ Int.negSucc m) := by simp
      have h1 : -(n : Int) ≤ Int.negSucc m := by rw [Int.negSucc_eq]; omega
      rw [if_neg h0, if_pos h1, ← ej]
      congr 1
      rw [Int.negSucc_eq]; omega
def fSetI : U → U → U → VS → (VS → Bool) → Bool := fun o i w st κ => match o with
  | .ref p => match st.get p with
    | some (.lst xs) => match intOf i with
      | some k => match uIx xs.length k with
        | some j => κ (st.put p (.lst (xs.set j w)))
        | none => false
      | none => false
    | some (.dct false kvs) => match kOf i with
      | some k => match Nat.blt kvs.length line with
        | true => κ (st.put p (.dct false (kPut k w kvs)))
        | false => false
      | none => false
    | _ => false
  | _ => false
theorem pset {α β : Type} {F : α → β → Prop} {a : α} {b : β} (h : F a b) : ∀ {xs : List α} {ys : List β} (i : Nat), Paired F xs ys → Paired F (xs.set i a) (ys.set i b)
  | _, _, _, .nil => .nil
  | _, _, 0, .cons r t => .cons h t
  | _, _, i + 1, .cons r t => .cons r (pset h i t)
theorem setI_ok {o i w : U} {vo vi vw : V} {κ : VS → Bool} {Q : Hp → Prop} (R : Rep γ ρ st H) (ro : RU γ ρ o vo) (ri : RU γ ρ i vi) (rw_ : RU γ ρ w vw) (h : fSetI o i w st κ = true) (ok : ∀ st' H', Step ρ H ρ H' → Rep γ ρ st' H' → κ st' = true → Q H') : rSetLD vo vi vw H Q := by
  cases o <;> first | (cases h; done) | skip
  rename_i p
  have h2 : (match st.get p with
    | some (.lst xs) => (match intOf i with
      | some k => (match uIx xs.length k with
        | some j => κ (st.put p (.lst (xs.set j w)))
        | none => false)
      | none => false)
    | some (.dct false kvs) => (match kOf i with
      | some k => (match Nat.blt kvs.length line with
        | true => κ (st.put p (.dct false (kPut k w kvs)))
        | false => false)
      | none => false)
    | _ => false) = true := h
  cases q : st.get p with
  | none => rw [q] at h2; cases h2
  | some ob =>
    rw [q] at h2
    cases ob with
    | lst xs =>
      obtain ⟨a, ev, ea, ys, hh, rl⟩ := R.get q ro
      have h25 : (match intOf i with
        | some k => (match uIx xs.length k with
          | some j => κ (st.put p (.lst (xs.set j w)))
          | none => false)
        | none => false) = true := h2
      cases q9 : intOf i with
      | none => rw [q9] at h25; cases h25
      | some k =>
      rw [q9] at h25
      have h3 : (match uIx xs.length k with
        | some j => κ (st.put p (.lst (xs.set j w)))
        | none => false) = true := h25
      cases q2 : uIx xs.length k with
      | none => rw [q2] at h3; cases h3
      | some j =>
        rw [q2] at h3
        have ro2 : RO γ ρ (upd H a (.lst (ys.set j vw))) a (.lst (xs.set j w)) := ⟨_, upd_same, pset rw_ j rl⟩
        obtain ⟨R2, S2⟩ := R.put ea (by rw [hh]; intro _ _ z; cases z) ro2
        refine .inl ⟨a, ys, k, j, ev, intOf_ok q9 ri, hh, ?_, ok _ _ S2 R2 h3⟩
        rw [← rl.length]; exact uIx_ok q2
    | dct lk kvs =>
      cases lk with
      | true => cases h2
      | false =>
        obtain ⟨a, ev, ea, ws, hh, rk⟩ := R.get q ro
        have h3 : (match kOf i with
          | some k => (match Nat.blt kvs.length line with
            | true => κ (st.put p (.dct false (kPut k w kvs)))
            | false => false)
          | none => false) = true := h2
        cases q2 : kOf i with
        | none => rw [q2] at h3; cases h3
        | some k =>
          rw [q2] at h3
          have h4 : (match Nat.blt kvs.length line with
            | true => κ (st.put p (.dct false (kPut k w kvs)))
            | false => false) = true := h3
          cases q3 : Nat.blt kvs.length line with
          | false => rw [q3] at h4; cases h4
          | true =>
            rw [q3] at h4
            have hh : H a = some (.dK ws) := hh
            have ro2 : RO γ ρ (upd H a (.dK (putK ws k vw))) a (.dct false (kPut k w kvs)) := ⟨_, upd_same, rk.put rw_⟩
            obtain ⟨R2, S2⟩ := R.put ea (by rw [hh]; intro _ _ z; cases z) ro2
            have hl : ws.length < sizeLine := by
              rw [← show kvs.length = ws.length from Paired.length rk]; exact line_lt q3
            exact .inr ⟨a, _, ev, .inl ⟨ws, k, hh, kOf_ok q2 ri, hl, rfl⟩, ok _ _ S2 R2 h4⟩
    | fl _ => cases h2
    | tup _ => cases h2
    | ins _ _ => cases h2
def mgSub (mo mi : ME) : MG := fun u σ st κ => mo σ st (noX fun o st1 => mi σ st1 (noX fun i st2 => fSetI o i u st2 fun st3 => κ σ st3))
theorem sg_sub {o i : Expr} {pos : Pos} {mo mi : ME} (hu : X.A.units + 1 < cLine) (ho : SE γ W X o mo) (hi : SE γ W X i mi)
    (ha : ∀ v, assign (.Subscript o i pos) X.env v = (do
      let ov ← holding [v] (eval o X.env)
      let iv ← holding [v, ov] (eval i X.env)
      standAt pos
      holding [v, ov, iv] (setItem ov iv v)
      release [v, ov, iv] []) := by intro _; rfl) : SG γ X [] (.Subscript o i pos) (mgSub mo mi) := by
  obtain ⟨to, po, so⟩ := ho
  obtain ⟨ti, pi, si⟩ := hi
  refine ⟨_, pg_sub po pi (set_ld hu) ha, fun ρ st H σ τ u v R F ru κ Q hm ok => so ρ st H σ τ R F _ _ hm (fun ρ1 st1 H1 u1 v1 s1 R1 r1 k1 => si ρ1 st1 H1 σ τ R1 (F.step s1) _ _ k1 (fun ρ2 st2 H2 u2 v2 s2 R2 r2 k2 => ?_) noX_ex) noX_ex⟩
  exact setI_ok R2 (s2.ru r1) r2 ((s1.trans s2).ru ru) k2 fun st3 H3 S3 R3 k3 => ok ρ2 st3 H3 σ τ (s1.trans (s2.trans S3)) R3 (F.step (s1.trans (s2.trans S3))) (Same.refl _ _) k3

/-! ### o.f += e -/
def mAugF (g : GT) (f : Str) (mo mv : ME) : MS := fun σ st κ => mo σ st (onE κ σ fun u st1 => match u with
  | .ref i => match st1.get i with
    | some (.ins c fs) => match g.fld c f, fGet f fs with
      | true, some (.int a) => mv σ st1 (onE κ σ fun w st2 => match w with
        | .int b => match st2.get i with
          | some (.ins c' fs') => match Nat.beq c' c, Nat.blt fs'.length 1000 with
            | true, true => κ .nx σ (st2.put i (.ins c (fPut f (.int (a + b)) fs')))
            | _, _ => false
          | _ => false
        | _ => false)
      | _, _ => false
    | _ => false
  | _ => false)
theorem ss_augF {o value : Expr} {f : Str} {tpos pos : Pos} {mo mv : ME} (G : GOk X.K γ g) (ho : SE γ W X o mo) (hv : SE γ W X value mv) : SS γ W X (.AugAssign (.Attribute o f tpos) .Add value pos) (mAugF g f mo mv) := by
  obtain ⟨to, po, so⟩ := ho
  obtain ⟨tv, pv, sv⟩ := hv
  refine ⟨_, ps_fldaug po pv in_add, fun ρ st H σ τ R F κ D hm ok => so ρ st H σ τ R F _ _ hm (fun ρ1 st1 H1 u v s1 R1 r1 k => ?_) (ok.exK F)⟩
  cases u <;> first | (cases k; done) | skip
  rename_i i
  have k2 : (match st1.get i with
    | some (.ins c fs) => (match g.fld c f, fGet f fs with
      | true, some (.int a) => mv σ st1 (onE κ σ fun w st2 => match w with
        | .int b => (match st2.get i with
          | some (.ins c' fs') => (match Nat.beq c' c, Nat.blt fs'.length 1000 with
            | true, true => κ .nx σ (st2.put i (.ins c (fPut f (.int (a + b)) fs')))
            | _, _ => false)
          | _ => false)
        | _ => false)
      | _, _ => false)
    | _ => false) = true := k
  cases q : st1.get i with
  | none => rw [q] at k2; cases k2
  | some ob =>
    rw [q] at k2
    cases ob <;> first | (cases k2; done) | skip
    rename_i c fs
    obtain ⟨d, ev, ea, dx, ws, hh, rf⟩ := R1.get q r1
    subst ev
    have k3 : (match g.fld c f, fGet f fs with
      | true, some (.int a) => mv σ st1 (onE κ σ fun w st2 => match w with
        | .int b => (match st2.get i with
          | some (.ins c' fs') => (match Nat.beq c' c, Nat.blt fs'.length 1000 with
            | true, true => κ .nx σ (st2.put i (.ins c (fPut f (.int (a + b)) fs')))
            | _, _ => false)
          | _ => false)
        | _ => false)
      | _, _ => false) = true := k2
    cases qf : g.fld c f with
    | false => rw [qf] at k3; cases k3
    | true =>
      rw [qf] at k3
      obtain ⟨c1, c2⟩ := G.fld c f qf
      rcases rf.get (f := f) with ⟨e1, _⟩ | ⟨w, x, e1, e2, rw'⟩
      · rw [e1] at k3; cases k3
      · rw [e1] at k3
        cases w <;> first | (cases k3; done) | skip
        rename_i a
        have ex : x = .int a := rw'
        subst ex
        refine ⟨d, _, dx, ws, _, rfl, hh, c1, c2, e2, sv ρ1 st1 H1 σ τ R1 (F.step s1) _ _ k3 (fun ρ2 st2 H2 w y s2 R2 r2 k4 => ?_) ((ok.step s1).exK (F.step s1))⟩
        cases w <;> first | (cases k4; done) | skip
        rename_i b
        have ey : y = .int b := r2
        subst ey
        have k5 : (match st2.get i with
          | some (.ins c' fs') => (match Nat.beq c' c, Nat.blt fs'.length 1000 with
            | true, true => κ .nx σ (st2.put i (.ins c (fPut f (.int (a + b)) fs')))
            | _, _ => false)
          | _ => false) = true := k4
        cases q5 : st2.get i with
        | none => rw [q5] at k5; cases k5
        | some ob =>
          rw [q5] at k5
          cases ob <;> first | (cases k5; done) | skip
          rename_i c' fs'
          have k6 : (match Nat.beq c' c, Nat.blt fs'.length 1000 with
            | true, true => κ .nx σ (st2.put i (.ins c (fPut f (.int (a + b)) fs')))
            | _, _ => false) = true := k5
          cases q6 : Nat.beq c' c <;> cases q7 : Nat.blt fs'.length 1000 <;> rw [q6, q7] at k6 <;> first | (cases k6; done) | skip
          have ec := Nat.eq_of_beq_eq_true q6
          subst ec
          obtain ⟨d2, ev2, ea2, dx2, ws2, hh2, rf2⟩ := R2.get q5 (s2.ru r1)
          cases ev2
          have ro : RO γ ρ2 (upd H2 d (.ins (γ c') dx2 (putF f (.int (a + b)) ws2))) d (.ins c' (fPut f (.int (a + b)) fs')) := ⟨dx2, _, upd_same, rf2.put (u := .int (a + b)) (v := .int (a + b)) rfl⟩
          obtain ⟨R3, S3⟩ := R2.put ea2 (by rw [hh2]; intro _ _ z; cases z) ro
          have hl : ws2.length < 1000 := by
            have := Paired.length rf2
            rw [← this]; exact Nat.le_of_ble_eq_true q7
          have S := s1.trans (s2.trans S3)
          exact ⟨a, b, rfl, rfl, dx2, ws2, hh2, hl, ok.nx ρ2 _ _ σ τ S R3 (F.step S) k6⟩

/-! ### try: what runs through -/
theorem ss_try0 {body : List Stmt} {h₀ : ExceptHandler} {hs : List ExceptHandler} {pos : Pos} {m : MS} (hn : ∀ e s, ¬ X.xe e s) (hb : SSs γ W X body m) : SS γ W X (.Try body (h₀ :: hs) [] [] pos) m := by
  obtain ⟨t, p, s⟩ := hb
  exact ⟨_, ps_try_never (u := tNext) hn p pss_nil, fun ρ st H σ τ R F κ D hm ok => s ρ st H σ τ R F κ _ hm ok⟩
end
end MV

namespace MV
open PySem PySem.Spec PyProof.Rows L2

theorem ptake {α β : Type} {F : α → β → Prop} : ∀ (n : Nat) {xs : List α} {ys : List β}, Paired F xs ys → Paired F (xs.take n) (ys.take n)
  | 0, _, _, _ => .nil
  | _ + 1, _, _, .nil => .nil
  | n + 1, _, _, .cons a t => .cons a (ptake n t)
theorem pdrop {α β : Type} {F : α → β → Prop} : ∀ (n : Nat) {xs : List α} {ys : List β}, Paired F xs ys → Paired F (xs.drop n) (ys.drop n)
  | 0, _, _, h => h
  | _ + 1, _, _, .nil => .nil
  | n + 1, _, _, .cons a t => pdrop n t
/-! ### defs called with fewer values: defaults -/
section
variable {γ : Nat → Addr} {P : Program} {w : World} {K : PySem.W.Frag} {mg : Str → Option Value} {base : Heap}
def mfD (mf : MF) (dus : List U) : MF := fun us st => mf (us ++ dus) st
theorem fnM_of {k n n' : Nat} {f : Addr} {fd : FuncData} {ps : List Str} {mf : MF} {ds : List Value} {dvs : List V} {dus : List U} (F : FnOk P w K mg base CX0 k f fd ps (SpM γ n mf)) (hb : L2.Binds K fd ps ds) (hd : Vals dvs ds) (hu : RL γ [] dus dvs) (hn : n' + dus.length = n) :
    FnR P w K mg base CX0 k f (SpM γ n' (mfD mf dus)) := by
  intro A outer s H us vs Q E hr e0 r ⟨hl, ρ, st, wus, κ, R, rl, hm, ok⟩
  have r2 : Vals (vs ++ dvs) (us ++ ds) := r.append hd
  have hsp : SpM γ n mf (vs ++ dvs) H Q E := ⟨by rw [List.length_append, hl, ← hu.length]; exact hn, ρ, st, wus ++ dus, κ, R, papp rl (RL.any hu), hm, ok⟩
  have KX : K.In s.heap := e0.mod.kin.keeps fun b o e => (e0.bs b o e).1
  have hlen : (us ++ ds).length = ps.length := r2.length.symm.trans (F.len _ _ _ _ hsp)
  exact F.run A outer s H ⟨us, []⟩ (us ++ ds) (vs ++ dvs) Q E hr e0 (hb s us KX hlen) r2 hsp
/-- all values are given -/
theorem fnM_all {k n : Nat} {f : Addr} {fd : FuncData} {ps : List Str} {mf : MF} (F : FnOk P w K mg base CX0 k f fd ps (SpM γ n mf)) (hb : L2.Binds K fd ps []) : FnR P w K mg base CX0 k f (SpM γ n mf) := by
  intro A outer s H us vs Q E hr e0 r hsp
  have KX : K.In s.heap := e0.mod.kin.keeps fun b o e => (e0.bs b o e).1
  have hlen : (us ++ []).length = ps.length := by rw [List.append_nil]; exact r.length.symm.trans (F.len _ _ _ _ hsp)
  have hz := hb s us KX hlen
  rw [List.append_nil] at hz
  exact F.run A outer s H ⟨us, []⟩ us vs Q E hr e0 hz r hsp
/-- def f(a, .., *rest) called with n values -/
def mfStar (np : Nat) (mf : MF) : MF := fun us st κ => match Nat.ble us.length line with
  | true => mf (us.take np ++ [.ref st.n]) (st.new (.tup (us.drop np))) κ
  | false => false
theorem fn_starM {x qual : Str} {params : Arguments} {body : List Stmt} {scope : Scope} {kws : List (Str × V)} {f : Addr} {fd : FuncData} {N ps : List Str} {pv : Str} {k np nl n : Nat} {m : MS} (F : FunD K x qual params body scope [] kws f fd) (S : FnScope N (ps ++ [pv]) scope) (hnp : ps.length = np) (hN : N.length = (np + 1) + nl) (hn : np ≤ n)
    (hb : ∀ (kV doc pm : Value) (an : Option Addr) (cdv ct : Value) (us rest : List Value), us.length = ps.length → bindArgs (PySem.W.fnOf x qual params body scope .none kV doc pm an cdv ct) ⟨us ++ rest, []⟩ = (newTuple rest >>= fun t => pure (ps.zip us ++ [(pv, t)])))
    (h : ∀ (cdv : Value) (A : Around) (outer : List Env) (s : Shared) (H : Hp), Room k (A.deeper (envOfC qual scope s.heap.objs.size f cdv)) → SSs γ W0 (cxOf CX0 P w K mg base N qual scope f cdv A outer s H E0).nox body m) :
    FnR P w K mg base CX0 (k + 1) f (SpM γ n (mfStar np (mDef (np + 1) nl m))) := by
  obtain ⟨oc, od, dV, kV, doc, pm, an, cdv, ct, osl, rfl, lk, hcd, hD, _⟩ := F.ex
  rcases hD with ⟨_, rfl⟩ | ⟨e, _⟩
  case inr => exact absurd rfl e
  refine FnR.imp (StX.fn_star (sp := SpM γ (np + 1) (mDef (np + 1) nl m)) lk hcd S StX.cxUp_none (hb kV doc pm an cdv ct) fun A outer s H vs Q E hr ⟨hl, ρ, st, us, κ, R, r, hm, ok⟩ => ?_) fun vs H Q E ⟨hl, ρ, st, us, κ, R, r, hm, ok⟩ => ?_
  · obtain ⟨t, p, q⟩ := h cdv A outer s H hr
    have hm2 : (match Nat.beq us.length (np + 1) with
      | true => m (us.map some ++ List.replicate nl none) st fun o _ st' => match o with
        | .nx => noX κ (.ok .non) st'
        | .rt u => noX κ (.ok u) st'
        | .ex x => noX κ (.ex x) st'
        | .bk => false
        | .ct => false
      | false => false) = true := hm
    cases z : Nat.beq us.length (np + 1) with
    | false => rw [z] at hm2; cases hm2
    | true =>
      rw [z] at hm2
      have es : L2.start N vs = vs.map some ++ List.replicate nl none := by
        unfold L2.start
        rw [hN, hl, Nat.add_sub_cancel_left]
      refine ⟨t, PSs.nox p, ?_⟩
      rw [es]
      refine q ρ st H _ _ R (fr_start r nl) _ _ hm2 ⟨fun ρ1 st1 H1 σ1 τ1 s1 R1 F1 k1 => ok ρ1 st1 H1 .non .non s1 R1 rfl k1, fun _ _ _ _ _ _ _ _ k1 => ?_, fun _ _ _ _ _ _ _ _ k1 => ?_, fun ρ1 st1 H1 σ1 u v s1 R1 r1 k1 => ok ρ1 st1 H1 u v s1 R1 r1 k1, fun ρ1 st1 H1 σ1 τ1 x c d s1 R1 F1 r1 k1 => ?_⟩
      · cases k1
      · cases k1
      · cases k1
  · have hm2 : (match Nat.ble us.length line with
      | true => mDef (np + 1) nl m (us.take np ++ [.ref st.n]) (st.new (.tup (us.drop np))) (noX κ)
      | false => false) = true := hm
    cases q : Nat.ble us.length line with
    | false => rw [q] at hm2; cases hm2
    | true =>
      rw [q] at hm2
      have hz : vs.length ≤ sizeLine := by rw [← r.length]; exact line_ok q
      refine ⟨vs.take np, vs.drop np, (List.take_append_drop np vs).symm, by rw [List.length_take, hl, hnp]; exact Nat.min_eq_left hn, Nat.le_trans (by rw [List.length_drop]; exact Nat.sub_le _ _) hz, fun p hp => ?_⟩
      have rt : RL γ ρ (us.take np) (vs.take np) := ptake np r
      have rd : RL γ ρ (us.drop np) (vs.drop np) := pdrop np r
      have ro : RO γ (ρ ++ [p]) (upd H p (.tup (vs.drop np))) p (.tup (us.drop np)) := ⟨_, upd_same, rd.mono⟩
      obtain ⟨R2, S2⟩ := R.new hp (new_upd hp) ro
      have rp : RU γ (ρ ++ [p]) (.ref st.n) (.ref p) := ⟨p, by rw [← R.len, List.getElem?_append_right (Nat.le_refl _), Nat.sub_self]; rfl, rfl⟩
      exact ⟨by rw [List.length_append, List.length_take, hl, Nat.min_eq_left hn]; rfl, ρ ++ [p], st.new (.tup (us.drop np)), us.take np ++ [U.ref st.n], κ, R2, Paired.snoc rt.mono rp, hm2, ok.step S2⟩
end

/-! ### keywords -/
section
variable {γ : Nat → Addr} {W : WX} {X : Cx} {g : GT}
def SK (γ : Nat → Addr) (W : WX) (X : Cx) (kws : List Keyword) (m : MA) : Prop := ∃ t, PK X kws t ∧ ∀ ρ st H σ τ, Rep γ ρ st H → FrR γ ρ σ τ → SimAt γ W τ (RL γ) ρ H (t τ H) (m σ st)
theorem sk_nil : SK γ W X [] mNil := ⟨_, pk_nil, fun _ _ _ _ _ R _ => SimAt.ret R .nil⟩
theorem sk_cons {nm : Option Str} {e : Expr} {kpos : Pos} {kws : List Keyword} {m : ME} {ms : MA} (h : SE γ W X e m) (h' : SK γ W X kws ms) : SK γ W X (⟨nm, e, kpos⟩ :: kws) (mCons m ms) := by
  obtain ⟨t, p, s⟩ := h
  obtain ⟨t', p', s'⟩ := h'
  exact ⟨_, pk_cons p p', fun ρ st H σ τ R F κ Q hm ok ex => s ρ st H σ τ R F _ _ hm (fun ρ1 st1 H1 u v s1 R1 r1 k1 => s' ρ1 st1 H1 σ τ R1 (F.step s1) _ _ k1 (fun ρ2 st2 H2 us vs s2 R2 r2 k2 => ok ρ2 st2 H2 _ _ (s1.trans s2) R2 (.cons (s2.ru r1) r2) k2) (ex.step s1)) ex⟩
def mMakeK (c : Nat) (mf : MF) (nn n m : Nat) (gU : List U → List U → List U) (ms mk : MA) : ME := fun σ st => bnd (ms σ st) fun us st1 => bnd (mk σ st1) fun ws st2 => match Nat.beq us.length n, Nat.beq ws.length m with
  | true, true => bnd (callM mf nn (gU (U.ref st2.n :: us) ws) (st2.new (.ins c []))) fun u st3 κ => match u with
    | .non => κ (.ok (.ref st2.n)) st3
    | _ => false
  | _, _ => bad
/-- C(e, .., k = v, ..) -/
theorem se_makeK {k n nn c : Nat} {f : Addr} {fd : FuncData} {ps ks : List Str} {mf : MF} {x : Str} {p pos : Pos} {e : Expr} {es : List Expr} {kws : List Keyword} {ms mk : MA} {gr : List Value → List Value → List Value} {gV : List V → List V → List V} {gU : List U → List U → List U}
    (M : Mk X.K (γ c) f) (F : FnOk X.prog X.w X.K X.mg X.base CX0 k f fd ps (SpM γ nn mf)) (hr : Room (k + 1) X.A) (hm : X.mg x = some (.ref (γ c))) (hb : KBn X.K fd ps (n + 1) ks gr gV) (hgu : ∀ {ρ us vs ws zs}, RL γ ρ us vs → RL γ ρ ws zs → RL γ ρ (gU us ws) (gV vs zs)) (ha : SA γ W X (e :: es) ms) (hkw : SK γ W X kws mk) (hg : Gl X x := by rfl)
    (hall : (backToKw pos (keywordEach kws X.env)).all (·.1.isSome) = true := by rfl) (hks : (backToKw pos (keywordEach kws X.env)).filterMap (·.1) = ks := by rfl) (hdb : (x == ("__debug__" : Str)) = false := by decide)
    (he : starEach (e :: es) X.env = (false, eval e X.env) :: starEach es X.env := by rfl) (hpl : ((backTo pos (starEach (e :: es) X.env)).any (·.1) || (backToKw pos (keywordEach kws X.env)).any (·.1.isNone)) = false := by rfl) :
    SE γ W X (.Call (.Name x p) (e :: es) kws pos) (mMakeK c mf nn n ks.length gU ms mk) := by
  obtain ⟨t, pt, s⟩ := ha
  obtain ⟨tk, pk, sk⟩ := hkw
  refine ⟨_, pe_makeN M F hr hg hm hb L2.pass0 pt pk hall hks hdb he hpl, fun ρ st H σ τ R F κ Q hm ok ex => s ρ st H σ τ R F _ _ hm (fun ρ1 st1 H1 us vs s1 R1 r1 k1 => sk ρ1 st1 H1 σ τ R1 (F.step s1) _ _ k1 (fun ρ2 st2 H2 ws zs s2 R2 r2 k2 => ?_) (ex.step s1)) ex⟩
  have k3 : (match Nat.beq us.length n, Nat.beq ws.length ks.length with
    | true, true => bnd (callM mf nn (gU (U.ref st2.n :: us) ws) (st2.new (.ins c []))) fun (u : U) st3 κ => match u with
      | .non => κ (Rs.ok (U.ref st2.n)) st3
      | _ => false
    | _, _ => bad) κ = true := k2
  cases q1 : Nat.beq us.length n with
  | false => rw [q1] at k3; cases k3
  | true =>
    cases q2 : Nat.beq ws.length ks.length with
    | false => rw [q1, q2] at k3; cases k3
    | true =>
      rw [q1, q2] at k3
      refine ⟨by rw [← r1.length]; exact Nat.eq_of_beq_eq_true q1, by rw [← r2.length]; exact Nat.eq_of_beq_eq_true q2, fun x dx hx hdx ne => ?_⟩
      have ro : RO γ (ρ2 ++ [x]) (upd (upd H2 dx (.own x)) x (.ins (γ c) dx [])) x (.ins c []) := ⟨dx, [], upd_same, .nil⟩
      have hk : ∀ a u, H2 a = some u → (upd (upd H2 dx (.own x)) x (.ins (γ c) dx [])) a = some u := fun a u e => by
        rw [upd_ne (ne_of_none e hx), upd_ne (ne_of_none e hdx)]; exact e
      obtain ⟨R3, S3⟩ := R2.new hx hk ro
      have ex0 : (ρ2 ++ [x])[st2.n]? = some x := by rw [← R2.len, List.getElem?_append_right (Nat.le_refl _), Nat.sub_self]; rfl
      have rx : RU γ (ρ2 ++ [x]) (.ref st2.n) (.ref x) := ⟨x, ex0, rfl⟩
      have S := s1.trans (s2.trans S3)
      refine sim_call (W := W) (τ := τ) R3 (hgu (us := U.ref st2.n :: us) (vs := V.ref x :: vs) (.cons rx ((s2.rl r1).mono)) r2.mono) _ _ k3 (fun ρ4 st4 H4 u v s4 R4 r4 k4 => ?_) (ex.step S)
      cases u <;> first | (cases k4; done) | skip
      exact ⟨r4, ok ρ4 st4 H4 _ _ (S.trans s4) R4 (s4.ru rx) k4⟩

/-! ### a dict comprehension -/
def dLoop (g : GT) (it : Itm) (mg : MG) (mt : MT) (mk me : ME) (σw : Fr) (d : Nat) : Nat → Nat → VS → (Rs U → VS → Bool) → Bool
  | 0, _, _ => fun _ => false
  | n + 1, i, st => fun κ => match it.next g st i with
    | none => false
    | some none => finE it κ (.ref d) st
    | some (some y) => mg (y.u st) σw (y.st st) fun σ1 st1 => mt σ1 st1 (noX fun b st2 => match b with
      | false => dLoop g it mg mt mk me σw d n (i + 1) st2 κ
      | true => mk σ1 st2 (noX fun q st3 => me σ1 st3 (noX fun u st4 => match kOf q, st4.get d with
        | some k, some (.dct false kvs) => match Nat.blt kvs.length line with
          | true => dLoop g it mg mt mk me σw d n (i + 1) (st4.put d (.dct false (kPut k u kvs))) κ
          | false => false
        | _, _ => false)))
def mDc (g : GT) (n : Nat) (vs : List Nat) (mi : MI) (mg : MG) (mt : MT) (mk me : ME) : ME := fun σ st => bnd (mi σ st) fun it st1 κ => dLoop g it mg mt mk me (wipeU σ vs) st1.n n 0 (st1.new (.dct false [])) κ
theorem sim_dc {sl vs : List Nat} {N : Addr → Prop} {wi : TI} {mi : MI} {mg : MG} {mt : MT} {mk me : ME} (n : Nat) (si : SimI γ W g N wi mi) (hsl : ∀ j ∈ sl, j ∈ vs) (ρ st H σ τ) (R : Rep γ ρ st H) (F : FrR γ ρ σ τ) :
    SimAt γ W τ (RU γ) ρ H (fun Q => tDc wi (tMg γ sl mg) (tMt γ W0 mt) (tM γ W0 mk) (tM γ W0 me) vs τ H fun v => UN N (Q v)) (mDc g n vs mi mg mt mk me σ st) := fun κ Q hm ok ex => si ρ st H σ τ R F _ _ hm (fun ρ1 st1 H1 it J s1 R1 iok lok k1 D hD => by
  have ro : RO γ (ρ1 ++ [D]) (upd H1 D (.dK [])) D (.dct false []) := ⟨[], upd_same, .nil⟩
  obtain ⟨R2, S2⟩ := R1.new hD (new_upd hD) ro
  have eD : (ρ1 ++ [D])[st1.n]? = some D := by rw [← R1.len, List.getElem?_append_right (Nat.le_refl _), Nat.sub_self]; rfl
  refine ⟨fun i k H' => ∃ ρ' st', Step (ρ1 ++ [D]) (upd H1 D (.dK [])) ρ' H' ∧ Rep γ ρ' st' H' ∧ dLoop g it mg mt mk me (wipeU σ vs) st1.n k i st' κ = true, ⟨n, ρ1 ++ [D], _, Step.refl _ _, R2, k1⟩, fun i k H' ⟨ρ', st', S', R', hk⟩ => ?_⟩
  have S1 : Step ρ1 H1 ρ' H' := S2.trans S'
  have S0 : Step ρ H ρ' H' := s1.trans S1
  cases k with
  | zero => cases hk
  | succ k =>
    obtain ⟨stop, go⟩ := iok ρ' st' H' S1 R' i
    have hk2 : (match it.next g st' i with
      | none => false
      | some none => finE it κ (.ref st1.n) st'
      | some (some y) => mg (y.u st') (wipeU σ vs) (y.st st') fun σ1 st3 => mt σ1 st3 (noX fun b st2 => match b with
        | false => dLoop g it mg mt mk me (wipeU σ vs) st1.n k (i + 1) st2 κ
        | true => mk σ1 st2 (noX fun q st3 => me σ1 st3 (noX fun u st4 => match kOf q, st4.get st1.n with
          | some kk, some (.dct false kvs) => match Nat.blt kvs.length line with
            | true => dLoop g it mg mt mk me (wipeU σ vs) st1.n k (i + 1) (st4.put st1.n (.dct false (kPut kk u kvs))) κ
            | false => false
          | _, _ => false)))) = true := hk
    have eD' : ρ'[st1.n]? = some D := by
      obtain ⟨l, e⟩ := S'.ext
      rw [e, List.getElem?_append_left (List.getElem?_eq_some_iff.mp eD).1]; exact eD
    cases q : it.next g st' i with
    | none => rw [q] at hk2; cases hk2
    | some oy =>
      rw [q] at hk2
      cases oy with
      | none =>
        refine .inl ⟨stop q, ?_⟩
        have e : finE it κ (.ref st1.n) st' = true := hk2
        unfold finE at e
        cases q2 : unl it st' with
        | none => rw [q2] at e; cases e
        | some st3 =>
          rw [q2] at e
          have rD : RU γ ρ' (.ref st1.n) (.ref D) := ⟨D, eD', rfl⟩
          exact unl_ok S0 R' (lok.step S1) q2 fun H3 S3 R3 => ok ρ' st3 H3 _ _ S3 R3 rD e
      | some y =>
        obtain ⟨hgo, hy⟩ := go y q
        refine .inr ⟨hgo, fun H2 => ∃ ρ2 st2, Step (ρ1 ++ [D]) (upd H1 D (.dK [])) ρ2 H2 ∧ Rep γ ρ2 st2 H2 ∧ dLoop g it mg mt mk me (wipeU σ vs) st1.n k (i + 1) st2 κ = true, fun H2 z => ⟨k, Nat.lt_succ_self k, z⟩, fun x H'' hyl => ?_⟩
        obtain ⟨ρ2, S2', R2', r2⟩ := hy x H'' hyl
        refine ⟨ρ2, _, _, _, _, R2', (F.wiped vs).step (S0.trans S2'), r2, hk2, fun ρ3 st3 H3 σ3 τ3 S3 R3 F3 sm k3 => ⟨wipe_same sm hsl, ρ3, st3, σ3, _, R3, F3, k3, fun ρ4 st4 H4 b b' S4 R4 eb k4 => ?_, noX_ex⟩⟩
        have eb : b = b' := eb
        subst eb
        have SA := S'.trans (S2'.trans (S3.trans S4))
        cases b with
        | false => exact iteF ⟨ρ4, st4, SA, R4, k4⟩
        | true =>
          refine iteT ?_
          refine ⟨ρ4, st4, σ3, _, R4, F3.step S4, k4, fun ρ5 st5 H5 qk kv S5 R5 r5 k5 => ⟨ρ5, st5, σ3, _, R5, F3.step (S4.trans S5), k5, fun ρ6 st6 H6 u v S6 R6 r6 k6 => ?_, noX_ex⟩, noX_ex⟩
          have k7 : (match kOf qk, st6.get st1.n with
            | some kk, some (.dct false kvs) => (match Nat.blt kvs.length line with
              | true => dLoop g it mg mt mk me (wipeU σ vs) st1.n k (i + 1) (st6.put st1.n (.dct false (kPut kk u kvs))) κ
              | false => false)
            | _, _ => false) = true := k6
          have SB := SA.trans (S5.trans S6)
          have eD6 : ρ6[st1.n]? = some D := by
            obtain ⟨l, e⟩ := SB.ext
            rw [e, List.getElem?_append_left (List.getElem?_eq_some_iff.mp eD).1]; exact eD
          cases q4 : kOf qk with
          | none => rw [q4] at k7; cases k7
          | some kk =>
            cases q5 : st6.get st1.n with
            | none => rw [q4, q5] at k7; cases k7
            | some o =>
              rw [q4, q5] at k7
              cases o with
              | dct lk kvs =>
                cases lk with
                | true => cases k7
                | false =>
                  have k8 : (match Nat.blt kvs.length line with
                    | true => dLoop g it mg mt mk me (wipeU σ vs) st1.n k (i + 1) (st6.put st1.n (.dct false (kPut kk u kvs))) κ
                    | false => false) = true := k7
                  cases q6 : Nat.blt kvs.length line with
                  | false => rw [q6] at k8; cases k8
                  | true =>
                    rw [q6] at k8
                    obtain ⟨a, ea, ws, hh, rk⟩ := R6.obj _ _ q5
                    rw [eD6] at ea; cases ea
                    have hh : H6 D = some (.dK ws) := hh
                    have ro : RO γ ρ6 (upd H6 D (.dK (putK ws kk v))) D (.dct false (kPut kk u kvs)) := ⟨_, upd_same, rk.put r6⟩
                    obtain ⟨R7, S7⟩ := R6.put (o := .dct false (kPut kk u kvs)) eD6 (by rw [hh]; intro _ _ z; cases z) ro
                    refine ⟨ws, kk, kOf_ok q4 (S6.ru r5), hh, ?_, ρ6, _, SB.trans S7, R7, k8⟩
                    rw [← show kvs.length = ws.length from Paired.length rk]; exact line_lt q6
              | lst _ => cases k7
              | fl _ => cases k7
              | tup _ => cases k7
              | ins _ _ => cases k7) ex
theorem se_dc {kx vx tg iter : Expr} {ifs : List Expr} {scope : Scope} {own : List (Str × Nat)} {pos : Pos} {sl : List Nat} {mi : MI} {mg : MG} {mt : MT} {mk me : ME} (n : Nat) (hc : X.calm = true) (hN : X.N.Nodup) (hi : SI γ W g X tg iter mi) (ok : BlkOk X.N X.env.scope scope own)
    (hg : ∀ (s : Shared) (H : Hp) (C : Addr) (cl : List (Str × Addr)) (fp : List Addr), SG γ (X.blk s H scope (compEnvC scope cl C X.env) fp) sl tg mg) (ht : ∀ (s : Shared) (H : Hp) (C : Addr) (cl : List (Str × Addr)) (fp : List Addr), PTs (X.blk s H scope (compEnvC scope cl C X.env) fp) ifs (tMt γ W0 mt))
    (hk : ∀ (s : Shared) (H : Hp) (C : Addr) (cl : List (Str × Addr)) (fp : List Addr), SE γ W0 (X.blk s H scope (compEnvC scope cl C X.env) fp) kx mk) (he : ∀ (s : Shared) (H : Hp) (C : Addr) (cl : List (Str × Addr)) (fp : List Addr), SE γ W0 (X.blk s H scope (compEnvC scope cl C X.env) fp) vx me)
    (hsl : ∀ j ∈ sl, j ∈ own.map (·.2) := by decide) (hs : ∀ x, foldedSetIterable iter X.env x = pure x := by intro _; rfl) :
    SE γ W X (.DictComp kx vx [⟨tg, iter, ifs, 0⟩] scope pos) (mDc g n (own.map (·.2)) mi mg mt mk me) := by
  obtain ⟨ti, pi, si⟩ := hi
  exact ⟨_, pe_unl (pe_dc hc hN pi ok (fun s H C cl fp => (hg s H C cl fp).pg) ht (fun s H C cl fp => (hk s H C cl fp).pe) (fun s H C cl fp => (he s H C cl fp).pe) hs), fun ρ st H σ τ R F => sim_dc n si hsl ρ st H σ τ R F⟩
end
end MV

namespace MV
open PySem PySem.Spec PyProof.Rows L2 He

/-! ### the head's facts, and one test of one's own; the wished list vl is written out, so that the kernel need not compare two maps -/
abbrev AlM : Type := Bool × List FnW
/-- what an object holds, without its type's line and its dict: few enough that no doubles need be dropped -/
def heldV : Value → List Addr
  | .ref a => [a]
  | _ => []
def heldO (o : Obj) : List Addr := match o.data with
  | .dict es _ => es.toList.flatMap fun e => heldV e.val
  | .cls cd => [cd.ns]
  | .func fd => heldV fd.code ++ (heldV fd.defaults ++ heldV fd.kwdefaults)
  | .seq its _ => its.toList.flatMap heldV
  | .fields vs => vs.toList.flatMap heldV
  | _ => []
def layM (g : Addr → Option Obj) (as : List Addr) : List Addr := as.flatMap fun a => match g a with
  | some o => heldO o
  | none => []
def asM (g : Addr → Option Obj) : Nat → List Addr → List Addr
  | 0, as => as
  | n + 1, as => as ++ asM g n (layM g as)
def obsM (n : Nat) (fa : List Fa) (fn : List He5.DefA) (ex : PySem.W.Frag → Bool) (g : Addr → Option Obj) : AlM := (((fa.all fun f => f.ok (frG g (asM g n [mainGlobals]))) && fn.all fun d => d.ok (frG g (asM g n [mainGlobals]))) && ex (frG g (asM g n [mainGlobals])), fn.map fun d => He5.fnA (frG g (asM g n [mainGlobals])) (d.at_ (frG g (asM g n [mainGlobals]))))
def hookM (n : Nat) (fa : List Fa) (fn : List He5.DefA) (ex : PySem.W.Frag → Bool) (vl : List FnW) (hv : vl = fn.map He5.DefA.val) : PySem.W.Hook where
  α := AlM
  obs := fun s => obsM n fa fn ex s.heap.get?
  val := fun _ => (true, vl)
  says := fun _ h => ∃ K : PySem.W.Frag, K.In h ∧ He5.SaysA fa fn K ∧ ex K = true
  of := fun _ s e => by
    have e1 := congrArg (fun z : AlM => z.1) e
    have e2 := congrArg (fun z : AlM => z.2) e
    obtain ⟨e3, e4⟩ := ba e1
    exact ⟨_, frG_in (as := asM s.heap.get? n [mainGlobals]), Prod.ext e3 (e2.trans hv), e4⟩
  keeps := fun _ _ _ ⟨K, hK, c, c2⟩ k => ⟨K, PySem.W.Frag.In.keeps hK k, c, c2⟩
theorem obsM_eq {n : Nat} {fa : List Fa} {fn : List He5.DefA} {ex : PySem.W.Frag → Bool} {vl : List FnW} {hv : vl = fn.map He5.DefA.val} {g : Addr → Option Obj} {s : Shared} (h : ∀ a, g a = s.heap.get? a) : obsM n fa fn ex g = (hookM n fa fn ex vl hv).obs s := by
  have e : g = s.heap.get? := funext h
  rw [e] <;> rfl
/-- a property's getter -/
def gP (K : PySem.W.Frag) (x f : Str) : Addr := match PySem.W.recIn K (ma K (ga K x) f) "property" with
  | some (.ref a :: _) => a
  | _ => 0
def propB (K : PySem.W.Frag) (x f : Str) : Bool := eqO (PySem.W.findIn K (.ref (ga K x)) f) (some (some (.ref (ma K (ga K x) f)))) && (eqO (PySem.W.specialIn K (.ref (ma K (ga K x) f)) "__get__") (some (some (.builtin "property.__get__"))) && (decide (PySem.W.takesIn K (.ref (ma K (ga K x) f)) = some true) && (match PySem.W.recIn K (ma K (ga K x) f) "property" with
  | some (.ref a :: _) => decide (a = gP K x f)
  | _ => false)))
theorem propB_ok {K : PySem.W.Frag} {x f : Str} (h : propB K x f = true) : PropOf K (ga K x) f (ma K (ga K x) f) (gP K x f) := by
  obtain ⟨h1, h2⟩ := ba h
  obtain ⟨h3, h4⟩ := ba h2
  obtain ⟨h5, h6⟩ := ba h4
  refine ⟨eqO_ok h1, eqO_ok h3, of_decide_eq_true h5, ?_⟩
  cases q : PySem.W.recIn K (ma K (ga K x) f) "property" with
  | none => rw [q] at h6; cases h6
  | some l =>
    rw [q] at h6
    cases l with
    | nil => cases h6
    | cons v r =>
      cases v <;> first | (cases h6; done) | skip
      rename_i a
      exact ⟨r, by rw [of_decide_eq_true h6]⟩
/-- a tuple that stands at an address -/
def tupA (K : PySem.W.Frag) (a : Addr) (vs : List Dv) : Bool := match K.lookup a with
  | some ⟨.type c, _, .seq its _, _⟩ => decide (c = "tuple") && (decide (its.size ≤ sizeLine) && relAll (vs.map (Dv.v K)) its.toList)
  | _ => false
theorem tupA_ok {K : PySem.W.Frag} {a : Addr} {vs : List Dv} (h : tupA K a vs = true) (H : Hp) : SqT K H a (vs.map (Dv.v K)) := by
  unfold tupA at h
  cases q : K.lookup a with
  | none =>
    rw [q] at h
    cases h
  | some o =>
    obtain ⟨oc, od, dt, osl⟩ := o
    rw [q] at h
    cases oc with
    | type c =>
      cases dt with
      | seq its n =>
        obtain ⟨h1, h2⟩ := ba (show (decide (c = "tuple") && (decide (its.size ≤ sizeLine) && relAll (vs.map (Dv.v K)) its.toList)) = true from h)
        obtain ⟨h3, h4⟩ := ba h2
        exact .inr ⟨_, its, n, q, congrArg Value.type (of_decide_eq_true h1), rfl, of_decide_eq_true h3, relAll_ok h4⟩
      | _ => cases h
    | _ => cases dt <;> cases h
/-! ### small helps for the printed texts -/
def strIn (f : Str) : List Str → Bool
  | [] => false
  | x :: r => match sEq f x with
    | true => true
    | false => strIn f r
theorem strIn_ok {f : Str} : ∀ {l : List Str}, strIn f l = true → f ∈ l
  | [], h => nomatch h
  | x :: r, h => by
    have h2 : (match sEq f x with | true => true | false => strIn f r) = true := h
    cases q : sEq f x with
    | true => rw [sEq_iff.mp q]; exact List.mem_cons_self
    | false => rw [q] at h2; exact List.mem_cons_of_mem _ (strIn_ok h2)
theorem hu64 {k : Nat} {A : Around} (r : Room k A) : A.units + 64 < cLine := by have := r.un; omega
theorem hu1 {k : Nat} {A : Around} (r : Room k A) : A.units + 1 < cLine := by have := r.un; omega
theorem mem_nil {α : Type} {P : α → Prop} : ∀ f ∈ ([] : List α), P f := fun _ h => nomatch h
theorem mem_cons {α : Type} {P : α → Prop} {a : α} {l : List α} (h : P a) (h' : ∀ f ∈ l, P f) : ∀ f ∈ a :: l, P f := fun f hf => by
  rcases List.mem_cons.mp hf with e | e
  · rw [e]; exact h
  · exact h' f e
def mDeadE : ME := fun _ _ => bad
def mDeadS : MS := fun _ _ _ => false
theorem e_dead {γ : Nat → Addr} {W : WX} {X : Cx} {e : Expr} : SE γ W X e mDeadE := se_dead
theorem s_dead {γ : Nat → Addr} {W : WX} {X : Cx} {s : Stmt} : SS γ W X s mDeadS := ss_dead
theorem ss_dead2 {γ : Nat → Addr} {W : WX} {X : Cx} {s : List Stmt} : SSs γ W X s mDeadS := sss_dead
theorem t_dead {γ : Nat → Addr} {W : WX} {X : Cx} {e : Expr} : ST γ W X e (fun _ _ => bad) := ⟨fun _ _ _ => False, ⟨fun _ _ _ _ _ _ h => h.elim⟩, fun _ _ _ _ _ _ _ => SimAt.bad⟩
def mDeadT : MT := fun _ _ => bad
def fIx (g : GT) : U → U → VS → Go U := fOr2 (fIxS g) fIxD
theorem o_ix {γ : Nat → Addr} {W : WX} {X : Cx} {g : GT} (G : GOk X.K γ g) (hu : X.A.units + 1 < cLine) : Ix2 X γ W (fIx g) := (o_ixS G).or (o_ixD hu)
def fLen (g : GT) : List U → VS → Go U := fOrL (f1 (fLenS g)) (f1 fLenD)
theorem cb_len {γ : Nat → Addr} {W : WX} {X : Cx} {g : GT} (G : GOk X.K γ g) : Cb X γ W (.builtin "len") (fLen g) := (cb_lenS G).or cb_lenD
theorem se_negc {γ : Nat → Addr} {W : WX} {X : Cx} {i : Int} {j : Nat} {p pos : Pos} : SE γ W X (.UnaryOp .USub (.Constant (.int i) j p) pos) (mC (.int (-i))) := ⟨_, pe_un un_neg pe_int, fun ρ st H σ τ R F κ Q hm ok ex => ⟨i, rfl, ok.here (u := .int (-i)) R rfl hm⟩⟩
/-- the empty virtual heap -/
def vs0 : VS := ⟨.nil, [], 0⟩
theorem rep0 {γ : Nat → Addr} {H : Hp} : Rep γ [] vs0 H := ⟨rfl, List.nodup_nil, fun _ h => (nomatch h), fun i o e => by
  have : vs0.get i = none := getF_nil (i + 1) i
  rw [this] at e; cases e⟩
end MV

namespace MV
open PySem PySem.Spec PyProof.Rows L2
section
variable {γ : Nat → Addr} {W : WX} {X : Cx} {g : GT}

/-! ### properties -/
def mProp (c : Nat) (mf : MF) (m : ME) : ME := fun σ st => bnd (m σ st) fun u st1 => match u with
  | .ref i => match st1.get i with
    | some (.ins c' _) => match Nat.beq c' c with
      | true => callM mf 1 [.ref i] st1
      | false => bad
    | _ => bad
  | _ => bad
theorem se_prop {k c : Nat} {f : Str} {p gg : Addr} {fd : FuncData} {ps : List Str} {mf : MF} {e : Expr} {pos : Pos} {m : ME} (hc : Cls X.K (γ c)) (hp : PropOf X.K (γ c) f p gg) (F : FnOk X.prog X.w X.K X.mg X.base CX0 k gg fd ps (SpM γ 1 mf)) (hr : Room (k + 1) X.A) (hb : L2.Binds X.K fd ps []) (h : SE γ W X e m)
    (hab : attributeBase e f X.env (eval e X.env) = eval e X.env := by rfl) : SE γ W X (.Attribute e f pos) (mProp c mf m) := by
  obtain ⟨t, pt, s⟩ := h
  refine ⟨_, pe_prop pt hc hp F hr hb .nil L2.pass0 hab, fun ρ st H σ τ R F κ Q hm ok ex => s ρ st H σ τ R F _ _ hm (fun ρ1 st1 H1 u v s1 R1 r1 k1 => ?_) ex⟩
  cases u <;> first | (cases k1; done) | skip
  rename_i i
  have k2 : (match st1.get i with
    | some (.ins c' _) => (match Nat.beq c' c with
      | true => callM mf 1 [.ref i] st1
      | false => bad)
    | _ => bad) κ = true := k1
  cases q : st1.get i with
  | none => rw [q] at k2; cases k2
  | some ob =>
    rw [q] at k2
    cases ob <;> first | (cases k2; done) | skip
    rename_i c' fs
    obtain ⟨a, ev, ea, dx, ws, hh, rf⟩ := R1.get q r1
    subst ev
    have k3 : (match Nat.beq c' c with
      | true => callM mf 1 [.ref i] st1
      | false => bad) κ = true := k2
    cases qc : Nat.beq c' c with
    | false => rw [qc] at k3; cases k3
    | true =>
      have ec := Nat.eq_of_beq_eq_true qc
      subst ec
      rw [qc] at k3
      exact ⟨a, dx, ws, rfl, hh, sim_call (W := W) (τ := τ) R1 (.cons r1 .nil) _ _ k3 (ok.step s1) (ex.step s1)⟩

theorem se_prop2 {k c : Nat} {f : Str} {p gg : Addr} {ps : List Str} {mf : MF} {e : Expr} {pos : Pos} {m : ME} (hc : Cls X.K (γ c)) (hp : PropOf X.K (γ c) f p gg) (F : ∃ fd, FnOk X.prog X.w X.K X.mg X.base CX0 k gg fd ps (SpM γ 1 mf) ∧ L2.Binds X.K fd ps []) (hr : Room (k + 1) X.A) (h : SE γ W X e m)
    (hab : attributeBase e f X.env (eval e X.env) = eval e X.env := by rfl) : SE γ W X (.Attribute e f pos) (mProp c mf m) := by
  obtain ⟨fd, F, b⟩ := F
  exact se_prop hc hp F hr b h hab

/-! ### slices -/
abbrev MO := Fr → VS → Go (Option Int)
def SO (γ : Nat → Addr) (W : WX) (X : Cx) (e : Option Expr) (m : MO) : Prop := ∃ t, PO X e t ∧ ∀ ρ st H σ τ, Rep γ ρ st H → FrR γ ρ σ τ → SimAt γ W τ (fun _ a b => a = b) ρ H (t τ H) (m σ st)
def moNone : MO := fun _ st => ret none st
theorem so_none : SO γ W X none moNone := ⟨_, po_none, fun ρ st H σ τ R F κ Q hm ok ex => ok.here (u := none) (v := none) R rfl hm⟩
def moSome (m : ME) : MO := fun σ st => bnd (m σ st) fun u st1 κ => match u with
  | .int i => κ (.ok (some i)) st1
  | _ => false
theorem so_some {e : Expr} {m : ME} (h : SE γ W X e m) : SO γ W X (some e) (moSome m) := by
  obtain ⟨t, pt, s⟩ := h
  refine ⟨_, po_some pt, fun ρ st H σ τ R F κ Q hm ok ex => s ρ st H σ τ R F _ _ hm (fun ρ1 st1 H1 u v s1 R1 r1 k1 => ?_) ex⟩
  cases u <;> first | (cases k1; done) | skip
  rename_i i
  exact ⟨i, r1, ok ρ1 st1 H1 (some i) (some i) s1 R1 rfl k1⟩
def cutU (xs : List U) (lo hi : Option Int) : List U := (xs.drop (HT.sIx xs.length 0 lo)).take (HT.sIx xs.length xs.length hi - HT.sIx xs.length 0 lo)
theorem cutU_ok {ρ : List Addr} {xs : List U} {ys : List V} (h : RL γ ρ xs ys) (lo hi : Option Int) : RL γ ρ (cutU xs lo hi) (cutV ys lo hi) := by
  unfold cutU cutV
  rw [h.length]
  exact ptake _ (pdrop _ h)
def mSlice (g : GT) (m : ME) (lo hi : MO) : ME := fun σ st => bnd (m σ st) fun u st1 => bnd (lo σ st1) fun l st2 => bnd (hi σ st2) fun h st3 κ => match seqOf g st3 u with
  | some (false, xs) => κ (.ok (.ref st3.n)) (st3.new (.lst (cutU xs l h)))
  | some (true, xs) => match Nat.beq (HT.sIx xs.length 0 l) 0, Nat.beq (HT.sIx xs.length xs.length h) xs.length with
    | true, true => κ (.ok u) st3
    | _, _ => κ (.ok (.ref st3.n)) (st3.new (.tup (cutU xs l h)))
  | none => false
theorem se_slice {e : Expr} {lo hi : Option Expr} {p2 pos : Pos} {m : ME} {ml mh : MO} (G : GOk X.K γ g) (he : SE γ W X e m) (hl : SO γ W X lo ml) (hh : SO γ W X hi mh) : SE γ W X (.Subscript e (.Slice lo hi none p2) pos) (mSlice g m ml mh) := by
  obtain ⟨t, pt, s⟩ := he
  obtain ⟨tl, pl, sl⟩ := hl
  obtain ⟨th, ph, sh⟩ := hh
  refine ⟨_, pe_slice (SlR.or sl_list sl_tupA) pt pl ph, fun ρ st H σ τ R F κ Q hm ok ex => s ρ st H σ τ R F _ _ hm (fun ρ1 st1 H1 u v s1 R1 r1 k1 => sl ρ1 st1 H1 σ τ R1 (F.step s1) _ _ k1 (fun ρ2 st2 H2 l l' s2 R2 r2 k2 => sh ρ2 st2 H2 σ τ R2 (F.step (s1.trans s2)) _ _ k2 (fun ρ3 st3 H3 h h' s3 R3 r3 k3 => ?_) (ex.step (s1.trans s2))) (ex.step s1)) ex⟩
  have r2 : l = l' := r2
  have r3 : h = h' := r3
  subst r2 r3
  have S := s1.trans (s2.trans s3)
  have ru := s3.ru (s2.ru r1)
  have k4 : (match seqOf g st3 u with
    | some (false, xs) => κ (.ok (.ref st3.n)) (st3.new (.lst (cutU xs l h)))
    | some (true, xs) => (match Nat.beq (HT.sIx xs.length 0 l) 0, Nat.beq (HT.sIx xs.length xs.length h) xs.length with
      | true, true => κ (.ok u) st3
      | _, _ => κ (.ok (.ref st3.n)) (st3.new (.tup (cutU xs l h))))
    | none => false) = true := k3
  cases q : seqOf g st3 u with
  | none => rw [q] at k4; cases k4
  | some bx =>
    obtain ⟨b, xs⟩ := bx
    rw [q] at k4
    obtain ⟨a, ys, ev, rl, hs⟩ := seq_ok G R3 ru q
    cases b with
    | false => exact .inl ⟨a, ys, ev, hs, (ok.step S).alloc R3 k4 fun p => ⟨_, upd_same, (cutU_ok rl l h).mono⟩⟩
    | true =>
      have k5 : (match Nat.beq (HT.sIx xs.length 0 l) 0, Nat.beq (HT.sIx xs.length xs.length h) xs.length with
        | true, true => κ (.ok u) st3
        | _, _ => κ (.ok (.ref st3.n)) (st3.new (.tup (cutU xs l h)))) = true := k4
      have hlen := rl.length
      subst ev
      refine .inr ⟨a, ys, rfl, hs, fun z => ?_, fun z => ?_⟩
      · rw [← hlen] at z
        have q1 : Nat.beq (HT.sIx xs.length 0 l) 0 = true := by rw [z.1]; rfl
        have q2 : Nat.beq (HT.sIx xs.length xs.length h) xs.length = true := by rw [z.2]; exact Nat.beq_refl _
        rw [q1, q2] at k5
        exact (ok.step S).here R3 ru k5
      · rw [← hlen] at z
        cases q1 : Nat.beq (HT.sIx xs.length 0 l) 0 with
        | false =>
          rw [q1] at k5
          exact (ok.step S).alloc R3 k5 fun p => ⟨_, upd_same, (cutU_ok rl l h).mono⟩
        | true =>
          cases q2 : Nat.beq (HT.sIx xs.length xs.length h) xs.length with
          | false =>
            rw [q1, q2] at k5
            exact (ok.step S).alloc R3 k5 fun p => ⟨_, upd_same, (cutU_ok rl l h).mono⟩
          | true => exact absurd ⟨Nat.eq_of_beq_eq_true q1, Nat.eq_of_beq_eq_true q2⟩ z

/-! ### tuple(a list, a tuple) -/
def fTupS (g : GT) : U → VS → Go U := fun u st κ => match seqOf g st u with
  | some (false, xs) => κ (.ok (.ref st.n)) (st.new (.tup xs))
  | some (true, _) => κ (.ok u) st
  | none => false
theorem cb_tup (G : GOk X.K γ g) : Cb X γ W (.type "tuple") (f1 (fTupS g)) := ⟨fun vs H Q => ∃ x, vs = [x] ∧ ∃ p ys, x = .ref p ∧ ((SqL X.K H p ys ∧ ∀ l, H l = none → Q (.ref l) (upd H l (.tup ys))) ∨ (SqT X.K H p ys ∧ Q (.ref p) H)), fun pins s σ H xs us Q I r ⟨x, e1, p, ys, e2, q⟩ => call_tuple_of pins s σ H xs us Q I r ⟨p, ys, by rw [e1, e2], q⟩, leaf1 fun ρ st H τ u v R ru κ Q hm ok ex => by
  have hm2 : (match seqOf g st u with
    | some (false, xs) => κ (.ok (.ref st.n)) (st.new (.tup xs))
    | some (true, _) => κ (.ok u) st
    | none => false) = true := hm
  cases q : seqOf g st u with
  | none => rw [q] at hm2; cases hm2
  | some bx =>
    obtain ⟨b, xs⟩ := bx
    rw [q] at hm2
    obtain ⟨a, ys, ev, rl, hs⟩ := seq_ok G R ru q
    subst ev
    cases b with
    | false => exact ⟨a, ys, rfl, .inl ⟨hs, ok.alloc R hm2 fun p => ⟨ys, upd_same, rl.mono⟩⟩⟩
    | true => exact ⟨a, ys, rfl, .inr ⟨hs, ok.here R ru hm2⟩⟩⟩
end
end MV

namespace MV
open PySem PySem.Spec PyProof.Rows L2
section
variable {γ : Nat → Addr} {W : WX} {X : Cx} {g : GT}

/-! ### int(an int, a bool) -/
def fInt : U → VS → Go U := fun u st κ => match u with
  | .int i => κ (.ok (.int i)) st
  | .bl b => κ (.ok (.int (bI b))) st
  | _ => false
theorem cb_int : Cb X γ W (.type "int") (f1 fInt) := ⟨fun vs H Q => ∃ x, vs = [x] ∧ ((∃ i, x = .int i ∧ Q (.int i) H) ∨ ∃ k, x = .bl k ∧ Q (.int (bI k)) H), fun pins s σ H xs us Q I r ⟨x, e1, h⟩ => call_int1 pins s σ H xs us Q I r (by
    rcases h with ⟨i, e2, q⟩ | ⟨k, e2, q⟩
    · exact .inl ⟨i, by rw [e1, e2], q⟩
    · refine .inr ⟨k, by rw [e1, e2], ?_⟩
      cases k <;> exact q), leaf1 fun ρ st H τ u v R ru κ Q hm ok ex => by
  cases u <;> first | (cases hm; done) | skip
  · rename_i b
    exact .inr ⟨b, ru, ok.here (u := .int (bI b)) R rfl hm⟩
  · rename_i i
    exact .inl ⟨i, ru, ok.here (u := .int i) R rfl hm⟩⟩

/-! ### min of a list of ints -/
def minI : List Int → Option Int
  | [] => none
  | i :: r => match minI r with
    | none => some i
    | some m => match decide (i ≤ m) with
      | true => some i
      | false => some m
theorem minI_ok : ∀ {l : List Int} {m : Int}, minI l = some m → m ∈ l ∧ ∀ y ∈ l, m ≤ y
  | [], _, h => nomatch h
  | i :: r, m, h => by
    have h2 : (match minI r with | none => some i | some m => (match decide (i ≤ m) with | true => some i | false => some m)) = some m := h
    cases q : minI r with
    | none =>
      rw [q] at h2; cases h2
      cases r with
      | nil => exact ⟨List.mem_cons_self, fun y hy => by rw [List.mem_singleton.mp hy]; exact Int.le_refl _⟩
      | cons a t =>
        exfalso
        have q2 : (match minI t with | none => some a | some m => (match decide (a ≤ m) with | true => some a | false => some m)) = none := q
        cases q3 : minI t with
        | none => rw [q3] at q2; cases q2
        | some z => rw [q3] at q2; cases q4 : decide (a ≤ z) <;> simp [q4] at q2
    | some z =>
      obtain ⟨a, b⟩ := minI_ok q
      rw [q] at h2
      have h3 : (match decide (i ≤ z) with | true => some i | false => some z) = some m := h2
      cases q2 : decide (i ≤ z) with
      | true =>
        rw [q2] at h3; cases h3
        have hz := of_decide_eq_true q2
        exact ⟨List.mem_cons_self, fun y hy => by
          rcases List.mem_cons.mp hy with e | e
          · rw [e]; exact Int.le_refl _
          · exact Int.le_trans hz (b y e)⟩
      | false =>
        rw [q2] at h3; cases h3
        have hz : ¬ i ≤ m := of_decide_eq_false q2
        exact ⟨List.mem_cons_of_mem _ a, fun y hy => by
          rcases List.mem_cons.mp hy with e | e
          · rw [e]; omega
          · exact b y e⟩
def fMin (g : GT) : U → VS → Go U := fun u st κ => match seqOf g st u with
  | some (false, xs) => match intsOf xs with
    | some l => match minI l with
      | some m => κ (.ok (.int m)) st
      | none => false
    | none => false
  | _ => false
theorem cb_min (G : GOk X.K γ g) (hc : X.calm = true) : Cb X γ W (.builtin "min") (f1 (fMin g)) := ⟨fun vs H Q => ∃ x, vs = [x] ∧ ∃ (a : Addr) (ns : List Int), x = V.ref a ∧ SqL X.K H a (ns.map V.int) ∧ 0 < ns.length ∧ ∀ m, m ∈ ns → (∀ y, y ∈ ns → m ≤ y) → Q (.int m) H, fun pins s σ H xs us Q I r ⟨x, e1, a, ns, e2, h⟩ => cr_min hc pins s σ H xs us Q I r ⟨a, ns, by rw [e1, e2], h⟩, leaf1 fun ρ st H τ u v R ru κ Q hm ok ex => by
  have hm2 : (match seqOf g st u with
    | some (false, xs) => (match intsOf xs with
      | some l => (match minI l with
        | some m => κ (.ok (.int m)) st
        | none => false)
      | none => false)
    | _ => false) = true := hm
  cases q : seqOf g st u with
  | none => rw [q] at hm2; cases hm2
  | some bx =>
    obtain ⟨b, xs⟩ := bx
    rw [q] at hm2
    cases b with
    | true => cases hm2
    | false =>
      have hm3 : (match intsOf xs with
        | some l => (match minI l with
          | some m => κ (.ok (.int m)) st
          | none => false)
        | none => false) = true := hm2
      obtain ⟨a, ys, ev, rl, hs⟩ := seq_ok G R ru q
      cases q2 : intsOf xs with
      | none => rw [q2] at hm3; cases hm3
      | some l =>
        rw [q2] at hm3
        have hm4 : (match minI l with
          | some m => κ (.ok (.int m)) st
          | none => false) = true := hm3
        cases q3 : minI l with
        | none => rw [q3] at hm4; cases hm4
        | some m =>
          rw [q3] at hm4
          have ey := intsOf_ok q2 rl
          subst ey
          obtain ⟨z1, z2⟩ := minI_ok q3
          refine ⟨a, l, ev, hs, List.length_pos_of_mem z1, fun m' h1 h2 => ?_⟩
          have : m' = m := Int.le_antisymm (h2 m z1) (z2 m' h1)
          rw [this]
          exact ok.here (u := .int m) R rfl hm4⟩

/-! ### xs.extend(ys) -/
def fExtend : U → List U → VS → Go U := fun u us st κ => match u, us with
  | .ref i, [.ref j] => match st.get i, st.get j with
    | some (.lst xs), some (.lst ys) => match Nat.ble (xs.length + ys.length) line with
      | true => κ (.ok .non) (st.put i (.lst (xs ++ ys)))
      | false => false
    | _, _ => false
  | _, _ => false

/-! ### d.get(k), d.get(k, x) -/
def mGet1 (mo mk : ME) : ME := fun σ st => bnd (mo σ st) fun u st1 => match u with
  | .ref i => match st1.get i with
    | some (.dct _ _) => bnd (mk σ st1) fun q st2 κ => match st2.get i, kOf q with
      | some (.dct _ kvs), some k => match kGet k kvs with
        | some w => κ (.ok w) st2
        | none => κ (.ok .non) st2
      | _, _ => false
    | _ => bad
  | _ => bad
theorem se_get1 {o e : Expr} {apos cpos : Pos} {mo mk : ME} (hu : X.A.units + 1 < cLine) (ho : SE γ W X o mo) (he : SE γ W X e mk) (h1 : attributeBase o "get" X.env (eval o X.env) = eval o X.env := by rfl)
    (h2 : ((backTo cpos (starEach [e] X.env)).all (fun x => !x.1) && (backToKw cpos (keywordEach [] X.env)).all (fun x => x.1.isSome) && decide (([e] : List Expr).length + ([] : List Keyword).length + (if ([] : List Keyword).isEmpty then 0 else 1) < 30)) = true := by rfl)
    (h3 : (apos.endLine == cpos.line) = true := by rfl) (h4 : backTo cpos (starEach [e] X.env) = [(false, eval e X.env)] := by rfl) : SE γ W X (.Call (.Attribute o "get" apos) [e] [] cpos) (mGet1 mo mk) := by
  obtain ⟨to, po, so⟩ := ho
  obtain ⟨te, pe, se⟩ := he
  refine ⟨_, pe_dget1 hu po pe ⟨h1, h2, h3, h4⟩, fun ρ st H σ τ R F κ Q hm ok ex => so ρ st H σ τ R F _ _ hm (fun ρ1 st1 H1 u v s1 R1 r1 k1 => ?_) ex⟩
  cases u <;> first | (cases k1; done) | skip
  rename_i i
  have k2 : (match st1.get i with
    | some (.dct _ _) => bnd (mk σ st1) fun q st2 κ => match st2.get i, kOf q with
      | some (.dct _ kvs), some k => (match kGet k kvs with
        | some w => κ (.ok w) st2
        | none => κ (.ok .non) st2)
      | _, _ => false
    | _ => bad) κ = true := k1
  cases q : st1.get i with
  | none => rw [q] at k2; cases k2
  | some ob =>
    rw [q] at k2
    cases ob <;> first | (cases k2; done) | skip
    rename_i lk kvs
    obtain ⟨a, ev, ea, ro⟩ := R1.get q r1
    subst ev
    obtain ⟨ws, rd, rk⟩ := dct_rd ro
    refine ⟨a, rfl, .inl ⟨ws, rd⟩, se ρ1 st1 H1 σ τ R1 (F.step s1) _ _ k2 (fun ρ2 st2 H2 qk vq s2 R2 r2 k3 => ?_) (ex.step s1)⟩
    have k4 : (match st2.get i, kOf qk with
      | some (.dct _ kvs), some k => (match kGet k kvs with
        | some w => κ (.ok w) st2
        | none => κ (.ok .non) st2)
      | _, _ => false) = true := k3
    cases q5 : st2.get i with
    | none => rw [q5] at k4; cases k4
    | some ob =>
      cases q6 : kOf qk with
      | none => rw [q5, q6] at k4; cases ob <;> cases k4
      | some k =>
        rw [q5, q6] at k4
        cases ob <;> first | (cases k4; done) | skip
        rename_i lk2 kvs2
        have k5 : (match kGet k kvs2 with
          | some w => κ (.ok w) st2
          | none => κ (.ok .non) st2) = true := k4
        obtain ⟨a2, ev2, _, ro2⟩ := R2.get q5 (s2.ru r1)
        cases ev2
        obtain ⟨ws2, rd2, rk2⟩ := dct_rd ro2
        have S := s1.trans s2
        rcases rk2.get (k := k) with ⟨e1, e2⟩ | ⟨w, x, e1, e2, rw'⟩
        · rw [e1] at k5
          exact ⟨none, .inl ⟨ws2, k, rd2, kOf_ok q6 r2, e2.symm⟩, ok ρ2 st2 H2 .non .non S R2 rfl k5⟩
        · rw [e1] at k5
          exact ⟨some x, .inl ⟨ws2, k, rd2, kOf_ok q6 r2, e2.symm⟩, ok ρ2 st2 H2 w x S R2 rw' k5⟩
end
end MV

namespace MV
open PySem PySem.Spec PyProof.Rows L2
section
variable {γ : Nat → Addr} {W : WX} {X : Cx} {g : GT}
theorem mt2_extend : Mt2 X γ W "list.extend" fExtend := ⟨_, mt_extend, fun ρ st H τ u us v vs R ru rl κ Q hm ok ex => by
  cases u <;> first | (cases hm; done) | skip
  rename_i i
  cases rl with
  | nil => cases hm
  | cons a t =>
    cases t with
    | cons _ _ => rename_i w _ _ _ _ _ _ _; first | (cases w <;> cases hm; done) | (rename_i w2; cases w2 <;> cases hm)
    | nil =>
      rename_i w x
      cases w <;> first | (cases hm; done) | skip
      rename_i j
      have hm2 : (match st.get i, st.get j with
        | some (.lst xs), some (.lst ys) => (match Nat.ble (xs.length + ys.length) line with
          | true => κ (.ok .non) (st.put i (.lst (xs ++ ys)))
          | false => false)
        | _, _ => false) = true := hm
      cases q1 : st.get i with
      | none => rw [q1] at hm2; cases hm2
      | some o1 =>
        cases q2 : st.get j with
        | none => rw [q1, q2] at hm2; cases o1 <;> cases hm2
        | some o2 =>
          rw [q1, q2] at hm2
          cases o1 <;> cases o2 <;> first | (cases hm2; done) | skip
          rename_i xs ys
          have hm3 : (match Nat.ble (xs.length + ys.length) line with
            | true => κ (.ok .non) (st.put i (.lst (xs ++ ys)))
            | false => false) = true := hm2
          cases q : Nat.ble (xs.length + ys.length) line with
          | false => rw [q] at hm3; cases hm3
          | true =>
            rw [q] at hm3
            obtain ⟨d, ev, ea, vs1, hh, ra⟩ := R.get q1 ru
            obtain ⟨b, eb, _, ws, hb, rb⟩ := R.get q2 a
            subst ev eb
            exact ⟨d, b, vs1, ws, rfl, rfl, hh, hb, by rw [← ra.length, ← rb.length]; exact line_ok q, ok.putL (u := .non) (v := .non) R ea hh (papp ra rb) rfl hm3⟩⟩
end
end MV

namespace MV
open PySem PySem.Spec PyProof.Rows L2
section
variable {γ : Nat → Addr} {W : WX} {X : Cx} {g : GT}
/-! ### a star in a display: a list's, a tuple's items -/
def mStar (g : GT) (m : ME) (ms : MA) : MA := fun σ st => bnd (m σ st) fun u st1 => match seqOf g st1 u with
  | some (_, xs) => bnd (ms σ st1) fun us st2 => ret (xs ++ us) st2
  | none => bad
theorem sa_star {e : Expr} {es : List Expr} {p : Pos} {m : ME} {ms : MA} (G : GOk X.K γ g) (h : SE γ W X e m) (h' : SA γ W X es ms) (hs : starEach (.Starred e p :: es) X.env = (true, eval e X.env) :: starEach es X.env := by rfl) : SA γ W X (.Starred e p :: es) (mStar g m ms) := by
  obtain ⟨t, pt, s⟩ := h
  obtain ⟨t', p', s'⟩ := h'
  refine ⟨_, StX.pa_star pt p' hs, fun ρ st H σ τ R F κ Q hm ok ex => s ρ st H σ τ R F _ _ hm (fun ρ1 st1 H1 u v s1 R1 r1 k1 => ?_) ex⟩
  have k2 : (match seqOf g st1 u with
    | some (_, xs) => bnd (ms σ st1) fun us st2 => ret (xs ++ us) st2
    | none => bad) κ = true := k1
  cases q : seqOf g st1 u with
  | none => rw [q] at k2; cases k2
  | some bx =>
    obtain ⟨b, xs⟩ := bx
    rw [q] at k2
    obtain ⟨a, ys, ev, rl, hs⟩ := seq_ok G R1 r1 q
    refine ⟨a, ys, ev, ?_, s' ρ1 st1 H1 σ τ R1 (F.step s1) _ _ k2 (fun ρ2 st2 H2 us vs s2 R2 r2 k3 => ok ρ2 st2 H2 _ _ (s1.trans s2) R2 (papp (s2.rl rl) r2) k3) (ex.step s1)⟩
    cases b with
    | true => exact .inl hs
    | false => exact .inr hs
end
end MV

/-! len({e for x in xs}): a set of ints and texts, made and counted. -/
namespace MV
open PySem PySem.Spec PyProof.Rows L2

section
variable {X : Cx}
theorem setK_fresh {P : Program} {w : World} {h : Heap} : (h.push { cls := .type "set", dict := none, data := .set #[] 0 (.fresh 0 0 (!w.params.followText "set-order")) }).SetOf (mixKind P w) h.objs.size (fun _ => false) 0 :=
  ⟨_, #[], 0, _, Heap.get?_push_size _ rfl, ⟨rfl, rfl, rfl⟩, rfl, (fun e he => by simp at he), (fun k => by simp), (by decide), (by rfl), rfl⟩
/-- a turn's end: one more key, or none -/
def AddK (X : Cx) (D : Addr) (Nx : Hp → Prop) : VK := fun y H => ∃ (k : Key) (S : Key → Bool) (n : Nat), y = kV k ∧ H D = some (SetK X.prog X.w D S n) ∧ n + 1 < scanBound ∧ Nx (upd H D (SetK X.prog X.w D (fun j => S j || decide (j = k)) (if S k = true then n else n + 1)))
def tSk (X : Cx) (wi : TI) (g : TG) (tt : TT) (te : TE) (vs : List Nat) : TE := fun σ H Q => wi σ H fun J H1 => ∀ D, H1 D = none → ∃ Wn : Nat → Nat → Hp → Prop, (∃ m, Wn 0 m (upd H1 D (SetK X.prog X.w D (fun _ => false) 0))) ∧ ∀ i m H, Wn i m H →
  (J.stop i H ∧ Q (.ref D) H) ∨ (J.go i H ∧ ∃ Nx : Hp → Prop, (∀ H', Nx H' → ∃ m', m' < m ∧ Wn (i + 1) m' H') ∧
    ∀ x H', J.yld i H x H' → g x (wipe σ vs) H' fun σ2 H2 => wipe σ2 vs = wipe σ vs ∧ tt σ2 H2 fun b H3 => if b = true then te σ2 H3 (AddK X D Nx) else Nx H3)
variable {pins : List (Addr × Obj)} {s : Shared} {σ : L2.St} {H : Hp} {Q : VK} {elt tg iter : Expr} {ifs : List Expr} {scope : Scope} {own : List (Str × Nat)} {pos pos' : Pos} {wi : TI} {g : TG} {tt : TT} {te : TE}
theorem pe_sk (hc : X.calm = true) (hN : X.N.Nodup) (hi : PI X tg iter wi) (ok : BlkOk X.N X.env.scope scope own)
    (hg : ∀ (s : Shared) (H : Hp) (C : Addr) (cl : List (Str × Addr)) (fp : List Addr), PG (X.blk s H scope (compEnvC scope cl C X.env) fp) tg g)
    (ht : ∀ (s : Shared) (H : Hp) (C : Addr) (cl : List (Str × Addr)) (fp : List Addr), PTs (X.blk s H scope (compEnvC scope cl C X.env) fp) ifs tt)
    (he : ∀ (s : Shared) (H : Hp) (C : Addr) (cl : List (Str × Addr)) (fp : List Addr), PE (X.blk s H scope (compEnvC scope cl C X.env) fp) elt te) (hs : ∀ x, foldedSetIterable iter X.env x = pure x := by intro _; rfl) :
    PE X (.SetComp elt [⟨tg, iter, ifs, 0⟩] scope pos) (tSk X wi g tt te (own.map (·.2))) := by
  refine ⟨fun pins s σ H Q I h => ?_⟩
  rw [PpSet.eval_SetComp]
  have capt : ∀ y ∈ scope.names, y.2 = .free → ∃ c, X.env.cells.lookup y.1 = some c := fun y hy e => (ok.free y hy e).elim (fun k => I.ok.has _ (.inl k)) fun k => I.ok.has _ (.inr k)
  refine wpAny_comprehension_free (use := none) rfl hs (closure_ok capt) ok.kind (fun y hy e => by rw [ok.uniq y hy, e]) (thn (hi.run pins s σ H _ I h) fun xv s1 hx => thn hx fun itv s2 h2 => ?_)
  obtain ⟨it, fp, tn, J, H2, rfl, I2, T, st2, f2, q⟩ := h2
  refine PpSet.newSet_ok (newEnv_comp ?_)
  -- where the set stands
  obtain ⟨D, hD⟩ : ∃ D, s2.heap.objs.size = D := ⟨_, rfl⟩
  rw [hD]
  obtain ⟨Wn, ⟨m0, w0⟩, turn⟩ := q D (I2.hok.fresh (Nat.le_of_eq hD))
  obtain ⟨s3, hs3⟩ : ∃ s3, ({ s2 with heap := s2.heap.push { cls := .type "set", dict := none, data := .set #[] 0 (.fresh 0 0 (!X.w.params.followText "set-order")) } } : Shared) = s3 := ⟨_, rfl⟩
  have h3 : s3.heap = s2.heap.push { cls := .type "set", dict := none, data := .set #[] 0 (.fresh 0 0 (!X.w.params.followText "set-order")) } := by rw [← hs3]
  obtain ⟨H3, hH3⟩ : ∃ H3, upd H2 D (SetK X.prog X.w D (fun _ => false) 0) = H3 := ⟨_, rfl⟩
  have I3 : Inv X pins σ H3 s3 := by
    rw [← hH3, ← hs3]
    exact I2.laid (t' := s2.toks) (fun b o e => Heap.get?_push_of_some _ e) (Nat.le_of_eq hD) (setK_new (by rw [← hD]; exact setK_fresh))
  rw [hH3] at w0
  have f3 : ∀ b ∈ fp, FpOk X pins H3 b ∧ b < s3.heap.objs.size := fun b hb => by
    obtain ⟨o, e, _⟩ := T.obj _ _ st2 b hb
    have lt := Heap.lt_size e
    rw [← hH3, h3, Heap.size_push]
    exact ⟨⟨(upd_ne (by rw [← hD]; exact Nat.ne_of_lt lt)).trans (f2 b hb).1, (f2 b hb).2⟩, Nat.lt_succ_of_lt lt⟩
  have st3 : tn 0 s3.heap := T.keep _ _ _ st2 fun b _ o e => by rw [h3]; exact Heap.get?_push_of_some _ e
  have I4 := block_start I3 ok hN f3
  rw [hs3]
  -- the block's own context
  obtain ⟨ce, hce⟩ : ∃ ce, compEnvC scope (cellsFrom (s3.heap.objs.size + 1) scope.names (cloFrom X.env.cells scope.names [])) s3.heap.objs.size X.env = ce := ⟨_, rfl⟩
  have pg := hg s3 H3 s3.heap.objs.size (cellsFrom (s3.heap.objs.size + 1) scope.names (cloFrom X.env.cells scope.names [])) fp
  have pt := ht s3 H3 s3.heap.objs.size (cellsFrom (s3.heap.objs.size + 1) scope.names (cloFrom X.env.cells scope.names [])) fp
  have pe := he s3 H3 s3.heap.objs.size (cellsFrom (s3.heap.objs.size + 1) scope.names (cloFrom X.env.cells scope.names [])) fp
  rw [hce] at I4 pg pt pe
  have cL : ce.locals = s3.heap.objs.size := by rw [← hce]; rfl
  obtain ⟨s4, hs4⟩ : ∃ s4, ({ s3 with heap := pushCells (s3.heap.push { cls := .type "dict", data := .dict #[] }) scope.names } : Shared) = s4 := ⟨_, rfl⟩
  rw [hs4] at I4
  show codeAny _ _ (.compStart (.SetComp elt [⟨tg, iter, ifs, 0⟩] scope pos) 0 (.ref it) (.ref D) (compEnvC scope (cellsFrom (s3.heap.objs.size + 1) scope.names (cloFrom X.env.cells scope.names [])) s3.heap.objs.size X.env)) (compPost (model X.prog X.w) X.A X.xe none (EP X pins σ Q) (.ref D) s3.heap.objs.size) ({ s3 with heap := pushCells (s3.heap.push { cls := .type "dict", data := .dict #[] }) scope.names } : Shared)
  rw [hce, hs4]
  have st4 : tn 0 s4.heap := T.keep _ _ _ st3 fun b _ o e => by rw [← hs4]; exact pushCells_keeps _ _ _ _ (Heap.get?_push_of_some _ e)
  have stat : ∀ {σ' : L2.St} {H' : Hp} {s' : Shared}, Inv (X.blk s3 H3 scope ce fp) [] σ' H' s' → (∀ b ∈ fp, H' b = none) → ∀ b ∈ fp, FpOk (X.blk s3 H3 scope ce fp) [] H' b := fun {σ' H' s'} I' hn b hb =>
    ⟨hn b hb, (I'.ok.exf b hb).1, I'.ok.exfs b hb, .inl hb, fun x c e => (I'.ok.exf b hb).2 x c e, fun p hp => absurd (show p ∈ ([] : List (Addr × Obj)) ++ [] from hp) (by simp)⟩
  have loop : codeAny (model X.prog X.w) X.A (.compLoop (.SetComp elt [⟨tg, iter, ifs, 0⟩] scope pos) 0 (.ref it) (.ref D) ce) (compPost (model X.prog X.w) X.A X.xe none (EP X pins σ Q) (.ref D) s3.heap.objs.size) s4 := by
    refine PpSet.compLoopS_any (fun n s' => ∃ i H', Inv (X.blk s3 H3 scope ce fp) [] (wipe σ (own.map (·.2))) H' s' ∧ tn i s'.heap ∧ (∀ b ∈ fp, H' b = none) ∧ Wn i n H') ?_ m0 ⟨0, H3, I4, st4, fun b hb => (f3 b hb).1.1, w0⟩
    rintro n s5 ⟨i, H5, I5, st5, n5, w5⟩
    rcases turn i n H5 w5 with ⟨stop, qq⟩ | ⟨go, Nx, hNx, step⟩
    · refine thnF (T.done (X.blk s3 H3 scope ce fp) rfl rfl rfl hc i [] s5 _ H5 (fun _ _ => False) I5 (stat I5 n5) st5 stop) fun r s6 ⟨hr, I6⟩ => ?_
      subst hr
      have I7 : Inv X pins σ H5 s6 := I3.call' (ch := fp) I6.os I6.base I6.hok I6.bare fun b hb => ⟨(f3 b hb).1.2.2.2.1, (f3 b hb).1.2.1, (f3 b hb).1.2.2.2.2.1, (f3 b hb).1.2.2.2.2.2⟩
      have nC : H5 s3.heap.objs.size = none := cL ▸ (show H5 ce.locals = none from I6.free)
      obtain ⟨m, hn, _⟩ := I6.loc
      have hn : s6.heap.Ns s3.heap.objs.size m := cL ▸ (show s6.heap.Ns ce.locals m from hn)
      obtain ⟨f0, f1, f2, f3', f4, f5⟩ := I3.fpOk (Nat.le_refl _) nC
      exact ⟨m, hn, fun h'' sb => ⟨.ref D, H5, I7.turned (t' := s6.toks) (fun b o hb e => (sb.2 b hb).trans e) f0 f1 f3' f4 f5, rfl, qq⟩⟩
    · refine thnF (T.item (X.blk s3 H3 scope ce fp) rfl rfl rfl hc i [] s5 _ H5 (fun _ _ => False) I5 (stat I5 n5) st5 go) fun r s6 ⟨u, hr, h6⟩ => ?_
      subst hr
      refine thnF h6 fun _ s7 ⟨x, H7, I7, r7, y7, st7, n7⟩ => ?_
      refine thnF (pg.run _ s7 _ H7 x u _ (I7.pinned (stat I7 n7) (T.obj _ _ st7)) r7 (step x H7 y7)) fun _ s8 ⟨σ8, H8, I8, hw8, q8⟩ => ?_
      refine thnF (pt.run _ s8 σ8 H8 _ I8 q8) fun b s9 ⟨H9, I9, q9⟩ => ?_
      have over : ∀ {s' : Shared} {H' : Hp}, Inv (X.blk s3 H3 scope ce fp) ([] ++ pinsAt fp s7.heap) σ8 H' s' → Nx H' → ∃ m, m < n ∧ ∃ i H', Inv (X.blk s3 H3 scope ce fp) [] (wipe σ (own.map (·.2))) H' s' ∧ tn i s'.heap ∧ (∀ b ∈ fp, H' b = none) ∧ Wn i m H' := fun {s' H'} I' nx => by
        obtain ⟨m', hm, w'⟩ := hNx H' nx
        have pin' : ∀ b ∈ fp, ∀ o, s7.heap.get? b = some o → s'.heap.get? b = some o ∧ H' b = none := fun b hb o e =>
          let z := I'.pin (b, o) (List.mem_append_right _ (List.mem_append_right _ (mem_pinsAt hb e)))
          ⟨z.1, z.2.1⟩
        refine ⟨m', hm, i + 1, H', (I'.unpinned (pins := [])).weak (by rw [← hw8, wipe_length]) (fun j v e => (wipe_some (by rw [hw8]; exact e)).1), T.keep _ _ _ st7 fun b hb o e => (pin' b hb o e).1, fun b hb => ?_, w'⟩
        obtain ⟨o, e, _⟩ := T.obj _ _ st7 b hb
        exact (pin' b hb o e).2
      cases b with
      | false =>
        simp only [Bool.false_eq_true, if_false] at q9 ⊢
        exact over I9 q9
      | true =>
        simp only [if_true] at q9 ⊢
        refine thnF (pe.run _ s9 σ8 H9 _ I9 q9) fun z s10 ⟨yv, H10, I10, r10, k, S0, n0, ey, hD10, hz10, nx⟩ => ?_
        subst ey
        have hS : s10.heap.SetOf (mixKind X.prog X.w) D S0 n0 := setK_get (X := X.blk s3 H3 scope ce fp) I10 hD10
        refine call_set_add (kV_is r10) (key_scan r10) hS hz10 fun h' sb new => ?_
        have hx : ∃ u, h'.get? D = some u := by
          have ⟨o, _, _, _, ho, _⟩ := new
          exact ⟨o, ho⟩
        exact over (I10.write (e := D) (t' := s10.toks + 1) (by rw [hD10]; trivial) (.inl rfl) (fun b u hb hu => (sb.2 b hb).trans hu) hx (setK_new new)) nx
  exact PpSet.codeAny_compStart_set loop (T.self X.A 0 _ _ _ st4 loop)
/-- len(a set of keys) -/
def rLenK (X : Cx) : List V → Hp → VK → Prop := fun vs H Q => ∃ (a : Addr) (S : Key → Bool) (n : Nat), vs = [V.ref a] ∧ H a = some (SetK X.prog X.w a S n) ∧ Q (.int n) H
theorem cr_lenK : CallR X (.builtin "len") (rLenK X) := by
  intro pins s σ H xs us Q I r h
  obtain ⟨a, S, n, rfl, ha, q⟩ := h
  cases r with
  | cons ry rt =>
    cases rt
    cases ry
    obtain ⟨o, es, ep, t, ho, hex, hd, _, _, hb, hf, hn⟩ := setK_get I ha
    exact call_len_set ho hex hd hf (by have : es.size < 4096 := hb; omega) ⟨.int n, H, I.tok _, ⟨_, by rw [hn]⟩, q⟩
end

/-! ### the run -/
section
variable {γ : Nat → Addr} {W : WX} {X : Cx} {g : GT}
def kMem (k : Key) : List Key → Bool
  | [] => false
  | j :: l => match kEq j k with
    | true => true
    | false => kMem k l
theorem kMem_iff {k : Key} : ∀ {l : List Key}, kMem k l = true ↔ k ∈ l
  | [] => by simp [kMem]
  | j :: l => by
    unfold kMem
    cases q : kEq j k with
    | true => simp [kEq_iff.mp q]
    | false =>
      have ne : k ≠ j := fun z => by rw [kEq_iff.mpr z.symm] at q; cases q
      simp [kMem_iff, ne]
def kAdd (k : Key) (l : List Key) : List Key := match kMem k l with
  | true => l
  | false => k :: l
def finN (it : Itm) (κ : Rs U → VS → Bool) (n : Nat) (st : VS) : Bool := match unl it st with
  | some st' => κ (.ok (.int n)) st'
  | none => false
def sLoop (g : GT) (it : Itm) (mg : MG) (mt : MT) (me : ME) (σw : Fr) : Nat → Nat → List Key → VS → (Rs U → VS → Bool) → Bool
  | 0, _, _, _ => fun _ => false
  | n + 1, i, acc, st => fun κ => match it.next g st i with
    | none => false
    | some none => finN it κ acc.length st
    | some (some y) => mg (y.u st) σw (y.st st) fun σ1 st1 => mt σ1 st1 (noX fun b st2 => match b with
      | false => sLoop g it mg mt me σw n (i + 1) acc st2 κ
      | true => me σ1 st2 (noX fun u st3 => match kOf u with
        | some k => match Nat.blt acc.length 4000 with
          | true => sLoop g it mg mt me σw n (i + 1) (kAdd k acc) st3 κ
          | false => false
        | none => false))
def mLenSc (g : GT) (n : Nat) (vs : List Nat) (mi : MI) (mg : MG) (mt : MT) (me : ME) : ME := fun σ st => bnd (mi σ st) fun it st1 κ => sLoop g it mg mt me (wipeU σ vs) n 0 [] st1 κ
def tLenSk (X : Cx) (t : TE) : TE := tCB (rLenK X) (tCons (fun σ H Q => t σ H fun v => UN (NF X) (Q v)) tNil)
theorem kMem_add (k j : Key) (l : List Key) : (kMem j l || decide (j = k)) = kMem j (kAdd k l) := by
  unfold kAdd
  cases q : kMem k l with
  | true =>
    by_cases z : j = k
    · subst z; simp [q]
    · simp [z]
  | false =>
    by_cases z : j = k
    · subst z
      have : kEq j j = true := kEq_iff.mpr rfl
      simp [kMem, this]
    · have : kEq k j = false := by
        cases y : kEq k j with
        | false => rfl
        | true => exact absurd (kEq_iff.mp y).symm z
      simp [kMem, this, z]
theorem kAdd_len (k : Key) (l : List Key) : (if kMem k l = true then l.length else l.length + 1) = (kAdd k l).length := by
  unfold kAdd
  cases q : kMem k l with
  | true => rw [if_pos rfl]
  | false => rw [if_neg Bool.false_ne_true]; rfl
theorem sim_sk {sl vs : List Nat} {wi : TI} {mi : MI} {mg : MG} {mt : MT} {me : ME} (n : Nat) (si : SimI γ W g (NF X) wi mi) (hsl : ∀ j ∈ sl, j ∈ vs) (ρ st H σ τ) (R : Rep γ ρ st H) (F : FrR γ ρ σ τ) :
    SimAt γ W τ (RU γ) ρ H (fun Q => tLenSk X (tSk X wi (tMg γ sl mg) (tMt γ W0 mt) (tM γ W0 me) vs) τ H Q) (mLenSc g n vs mi mg mt me σ st) := fun κ Q hm ok ex => si ρ st H σ τ R F _ _ hm (fun ρ1 st1 H1 it J s1 R1 iok lok k1 D hD => by
  -- the set's place is none of ours
  have nD : D ∉ ρ1 := fun z => by obtain ⟨o, e⟩ := R1.all D z; rw [hD] at e; cases e
  have put : ∀ {ρ' : List Addr} {st' : VS} {H' : Hp} (u : HO), Step ρ1 H1 ρ' H' → D ∉ ρ' → Rep γ ρ' st' H' → Step ρ1 H1 ρ' (upd H' D u) ∧ Rep γ ρ' st' (upd H' D u) := fun {ρ' st' H'} u S n' R' => by
    have aD : ∀ a, a ∈ ρ' → a ≠ D := fun a ha z => n' (z ▸ ha)
    refine ⟨⟨S.ext, S.new, fun a o n e => ?_, fun a o x e => ?_⟩, ⟨R'.len, R'.nd, fun a ha => ?_, fun j o e => ?_⟩⟩
    · rw [upd_ne (ne_of_none e hD)]; exact S.fr a o n e
    · rw [upd_ne (ne_of_none e hD)]; exact S.frz a o x e
    · obtain ⟨o, e⟩ := R'.all a ha; exact ⟨o, by rw [upd_ne (aD a ha)]; exact e⟩
    · obtain ⟨a, ea, r⟩ := R'.obj j o e
      exact ⟨a, ea, r.here (upd_ne (aD a (List.mem_of_getElem? ea)))⟩
  let O (acc : List Key) : HO := SetK X.prog X.w D (fun k => kMem k acc) acc.length
  have e0 : SetK X.prog X.w D (fun _ => false) 0 = O [] := rfl
  rw [e0]
  obtain ⟨S2, R2⟩ := put (O []) (Step.refl ρ1 H1) nD R1
  refine ⟨fun i k H' => ∃ ρ' st' acc, Step ρ1 H1 ρ' H' ∧ D ∉ ρ' ∧ H' D = some (O acc) ∧ Rep γ ρ' st' H' ∧ sLoop g it mg mt me (wipeU σ vs) k i acc st' κ = true, ⟨n, ρ1, st1, [], S2, nD, upd_same, R2, k1⟩, fun i k H' ⟨ρ', st', acc, S1, nD', hD', R', hk⟩ => ?_⟩
  have S0 : Step ρ H ρ' H' := s1.trans S1
  cases k with
  | zero => cases hk
  | succ k =>
    obtain ⟨stop, go⟩ := iok ρ' st' H' S1 R' i
    have hk2 : (match it.next g st' i with
      | none => false
      | some none => finN it κ acc.length st'
      | some (some y) => mg (y.u st') (wipeU σ vs) (y.st st') fun σ1 st3 => mt σ1 st3 (noX fun b st2 => match b with
        | false => sLoop g it mg mt me (wipeU σ vs) k (i + 1) acc st2 κ
        | true => me σ1 st2 (noX fun u st3 => match kOf u with
          | some kk => match Nat.blt acc.length 4000 with
            | true => sLoop g it mg mt me (wipeU σ vs) k (i + 1) (kAdd kk acc) st3 κ
            | false => false
          | none => false))) = true := hk
    cases q : it.next g st' i with
    | none => rw [q] at hk2; cases hk2
    | some oy =>
      rw [q] at hk2
      cases oy with
      | none =>
        refine .inl ⟨stop q, ?_⟩
        have e : finN it κ acc.length st' = true := hk2
        unfold finN at e
        cases q2 : unl it st' with
        | none => rw [q2] at e; cases e
        | some st3 =>
          rw [q2] at e
          have lk1 := lok.step S1
          unfold unl at q2
          cases q3 : it.lk with
          | none =>
            rw [q3] at q2; cases q2
            exact .inl ⟨D, _, acc.length, rfl, hD', ok ρ' st' H' (.int (acc.length : Nat)) _ S0 R' rfl e⟩
          | some j =>
            rw [q3] at q2
            have q2 : (match st'.get j with | some (.dct true kvs) => some (st'.put j (.dct false kvs)) | _ => none) = some st3 := q2
            obtain ⟨a, ea, hn, nf⟩ := lk1 j q3
            cases q4 : st'.get j with
            | none => rw [q4] at q2; cases q2
            | some o =>
              rw [q4] at q2
              cases o with
              | dct lk kvs =>
                cases lk with
                | true =>
                  cases q2
                  obtain ⟨b, eb, ws, ⟨od, hh⟩, rk⟩ := R'.obj j _ q4
                  rw [ea] at eb; cases eb
                  have ro : RO γ ρ' (upd H' a (.dK ws)) a (.dct false kvs) := ⟨ws, upd_same, rk⟩
                  have ma := List.mem_of_getElem? ea
                  have nDa : D ≠ a := fun z => nD' (by rw [z]; exact ma)
                  exact .inr ⟨a, od, .dK ws, hn, hh, D, _, acc.length, rfl, (upd_ne nDa).trans hD', ok ρ' _ _ (.int (acc.length : Nat)) _ (S0.unlock ma nf) (R'.unlock ea ro) rfl e⟩
                | false => cases q2
              | lst _ => cases q2
              | fl _ => cases q2
              | tup _ => cases q2
              | ins _ _ => cases q2
      | some y =>
        obtain ⟨hgo, hy⟩ := go y q
        refine .inr ⟨hgo, fun H2 => ∃ ρ2 st2 acc2, Step ρ1 H1 ρ2 H2 ∧ D ∉ ρ2 ∧ H2 D = some (O acc2) ∧ Rep γ ρ2 st2 H2 ∧ sLoop g it mg mt me (wipeU σ vs) k (i + 1) acc2 st2 κ = true, fun H2 z => ⟨k, Nat.lt_succ_self k, z⟩, fun x H'' hyl => ?_⟩
        obtain ⟨ρ2, S2', R2', r2⟩ := hy x H'' hyl
        have far : ∀ {ρa : List Addr} {Ha : Hp}, Step ρ' H' ρa Ha → D ∉ ρa ∧ Ha D = some (O acc) := fun {ρa Ha} S => ⟨fun z => (by have := S.new D z nD'; rw [hD'] at this; cases this), S.fr D _ nD' hD'⟩
        refine ⟨ρ2, _, _, _, _, R2', (F.wiped vs).step (S0.trans S2'), r2, hk2, fun ρ3 st3 H3 σ3 τ3 S3 R3 F3 sm k3 => ⟨wipe_same sm hsl, ρ3, st3, σ3, _, R3, F3, k3, fun ρ4 st4 H4 b b' S4 R4 eb k4 => ?_, noX_ex⟩⟩
        have eb : b = b' := eb
        subst eb
        have SA := S2'.trans (S3.trans S4)
        cases b with
        | false => exact iteF ⟨ρ4, st4, acc, S1.trans SA, (far SA).1, (far SA).2, R4, k4⟩
        | true =>
          refine iteT ?_
          refine ⟨ρ4, st4, σ3, _, R4, F3.step S4, k4, fun ρ5 st5 H5 u v S5 R5 r5 k5 => ?_, noX_ex⟩
          have k6 : (match kOf u with
            | some kk => (match Nat.blt acc.length 4000 with
              | true => sLoop g it mg mt me (wipeU σ vs) k (i + 1) (kAdd kk acc) st5 κ
              | false => false)
            | none => false) = true := k5
          have SB := SA.trans S5
          obtain ⟨nD5, hD5⟩ := far SB
          cases q5 : kOf u with
          | none => rw [q5] at k6; cases k6
          | some kk =>
            rw [q5] at k6
            have k7 : (match Nat.blt acc.length 4000 with | true => sLoop g it mg mt me (wipeU σ vs) k (i + 1) (kAdd kk acc) st5 κ | false => false) = true := k6
            cases q6 : Nat.blt acc.length 4000 with
            | false => rw [q6] at k7; cases k7
            | true =>
              rw [q6] at k7
              have lt : acc.length < 4000 := Nat.le_of_ble_eq_true q6
              refine ⟨kk, _, _, kOf_ok q5 r5, hD5, (by show acc.length + 1 < 4096; omega), ?_⟩
              have eO : SetK X.prog X.w D (fun j => kMem j acc || decide (j = kk)) (if kMem kk acc = true then acc.length else acc.length + 1) = O (kAdd kk acc) := by
                rw [kAdd_len, show (fun j => kMem j acc || decide (j = kk)) = fun j => kMem j (kAdd kk acc) from funext fun j => kMem_add kk j acc]
              rw [eO]
              obtain ⟨S6, R6⟩ := put (O (kAdd kk acc)) (S1.trans SB) nD5 R5
              exact ⟨ρ5, st5, kAdd kk acc, S6, nD5, upd_same, R6, k7⟩) ex
theorem pe_lenSk {t : TE} {e : Expr} {p pos : Pos} (he : PE X e t) (hm : X.mg "len" = none) (hg : Gl X "len" := by rfl) (hs : starEach [e] X.env = (false, eval e X.env) :: starEach [] X.env := by rfl) : PE X (.Call (.Name "len" p) [e] [] pos) (tLenSk X t) := by
  exact pe_callB (es := []) cr_lenK hg hm PySem.boot_len (pa_cons (pe_unl he) pa_nil hs) (he := hs)
theorem se_lenSc {elt tg iter : Expr} {ifs : List Expr} {scope : Scope} {own : List (Str × Nat)} {pos p2 pos2 : Pos} {sl : List Nat} {mi : MI} {mg : MG} {mt : MT} {me : ME} (n : Nat) (hc : X.calm = true) (hN : X.N.Nodup) (hi : SI γ W g X tg iter mi) (ok : BlkOk X.N X.env.scope scope own)
    (hg : ∀ (s : Shared) (H : Hp) (C : Addr) (cl : List (Str × Addr)) (fp : List Addr), SG γ (X.blk s H scope (compEnvC scope cl C X.env) fp) sl tg mg) (ht : ∀ (s : Shared) (H : Hp) (C : Addr) (cl : List (Str × Addr)) (fp : List Addr), PTs (X.blk s H scope (compEnvC scope cl C X.env) fp) ifs (tMt γ W0 mt))
    (he : ∀ (s : Shared) (H : Hp) (C : Addr) (cl : List (Str × Addr)) (fp : List Addr), SE γ W0 (X.blk s H scope (compEnvC scope cl C X.env) fp) elt me) (hm : X.mg "len" = none) (hgl : Gl X "len" := by rfl) (hsl : ∀ j ∈ sl, j ∈ own.map (·.2) := by decide)
    (hs : ∀ x, foldedSetIterable iter X.env x = pure x := by intro _; rfl) (hst : starEach [.SetComp elt [⟨tg, iter, ifs, 0⟩] scope pos] X.env = (false, eval (.SetComp elt [⟨tg, iter, ifs, 0⟩] scope pos) X.env) :: starEach [] X.env := by rfl) :
    SE γ W X (.Call (.Name "len" p2) [.SetComp elt [⟨tg, iter, ifs, 0⟩] scope pos] [] pos2) (mLenSc g n (own.map (·.2)) mi mg mt me) := by
  obtain ⟨ti, pi, si⟩ := hi
  exact ⟨_, pe_lenSk (pe_sk hc hN pi ok (fun s H C cl fp => (hg s H C cl fp).pg) ht (fun s H C cl fp => (he s H C cl fp).pe) hs) hm hgl hst, fun ρ st H σ τ R F => sim_sk n si hsl ρ st H σ τ R F⟩
end
end MV

/-! zip(xs, ys, strict=True) of two lists of one length. -/
namespace MV
open PySem PySem.Spec PyProof.Rows L2

/-- the zip object at z, strict -/
abbrev IsZs (h : Heap) (z TI TO : Addr) (f0 : Value) : Prop :=
  h.get? z = some { cls := .type "zip", dict := none, data := .fields #[f0, .bool false, .bool true, .ref TI, .ref TO], slots := #[] }
section
variable {prog : Program} {w : World} {A : Around} {E : Value → Shared → Prop} {s : Shared}

theorem end_list {it l : Addr} {i : Nat} {items : Array Value} {Q : Option Value → Shared → Prop} (hh : A.handled = none) (hit : s.heap.IsListIter it l i) (hl : s.heap.IsList l items) (hx : items[i]? = none)
    (h : ∀ h', Heap.ExtBut it s.heap h' → Q none { s with heap := h' }) : wpAny (model prog w) A (Builtin.SmallTypes.nextOrEnd (.ref it)) Q E s := by
  unfold Builtin.SmallTypes.nextOrEnd
  refine wpAny_bind (wpAny_attempt (wpAny_nextOf_list_end hh hit hl hx fun h' e hs he => ?_))
  obtain ⟨o, ho, hc⟩ := he
  exact wpAny_bind (wpAny_isInstance (T := "StopIteration") (b := true) ⟨o, ho, hc⟩ isSubtype_stop (wpAny_pure (h h' hs)))
theorem go_list {it l : Addr} {i : Nat} {items : Array Value} {x : Value} {Q : Option Value → Shared → Prop} (hit : s.heap.IsListIter it l i) (hl : s.heap.IsList l items) (hx : items[i]? = some x)
    (h : ∀ h', h'.IsListIter it l (i + 1) → Heap.SameBut it s.heap h' → Q (some x) { s with heap := h' }) : wpAny (model prog w) A (Builtin.SmallTypes.nextOrEnd (.ref it)) Q E s := by
  unfold Builtin.SmallTypes.nextOrEnd
  exact wpAny_bind (wpAny_attempt (wpAny_nextOf_list_item hit hl hx fun h' hi hs => wpAny_pure (h h' hi hs)))
theorem stop_raised {α : Type} {Q : α → Shared → Prop} (hh : A.handled = none) (h : ∀ h' e, (∀ c o, s.heap.get? c = some o → h'.get? c = some o) → (∃ o, h'.get? e = some o ∧ o.cls = .type "StopIteration") → E (.ref e) { s with heap := h' }) :
    wpAny (model prog w) A (Builtin.SmallTypes.stopIteration : Sem α) Q E s := by
  unfold Builtin.SmallTypes.stopIteration
  refine wpAny_bind ?_
  simp only [newExc, newTuple]
  refine wpAny_bind (wpAny_newObj_type ?_ (by size_fits))
  refine wpAny_bind (m := firstArgMember _ _) (wpAny_of_eq (a := Value.none) (by first | rfl | (simp only [firstArgMember]; rfl)) ?_)
  refine wpAny_newObj_type ?_ (by size_fits)
  simp only [raiseNew]
  refine wpAny_bind (wpAny_handled ?_)
  first | rw [show A.in1.handled = none from hh] | rw [hh]
  refine wpAny_bind (wpAny_pure (wpAny_throw ?_))
  exact h _ _ (fun c o e => Heap.get?_push_of_some _ (Heap.get?_push_of_some _ e)) ⟨_, Heap.get?_push_size _ rfl, rfl⟩

variable {z TI TO i1 i2 l1 l2 : Addr} {k : Nat} {xs ys : Array Value} {a b : Value}
theorem zs_item {x y : Value} {Q : Value → Shared → Prop} (D : ZipApart z TI TO i1 i2 l1 l2) (hz : IsZs s.heap z TI TO .none) (hTI : IsPair s.heap TI (.ref i1) (.ref i2)) (hTO : IsPair s.heap TO a b)
    (h1 : s.heap.IsListIter i1 l1 k) (h2 : s.heap.IsListIter i2 l2 k) (hl1 : s.heap.IsList l1 xs) (hl2 : s.heap.IsList l2 ys) (hx : xs[k]? = some x) (hy : ys[k]? = some y)
    (hQ : ∀ h', IsZs h' z TI TO (rawInt s.heap.objs.size) → IsPair h' TO x y → h'.IsListIter i1 l1 (k + 1) → h'.IsListIter i2 l2 (k + 1) → IsPair h' s.heap.objs.size x y → h'.objs.size = s.heap.objs.size + 1 →
      (∀ c o, c ≠ z → c ≠ TO → c ≠ i1 → c ≠ i2 → s.heap.get? c = some o → h'.get? c = some o) → Q (.ref s.heap.objs.size) { s with heap := h' }) :
    wpAny (model prog w) A (Builtin.«zip.__next__» ⟨[.ref z], []⟩) (fun fin s' => ∃ v, fin = .done (.ret v) ∧ Q v s') E s := by
  show wpAny _ _ (field (.ref z) 2 >>= _) _ _ _
  refine wpAny_bind (wpAny_field hz rfl (x := .bool true) rfl ?_)
  show wpAny _ _ (field (.ref z) 3 >>= _) _ _ _
  refine wpAny_bind (wpAny_field hz rfl (x := .ref TI) rfl ?_)
  refine wpAny_bind (wpAny_seqItems hTI rfl ?_)
  show wpAny _ _ (Builtin.SmallTypes.ownedTupleIsFree (.ref z) >>= _) _ _ _
  refine wpAny_bind ?_
  unfold Builtin.SmallTypes.ownedTupleIsFree
  refine wpAny_bind (wpAny_field hz rfl (x := .none) rfl (wpAny_pure ?_))
  simp only [if_true]
  refine wpAny_bind (wpAny_rule (wpAny_bind (wpAny_field hz rfl (x := .ref TO) rfl ?_)))
  refine wpAny_bind (wpAny_setField_rec hz (by simp) fun g1 hz1 s1 => ?_)
  have z1 : IsZs g1 z TI TO .ellipsis := hz1
  refine wpAny_bind ?_
  simp only [List.zipIdx_cons, List.zipIdx_nil, List.forIn_cons, List.forIn_nil]
  -- the first list's item
  refine wpAny_bind (wpAny_bind (wpAny_onRaise ?_))
  show wpAny _ _ (Builtin.SmallTypes.nextOrEnd (.ref i1)) _ _ _
  refine go_list (h1.extBut s1.extBut D.i1z) (hl1.extBut s1.extBut D.l1z) hx fun g2 j1 s2 => ?_
  have t2 : IsPair g2 TO a b := s2.extBut _ _ D.TOi1 (s1.extBut _ _ D.TOz hTO)
  refine wpAny_bind (wpAny_seqItems t2 rfl (wpAny_bind (wpAny_updateSeq_pair t2 fun g3 t3 s3 => wpAny_bind (wpAny_letGo (wpAny_pure ?_)))))
  have t3 : IsPair g3 TO x b := t3
  -- the second's
  refine wpAny_bind (wpAny_bind (wpAny_onRaise ?_))
  show wpAny _ _ (Builtin.SmallTypes.nextOrEnd (.ref i2)) _ _ _
  refine go_list (((h2.extBut s1.extBut D.i2z).extBut s2.extBut D.i12.symm).extBut s3.extBut D.TOi2.symm) (((hl2.extBut s1.extBut D.l2z).extBut s2.extBut D.l2i1).extBut s3.extBut D.l2TO) hy fun g4 j2 s4 => ?_
  have t4 : IsPair g4 TO x b := s4.extBut _ _ D.TOi2 t3
  refine wpAny_bind (wpAny_seqItems t4 rfl (wpAny_bind (wpAny_updateSeq_pair t4 fun g5 t5 s5 => wpAny_bind (wpAny_letGo (wpAny_pure (wpAny_pure ?_))))))
  have t5 : IsPair g5 TO x y := t5
  refine wpAny_bind (wpAny_seqItems t5 rfl (wpAny_bind (wpAny_newTuple ?_)))
  have z5 : IsZs g5 z TI TO .ellipsis := s5.extBut _ _ D.TOz.symm (s4.extBut _ _ D.i2z.symm (s3.extBut _ _ D.TOz.symm (s2.extBut _ _ D.i1z.symm z1)))
  have k5 : ∀ c o, c ≠ z → c ≠ TO → c ≠ i1 → c ≠ i2 → s.heap.get? c = some o → g5.get? c = some o := fun c o c1 c2 c3 c4 e => s5.extBut _ _ c2 (s4.extBut _ _ c4 (s3.extBut _ _ c2 (s2.extBut _ _ c3 (s1.extBut _ _ c1 e))))
  have m1 : g5.IsListIter i1 l1 (k + 1) := ((j1.extBut s3.extBut D.TOi1.symm).extBut s4.extBut D.i12).extBut s5.extBut D.TOi1.symm
  have m2 : g5.IsListIter i2 l2 (k + 1) := j2.extBut s5.extBut D.TOi2.symm
  have sz : g5.objs.size = s.heap.objs.size := by rw [s5.1, s4.1, s3.1, s2.1, s1.1]
  have lz : z < g5.objs.size := Heap.lt_size z5
  show wpAny _ _ (Builtin.SmallTypes.ownedTupleHandOut (.ref z) (.ref g5.objs.size) >>= _) _ _ _
  refine wpAny_bind ?_
  unfold Builtin.SmallTypes.ownedTupleHandOut
  have z6 : IsZs (g5.push { cls := .type "tuple", data := .seq #[x, y] }) z TI TO .ellipsis := Heap.get?_push_of_some _ z5
  refine wpAny_bind (wpAny_setField_rec z6 (by simp) fun g7 z7 s7 => ?_)
  have z7 : IsZs g7 z TI TO (rawInt g5.objs.size) := z7
  refine wpAny_setField_rec z7 (by simp) fun g8 z8 s8 => ?_
  have z8 : IsZs g8 z TI TO (rawInt g5.objs.size) := z8
  have up : ∀ c o, c ≠ z → g5.get? c = some o → g8.get? c = some o := fun c o c1 e => s8.extBut _ _ c1 (s7.extBut _ _ c1 (Heap.get?_push_of_some _ e))
  have t8 : IsPair g8 g5.objs.size x y := s8.extBut _ _ (Nat.ne_of_gt lz) (s7.extBut _ _ (Nat.ne_of_gt lz) (Heap.get?_push_size _ rfl))
  have n8 : g8.objs.size = g5.objs.size + 1 := by rw [s8.1, s7.1, Heap.size_push]
  rw [sz] at z8 t8 n8
  refine wpAny_pure ⟨_, rfl, ?_⟩
  show Q (.ref g5.objs.size) _
  rw [sz]
  exact hQ g8 z8 (up _ _ D.TOz t5) (m1.at fun o e => up _ o D.i1z e) (m2.at fun o e => up _ o D.i2z e) t8 n8 fun c o c1 c2 c3 c4 e => up c o c1 (k5 c o c1 c2 c3 c4 e)
theorem zs_end {Q : Fin → Shared → Prop} (hh : A.handled = none) (D : ZipApart z TI TO i1 i2 l1 l2) (hz : IsZs s.heap z TI TO .none) (hTI : IsPair s.heap TI (.ref i1) (.ref i2)) (hTO : IsPair s.heap TO a b)
    (h1 : s.heap.IsListIter i1 l1 k) (h2 : s.heap.IsListIter i2 l2 k) (hl1 : s.heap.IsList l1 xs) (hl2 : s.heap.IsList l2 ys) (hx : xs[k]? = none) (hy : ys[k]? = none)
    (hE : ∀ h' e, (∀ c o, c ≠ z → c ≠ TO → c ≠ i1 → c ≠ i2 → s.heap.get? c = some o → h'.get? c = some o) → (∃ o, h'.get? e = some o ∧ o.cls = .type "StopIteration") → E (.ref e) { s with heap := h' }) :
    wpAny (model prog w) A (Builtin.«zip.__next__» ⟨[.ref z], []⟩) Q E s := by
  show wpAny _ _ (field (.ref z) 2 >>= _) _ _ _
  refine wpAny_bind (wpAny_field hz rfl (x := .bool true) rfl ?_)
  show wpAny _ _ (field (.ref z) 3 >>= _) _ _ _
  refine wpAny_bind (wpAny_field hz rfl (x := .ref TI) rfl ?_)
  refine wpAny_bind (wpAny_seqItems hTI rfl ?_)
  show wpAny _ _ (Builtin.SmallTypes.ownedTupleIsFree (.ref z) >>= _) _ _ _
  refine wpAny_bind ?_
  unfold Builtin.SmallTypes.ownedTupleIsFree
  refine wpAny_bind (wpAny_field hz rfl (x := .none) rfl (wpAny_pure ?_))
  simp only [if_true]
  refine wpAny_bind (wpAny_rule (wpAny_bind (wpAny_field hz rfl (x := .ref TO) rfl ?_)))
  refine wpAny_bind (wpAny_setField_rec hz (by simp) fun g1 hz1 s1 => ?_)
  have z1 : IsZs g1 z TI TO .ellipsis := hz1
  refine wpAny_bind ?_
  simp only [List.zipIdx_cons, List.zipIdx_nil, List.forIn_cons, List.forIn_nil]
  refine wpAny_bind (wpAny_bind (wpAny_onRaise ?_))
  show wpAny _ _ (Builtin.SmallTypes.nextOrEnd (.ref i1)) _ _ _
  refine end_list hh (h1.extBut s1.extBut D.i1z) (hl1.extBut s1.extBut D.l1z) hx fun g2 s2 => ?_
  have z2 : IsZs g2 z TI TO .ellipsis := s2 _ _ D.i1z.symm z1
  refine wpAny_bind (wpAny_setField_rec z2 (by simp) fun g3 _ s3 => ?_)
  -- the other list is at its end, too
  refine wpAny_bind ?_
  refine wpAny_bind ?_
  show wpAny _ _ ((Builtin.SmallTypes.nextOrEnd (.ref i2) >>= _) >>= _) _ _ _
  refine wpAny_bind (wpAny_bind (end_list (l := l2) hh (((h2.extBut s1.extBut D.i2z).extBut s2 D.i12.symm).extBut s3.extBut D.i2z) (((hl2.extBut s1.extBut D.l2z).extBut s2 D.l2i1).extBut s3.extBut D.l2z) hy fun g4 s4 => ?_))
  · refine wpAny_pure (wpAny_pure ?_)
    refine wpAny_bind (wpAny_rule (stop_raised hh fun h' e hk he => ?_))
    exact hE h' e (fun c o c1 _ c3 c4 x => hk c o (s4 _ _ c4 (s3.extBut _ _ c1 (s2 _ _ c3 (s1.extBut _ _ c1 x))))) he
theorem zs_next_item {x y : Value} {Q : Option Value → Shared → Prop} (D : ZipApart z TI TO i1 i2 l1 l2) (hz : IsZs s.heap z TI TO .none) (hTI : IsPair s.heap TI (.ref i1) (.ref i2)) (hTO : IsPair s.heap TO a b)
    (h1 : s.heap.IsListIter i1 l1 k) (h2 : s.heap.IsListIter i2 l2 k) (hl1 : s.heap.IsList l1 xs) (hl2 : s.heap.IsList l2 ys) (hx : xs[k]? = some x) (hy : ys[k]? = some y)
    (hQ : ∀ h', IsZs h' z TI TO (rawInt s.heap.objs.size) → IsPair h' TO x y → h'.IsListIter i1 l1 (k + 1) → h'.IsListIter i2 l2 (k + 1) → IsPair h' s.heap.objs.size x y → h'.objs.size = s.heap.objs.size + 1 →
      (∀ c o, c ≠ z → c ≠ TO → c ≠ i1 → c ≠ i2 → s.heap.get? c = some o → h'.get? c = some o) → Q (some (.ref s.heap.objs.size)) { s with heap := h' }) :
    wpAny (model prog w) A (pyNext (.ref z)) Q E s := by
  have hT : s.TypeIs (.ref z) "zip" := ⟨_, hz, rfl⟩
  unfold pyNext
  exact wpAny_bind (wpAny_attempt (wpAny_callSpecial?_slot (name := Str.ofString "__next__") hT F.slot_zip_next
    (wpAny_call_entry F.slot_zip_next hT F.entry_zip_next (zs_item D hz hTI hTO h1 h2 hl1 hl2 hx hy fun h' a1 a2 a3 a4 a5 a6 a7 => wpAny_pure (hQ h' a1 a2 a3 a4 a5 a6 a7)) (F.args_zip_next_1 _))))
theorem zs_next_end {Q : Option Value → Shared → Prop} (hh : A.handled = none) (D : ZipApart z TI TO i1 i2 l1 l2) (hz : IsZs s.heap z TI TO .none) (hTI : IsPair s.heap TI (.ref i1) (.ref i2)) (hTO : IsPair s.heap TO a b)
    (h1 : s.heap.IsListIter i1 l1 k) (h2 : s.heap.IsListIter i2 l2 k) (hl1 : s.heap.IsList l1 xs) (hl2 : s.heap.IsList l2 ys) (hx : xs[k]? = none) (hy : ys[k]? = none)
    (hQ : ∀ h', (∀ c o, c ≠ z → c ≠ TO → c ≠ i1 → c ≠ i2 → s.heap.get? c = some o → h'.get? c = some o) → Q none { s with heap := h' }) : wpAny (model prog w) A (pyNext (.ref z)) Q E s := by
  have hT : s.TypeIs (.ref z) "zip" := ⟨_, hz, rfl⟩
  unfold pyNext
  refine wpAny_bind (wpAny_attempt (wpAny_callSpecial?_slot (name := Str.ofString "__next__") hT F.slot_zip_next
    (wpAny_call_entry F.slot_zip_next hT F.entry_zip_next (zs_end hh D hz hTI hTO h1 h2 hl1 hl2 hx hy fun h' e hk he => ?_) (F.args_zip_next_1 _))))
  obtain ⟨o, ho, hc⟩ := he
  exact wpAny_bind (wpAny_isInstance (T := "StopIteration") (b := true) ⟨o, ho, hc⟩ isSubtype_stop (wpAny_pure (hQ _ hk)))
theorem zs_go {elts : List Expr} {x1} {pos : Pos} {T : Addr} {Q : Unit → Shared → Prop} (hz : IsZs s.heap z TI TO (rawInt T)) (hQ : ∀ h', IsZs h' z TI TO .none → Heap.SameBut z s.heap h' → Q () { s with heap := h' }) :
    wpAny (model prog w) A (letOwnedTupleGo (.Tuple elts x1 pos) (.ref z) (.ref T)) Q E s := by
  unfold letOwnedTupleGo
  refine wpAny_bind (wpAny_load hz ?_)
  show wpAny _ _ (if (["enumerate", "zip", "dict_itemiterator", "dict_reverseitemiterator", "odict_iterator", "itertools.zip_longest", "itertools.pairwise"].contains "zip" &&
      (#[rawInt T, .bool false, .bool true, .ref TI, .ref TO] : Array Value)[0]? == some (rawInt T)) = true then _ else _) Q E s
  rw [if_pos (by simp)]
  refine wpAny_bind (wpAny_rule ?_)
  show wpAny _ _ (setField (.ref z) 0 .none) Q E s
  exact wpAny_setField_rec hz (by simp) fun h' hz' hs' => hQ h' hz' hs'
theorem zs_iter {f0 : Value} {Q : Value → Shared → Prop} (hz : IsZs s.heap z TI TO f0) (h : Q (.ref z) s) : wpAny (model prog w) A (pyIter (.ref z)) Q E s := by
  have hT : s.TypeIs (.ref z) "zip" := ⟨_, hz, rfl⟩
  refine wpAny_pyIter_slot hT F.slot_zip_iter (wpAny_call_entry F.slot_zip_iter hT F.entry_zip_iter ?_ (F.args_zip_iter_1 _))
  show wpAny _ _ (PySem.ret (.ref z)) _ _ s
  exact wpAny_pure ⟨_, rfl, "zip", _, hT, F.slot_zip_next.lookup, h⟩
end

/-! ### it is made -/
theorem typeCall_zs (a b : Value) (c : Bool) : checkTypeCall "zip" ⟨[a, b], [(Str.ofString "strict", .bool c)]⟩ = pure () := by kernel_rfl
theorem newCall_zs (a b : Value) (c : Bool) : checkBuiltinCall "zip.__new__" ⟨[.type "zip", a, b], [(Str.ofString "strict", .bool c)]⟩ = pure () := by kernel_rfl
theorem args_zs (obj a b : Value) (c : Bool) : argsOk "object.__init__" ⟨[obj, a, b], [(Str.ofString "strict", .bool c)]⟩ := by unfold argsOk; kernel_rfl
theorem meets_zs {v1 v2 : Value} {o1 o2 : Obj} {H1 H2 : Heap → Prop} (B1 : Begins v1 o1 H1) (B2 : Begins v2 o2 H2) :
    Meets (Builtin.«zip.__new__» ⟨[.type "zip", v1, v2], [(Str.ofString "strict", .bool true)]⟩) (fun _ R s => (H1 s.heap ∧ H2 s.heap) ∧
      R (.ok (.ret (.ref (gzO2 s.heap o1 o2).objs.size))) { s with heap := (gzO2 s.heap o1 o2).push { cls := .type "zip", data := .fields #[.none, .bool false, .bool true, .ref ((s.heap.push o1).push o2).objs.size, .ref (gzT2 s.heap o1 o2).objs.size] } }) :=
  .of_wp fun prog w A R s h => by
    obtain ⟨hp, g, d, tk, os⟩ := s; obtain ⟨⟨h1, h2⟩, h⟩ := h
    have hsub := sub_zip
    have q1 : ∀ {A' : Around} {E : Value → Shared → Prop} {Q : Value → Shared → Prop}, Q (.ref hp.objs.size) ⟨(hp.push o1), g, d, tk, os⟩ → wpAny (model prog w) A' (pyIter v1) Q E ⟨hp, g, d, tk, os⟩ :=
      fun q => B1.iter prog w _ _ ⟨hp, g, d, tk, os⟩ _ (B1.keeps _ _ h1 fun b o' e => e) q
    have q2 : ∀ {A' : Around} {E : Value → Shared → Prop} {Q : Value → Shared → Prop}, Q (.ref (hp.push o1).objs.size) ⟨((hp.push o1).push o2), g, d, tk, os⟩ → wpAny (model prog w) A' (pyIter v2) Q E ⟨(hp.push o1), g, d, tk, os⟩ :=
      fun q => B2.iter prog w _ _ ⟨(hp.push o1), g, d, tk, os⟩ _ (B2.keeps _ _ h2 fun b o' e => (Heap.get?_push_of_some _ e)) q
    have e2 : (Str.ofString "strict" != ("strict" : Str)) = false := by decide +kernel
    wp_walk using q1, q2
    all_goals first
      | exact ⟨_, rfl, h⟩
      | trace_state
section
variable {prog : Program} {w : World} {A : Around} {E : Value → Shared → Prop} {s : Shared}
theorem zs_begins {v1 v2 : Value} {o1 o2 : Obj} {H1 H2 : Heap → Prop} {Q : Value → Shared → Prop} (B1 : Begins v1 o1 H1) (B2 : Begins v2 o2 H2) (h1 : H1 s.heap) (h2 : H2 s.heap)
    (h : ∀ h', IsZs h' (s.heap.objs.size + 4) (s.heap.objs.size + 2) (s.heap.objs.size + 3) .none → IsPair h' (s.heap.objs.size + 2) (.ref s.heap.objs.size) (.ref (s.heap.objs.size + 1)) →
      IsPair h' (s.heap.objs.size + 3) .none .none → h'.get? s.heap.objs.size = some o1 → h'.get? (s.heap.objs.size + 1) = some o2 → (∀ c o, s.heap.get? c = some o → h'.get? c = some o) → Q (.ref (s.heap.objs.size + 4)) { s with heap := h' }) :
    wpAny (model prog w) A (call (.type "zip") [v1, v2] [(Str.ofString "strict", .bool true)]) Q E s := by
  refine callType_newKw F.called_zip (by decide) (typeCall_zs _ _ _) (newCall_zs _ _ _) (fun obj => args_zs obj _ _ _) F.entry_zip_new (meets_zs B1 B2) ⟨⟨h1, h2⟩, ?_⟩
  generalize hN : s.heap.objs.size = N
  have n1 : (s.heap.push o1).objs.size = N + 1 := by rw [Heap.size_push, hN]
  have n2 : ((s.heap.push o1).push o2).objs.size = N + 2 := by rw [Heap.size_push, n1]
  have n3 : (gzT2 s.heap o1 o2).objs.size = N + 3 := by rw [Heap.size_push, n2]
  have n4 : (gzO2 s.heap o1 o2).objs.size = N + 4 := by rw [Heap.size_push, n3]
  rw [hN] at h
  show _ ∧ _
  rw [n4, n3, n2]
  generalize hz : (gzO2 s.heap o1 o2).push { cls := .type "zip", data := .fields #[.none, .bool false, .bool true, .ref (N + 2), .ref (N + 3)] } = hh
  have gz : IsZs hh (N + 4) (N + 2) (N + 3) .none := by rw [← hz, ← n4]; exact Heap.get?_push_size _ rfl
  have go : IsPair hh (N + 3) .none .none := by rw [← hz, ← n3]; exact Heap.get?_push_of_some _ (Heap.get?_push_size _ rfl)
  have gt : IsPair hh (N + 2) (.ref N) (.ref (N + 1)) := by rw [← hz, ← n2, ← n1, ← hN]; exact Heap.get?_push_of_some _ (Heap.get?_push_of_some _ (Heap.get?_push_size _ rfl))
  have g1 : hh.get? N = some o1 := by rw [← hz, ← hN]; exact Heap.get?_push_of_some _ (Heap.get?_push_of_some _ (Heap.get?_push_of_some _ (Heap.get?_push_of_some _ (Heap.get?_push_size _ B1.free))))
  have g2 : hh.get? (N + 1) = some o2 := by rw [← hz, ← n1]; exact Heap.get?_push_of_some _ (Heap.get?_push_of_some _ (Heap.get?_push_of_some _ (Heap.get?_push_size _ B2.free)))
  exact ⟨⟨_, gz, rfl⟩, h hh gz gt go g1 g2 fun c o e => by rw [← hz]; exact Heap.get?_push_of_some _ (Heap.get?_push_of_some _ (Heap.get?_push_of_some _ (Heap.get?_push_of_some _ (Heap.get?_push_of_some _ e))))⟩
end

/-! ### as a walk -/
/-- two lists of one length, their items in new pairs -/
def Itzs (K : PySem.W.Frag) (a b : Addr) : It :=
  ⟨fun i H => ∃ (xs ys : List V) (x y : V), SqL K H a xs ∧ SqL K H b ys ∧ xs[i]? = some x ∧ ys[i]? = some y,
    fun i H v H' => ∃ T x y, v = .ref T ∧ H T = none ∧ H' = upd H T (.tup [x, y]) ∧ (∀ xs, SqL K H a xs → xs[i]? = some x) ∧ ∀ ys, SqL K H b ys → ys[i]? = some y,
    fun i H => ∃ xs ys : List V, SqL K H a xs ∧ SqL K H b ys ∧ xs.length ≤ i ∧ ys.length ≤ i⟩
theorem turn_zs {P : Program} {w : World} {K : PySem.W.Frag} {elts : List Expr} {kk : Nat} {tpos : Pos} {a b z TI TO i1 i2 : Addr} (D : ZipApart z TI TO i1 i2 a b) :
    Turn P w K (.Tuple elts kk tpos) (Itzs K a b) [z, TI, TO, i1, i2] z (fun i h => IsZs h z TI TO .none ∧ IsPair h TI (.ref i1) (.ref i2) ∧ (∃ x y, IsPair h TO x y) ∧ h.IsListIter i1 a i ∧ h.IsListIter i2 b i) where
  mem := by simp
  obj := fun i h st c hc => by
    obtain ⟨hz, hTI, ⟨x, y, hTO⟩, ⟨o1, e1, _, d1⟩, ⟨o2, e2, _, d2⟩⟩ := st
    have e' : c = z ∨ c = TI ∨ c = TO ∨ c = i1 ∨ c = i2 := by simpa using hc
    rcases e' with q | q | q | q | q
    · rw [q]; exact ⟨_, hz, fun v q => nomatch q⟩
    · rw [q]; exact ⟨_, hTI, fun v q => nomatch q⟩
    · rw [q]; exact ⟨_, hTO, fun v q => nomatch q⟩
    · rw [q]; exact ⟨o1, e1, fun v q => by rw [d1] at q; cases q⟩
    · rw [q]; exact ⟨o2, e2, fun v q => by rw [d2] at q; cases q⟩
  keep := fun i h h' st k => by
    obtain ⟨hz, hTI, ⟨x, y, hTO⟩, h1, h2⟩ := st
    exact ⟨k z (by simp) _ hz, k TI (by simp) _ hTI, ⟨x, y, k TO (by simp) _ hTO⟩, h1.at fun o q => k i1 (by simp) o q, h2.at fun o q => k i2 (by simp) o q⟩
  item := by
    intro X hP hw hK hc i pins s σ H E I hf st hg
    subst hP hw hK
    obtain ⟨hz, hTI, ⟨x0, y0, hTO⟩, h1, h2⟩ := st
    obtain ⟨xs, ys, x, y, hqx, hqy, hx, hy⟩ := hg
    obtain ⟨its, rv, p, _⟩ := I.list hqx
    obtain ⟨its2, rv2, p2, _⟩ := I.list hqy
    obtain ⟨u, hu, ru⟩ := rv.get hx
    obtain ⟨u2, hu2, ru2⟩ := rv2.get hy
    have lz : z < s.heap.objs.size := Heap.lt_size hz
    refine zs_next_item D hz hTI hTO h1 h2 p.isList p2.isList (x := u) (y := u2) (by simpa using hu) (by simpa using hu2) fun h' z' TO' h1' h2' hT hsz hk => ?_
    refine ⟨_, rfl, zs_go (s := { s with heap := h' }) z' fun h'' z'' sb => ?_⟩
    have new : ObjOk X.prog X.w (upd H s.heap.objs.size (.tup [x, y])) h'' s.heap.objs.size (.tup [x, y]) :=
      ⟨by show 2 ≤ sizeLine; decide, [u, u2], .cons ru (.cons ru2 .nil), ⟨_, (sb.2 _ (Nat.ne_of_gt lz)).trans hT, rfl, _, rfl⟩⟩
    have I1 : Inv X pins σ (upd H s.heap.objs.size (.tup [x, y])) { s with heap := h'' } :=
      I.turnedNew (t' := s.toks) (ch := [z, TI, TO, i1, i2]) (fun c o hb q => (sb.2 c (fun q' => hb (by simp [q']))).trans (hk c o (fun q' => hb (by simp [q'])) (fun q' => hb (by simp [q'])) (fun q' => hb (by simp [q'])) (fun q' => hb (by simp [q'])) q)) hf (Nat.le_refl _) new
    refine ⟨.ref s.heap.objs.size, _, I1, rfl, ⟨_, x, y, rfl, I.hok.fresh (Nat.le_refl _), rfl, fun l hl => by rw [I.list_inj hl hqx]; exact hx, fun l hl => by rw [I.list_inj hl hqy]; exact hy⟩,
      ⟨z'', (sb.2 _ D.TIz).trans (hk _ _ D.TIz D.TITO D.TIi1 D.TIi2 hTI), ⟨u, u2, (sb.2 _ D.TOz).trans TO'⟩, h1'.at fun o q => (sb.2 _ D.i1z).trans q, h2'.at fun o q => (sb.2 _ D.i2z).trans q⟩, fun c hcm => ?_⟩
    have lt : c < s.heap.objs.size := by
      have e' : c = z ∨ c = TI ∨ c = TO ∨ c = i1 ∨ c = i2 := by simpa using hcm
      rcases e' with q | q | q | q | q
      · rw [q]; exact lz
      · rw [q]; exact Heap.lt_size hTI
      · rw [q]; exact Heap.lt_size hTO
      · rw [q]; obtain ⟨_, e1, _⟩ := h1; exact Heap.lt_size e1
      · rw [q]; obtain ⟨_, e2, _⟩ := h2; exact Heap.lt_size e2
    rw [upd_ne (Nat.ne_of_lt lt)]
    exact (hf c hcm).1
  done := by
    intro X hP hw hK hc i pins s σ H E I hf st hg
    subst hP hw hK
    obtain ⟨hz, hTI, ⟨x0, y0, hTO⟩, h1, h2⟩ := st
    obtain ⟨xs, ys, hqx, hqy, e1, e2⟩ := hg
    obtain ⟨its, rv, p, _⟩ := I.list hqx
    obtain ⟨its2, rv2, p2, _⟩ := I.list hqy
    have n1 := rv.length
    have n2 := rv2.length
    exact zs_next_end (I.ok.hd hc) D hz hTI hTO h1 h2 p.isList p2.isList (by simp; omega) (by simp; omega) fun h' hk => ⟨rfl, I.turnedL (t' := s.toks) (ch := [z, TI, TO, i1, i2]) (fun c o hb q =>
      hk c o (fun q' => hb (by simp [q'])) (fun q' => hb (by simp [q'])) (fun q' => hb (by simp [q'])) (fun q' => hb (by simp [q'])) q) hf⟩
  self := fun A i s Q E st h => zs_iter st.1 h
theorem callWith_typeK {M : Model} {A : Around} {E : Value → Shared → Prop} {s : Shared} {env : Env} {pos : Pos} {T : String} {e : Expr} {rest : List Expr} {kws : List Keyword} {Q : Value → Shared → Prop}
    (h : wpAny M A (spliced (backTo pos (starEach (e :: rest) env))) (fun vs s₁ => wpAny M A (evalAll ((backToKw pos (keywordEach kws env)).map (·.2)))
      (fun kvs s₂ => wpAny M A (call (.type T) vs (((backToKw pos (keywordEach kws env)).filterMap (·.1)).zip kvs)) Q E s₂) E s₁) E s)
    (he : backTo pos (starEach (e :: rest) env) = (false, eval e env) :: backTo pos (starEach rest env)) (hplain : (backTo pos (starEach (e :: rest) env)).any (·.1) = false)
    (hall : (backToKw pos (keywordEach kws env)).all (·.1.isSome) = true) (hkw : (backToKw pos (keywordEach kws env)).any (·.1.isNone) = false) :
    wpAny M A (callWith pos (.type T) [] (backTo pos (starEach (e :: rest) env)) (backToKw pos (keywordEach kws env))) Q E s := by
  have key : wpAny M A (evalArgs (.type T) true (backTo pos (starEach (e :: rest) env)) (backToKw pos (keywordEach kws env))) (fun a s₁ => wpAny M A (call (.type T) ([] ++ a.pos) a.kw) Q E s₁) E s := by
    rw [he] at h ⊢
    exact PyProof.Rows.evalArgs_kwB hall h
  unfold callWith
  refine wpAny_bind (wpAny_holding (wpAny_mono key (fun a s₁ h₁ => wpAny_bind (wpAny_standAt ?_)) fun _ _ x => x))
  simp only [hplain, hkw, Bool.or_false]
  refine wpAny_bind (wpAny_pure ?_)
  exact wpAny_bind (wpAny_mono h₁ (fun r s₂ hr => wpAny_bind (wpAny_holding (wpAny_point (wpAny_pure hr)))) fun _ _ x => x)
def iZs (K : PySem.W.Frag) (ta tk : TA) : TI := fun σ H R => ta σ H fun vs H1 => tk σ H1 fun zs H2 => ∃ a b xs ys, vs = [.ref a, .ref b] ∧ zs = [.bl true] ∧ SqL K H2 a xs ∧ SqL K H2 b ys ∧ R (Itzs K a b) H2
theorem pi_zs {X : Cx} {e e2 : Expr} {kws : List Keyword} {ta tk : TA} {p pos tpos : Pos} {elts : List Expr} {kk : Nat} (hg : Gl X "zip") (hm : X.mg "zip" = none) (ha : PA X [e, e2] ta) (hk : PK X kws tk)
    (he : backTo pos (starEach [e, e2] X.env) = (false, eval e X.env) :: backTo pos (starEach [e2] X.env) := by rfl) (hpl : (backTo pos (starEach [e, e2] X.env)).any (·.1) = false := by rfl)
    (hall : (backToKw pos (keywordEach kws X.env)).all (·.1.isSome) = true := by rfl) (hnone : (backToKw pos (keywordEach kws X.env)).any (·.1.isNone) = false := by rfl) (hks : (backToKw pos (keywordEach kws X.env)).filterMap (·.1) = [Str.ofString "strict"] := by rfl) :
    PI X (.Tuple elts kk tpos) (.Call (.Name "zip" p) [e, e2] kws pos) (iZs X.K ta tk) := by
  refine ⟨fun pins s σ H R I h => ?_⟩
  refine wpAny_Call_Name_kw (ld_blt I hg hm PyProof.Rows.boot_zip ?_)
  refine callWith_typeK (thn (ha.run pos pins s σ H _ I h) fun us s1 ⟨vs, H1, I1, r1, q1⟩ => thn (hk.run pos pins s1 σ H1 _ I1 q1) fun ws s2 ⟨zs, H2, I2, r2, q2⟩ => ?_) he hpl hall hnone
  rw [hks]
  obtain ⟨a, b, xs, ys, ex, ez, hqx, hqy, q⟩ := q2
  subst ex ez
  cases r1 with
  | cons r rr =>
    cases rr with
    | cons r' rr =>
      cases rr
      cases r
      cases r'
      cases r2 with
      | cons r0 rr =>
        cases rr
        cases r0
        have fresh5 : ∀ c, c ∈ [s2.heap.objs.size + 4, s2.heap.objs.size + 2, s2.heap.objs.size + 3, s2.heap.objs.size, s2.heap.objs.size + 1] → FpOk X pins H2 c := fun c hcm => by
          have le : s2.heap.objs.size ≤ c := by
            have e' : c = s2.heap.objs.size + 4 ∨ c = s2.heap.objs.size + 2 ∨ c = s2.heap.objs.size + 3 ∨ c = s2.heap.objs.size ∨ c = s2.heap.objs.size + 1 := by simpa using hcm
            omega
          exact I2.fpOk le (I2.hok.fresh le)
        obtain ⟨its, rv, p1, _⟩ := I2.list hqx
        obtain ⟨its2, rv2, p2, _⟩ := I2.list hqy
        refine zs_begins (begins_list a its.toArray) (begins_list b its2.toArray) p1.isList p2.isList fun h' hz hTI hTO h1 h2 hk => ?_
        refine zs_iter hz ?_
        exact ⟨s2.heap.objs.size + 4, [s2.heap.objs.size + 4, s2.heap.objs.size + 2, s2.heap.objs.size + 3, s2.heap.objs.size, s2.heap.objs.size + 1], _, _, H2, rfl, I2.kept (t' := s2.toks) hk, turn_zs (PySem.W.ktu_apart s2.heap.objs.size a b p1.lt p2.lt),
          ⟨hz, hTI, ⟨_, _, hTO⟩, ⟨_, h1, rfl, rfl⟩, ⟨_, h2, rfl, rfl⟩⟩, fresh5, q⟩

/-! ### over the virtual heap -/
section
variable {γ : Nat → Addr} {W : WX} {X : Cx} {g : GT}
def miZs (g : GT) (ma mk : MA) : MI := fun σ st => bnd (ma σ st) fun us st1 => bnd (mk σ st1) fun ws st2 κ => match us, ws with
  | [u, v], [.bl true] => match seqOf g st2 u, seqOf g st2 v with
    | some (false, xs), some (false, ys) => match Nat.beq xs.length ys.length with
      | true => κ (.ok (.zip true u v)) st2
      | false => false
    | _, _ => false
  | _, _ => false
theorem zs_next {ρ : List Addr} {H : Hp} (G : GOk X.K γ g) {u v : U} {a b : Addr} (ru : RU γ ρ u (.ref a)) (rv : RU γ ρ v (.ref b)) : ItOk γ g ρ H (.zip true u v) (Itzs X.K a b) := fun ρ' st' H' s R i => by
  have ru' := s.ru ru
  have rv' := s.ru rv
  have e0 : (Itm.zip true u v).next g st' i = (match seqOf g st' u, seqOf g st' v with
    | some (false, xs), some (false, ys) => (match xs[i]?, ys[i]? with
      | some x, some y => some (some (Yl.pair x y))
      | none, none => some none
      | _, _ => none)
    | _, _ => none) := rfl
  rw [e0]
  cases q : seqOf g st' u with
  | none => exact ⟨(fun h => nomatch h), (fun _ h => nomatch h)⟩
  | some bx =>
    obtain ⟨b1, xs⟩ := bx
    obtain ⟨a', ys, ev, rl, h⟩ := seq_ok G R ru' q
    cases ev
    cases q2 : seqOf g st' v with
    | none => cases b1 <;> exact ⟨fun h => (nomatch (show (none : Option (Option Yl)) = some none from h)), fun y h => (nomatch (show (none : Option (Option Yl)) = some (some y) from h))⟩
    | some bx2 =>
      obtain ⟨b2, xs2⟩ := bx2
      obtain ⟨a2, ys2, ev2, rl2, h2⟩ := seq_ok G R rv' q2
      cases ev2
      cases b1 <;> cases b2 <;> first | (exact ⟨fun h => (nomatch (show (none : Option (Option Yl)) = some none from h)), fun y h => (nomatch (show (none : Option (Option Yl)) = some (some y) from h))⟩; done) | skip
      show ((match xs[i]?, xs2[i]? with | some x, some y => some (some (Yl.pair x y)) | none, none => some none | _, _ => none) = some none → _) ∧ ∀ y, (match xs[i]?, xs2[i]? with | some x, some y => some (some (Yl.pair x y)) | none, none => some none | _, _ => none) = some (some y) → _
      cases e : xs[i]? with
      | none =>
        cases e2 : xs2[i]? with
        | none => exact ⟨fun _ => ⟨ys, ys2, h, h2, by rw [← rl.length]; exact List.getElem?_eq_none_iff.mp e, by rw [← rl2.length]; exact List.getElem?_eq_none_iff.mp e2⟩, (fun _ z => nomatch z)⟩
        | some y => exact ⟨(fun h => nomatch h), (fun _ h => nomatch h)⟩
      | some x =>
        cases e2 : xs2[i]? with
        | none => exact ⟨(fun h => nomatch h), (fun _ h => nomatch h)⟩
        | some y =>
          obtain ⟨vx, hvx, rvx⟩ := pget rl e
          obtain ⟨vy, hvy, rvy⟩ := pget rl2 e2
          refine ⟨(fun z => nomatch z), fun yy z => ?_⟩
          cases z
          refine ⟨⟨ys, ys2, vx, vy, h, h2, hvx, hvy⟩, fun x' H'' ⟨T, x1, y1, c1, c2, c3, c4, c5⟩ => ?_⟩
          have d1 := c4 ys h
          have d2 := c5 ys2 h2
          rw [hvx] at d1; cases d1
          rw [hvy] at d2; cases d2
          subst c1 c3
          exact pair_new R rvx rvy c2
theorem si_zs {e e2 : Expr} {kws : List Keyword} {p pos tpos : Pos} {elts : List Expr} {kk : Nat} {ma mk : MA} (G : GOk X.K γ g) (hm : X.mg "zip" = none) (ha : SA γ W X [e, e2] ma) (hk : SK γ W X kws mk) (hg : Gl X "zip" := by rfl)
    (he : backTo pos (starEach [e, e2] X.env) = (false, eval e X.env) :: backTo pos (starEach [e2] X.env) := by rfl) (hpl : (backTo pos (starEach [e, e2] X.env)).any (·.1) = false := by rfl)
    (hall : (backToKw pos (keywordEach kws X.env)).all (·.1.isSome) = true := by rfl) (hnone : (backToKw pos (keywordEach kws X.env)).any (·.1.isNone) = false := by rfl) (hks : (backToKw pos (keywordEach kws X.env)).filterMap (·.1) = [Str.ofString "strict"] := by rfl) :
    SI γ W g X (.Tuple elts kk tpos) (.Call (.Name "zip" p) [e, e2] kws pos) (miZs g ma mk) := by
  obtain ⟨t, pt, s⟩ := ha
  obtain ⟨t', pt', s'⟩ := hk
  refine ⟨_, pi_zs hg hm pt pt' he hpl hall hnone hks, fun ρ st H σ τ R F κ Rr hm ok ex => s ρ st H σ τ R F _ _ hm (fun ρ1 st1 H1 us vs s1 R1 r1 k => s' ρ1 st1 H1 σ τ R1 (F.step s1) _ _ k (fun ρ2 st2 H2 ws zs s2 R2 r2 k2 => ?_) (ex.step s1)) ex⟩
  rcases us with _ | ⟨u, _ | ⟨v, _ | ⟨_, _⟩⟩⟩ <;> first | (cases k2; done) | skip
  rcases ws with _ | ⟨q0, _ | ⟨_, _⟩⟩ <;> first | (cases k2; done) | skip
  · cases q0 <;> first | (cases k2; done) | skip
    rename_i b0
    cases b0 <;> first | (cases k2; done) | skip
    rcases r1 with _ | ⟨ru, r1⟩
    rcases r1 with _ | ⟨rv, r1⟩
    cases r1
    rcases r2 with _ | ⟨rw_, r2⟩
    cases r2
    have k4 : (match seqOf g st2 u, seqOf g st2 v with
      | some (false, xs), some (false, ys) => (match Nat.beq xs.length ys.length with
        | true => κ (.ok (.zip true u v)) st2
        | false => false)
      | _, _ => false) = true := k2
    have rw_ : _ = V.bl true := rw_
    subst rw_
    cases q : seqOf g st2 u with
    | none => rw [q] at k4; cases k4
    | some bx =>
      obtain ⟨b, xs⟩ := bx
      cases q2 : seqOf g st2 v with
      | none => rw [q, q2] at k4; cases b <;> cases k4
      | some bx2 =>
        obtain ⟨b2, xs2⟩ := bx2
        rw [q, q2] at k4
        obtain ⟨a, ys, ev, rl, hs⟩ := seq_ok G R2 (s2.ru ru) q
        obtain ⟨a2, ys2, ev2, rl2, hs2⟩ := seq_ok G R2 (s2.ru rv) q2
        subst ev ev2
        cases b <;> cases b2 <;> first | (cases k4; done) | skip
        have k5 : (match Nat.beq xs.length xs2.length with | true => κ (.ok (.zip true u v)) st2 | false => false) = true := k4
        cases q3 : Nat.beq xs.length xs2.length with
        | false => rw [q3] at k5; cases k5
        | true =>
          rw [q3] at k5
          exact ⟨a, a2, ys, ys2, rfl, rfl, hs, hs2, ok ρ2 st2 H2 _ _ (s1.trans s2) R2 (zs_next G (s2.ru ru) (s2.ru rv)) LkOk.no k5⟩
  · cases q0 <;> first | (cases k2; done) | (rename_i b0; cases b0 <;> cases k2)
end
end MV

/-! calls with keywords: of defs with **d, of methods. -/
namespace MV
open PySem PySem.Spec PyProof.Rows L2 PySem.W

/-! ### the dict of what is left over -/
theorem push_upd {h : Heap} {o : Obj} {f : Obj → Obj} : (h.push o).update h.objs.size f = h.push (f o) := by
  obtain ⟨objs, l⟩ := h
  show (⟨(objs.push o).modify objs.size f, l⟩ : Heap) = ⟨objs.push (f o), l⟩
  congr 1
  apply Array.ext
  · simp
  · intro i h1 h2
    rw [Array.getElem_modify]
    by_cases q : objs.size = i
    · subst q; simp
    · rw [if_neg q]
      have lt : i < objs.size := by simp at h2; omega
      rw [Array.getElem_push_lt lt, Array.getElem_push_lt lt]
section
variable {prog : Program} {w : World} {A : Around} {E : Value → Shared → Prop}
theorem kw_set {s : Shared} {h0 : Heap} {es : List DictEntry} {n : Nat} {k : Str} {v : Value} {Q : Unit → Shared → Prop} (hs : s.heap = h0.push (dictOf es n)) (hne : ∀ e ∈ es, e.key.isStr k = false) (hr : ∀ e ∈ es, e.refKey = false)
    (h : Q () { s with heap := h0.push (dictOf (es ++ [⟨PyData.keyHash w.params k, .str k s.toks, v⟩]) (n + 1)), toks := s.toks + 1 }) : wpAny (model prog w) A (nsSet h0.objs.size k v) Q E s := by
  have e1 : es.any (·.key.isStr k) = false := by
    cases q : es.any (·.key.isStr k) with
    | false => rfl
    | true => obtain ⟨e, he, z⟩ := List.any_eq_true.mp q; rw [hne e he] at z; cases z
  have e2 : es.any (·.refKey) = false := by
    cases q : es.any (·.refKey) with
    | false => rfl
    | true => obtain ⟨e, he, z⟩ := List.any_eq_true.mp q; rw [hr e he] at z; cases z
  have e : Obj.putName k (PyData.keyHash w.params k) (.str k s.toks) v (dictOf es n) = dictOf (es ++ [⟨PyData.keyHash w.params k, .str k s.toks, v⟩]) (n + 1) := by
    rw [putName_dict, putL_new hne]
    show dictOf _ (if es.any (·.key.isStr k) then n else n + 1) = _
    rw [e1, if_neg Bool.false_ne_true]
  have D : s.heap.get? h0.objs.size = some (dictOf es n) := by rw [hs]; exact Heap.get?_push_size _ rfl
  have c : aRefKeyMayBeTheName k es.toArray = false := by
    rw [aRefKeyMayBeTheName_at, ← Array.any_toList, ← Array.any_toList]
    show (!es.any (·.key.isStr k) && es.any (·.refKey)) = false
    rw [e2, Bool.and_false]
  unfold nsSet
  refine wpAny_bind (wpAny_bind (wpAny_askSetting (wpAny_pure (wpAny_bind (wpAny_mkText (wpAny_bind (wpAny_loadPart D ?_)))))))
  dsimp only
  rw [c]
  refine wpAny_updatePart D ?_
  show Q () { s with heap := s.heap.update h0.objs.size _, toks := s.toks + 1 }
  rw [hs, push_upd]
  show Q () { s with heap := h0.push (Obj.putName k (PyData.keyHash w.params k) (.str k s.toks) v (dictOf es n)), toks := s.toks + 1 }
  rw [e]
  exact h
theorem kw_fill {h0 : Heap} {Q : PUnit → Shared → Prop} : ∀ (ex : List (Str × Value)) (s : Shared) (es : List DictEntry) (n : Nat), s.heap = h0.push (dictOf es n) → (∀ e ∈ es, ∀ x ∈ ex, e.key.isStr x.1 = false) → (∀ e ∈ es, e.refKey = false) → (ex.map (·.1)).Nodup →
    Q ⟨⟩ { s with heap := h0.push (dictOf (es ++ kwEs w.params s.toks ex) (n + ex.length)), toks := s.toks + ex.length } →
    wpAny (model prog w) A (forIn ex PUnit.unit fun x _ => (nsSet h0.objs.size x.1 x.2 >>= fun _ => pure (ForInStep.yield PUnit.unit))) Q E s
  | [], s, es, n, hs, _, _, _, h => by
    rw [List.forIn_nil]
    refine wpAny_pure ?_
    have e : es ++ kwEs w.params s.toks [] = es := List.append_nil _
    rw [e] at h
    show Q ⟨⟩ s
    have z : ({ s with heap := h0.push (dictOf es (n + ([] : List (Str × Value)).length)), toks := s.toks + ([] : List (Str × Value)).length } : Shared) = s := by
      show ({ s with heap := h0.push (dictOf es n), toks := s.toks } : Shared) = s
      rw [← hs]
    rw [z] at h
    exact h
  | x :: r, s, es, n, hs, hne, hr, hn, h => by
    obtain ⟨hn1, hn2⟩ := List.nodup_cons.mp (show (x.1 :: r.map (·.1)).Nodup from hn)
    rw [List.forIn_cons]
    refine wpAny_bind (wpAny_bind (kw_set hs (fun e he => hne e he x (.head _)) hr (wpAny_pure ?_)))
    show wpAny (model prog w) A (forIn r PUnit.unit fun x _ => (nsSet h0.objs.size x.1 x.2 >>= fun _ => pure (ForInStep.yield PUnit.unit))) Q E _
    refine kw_fill r _ _ _ rfl (fun e he y hy => ?_) (fun e he => ?_) hn2 ?_
    · rcases List.mem_append.mp he with he | he
      · exact hne e he y (.tail _ hy)
      · obtain rfl := List.mem_singleton.mp he
        exact beq_eq_false_iff_ne.mpr fun q => hn1 (by rw [q]; exact List.mem_map_of_mem hy)
    · rcases List.mem_append.mp he with he | he
      · exact hr e he
      · obtain rfl := List.mem_singleton.mp he
        rfl
    · have t1 : s.toks + 1 + r.length = s.toks + (r.length + 1) := by omega
      have t2 : n + 1 + r.length = n + (r.length + 1) := by omega
      show Q ⟨⟩ { s with heap := h0.push (dictOf ((es ++ [_]) ++ kwEs w.params (s.toks + 1) r) (n + 1 + r.length)), toks := s.toks + 1 + r.length }
      rw [t1, t2, List.append_assoc]
      exact h
end
def kkv {α : Type} (ks : List Str) (xs : List α) : List (Key × α) := (ks.zip xs).map fun p => (Sum.inr p.1, p.2)
theorem kwEs_mix {P : Program} {w : World} : ∀ (ks : List Str) (ws : List Value) (t : Tok), Pairs (mixKind P w) (kwEs w.params t (ks.zip ws)) (kkv ks ws)
  | [], _, _ => Pairs.nil
  | _ :: _, [], _ => Pairs.nil
  | k :: ks, v :: ws, t => Pairs.cons (keyIs_str k t) rfl (kwEs_mix ks ws (t + 1))
theorem kkv_rel : ∀ {ks : List Str} {vs : List V} {us : List Value}, Vals vs us → KV (kkv ks vs) (kkv ks us)
  | [], _, _, _ => .nil
  | _ :: _, _, _, .nil => .nil
  | k :: ks, _, _, .cons r t => .cons ⟨rfl, r⟩ (kkv_rel t)
theorem kkv_len {α : Type} {ks : List Str} {xs : List α} (h : xs.length = ks.length) : (kkv ks xs).length = ks.length := by
  unfold kkv
  rw [List.length_map, List.length_zip, h, Nat.min_self]
theorem kkv_nodup {α : Type} : ∀ {ks : List Str} {xs : List α}, ks.Nodup → ((kkv ks xs).map (·.1)).Nodup
  | [], _, _ => List.nodup_nil
  | _ :: _, [], _ => List.nodup_nil
  | k :: ks, x :: xs, h => by
    obtain ⟨h1, h2⟩ := List.nodup_cons.mp h
    refine List.nodup_cons.mpr ⟨fun z => ?_, kkv_nodup h2⟩
    obtain ⟨p, hp, e⟩ := List.mem_map.mp z
    obtain ⟨q, hq, e2⟩ := List.mem_map.mp (show p ∈ ((ks.zip xs).map fun p => ((Sum.inr p.1 : Key), p.2)) from hp)
    subst e2
    have e : (Sum.inr q.1 : Key) = Sum.inr k := e
    injection e with e
    exact h1 (e ▸ (List.of_mem_zip hq).1)

/-! ### what a def promises of calls with keywords -/
abbrev MFK := List U → List U → VS → Go U
def FnMK (P : Program) (w : World) (K : PySem.W.Frag) (mg : Str → Option Value) (base : Heap) (γ : Nat → Addr) (k : Nat) (f : Addr) (n : Nat) (ks : List Str) (mfk : MFK) : Prop :=
  ∀ (A : Around) (outer : List Env) (s : Shared) (H : Hp) (us ws : List Value) (vs zs : List V) (Q : VK), Room k A → Env0 P w K mg base A outer s H → Vals vs us → Vals zs ws → vs.length = n → zs.length = ks.length →
    (∃ ρ st uu uw κ, Rep γ ρ st H ∧ RL γ ρ uu vs ∧ RL γ ρ uw zs ∧ mfk uu uw st (noX κ) = true ∧ OkK γ (RU γ) ρ H (noX κ) Q) →
    codeAny (model P w) A (.call (.ref f) ⟨us, ks.zip ws⟩) (CR CX0 outer P w H s Q E0) s
section
variable {P : Program} {w : World} {K : PySem.W.Frag} {mg : Str → Option Value} {base : Heap} {γ : Nat → Addr} {k : Nat} {f : Addr}
/-- parameters by their names -/
theorem fnMK_of {fd : FuncData} {ps ks : List Str} {np n : Nat} {mf : MF} {gr : List Value → List Value → List Value} {gV : List V → List V → List V} {gU : List U → List U → List U} (F : FnOk P w K mg base CX0 k f fd ps (SpM γ np mf)) (hb : KBn K fd ps n ks gr gV)
    (hgu : ∀ {ρ us vs ws zs}, RL γ ρ us vs → RL γ ρ ws zs → RL γ ρ (gU us ws) (gV vs zs)) (hl : ∀ vs zs, vs.length = n → zs.length = ks.length → (gV vs zs).length = np) : FnMK P w K mg base γ k f n ks (fun us ws st => mf (gU us ws) st) :=
  fun A outer s H us ws vs zs Q hr e0 r rz l1 l2 ⟨ρ, st, uu, uw, κ, R, ru, rw_, hm, ok⟩ =>
    F.run A outer s H ⟨us, ks.zip ws⟩ (gr us ws) (gV vs zs) Q E0 hr e0 (hb.to s us ws (e0.mod.kin.keeps fun b o e => (e0.bs b o e).1) (r.length.symm.trans l1) (rz.length.symm.trans l2)) (hb.rel r rz) ⟨hl vs zs l1 l2, ρ, st, gU uu uw, κ, R, hgu ru rw_, hm, ok⟩
/-- def f(a, .., **d) -/
theorem fn_kwM {x qual : Str} {params : Arguments} {body : List Stmt} {scope : Scope} {fd : FuncData} {N ps ks : List Str} {pd : Str} {np nl : Nat} {m : MS} (F : FunD K x qual params body scope [] [] f fd) (S : FnScope N (ps ++ [pd]) scope) (hnp : ps.length = np) (hN : N.length = (np + 1) + nl) (hks : ks.Nodup) (hkl : ks.length ≤ 1000)
    (hb : ∀ (kV doc pm : Value) (an : Option Addr) (cdv ct : Value) (us ws : List Value), us.length = ps.length → ws.length = ks.length → bindArgs (PySem.W.fnOf x qual params body scope .none kV doc pm an cdv ct) ⟨us, ks.zip ws⟩ =
      ((alloc ({ cls := .type "dict", data := .dict #[] } : Obj) : Sem Addr) >>= fun d => (forIn (ks.zip ws) PUnit.unit fun x _ => (nsSet d x.1 x.2 >>= fun _ => pure (ForInStep.yield PUnit.unit))) >>= fun _ => pure (ps.zip us ++ [(pd, Value.ref d)])))
    (h : ∀ (cdv : Value) (A : Around) (outer : List Env) (s : Shared) (H : Hp), Room k (A.deeper (envOfC qual scope s.heap.objs.size f cdv)) → SSs γ W0 (cxOf CX0 P w K mg base N qual scope f cdv A outer s H E0).nox body m) :
    FnMK P w K mg base γ (k + 1) f np ks (fun us ws st => mDef (np + 1) nl m (us ++ [.ref st.n]) (st.new (.dct false (kkv ks ws)))) := by
  obtain ⟨oc, od, dV, kV, doc, pm, an, cdv, ct, osl, rfl, lk, hcd, hD, _⟩ := F.ex
  rcases hD with ⟨_, rfl⟩ | ⟨e, _⟩
  case inr => exact absurd rfl e
  intro A outer s H us ws vs zs Q hr e0 r rz l1 l2 ⟨ρ, st, uu, uw, κ, R, ru, rw_, hm, ok⟩
  have hn : H s.heap.objs.size = Option.none := e0.hok.fresh (Nat.le_refl _)
  have lu : us.length = ps.length := by rw [← r.length, l1, hnp]
  have lw : ws.length = ks.length := by rw [← rz.length, l2]
  refine StX.run_bnd lk hcd S hr e0 (G := fun xs H2 => ∃ d, H d = Option.none ∧ xs = vs ++ [V.ref d] ∧ H2 = upd H d (.dK (kkv ks zs))) (fun A' Ex Q' h' => ?_) fun s2 H2 xs ⟨d, hd, ex, eH⟩ hr' => ?_
  · rw [hb kV doc pm an cdv ct us ws lu lw]
    refine wpAny_bind (wpAny_alloc ?_)
    refine wpAny_bind (kw_fill (h0 := s.heap) (ks.zip ws) _ [] 0 rfl (fun e he => nomatch he) (fun e he => nomatch he) ?_ (wpAny_pure ?_))
    · rw [List.map_fst_zip (by rw [lw]; exact Nat.le_refl _)]
      exact hks
    · have new : ObjOk P w (upd H s.heap.objs.size (.dK (kkv ks zs))) (s.heap.push (dictOf (kwEs w.params s.toks (ks.zip ws)) (ks.zip ws).length)) s.heap.objs.size (.dK (kkv ks zs)) := by
        refine ⟨by rw [kkv_len l2]; exact Nat.le_trans hkl (by decide), beq_eq_false_iff_ne.mpr (Ne.symm (Nat.ne_of_lt (StX.env0_big e0))), kkv ks ws, kkv_rel rz, ?_⟩
        refine ⟨_, (kwEs w.params s.toks (ks.zip ws)).toArray, _, Heap.get?_push_size _ rfl, ⟨rfl, rfl, rfl⟩, rfl, fun e he => ?_, kwEs_mix ks ws s.toks, kkv_nodup hks⟩
        obtain ⟨x, u, hx, hh⟩ := kwEs_key (ks.zip ws) s.toks e (List.mem_toArray.mp he)
        exact ⟨Sum.inr x, by rw [hx]; exact keyIs_str x u, hh⟩
      have un := StX.un_laid (fs := frs outer) (s := s) (o := dictOf (kwEs w.params s.toks (ks.zip ws)) (ks.zip ws).length) (u := .dK (kkv ks zs)) hn
      have e1 := StX.env0_laid e0 new
      have z := h' { s with heap := s.heap.push (dictOf (kwEs w.params s.toks (ks.zip ws)) (0 + (ks.zip ws).length)), toks := s.toks + (ks.zip ws).length } _ (vs ++ [V.ref s.heap.objs.size]) (us ++ [Value.ref s.heap.objs.size]) (by rw [Nat.zero_add]; exact ⟨e1.frames, e1.mod, e1.bs, e1.bsz, e1.funs, e1.frf, e1.hok, e1.bare⟩) (by rw [Nat.zero_add]; exact un) rfl (fun e s' q => q) (r.append (.cons rfl .nil))
        (by rw [List.length_append, List.length_append, l1, hnp] <;> rfl) ⟨_, hn, rfl, rfl⟩
      rw [List.zip_append lu.symm] at z
      exact z
  · subst ex eH
    obtain ⟨t, p, q⟩ := h cdv A outer s2 (upd H d (.dK (kkv ks zs))) hr'
    have ro : RO γ (ρ ++ [d]) (upd H d (.dK (kkv ks zs))) d (.dct false (kkv ks uw)) := ⟨_, upd_same, ?_⟩
    · obtain ⟨R2, S2⟩ := R.new hd (new_upd hd) ro
      have rd : RU γ (ρ ++ [d]) (.ref st.n) (.ref d) := ⟨d, by rw [← R.len, List.getElem?_append_right (Nat.le_refl _), Nat.sub_self]; rfl, rfl⟩
      have hm2 : (match Nat.beq (uu ++ [U.ref st.n]).length (np + 1) with
        | true => m ((uu ++ [U.ref st.n]).map some ++ List.replicate nl none) (st.new (.dct false (kkv ks uw))) fun o _ st' => match o with
          | .nx => noX κ (.ok .non) st'
          | .rt u => noX κ (.ok u) st'
          | .ex x => noX κ (.ex x) st'
          | .bk => false
          | .ct => false
        | false => false) = true := hm
      cases zz : Nat.beq (uu ++ [U.ref st.n]).length (np + 1) with
      | false => rw [zz] at hm2; cases hm2
      | true =>
        rw [zz] at hm2
        have es : L2.start N (vs ++ [V.ref d]) = (vs ++ [V.ref d]).map some ++ List.replicate nl none := by
          unfold L2.start
          rw [hN, List.length_append, l1]
          show _ ++ List.replicate (np + 1 + nl - (np + 1)) none = _
          rw [Nat.add_sub_cancel_left]
        refine ⟨t, PSs.nox p, ?_⟩
        rw [es]
        refine q (ρ ++ [d]) _ _ _ _ R2 (fr_start (Paired.snoc ru.mono rd) nl) _ _ hm2 ⟨fun ρ1 st1 H1 σ1 τ1 s1 R1 F1 k1 => ok.step S2 ρ1 st1 H1 .non .non s1 R1 rfl k1, fun _ _ _ _ _ _ _ _ k1 => ?_, fun _ _ _ _ _ _ _ _ k1 => ?_, fun ρ1 st1 H1 σ1 u v s1 R1 r1 k1 => ok.step S2 ρ1 st1 H1 u v s1 R1 r1 k1, fun ρ1 st1 H1 σ1 τ1 x c d s1 R1 F1 r1 k1 => ?_⟩
        · cases k1
        · cases k1
        · cases k1
    · clear hm lw l2
      have key : ∀ (ks : List Str) (a : List U) (b : List V), RL γ ρ a b → RK γ (ρ ++ [d]) (kkv ks a) (kkv ks b) := by
        intro ks
        induction ks with
        | nil => intro a b _; exact .nil
        | cons k ks ih =>
          intro a b hab
          cases hab with
          | nil => exact .nil
          | cons r t => exact .cons ⟨rfl, r.mono⟩ (ih _ _ t)
      exact key ks uw zs rw_
end

/-! ### the calls -/
section
variable {γ : Nat → Addr} {W : WX} {X : Cx} {g : GT} {k n : Nat} {f C : Addr} {mfk : MFK} {ks : List Str}
def WkK (γ : Nat → Addr) (mfk : MFK) (vs zs : List V) (H : Hp) (Q : VK) : Prop := ∃ ρ st uu uw κ, Rep γ ρ st H ∧ RL γ ρ uu vs ∧ RL γ ρ uw zs ∧ mfk uu uw st (noX κ) = true ∧ OkK γ (RU γ) ρ H (noX κ) Q
abbrev FnMKX (X : Cx) (γ : Nat → Addr) (k : Nat) (f : Addr) (n : Nat) (ks : List Str) (mfk : MFK) : Prop := FnMK X.prog X.w X.K X.mg X.base γ k f n ks mfk
theorem run_fnMK {pins : List (Addr × Obj)} {σ : L2.St} {H : Hp} {s : Shared} {Q : VK} {us ws : List Value} {vs zs : List V} (F : FnMKX X γ k f n ks mfk) (hr : Room k X.A) (I : Inv X pins σ H s) (r : Vals vs us) (rz : Vals zs ws) (l1 : vs.length = n) (l2 : zs.length = ks.length) (h : WkK γ mfk vs zs H Q) :
    codeAny (model X.prog X.w) X.A (.call (.ref f) ⟨us, ks.zip ws⟩) (fun r s' => match r with | .ok (.ret v) => EP X pins σ Q v s' | .ok _ => False | .error e => X.xe e s') s := by
  refine codeAny_mono (F X.A X.stack s H us ws vs zs Q hr I.env0 r rz l1 l2 h) fun r s' hq => ?_
  cases r with
  | error e => exact False.elim hq
  | ok fl =>
    cases fl with
    | ret u => exact I.after hq
    | next => exact False.elim hq
    | brk => exact False.elim hq
    | cont => exact False.elim hq
def callK (mfk : MFK) (n m : Nat) (us ws : List U) (st : VS) : Go U := fun κ => match Nat.beq us.length n, Nat.beq ws.length m with
  | true, true => mfk us ws st (noX fun u st' => κ (.ok u) st')
  | _, _ => false
theorem sim_callK {ρ : List Addr} {st : VS} {H : Hp} {τ : L2.St} {m : Nat} {us ws : List U} {vs zs : List V} (R : Rep γ ρ st H) (r : RL γ ρ us vs) (r' : RL γ ρ ws zs) : SimAt γ W τ (RU γ) ρ H (fun Q => vs.length = n ∧ zs.length = m ∧ WkK γ mfk vs zs H Q) (callK mfk n m us ws st) := fun κ Q hm ok _ => by
  have hm2 : (match Nat.beq us.length n, Nat.beq ws.length m with | true, true => mfk us ws st (noX fun u st' => κ (.ok u) st') | _, _ => false) = true := hm
  cases q : Nat.beq us.length n with
  | false => rw [q] at hm2; cases hm2
  | true =>
    cases q2 : Nat.beq ws.length m with
    | false => rw [q, q2] at hm2; cases hm2
    | true =>
      rw [q, q2] at hm2
      exact ⟨r.length.symm.trans (Nat.eq_of_beq_eq_true q), r'.length.symm.trans (Nat.eq_of_beq_eq_true q2), ρ, st, us, ws, _, R, r, r', hm2, fun ρ' st' H' u v s R' r' k => ok ρ' st' H' u v s R' r' k⟩
def tCallK (γ : Nat → Addr) (mfk : MFK) (n m : Nat) (t tk : TA) : TE := fun σ H Q => t σ H fun vs H1 => tk σ H1 fun zs H2 => vs.length = n ∧ zs.length = m ∧ WkK γ mfk vs zs H2 Q
def mCallK (mfk : MFK) (n m : Nat) (ms mk : MA) : ME := fun σ st => bnd (ms σ st) fun us st1 => bnd (mk σ st1) fun ws st2 => callK mfk n m us ws st2
theorem sim_callsK {m : Nat} {t tk : TA} {ms mk : MA} (s : ∀ ρ st H σ τ, Rep γ ρ st H → FrR γ ρ σ τ → SimAt γ W τ (RL γ) ρ H (t τ H) (ms σ st)) (s' : ∀ ρ st H σ τ, Rep γ ρ st H → FrR γ ρ σ τ → SimAt γ W τ (RL γ) ρ H (tk τ H) (mk σ st)) (ρ st H σ τ) (R : Rep γ ρ st H) (F : FrR γ ρ σ τ) :
    SimAt γ W τ (RU γ) ρ H (tCallK γ mfk n m t tk τ H) (mCallK mfk n m ms mk σ st) := fun κ Q hm ok ex =>
  s ρ st H σ τ R F _ _ hm (fun ρ1 st1 H1 us vs s1 R1 r1 k1 => s' ρ1 st1 H1 σ τ R1 (F.step s1) _ _ k1 (fun ρ2 st2 H2 ws zs s2 R2 r2 k2 => sim_callK (W := W) (τ := τ) R2 (s2.rl r1) r2 _ _ k2 (ok.step (s1.trans s2)) (ex.step (s1.trans s2))) (ex.step s1)) ex
/-- f(e, .., k = v, ..) -/
theorem se_callK {x : Str} {e : Expr} {es : List Expr} {kws : List Keyword} {p pos : Pos} {ms mk : MA} (F : FnMKX X γ k f n ks mfk) (hr : Room k X.A) (hm : X.mg x = some (.ref f)) (hk : PySem.W.keepIn X.K (.ref f) = true) (ha : SA γ W X (e :: es) ms) (hkw : SK γ W X kws mk) (hg : Gl X x := by rfl)
    (hall : (backToKw pos (keywordEach kws X.env)).all (·.1.isSome) = true := by rfl) (hks : (backToKw pos (keywordEach kws X.env)).filterMap (·.1) = ks := by rfl) (hdb : (x == ("__debug__" : Str)) = false := by decide)
    (he : starEach (e :: es) X.env = (false, eval e X.env) :: starEach es X.env := by rfl) (hpl : ((backTo pos (starEach (e :: es) X.env)).any (·.1) || (backToKw pos (keywordEach kws X.env)).any (·.1.isNone)) = false := by rfl) :
    SE γ W X (.Call (.Name x p) (e :: es) kws pos) (mCallK mfk n ks.length ms mk) := by
  obtain ⟨t, pa, s⟩ := ha
  obtain ⟨tk, pk, sk⟩ := hkw
  refine ⟨tCallK γ mfk n ks.length t tk, ⟨fun pins s σ H Q I h => ?_⟩, sim_callsK s sk⟩
  refine wpAny_Call_Name_kw (ld_glob I hg hm ?_ hdb)
  refine PySem.W.callWith_KW (h₀ := X.base) I.ok.mod.kin hk hall (thn (pa.run pos pins s σ H _ I h) fun us s1 ⟨vs, H1, I1, r, q⟩ => ?_) hpl he
  refine thn (pk.run pos pins s1 σ H1 _ I1 q) fun ws s2 ⟨zs, H2, I2, rz, l1, l2, q2⟩ => ⟨I2.kIn, ?_⟩
  rw [hks]
  exact wpAny_call (run_fnMK F hr I2 r rz l1 l2 q2)
/-- f(k = v, ..) -/
theorem se_callK0 {x : Str} {kws : List Keyword} {p pos : Pos} {mk : MA} (F : FnMKX X γ k f n ks mfk) (hr : Room k X.A) (hm : X.mg x = some (.ref f)) (hk : PySem.W.keepIn X.K (.ref f) = true) (hkw : SK γ W X kws mk) (hg : Gl X x := by rfl)
    (hall : (backToKw pos (keywordEach kws X.env)).all (·.1.isSome) = true := by rfl) (hks : (backToKw pos (keywordEach kws X.env)).filterMap (·.1) = ks := by rfl) (hdb : (x == ("__debug__" : Str)) = false := by decide)
    (hpl : ((backTo pos (starEach [] X.env)).any (·.1) || (backToKw pos (keywordEach kws X.env)).any (·.1.isNone)) = false := by rfl) :
    SE γ W X (.Call (.Name x p) [] kws pos) (mCallK mfk n ks.length mNil mk) := by
  obtain ⟨tk, pk, sk⟩ := hkw
  refine ⟨tCallK γ mfk n ks.length tNil tk, ⟨fun pins s σ H Q I h => ?_⟩, sim_callsK (fun ρ st H σ τ R F => SimAt.ret R .nil) sk⟩
  refine wpAny_Call_Name_kw (ld_glob I hg hm ?_ hdb)
  refine PySem.W.callWith_KW0 (h₀ := X.base) I.ok.mod.kin hk hall ?_ hpl
  refine thn (pk.run pos pins s σ H _ I h) fun ws s2 ⟨zs, H2, I2, rz, l1, l2, q2⟩ => ⟨I2.kIn, ?_⟩
  rw [hks]
  exact wpAny_call (run_fnMK F hr I2 .nil rz l1 l2 q2)
/-- o.m(e, .., k = v, ..) -/
def mMethK (c : Nat) (m : Str) (mfk : MFK) (n nk : Nat) (mo : ME) (ms mk : MA) : ME := fun σ st => bnd (mo σ st) fun u st1 => match u with
  | .ref i => match st1.get i with
    | some (.ins c' fs) => match Nat.beq c' c, fGet m fs with
      | true, none => bnd (ms σ st1) fun us st2 => bnd (mk σ st2) fun ws st3 => callK mfk n nk (.ref i :: us) ws st3
      | _, _ => bad
    | _ => bad
  | _ => bad
def tMethK (γ : Nat → Addr) (C : Addr) (m : Str) (mfk : MFK) (n nk : Nat) (ta : TE) (t tk : TA) : TE := fun σ H Q => ta σ H fun x H1 => ∃ a dx fs, x = .ref a ∧ H1 a = some (.ins C dx fs) ∧ fs.lookup m = none ∧ t σ H1 fun vs H2 => tk σ H2 fun zs H3 => (x :: vs).length = n ∧ zs.length = nk ∧ WkK γ mfk (x :: vs) zs H3 Q
theorem sim_methK {c nk : Nat} {m : Str} {ta : TE} {t tk : TA} {mo : ME} {ms mk : MA} (sa : ∀ ρ st H σ τ, Rep γ ρ st H → FrR γ ρ σ τ → SimAt γ W τ (RU γ) ρ H (ta τ H) (mo σ st)) (s : ∀ ρ st H σ τ, Rep γ ρ st H → FrR γ ρ σ τ → SimAt γ W τ (RL γ) ρ H (t τ H) (ms σ st))
    (s' : ∀ ρ st H σ τ, Rep γ ρ st H → FrR γ ρ σ τ → SimAt γ W τ (RL γ) ρ H (tk τ H) (mk σ st)) (ρ st H σ τ) (R : Rep γ ρ st H) (F : FrR γ ρ σ τ) :
    SimAt γ W τ (RU γ) ρ H (tMethK γ (γ c) m mfk n nk ta t tk τ H) (mMethK c m mfk n nk mo ms mk σ st) := fun κ Q hm ok ex =>
  sa ρ st H σ τ R F _ _ hm (fun ρ1 st1 H1 u v s1 R1 r1 k1 => by
    cases u with
    | ref i =>
      have k2 : (match st1.get i with
        | some (.ins c' fs) => (match Nat.beq c' c, fGet m fs with
          | true, none => bnd (ms σ st1) fun us st2 => bnd (mk σ st2) fun ws st3 => callK mfk n nk (.ref i :: us) ws st3
          | _, _ => bad)
        | _ => bad) κ = true := k1
      cases q : st1.get i with
      | none => rw [q] at k2; cases k2
      | some o =>
        rw [q] at k2
        cases o with
        | ins c' fs =>
          obtain ⟨a, ev, ea, dx, ws, hh, rf⟩ := R1.get q r1
          subst ev
          have k3 : (match Nat.beq c' c, fGet m fs with
            | true, none => bnd (ms σ st1) fun us st2 => bnd (mk σ st2) fun ws st3 => callK mfk n nk (.ref i :: us) ws st3
            | _, _ => bad) κ = true := k2
          cases qc : Nat.beq c' c with
          | false => rw [qc] at k3; cases k3
          | true =>
            have ec := Nat.eq_of_beq_eq_true qc
            subst ec
            cases qf : fGet m fs with
            | some w => rw [qc, qf] at k3; cases k3
            | none =>
              rw [qc, qf] at k3
              have hl : ws.lookup m = none := by
                rcases rf.get (f := m) with ⟨_, e⟩ | ⟨_, _, e, _⟩
                · exact e
                · rw [qf] at e; cases e
              exact ⟨a, dx, ws, rfl, hh, hl, s ρ1 st1 H1 σ τ R1 (F.step s1) _ _ k3 (fun ρ2 st2 H2 us vs s2 R2 r2 k4 => s' ρ2 st2 H2 σ τ R2 (F.step (s1.trans s2)) _ _ k4 (fun ρ3 st3 H3 ws zs s3 R3 r3 k5 =>
                sim_callK (W := W) (τ := τ) R3 (.cons ((s2.trans s3).ru r1) (s3.rl r2)) r3 _ _ k5 (ok.step (s1.trans (s2.trans s3))) (ex.step (s1.trans (s2.trans s3)))) (ex.step (s1.trans s2))) (ex.step s1)⟩
        | lst _ => cases k2
        | fl _ => cases k2
        | tup _ => cases k2
        | dct _ _ => cases k2
    | non => cases k1
    | bl _ => cases k1
    | int _ => cases k1
    | str _ => cases k1
    | glo _ => cases k1
    | ty _ => cases k1) ex
theorem se_methK {c : Nat} {o e : Expr} {es : List Expr} {kws : List Keyword} {m : Str} {apos pos : Pos} {mo : ME} {ms mk : MA} {pl : Sem Bool} (hc : Cls X.K (γ c)) (hme : Meth X.K (γ c) m f) (F : FnMKX X γ k f n ks mfk) (hr : Room k X.A) (ho : SE γ W X o mo) (ha : SA γ W X (e :: es) ms) (hkw : SK γ W X kws mk)
    (hall : (backToKw pos (keywordEach kws X.env)).all (·.1.isSome) = true := by rfl) (hks : (backToKw pos (keywordEach kws X.env)).filterMap (·.1) = ks := by rfl)
    (he : starEach (e :: es) X.env = (false, eval e X.env) :: starEach es X.env := by rfl) (hpl : ((backTo pos (starEach (e :: es) X.env)).any (·.1) || (backToKw pos (keywordEach kws X.env)).any (·.1.isNone)) = false := by rfl)
    (ht : eval (.Call (.Attribute o m apos) (e :: es) kws pos) X.env = (do
      let ov ← eval o X.env
      standAt apos.atName
      let (f, first) ← holding [ov] (getMethod ov m pl)
      callWith pos f first (backTo pos (starEach (e :: es) X.env)) (backToKw pos (keywordEach kws X.env))) := by rfl) : SE γ W X (.Call (.Attribute o m apos) (e :: es) kws pos) (mMethK c m mfk n ks.length mo ms mk) := by
  obtain ⟨to, po, so⟩ := ho
  obtain ⟨t, pa, s⟩ := ha
  obtain ⟨tk, pk, sk⟩ := hkw
  refine ⟨tMethK γ (γ c) m mfk n ks.length to t tk, ⟨fun pins s σ H Q I h => ?_⟩, sim_methK so s sk⟩
  refine PySem.W.methodCall_KW (pl := pl) (thn (po.run pins s σ H _ I h) fun u s1 ⟨x, H1, I1, rx, a, dx, fs, ex, ea, l, q⟩ => ?_) ht
  subst ex
  obtain rfl : u = Value.ref a := rx
  refine getmeth_ok I1 ea hc hme l ?_
  refine PySem.W.callWith_KW (h₀ := X.base) (first := [.ref a]) I1.ok.mod.kin hme.kp hall (thn (pa.run pos pins s1 σ H1 _ I1 q) fun us s2 ⟨vs, H2, I2, r, q2⟩ => ?_) hpl he
  refine thn (pk.run pos pins s2 σ H2 _ I2 q2) fun ws s3 ⟨zs, H3, I3, rz, l1, l2, q3⟩ => ⟨I3.kIn, ?_⟩
  rw [hks]
  exact wpAny_call (run_fnMK (vs := .ref a :: vs) F hr I3 (.cons rfl r) rz l1 l2 q3)
theorem se_methK0 {c : Nat} {o : Expr} {kws : List Keyword} {m : Str} {apos pos : Pos} {mo : ME} {mk : MA} {pl : Sem Bool} (hc : Cls X.K (γ c)) (hme : Meth X.K (γ c) m f) (F : FnMKX X γ k f n ks mfk) (hr : Room k X.A) (ho : SE γ W X o mo) (hkw : SK γ W X kws mk)
    (hall : (backToKw pos (keywordEach kws X.env)).all (·.1.isSome) = true := by rfl) (hks : (backToKw pos (keywordEach kws X.env)).filterMap (·.1) = ks := by rfl)
    (hpl : ((backTo pos (starEach [] X.env)).any (·.1) || (backToKw pos (keywordEach kws X.env)).any (·.1.isNone)) = false := by rfl)
    (ht : eval (.Call (.Attribute o m apos) [] kws pos) X.env = (do
      let ov ← eval o X.env
      standAt apos.atName
      let (f, first) ← holding [ov] (getMethod ov m pl)
      callWith pos f first (backTo pos (starEach [] X.env)) (backToKw pos (keywordEach kws X.env))) := by rfl) : SE γ W X (.Call (.Attribute o m apos) [] kws pos) (mMethK c m mfk n ks.length mo mNil mk) := by
  obtain ⟨to, po, so⟩ := ho
  obtain ⟨tk, pk, sk⟩ := hkw
  refine ⟨tMethK γ (γ c) m mfk n ks.length to tNil tk, ⟨fun pins s σ H Q I h => ?_⟩, sim_methK so (fun ρ st H σ τ R F => SimAt.ret R .nil) sk⟩
  refine PySem.W.methodCall_KW (pl := pl) (thn (po.run pins s σ H _ I h) fun u s1 ⟨x, H1, I1, rx, a, dx, fs, ex, ea, l, q⟩ => ?_) ht
  subst ex
  obtain rfl : u = Value.ref a := rx
  refine getmeth_ok I1 ea hc hme l ?_
  refine PySem.W.callWith_KW0 (h₀ := X.base) (first := [.ref a]) I1.ok.mod.kin hme.kp hall ?_ hpl
  refine thn (pk.run pos pins s1 σ H1 _ I1 q) fun ws s3 ⟨zs, H3, I3, rz, l1, l2, q3⟩ => ⟨I3.kIn, ?_⟩
  rw [hks]
  exact wpAny_call (run_fnMK (us := [.ref a]) (vs := [.ref a]) F hr I3 (.cons rfl .nil) rz l1 l2 q3)
end

/-! ### C(e, .., k = v, ..) -/
section
variable {γ : Nat → Addr} {W : WX} {X : Cx} {g : GT} {k n : Nat} {f C : Addr} {mfk : MFK} {ks : List Str}
theorem run_makeMK {pins : List (Addr × Obj)} {σ : L2.St} {H : Hp} {s : Shared} {Q : VK} {us ws : List Value} {vs zs : List V} (M : Mk X.K C f) (F : FnMKX X γ k f (n + 1) ks mfk) (hr : Room (k + 1) X.A) (I : Inv X pins σ H s) (r : Vals vs us) (rz : Vals zs ws) (l1 : vs.length = n) (l2 : zs.length = ks.length)
    (h : ∀ x dx, H x = none → H dx = none → dx ≠ x → WkK γ mfk (.ref x :: vs) zs (upd (upd H dx (.own x)) x (.ins C dx [])) (fun v H2 => v = .non ∧ Q (.ref x) H2)) :
    wpAny (model X.prog X.w) X.A (call (.ref C) us (ks.zip ws)) (EP X pins σ Q) X.xe s := by
  have hq := h (s.heap.objs.size + 1) s.heap.objs.size (I.hok.fresh (Nat.le_succ _)) (I.hok.fresh (Nat.le_refl _)) (Nat.ne_of_lt (Nat.lt_succ_self _))
  have I2 := Inv.made (C := C) I
  have r1 : Vals (V.ref (s.heap.objs.size + 1) :: vs) (Value.ref (s.heap.objs.size + 1) :: us) := .cons rfl r
  refine wpAny_call (make_map (f := f) I.kIn M.makes M.init (beq_iff_eq.mp M.fn) (codeAny_mono (F _ X.stack _ _ (Value.ref (s.heap.objs.size + 1) :: us) ws _ zs _ (hr.make C us (ks.zip ws)) (I2.env0.make C us (ks.zip ws)) r1 rz (by rw [List.length_cons, l1]) l2 hq) fun r s' hq' => ?_))
  cases r with
  | error e => exact False.elim hq'
  | ok fl =>
    cases fl with
    | ret u =>
      obtain ⟨v, H', I3, rv, ev, q3⟩ := I2.after hq'
      subst ev
      exact ⟨rv, V.ref (s.heap.objs.size + 1), H', I3, rfl, q3⟩
    | next => exact False.elim hq'
    | brk => exact False.elim hq'
    | cont => exact False.elim hq'
def tMakeMK (γ : Nat → Addr) (C : Addr) (mfk : MFK) (n m : Nat) (t tk : TA) : TE := fun σ H Q => t σ H fun vs H1 => tk σ H1 fun zs H2 => vs.length = n ∧ zs.length = m ∧ ∀ x dx, H2 x = none → H2 dx = none → dx ≠ x → WkK γ mfk (.ref x :: vs) zs (upd (upd H2 dx (.own x)) x (.ins C dx [])) (fun v H3 => v = .non ∧ Q (.ref x) H3)
def mMakeMK (c : Nat) (mfk : MFK) (n m : Nat) (ms mk : MA) : ME := fun σ st => bnd (ms σ st) fun us st1 => bnd (mk σ st1) fun ws st2 κ => match Nat.beq us.length n, Nat.beq ws.length m with
  | true, true => mfk (.ref st2.n :: us) ws (st2.new (.ins c [])) (noX fun u st3 => match u with
    | .non => κ (.ok (.ref st2.n)) st3
    | _ => false)
  | _, _ => false
theorem sim_makeMK {c m : Nat} {t tk : TA} {ms mk : MA} (s : ∀ ρ st H σ τ, Rep γ ρ st H → FrR γ ρ σ τ → SimAt γ W τ (RL γ) ρ H (t τ H) (ms σ st)) (s' : ∀ ρ st H σ τ, Rep γ ρ st H → FrR γ ρ σ τ → SimAt γ W τ (RL γ) ρ H (tk τ H) (mk σ st)) (ρ st H σ τ) (R : Rep γ ρ st H) (F : FrR γ ρ σ τ) :
    SimAt γ W τ (RU γ) ρ H (tMakeMK γ (γ c) mfk n m t tk τ H) (mMakeMK c mfk n m ms mk σ st) := fun κ Q hm ok ex =>
  s ρ st H σ τ R F _ _ hm (fun ρ1 st1 H1 us vs s1 R1 r1 k1 => s' ρ1 st1 H1 σ τ R1 (F.step s1) _ _ k1 (fun ρ2 st2 H2 ws zs s2 R2 r2 k2 => by
    have k3 : (match Nat.beq us.length n, Nat.beq ws.length m with
      | true, true => mfk (.ref st2.n :: us) ws (st2.new (.ins c [])) (noX fun (u : U) st3 => match u with
        | .non => κ (.ok (.ref st2.n)) st3
        | _ => false)
      | _, _ => false) = true := k2
    cases q1 : Nat.beq us.length n with
    | false => rw [q1] at k3; cases k3
    | true =>
      cases q2 : Nat.beq ws.length m with
      | false => rw [q1, q2] at k3; cases k3
      | true =>
        rw [q1, q2] at k3
        refine ⟨by rw [← r1.length]; exact Nat.eq_of_beq_eq_true q1, by rw [← r2.length]; exact Nat.eq_of_beq_eq_true q2, fun x dx hx hdx ne => ?_⟩
        have ro : RO γ (ρ2 ++ [x]) (upd (upd H2 dx (.own x)) x (.ins (γ c) dx [])) x (.ins c []) := ⟨dx, [], upd_same, .nil⟩
        have hk : ∀ a u, H2 a = some u → (upd (upd H2 dx (.own x)) x (.ins (γ c) dx [])) a = some u := fun a u e => by
          rw [upd_ne (ne_of_none e hx), upd_ne (ne_of_none e hdx)]; exact e
        obtain ⟨R3, S3⟩ := R2.new hx hk ro
        have ex0 : (ρ2 ++ [x])[st2.n]? = some x := by rw [← R2.len, List.getElem?_append_right (Nat.le_refl _), Nat.sub_self]; rfl
        have rx : RU γ (ρ2 ++ [x]) (.ref st2.n) (.ref x) := ⟨x, ex0, rfl⟩
        refine ⟨ρ2 ++ [x], st2.new (.ins c []), .ref st2.n :: us, ws, _, R3, .cons rx ((s2.rl r1).mono), r2.mono, k3, fun ρ4 st4 H4 u v s4 R4 r4 k4 => ?_⟩
        cases u <;> first | (cases k4; done) | skip
        exact ⟨r4, ok ρ4 st4 H4 _ _ (s1.trans (s2.trans (S3.trans s4))) R4 (s4.ru rx) k4⟩) (ex.step s1)) ex
theorem se_makeMK {c : Nat} {x : Str} {e : Expr} {es : List Expr} {kws : List Keyword} {p pos : Pos} {ms mk : MA} (M : Mk X.K (γ c) f) (F : FnMKX X γ k f (n + 1) ks mfk) (hr : Room (k + 1) X.A) (hm : X.mg x = some (.ref (γ c))) (ha : SA γ W X (e :: es) ms) (hkw : SK γ W X kws mk) (hg : Gl X x := by rfl)
    (hall : (backToKw pos (keywordEach kws X.env)).all (·.1.isSome) = true := by rfl) (hks : (backToKw pos (keywordEach kws X.env)).filterMap (·.1) = ks := by rfl) (hdb : (x == ("__debug__" : Str)) = false := by decide)
    (he : starEach (e :: es) X.env = (false, eval e X.env) :: starEach es X.env := by rfl) (hpl : ((backTo pos (starEach (e :: es) X.env)).any (·.1) || (backToKw pos (keywordEach kws X.env)).any (·.1.isNone)) = false := by rfl) :
    SE γ W X (.Call (.Name x p) (e :: es) kws pos) (mMakeMK c mfk n ks.length ms mk) := by
  obtain ⟨t, pa, s⟩ := ha
  obtain ⟨tk, pk, sk⟩ := hkw
  refine ⟨tMakeMK γ (γ c) mfk n ks.length t tk, ⟨fun pins s σ H Q I h => ?_⟩, sim_makeMK s sk⟩
  refine wpAny_Call_Name_kw (ld_glob I hg hm ?_ hdb)
  refine PySem.W.callWith_KW (h₀ := X.base) I.ok.mod.kin M.kp hall (thn (pa.run pos pins s σ H _ I h) fun us s1 ⟨vs, H1, I1, r, q⟩ => ?_) hpl he
  refine thn (pk.run pos pins s1 σ H1 _ I1 q) fun ws s2 ⟨zs, H2, I2, rz, l1, l2, q2⟩ => ⟨I2.kIn, ?_⟩
  rw [hks]
  exact run_makeMK M F hr I2 r rz l1 l2 q2
theorem se_makeMK0 {c : Nat} {x : Str} {kws : List Keyword} {p pos : Pos} {mk : MA} (M : Mk X.K (γ c) f) (F : FnMKX X γ k f 1 ks mfk) (hr : Room (k + 1) X.A) (hm : X.mg x = some (.ref (γ c))) (hkw : SK γ W X kws mk) (hg : Gl X x := by rfl)
    (hall : (backToKw pos (keywordEach kws X.env)).all (·.1.isSome) = true := by rfl) (hks : (backToKw pos (keywordEach kws X.env)).filterMap (·.1) = ks := by rfl) (hdb : (x == ("__debug__" : Str)) = false := by decide)
    (hpl : ((backTo pos (starEach [] X.env)).any (·.1) || (backToKw pos (keywordEach kws X.env)).any (·.1.isNone)) = false := by rfl) :
    SE γ W X (.Call (.Name x p) [] kws pos) (mMakeMK c mfk 0 ks.length mNil mk) := by
  obtain ⟨tk, pk, sk⟩ := hkw
  refine ⟨tMakeMK γ (γ c) mfk 0 ks.length tNil tk, ⟨fun pins s σ H Q I h => ?_⟩, sim_makeMK (fun ρ st H σ τ R F => SimAt.ret R .nil) sk⟩
  refine wpAny_Call_Name_kw (ld_glob I hg hm ?_ hdb)
  refine PySem.W.callWith_KW0 (h₀ := X.base) I.ok.mod.kin M.kp hall ?_ hpl
  refine thn (pk.run pos pins s σ H _ I h) fun ws s2 ⟨zs, H2, I2, rz, l1, l2, q2⟩ => ⟨I2.kIn, ?_⟩
  rw [hks]
  exact run_makeMK (us := []) M F hr I2 .nil rz l1 l2 q2
end
section
variable {P : Program} {w : World} {K : PySem.W.Frag} {mg : Str → Option Value} {base : Heap} {γ : Nat → Addr} {k : Nat} {f : Addr}
/-- without a keyword -/
theorem fnMK_nil {n : Nat} {mfk : MFK} (F : FnMK P w K mg base γ k f n [] mfk) : FnR P w K mg base CX0 k f (SpM γ n (fun us st => mfk us [] st)) := fun A outer s H us vs Q E hr e0 r ⟨hl, ρ, st, uu, κ, R, ru, hm, ok⟩ => by
  have z := F A outer s H us [] vs [] Q hr e0 r .nil hl rfl ⟨ρ, st, uu, [], κ, R, ru, .nil, hm, ok⟩
  refine codeAny_mono z fun r s' hq => ?_
  cases r with
  | error e => exact False.elim hq
  | ok fl => exact hq
/-- all parameters by position or by name, no defaults -/
theorem _root_.L2.FunD.kbindsN {x qual : Str} {params : Arguments} {body : List Stmt} {scope : Scope} {fd : FuncData} {ps : List Str} (F : FunD K x qual params body scope [] [] f fd) (n : Nat) (ks : List Str) (g : {α : Type} → List α → List α → List α)
    (hrel : ∀ {vs zs : List V} {us ws : List Value}, Vals vs us → Vals zs ws → Vals (g vs zs) (g us ws))
    (h : ∀ (kV doc pm : Value) (an : Option Addr) (cdv ct : Value) (us ws : List Value), us.length = n → ws.length = ks.length → bindArgs (PySem.W.fnOf x qual params body scope .none kV doc pm an cdv ct) ⟨us, ks.zip ws⟩ = pure (ps.zip (g us ws))) :
    KBn K fd ps n ks (fun us ws => g us ws) (fun vs zs => g vs zs) := by
  obtain ⟨oc, od, dV, kV, doc, pm, an, cdv, ct, osl, rfl, lk, hcd, hD, hK⟩ := F.ex
  rcases hD with ⟨_, rfl⟩ | ⟨e, _⟩
  · exact ⟨fun s us ws _ l1 l2 => .of_eq (h kV doc pm an cdv ct us ws l1 l2), hrel⟩
  · exact absurd rfl e
/-- the i-th thing alone -/
def nth1 {α : Type} (i : Nat) (l : List α) : List α := (l.drop i).take 1
theorem nth1_rel {α β : Type} {F : α → β → Prop} (i : Nat) {xs : List α} {ys : List β} (h : Paired F xs ys) : Paired F (nth1 i xs) (nth1 i ys) := ptake 1 (pdrop i h)
end
end MV

/-! a, *b, c = a tuple or a list. -/
namespace MV
open PySem PySem.Spec PyProof.Rows L2

section
variable {prog : Program} {w : World} {A : Around} {E : Value → Shared → Prop} {s : Shared}
theorem star_of_list {l : Addr} {items : Array Value} {n i : Nat} {Q : List Value → Shared → Prop} (hl : s.heap.IsList l items) (hh : A.handled = none) (hi : i < n) (hn : n ≤ items.size + 1) (hz : items.size ≤ 16384)
    (h : ∀ h₂ tk, (∀ b o, s.heap.get? b = some o → h₂.get? b = some o) → wpAny (model prog w) A (newList ((items.toList.drop i).take (items.size + 1 - n))) (fun d s' => Q (items.toList.take i ++ [d] ++ (items.toList.drop i).drop (items.size + 1 - n)) s') E { s with heap := h₂, toks := tk }) :
    wpAny (model prog w) A (unpackItems (.ref l) n (some i)) Q E s := by
  obtain ⟨ol, hol, _⟩ := id hl
  have hlt : l ≠ s.heap.objs.size := Nat.ne_of_lt (Heap.lt_size hol)
  unfold unpackItems
  refine wpAny_bind ?_
  unfold notIterableAtAll
  refine wpAny_bind (wpAny_specialOf hl.typeIs slot_list_iter.lookup (wpAny_pure ?_))
  simp only [Bool.false_eq_true, if_false]
  refine wpAny_bind (wpAny_holding (wpAny_pyIter_list hl ?_))
  refine wpAny_bind (wpAny_holding (PySem.W.kun_draw hlt i 0 _ _ ⟨_, Heap.get?_push_size _ rfl, rfl, rfl⟩ (hl.push _) (by omega) fun h₁ hit₁ hs₁ => ?_))
  have hl₁ : h₁.IsList l items := (hl.push _).extBut hs₁.extBut hlt
  rw [Nat.zero_add] at hit₁
  obtain ⟨oi, hoi, _⟩ := id hit₁
  obtain ⟨ol1, hol1, _⟩ := id hl₁
  rw [List.drop_zero]
  have lf : (items.toList.take i).length = i := by rw [List.length_take, Array.length_toList]; omega
  rw [if_neg (show ¬ ((items.toList.take i).length < i) by rw [lf]; omega)]
  refine wpAny_bind (wpAny_holding (PySem.W.kun_collect (s := { s with heap := h₁ }) (T := "list_iterator") (.inr (.inr (.inl rfl))) (Walks.list (A := A.in1) hh s.heap.objs.size l hlt items) (fun j u st => st.1.typeIs) (k := i) (by omega) ⟨hit₁, hl₁⟩ (Heap.lt_size hoi) (Heap.lt_size hol1) (fun h₂ tk hk => ?_) (by rw [sizeLine_eq]; omega)))
  have lr : (items.toList.drop i).length = items.size - i := by rw [List.length_drop, Array.length_toList]
  have lm : (items.toList.drop i).length - (n - 1 - i) = items.size + 1 - n := by rw [lr]; omega
  show wpAny _ _ (if (items.toList.drop i).length < n - 1 - i then _ else _) _ _ _
  rw [if_neg (by rw [lr]; omega)]
  show wpAny _ _ (newList ((items.toList.drop i).take ((items.toList.drop i).length - (n - 1 - i))) >>= fun d => pure (items.toList.take i ++ [d] ++ (items.toList.drop i).drop ((items.toList.drop i).length - (n - 1 - i)))) _ _ _
  rw [lm]
  exact wpAny_bind (wpAny_mono (h h₂ tk fun b o e => hk b o (Nat.ne_of_lt (Heap.lt_size e)) (hs₁.extBut b o (Nat.ne_of_lt (Heap.lt_size e)) (Heap.get?_push_of_some _ e))) (fun d s' q => wpAny_pure q) fun _ _ z => z)
theorem star_of_tup {l : Addr} {items : Array Value} {n i : Nat} {Q : List Value → Shared → Prop} (hl : IsTup s.heap l items) (hh : A.handled = none) (hi : i < n) (hn : n ≤ items.size + 1) (hz : items.size ≤ 16384)
    (h : ∀ h₂ tk, (∀ b o, s.heap.get? b = some o → h₂.get? b = some o) → wpAny (model prog w) A (newList ((items.toList.drop i).take (items.size + 1 - n))) (fun d s' => Q (items.toList.take i ++ [d] ++ (items.toList.drop i).drop (items.size + 1 - n)) s') E { s with heap := h₂, toks := tk }) :
    wpAny (model prog w) A (unpackItems (.ref l) n (some i)) Q E s := by
  obtain ⟨ol, hol, _⟩ := id hl
  have hlt : l ≠ s.heap.objs.size := Nat.ne_of_lt (Heap.lt_size hol)
  unfold unpackItems
  refine wpAny_bind ?_
  unfold notIterableAtAll
  refine wpAny_bind (wpAny_specialOf hl.typeIs slot_tuple_iter.lookup (wpAny_pure ?_))
  simp only [Bool.false_eq_true, if_false]
  refine wpAny_bind (wpAny_holding (iter_tuple hl ?_))
  refine wpAny_bind (wpAny_holding (draw_tuple hlt i 0 _ _ ⟨_, Heap.get?_push_size _ rfl, rfl, rfl⟩ (hl.push _) (by omega) fun h₁ hit₁ hs₁ => ?_))
  have hl₁ : IsTup h₁ l items := (hl.push _).extBut hs₁.extBut hlt
  rw [Nat.zero_add] at hit₁
  obtain ⟨oi, hoi, _⟩ := id hit₁
  obtain ⟨ol1, hol1, _⟩ := id hl₁
  rw [List.drop_zero]
  have lf : (items.toList.take i).length = i := by rw [List.length_take, Array.length_toList]; omega
  rw [if_neg (show ¬ ((items.toList.take i).length < i) by rw [lf]; omega)]
  refine wpAny_bind (wpAny_holding (PySem.W.kun_collect (s := { s with heap := h₁ }) (T := "tuple_iterator") (.inr (.inr (.inr rfl))) (Walks.tuple (A := A.in1) hh s.heap.objs.size l hlt items) (fun j u st => st.1.typeIs) (k := i) (by omega) ⟨hit₁, hl₁⟩ (Heap.lt_size hoi) (Heap.lt_size hol1) (fun h₂ tk hk => ?_) (by rw [sizeLine_eq]; omega)))
  have lr : (items.toList.drop i).length = items.size - i := by rw [List.length_drop, Array.length_toList]
  have lm : (items.toList.drop i).length - (n - 1 - i) = items.size + 1 - n := by rw [lr]; omega
  show wpAny _ _ (if (items.toList.drop i).length < n - 1 - i then _ else _) _ _ _
  rw [if_neg (by rw [lr]; omega)]
  show wpAny _ _ (newList ((items.toList.drop i).take ((items.toList.drop i).length - (n - 1 - i))) >>= fun d => pure (items.toList.take i ++ [d] ++ (items.toList.drop i).drop ((items.toList.drop i).length - (n - 1 - i)))) _ _ _
  rw [lm]
  exact wpAny_bind (wpAny_mono (h h₂ tk fun b o e => hk b o (Nat.ne_of_lt (Heap.lt_size e)) (hs₁.extBut b o (Nat.ne_of_lt (Heap.lt_size e)) (Heap.get?_push_of_some _ e))) (fun d s' q => wpAny_pure q) fun _ _ z => z)
end

section
variable {X : Cx}
theorem pgs_star {e : Expr} {es : List Expr} {t : TG} {u : TGs} {p : Pos} (h1 : PG X e t) (h2 : PGs X es u)
    (hs : (assignEach (.Starred e p :: es) X.env).map (·.2) = assign e X.env :: (assignEach es X.env).map (·.2) := by rfl) : PGs X (.Starred e p :: es) (gCons t u) := by
  refine ⟨fun pins s σ H vs us Q I r h => ?_⟩
  obtain ⟨v, vr, e1, h⟩ := h
  subst e1
  cases r with
  | cons r rr =>
    rw [hs]
    refine assignInOrder_cons (thn (h1.run pins s σ H _ _ _ I r h) fun _ s1 ⟨σ1, H1, I1, q1⟩ => ?_)
    exact h2.run pins s1 σ1 H1 _ _ Q I1 rr q1
/-- n targets, the i-th starred -/
def gStar (K : PySem.W.Frag) (n i : Nat) (t : TGs) : TG := fun v σ H Q => ∃ a xs, v = .ref a ∧ (SqT K H a xs ∨ SqL K H a xs) ∧ i < n ∧ n ≤ xs.length + 1 ∧ xs.length ≤ 16384 ∧
  ∀ D, H D = none → t (xs.take i ++ [.ref D] ++ (xs.drop i).drop (xs.length + 1 - n)) σ (upd H D (.lst ((xs.drop i).take (xs.length + 1 - n)))) Q
theorem pg_star {es : List Expr} {k : Nat} {pos : Pos} {t : TGs} {n i : Nat} (hc : X.calm = true) (h : PGs X es t) (hn : (assignEach es X.env).length = n := by rfl) (hst : (assignEach es X.env).findIdx? (·.1) = some i := by rfl) : PG X (.Tuple es k pos) (gStar X.K n i t) := by
  refine ⟨fun pins s σ H v u Q I r hw => ?_⟩
  obtain ⟨a, xs, e1, hq, hi, hle, hz, hw⟩ := hw
  subst e1
  cases r
  have hN : H s.heap.objs.size = none := I.hok.fresh (Nat.le_refl _)
  -- the items' values, the new list
  have key : ∀ (its : List Value), Vals xs its → its.toArray.size = xs.length → ∀ h₂ tk, (∀ b o, s.heap.get? b = some o → h₂.get? b = some o) →
      wpAny (model X.prog X.w) X.A (newList ((its.toArray.toList.drop i).take (its.toArray.size + 1 - n))) (fun d s' => wpAny (model X.prog X.w) X.A (assignInOrder ((assignEach es X.env).map (·.2)) (its.toArray.toList.take i ++ [d] ++ (its.toArray.toList.drop i).drop (its.toArray.size + 1 - n))) (fun _ s' => ∃ σ' H', Inv X pins σ' H' s' ∧ Q σ' H') X.xe s') X.xe { s with heap := h₂, toks := tk } := by
    intro its rv hl h₂ tk hk
    have I2 : Inv X pins σ H { s with heap := h₂, toks := tk } := I.kept (t' := tk) hk
    have hN2 : H h₂.objs.size = none := I2.hok.fresh (Nat.le_refl _)
    simp only [newList]
    refine wpAny_newObj_type ?_ ?_
    · have hl2 : ((xs.drop i).take (xs.length + 1 - n)).length ≤ sizeLine := by rw [List.length_take, List.length_drop, sizeLine_eq]; omega
      have I3 : Inv X pins σ (upd H h₂.objs.size (.lst ((xs.drop i).take (xs.length + 1 - n)))) { s with heap := h₂.push { cls := .type "list", data := .seq ((its.drop i).take (xs.length + 1 - n)).toArray }, toks := tk } :=
        I2.laid (t' := tk) (fun b o e => Heap.get?_push_of_some _ e) (Nat.le_refl _) ⟨hl2, _, 0, (rv.drop i).take _, Heap.get?_push_size _ rfl⟩
      have z := h.run pins _ σ _ _ (its.take i ++ [Value.ref h₂.objs.size] ++ (its.drop i).drop (xs.length + 1 - n)) Q I3 (((rv.take i).append (.cons (show RelV (V.ref h₂.objs.size) (Value.ref h₂.objs.size) from rfl) .nil)).append ((rv.drop i).drop _)) (hw h₂.objs.size hN2)
      rw [hl]
      exact z
    · rw [hl]
      show ((its.drop i).take (xs.length + 1 - n)).toArray.size ≤ sizeLine
      rw [List.size_toArray, List.length_take, sizeLine_eq]
      omega
  rw [assign_Tuple]
  refine wpAny_bind (wpAny_standAt ?_)
  unfold unpack
  rw [hn, hst]
  refine wpAny_bind (wpAny_holding ?_)
  rcases hq with hq | hq
  · obtain ⟨its, rv, ht, _⟩ := I.tuple hq
    have hl : its.toArray.size = xs.length := by rw [List.size_toArray]; exact rv.length.symm
    exact star_of_tup ht (I.ok.hd hc) hi (by rw [hl]; exact hle) (by rw [hl]; exact hz) (key its rv hl)
  · obtain ⟨its, rv, p, _⟩ := I.list hq
    have hl : its.toArray.size = xs.length := by rw [List.size_toArray]; exact rv.length.symm
    exact star_of_list p.isList (I.ok.hd hc) hi (by rw [hl]; exact hle) (by rw [hl]; exact hz) (key its rv hl)
end

section
variable {γ : Nat → Addr} {X : Cx} {g : GT}
theorem sgs_star {sl sm : List Nat} {e : Expr} {es : List Expr} {p : Pos} {m : MG} {ms : MGs} (h : SG γ X sl e m) (h' : SGs γ X sm es ms) (hs : (assignEach (.Starred e p :: es) X.env).map (·.2) = assign e X.env :: (assignEach es X.env).map (·.2) := by rfl) : SGs γ X (sl ++ sm) (.Starred e p :: es) (mgCons m ms) := by
  obtain ⟨t, q, s⟩ := h
  obtain ⟨t', q', s'⟩ := h'
  refine ⟨_, pgs_star q q' hs, fun ρ st H σ τ us vs R F r κ Q hm ok => ?_⟩
  cases r with
  | nil => cases hm
  | cons r0 rr =>
    exact ⟨_, _, rfl, s ρ st H σ τ _ _ R F r0 _ _ hm fun ρ1 st1 H1 σ1 τ1 s1 R1 F1 sm1 k1 => s' ρ1 st1 H1 σ1 τ1 _ _ R1 F1 (s1.rl rr) κ Q k1 fun ρ2 st2 H2 σ2 τ2 s2 R2 F2 sm2 k2 =>
      ok ρ2 st2 H2 σ2 τ2 (s1.trans s2) R2 F2 ((sm1.mono fun j hj => List.mem_append_left _ hj).trans (sm2.mono fun j hj => List.mem_append_right _ hj)) k2⟩
def mgStar (g : GT) (n i : Nat) (ms : MGs) : MG := fun u σ st κ => match seqOf g st u with
  | some (_, xs) => match Nat.ble n (xs.length + 1), Nat.ble xs.length 16384 with
    | true, true => ms (xs.take i ++ (.ref st.n :: (xs.drop i).drop (xs.length + 1 - n))) σ (st.new (.lst ((xs.drop i).take (xs.length + 1 - n)))) κ
    | _, _ => false
  | none => false
theorem sg_star {sl : List Nat} {es : List Expr} {k : Nat} {pos : Pos} {n i : Nat} {ms : MGs} (G : GOk X.K γ g) (hc : X.calm = true) (h : SGs γ X sl es ms) (hi : i < n := by decide) (hn : (assignEach es X.env).length = n := by rfl) (hst : (assignEach es X.env).findIdx? (·.1) = some i := by rfl) : SG γ X sl (.Tuple es k pos) (mgStar g n i ms) := by
  obtain ⟨t, q, s⟩ := h
  refine ⟨_, pg_star hc q hn hst, fun ρ st H σ τ u v R F r κ Q hm ok => ?_⟩
  have k2 : (match seqOf g st u with
    | some (_, xs) => (match Nat.ble n (xs.length + 1), Nat.ble xs.length 16384 with
      | true, true => ms (xs.take i ++ (.ref st.n :: (xs.drop i).drop (xs.length + 1 - n))) σ (st.new (.lst ((xs.drop i).take (xs.length + 1 - n)))) κ
      | _, _ => false)
    | none => false) = true := hm
  cases q1 : seqOf g st u with
  | none => rw [q1] at k2; cases k2
  | some bx =>
    obtain ⟨b, xs⟩ := bx
    rw [q1] at k2
    have k3 : (match Nat.ble n (xs.length + 1), Nat.ble xs.length 16384 with
      | true, true => ms (xs.take i ++ (.ref st.n :: (xs.drop i).drop (xs.length + 1 - n))) σ (st.new (.lst ((xs.drop i).take (xs.length + 1 - n)))) κ
      | _, _ => false) = true := k2
    obtain ⟨a, ys, ev, rl, hs⟩ := seq_ok G R r q1
    subst ev
    cases q2 : Nat.ble n (xs.length + 1) with
    | false => rw [q2] at k3; cases k3
    | true =>
      cases q3 : Nat.ble xs.length 16384 with
      | false => rw [q2, q3] at k3; cases k3
      | true =>
        rw [q2, q3] at k3
        have el := rl.length
        refine ⟨a, ys, rfl, by cases b with | true => exact .inl hs | false => exact .inr hs, hi, by rw [← el]; exact Nat.le_of_ble_eq_true q2, by rw [← el]; exact Nat.le_of_ble_eq_true q3, fun D hD => ?_⟩
        rw [← el]
        have rm : RL γ ρ ((xs.drop i).take (xs.length + 1 - n)) ((ys.drop i).take (xs.length + 1 - n)) := ptake _ (pdrop i rl)
        have ro : RO γ (ρ ++ [D]) (upd H D (.lst ((ys.drop i).take (xs.length + 1 - n)))) D (.lst ((xs.drop i).take (xs.length + 1 - n))) := ⟨_, upd_same, rm.mono⟩
        obtain ⟨R2, S2⟩ := R.new hD (new_upd hD) ro
        have rD : RU γ (ρ ++ [D]) (.ref st.n) (.ref D) := ⟨D, by rw [← R.len, List.getElem?_append_right (Nat.le_refl _), Nat.sub_self]; rfl, rfl⟩
        have ra : RL γ (ρ ++ [D]) (xs.take i ++ (.ref st.n :: (xs.drop i).drop (xs.length + 1 - n))) (ys.take i ++ [.ref D] ++ (ys.drop i).drop (xs.length + 1 - n)) := by
          rw [List.append_assoc]
          exact papp (RL.mono (ptake i rl)) (.cons rD (RL.mono (pdrop _ (pdrop i rl))))
        exact s (ρ ++ [D]) _ _ σ τ _ _ R2 (F.step S2) ra κ Q k3 fun ρ' st' H' σ' τ' S' => ok ρ' st' H' σ' τ' (S2.trans S')
end
end MV

/-! the law's own def: its script is a locked list, the object 0. -/
namespace MV
open PySem PySem.Spec PyProof.Rows L2

def notLst (o : Obj) : Bool := match o.cls with
  | .type n => !(n == "list")
  | _ => true
def noLst (K : PySem.W.Frag) : Bool := K.all fun p => notLst p.2
theorem noLst_ok {K : PySem.W.Frag} (h : noLst K = true) {a : Addr} {o : Obj} (e : K.lookup a = some o) : o.cls ≠ .type "list" := fun z => by
  have key : ∀ (K : List (Addr × Obj)), (K.all fun p => notLst p.2) = true → K.lookup a = some o → False := by
    intro K
    induction K with
    | nil => intro _ e; cases e
    | cons p K ih =>
      intro h e
      obtain ⟨b, o'⟩ := p
      rw [List.all_cons, Bool.and_eq_true] at h
      rw [List.lookup_cons] at e
      split at e
      · have e : o' = o := Option.some.inj e
        have h1 : notLst o = true := by rw [← e]; exact h.1
        unfold notLst at h1
        rw [z] at h1
        exact absurd h1 (by decide)
      · exact ih h.2 e
  exact key K h e
def stS (ns : List Int) : VS := ⟨.node (some (.fl (ns.map U.int))) .nil .nil, [], 1⟩
def kT : U → VS → Bool := fun u _ => match u with
  | .bl true => true
  | _ => false
theorem law_sp {K : PySem.W.Frag} {γ : Nat → Addr} {mf : MF} {ns : List Int} {a : Addr} {H : Hp} {E : XK} (hK : noLst K = true) (hO : Only H) (hS : SqL K H a (ns.map V.int)) (h : mf [.ref 0] (stS ns) (noX kT) = true) : SpM γ 1 mf [.ref a] H (fun v _ => v = .bl true) E := by
  have hf : ∃ o, H a = some (.frz o (.lst (ns.map V.int))) := by
    rcases hS with (e | e) | ⟨o, its, n, lk, hc, _⟩
    · rcases hO a with q | ⟨o, xs, q⟩
      · rw [q] at e; cases e
      · rw [q] at e; cases e
    · exact e
    · exact absurd hc (noLst_ok hK lk)
  obtain ⟨o, hf⟩ := hf
  have R : Rep γ [a] (stS ns) H := by
    refine ⟨rfl, List.nodup_cons.mpr ⟨List.not_mem_nil, List.nodup_nil⟩, fun b hb => ?_, fun i u e => ?_⟩
    · obtain rfl := List.mem_singleton.mp hb
      exact ⟨_, hf⟩
    · have e2 : (stS ns).t.getF (i + 1) i = some u := e
      cases i with
      | zero =>
        cases e2
        exact ⟨a, rfl, _, ⟨o, hf⟩, rl_ints ns⟩
      | succ j =>
        have z : (stS ns).t.getF (j + 1 + 1) (j + 1) = (match Nat.beq (j % 2) 0 with | true => Tr.getF (j + 1) .nil (j / 2) | false => Tr.getF (j + 1) .nil (j / 2)) := rfl
        rw [z, getF_nil] at e2
        cases q : Nat.beq (j % 2) 0 <;> rw [q] at e2 <;> cases e2
  refine ⟨rfl, [a], stS ns, [.ref 0], kT, R, .cons ⟨a, rfl, rfl⟩ .nil, h, fun ρ' st' H' u v S R' r k => ?_⟩
  cases u <;> first | (cases k; done) | skip
  rename_i b
  cases b with
  | false => cases k
  | true => exact r
end MV

/-! sorted, d.get(k, x), displays of dicts, == of dicts, max, min, * and // of great ints, **, len(set(..)), o.m(e, *y), calls in a heap of their own. -/
namespace MV
open PySem PySem.Spec PyProof.Rows L2
section
variable {γ : Nat → Addr} {W : WX} {X : Cx} {g : GT}

/-! ### sorted of ints -/
def iIns (x : Int) : List Int → List Int
  | [] => [x]
  | y :: l => match decide (x ≤ y) with
    | true => x :: y :: l
    | false => y :: iIns x l
def iSort : List Int → List Int
  | [] => []
  | x :: l => iIns x (iSort l)
theorem iIns_perm (x : Int) : ∀ l : List Int, (iIns x l).Perm (x :: l)
  | [] => .refl _
  | y :: l => by
    unfold iIns
    cases q : decide (x ≤ y) with
    | true => exact .refl _
    | false => exact ((iIns_perm x l).cons y).trans (.swap x y l)
theorem iSort_perm : ∀ l : List Int, (iSort l).Perm l
  | [] => .refl _
  | x :: l => (iIns_perm x _).trans ((iSort_perm l).cons x)
theorem iIns_sorted (x : Int) : ∀ l : List Int, l.Pairwise (· ≤ ·) → (iIns x l).Pairwise (· ≤ ·)
  | [], _ => List.pairwise_singleton _ _
  | y :: l, h => by
    obtain ⟨h1, h2⟩ := List.pairwise_cons.mp h
    unfold iIns
    cases q : decide (x ≤ y) with
    | true =>
      have le := of_decide_eq_true q
      exact List.pairwise_cons.mpr ⟨fun z hz => by rcases List.mem_cons.mp hz with e | e; (· rw [e]; exact le); exact Int.le_trans le (h1 z e), h⟩
    | false =>
      have gt := of_decide_eq_false q
      refine List.pairwise_cons.mpr ⟨fun z hz => ?_, iIns_sorted x l h2⟩
      rcases List.mem_cons.mp ((iIns_perm x l).mem_iff.mp hz) with e | e
      · rw [e]; omega
      · exact h1 z e
theorem iSort_sorted : ∀ l : List Int, (iSort l).Pairwise (· ≤ ·)
  | [] => List.Pairwise.nil
  | x :: l => iIns_sorted x _ (iSort_sorted l)
theorem iSort_is {l l' : List Int} (h : l'.Perm l) (hs : l'.Pairwise (· ≤ ·)) : l' = iSort l := PySem.W.ksm_same (h.trans (iSort_perm l).symm) hs (iSort_sorted l)
def fSortL (g : GT) : U → VS → Go U := fun u st κ => match seqOf g st u with
  | some (false, us) => match intsOf us with
    | some l => κ (.ok (.ref st.n)) (st.new (.lst ((iSort l).map U.int)))
    | none => false
  | _ => false
theorem cb_sortL (G : GOk X.K γ g) : Cb X γ W (.builtin "sorted") (f1 (fSortL g)) := ⟨_, cr_sortedI, fun ρ st H τ us vs R rl κ Q hm ok ex => by
  rcases us with _ | ⟨u, _ | ⟨_, _⟩⟩ <;> first | (cases hm; done) | skip
  rcases rl with _ | ⟨ru, rl⟩
  cases rl
  have h2 : (match seqOf g st u with
    | some (false, us) => (match intsOf us with
      | some l => κ (.ok (.ref st.n)) (st.new (.lst ((iSort l).map U.int)))
      | none => false)
    | _ => false) = true := hm
  cases q : seqOf g st u with
  | none => rw [q] at h2; cases h2
  | some bx =>
    obtain ⟨b, xs⟩ := bx
    rw [q] at h2
    cases b <;> first | (cases h2; done) | skip
    have h3 : (match intsOf xs with | some l => κ (.ok (.ref st.n)) (st.new (.lst ((iSort l).map U.int))) | none => false) = true := h2
    obtain ⟨a, ys, ev, rly, hs⟩ := seq_ok G R ru q
    subst ev
    cases q2 : intsOf xs with
    | none => rw [q2] at h3; cases h3
    | some l =>
      rw [q2] at h3
      have ey := intsOf_ok q2 rly
      subst ey
      refine ⟨a, l, rfl, hs, fun ns' p hp hs' hn => ?_⟩
      rw [iSort_is hp hs']
      exact ok.alloc R h3 (fun p => ⟨_, upd_same, rl_ints _⟩) p hn⟩
def kInts : List (Key × U) → Option (List Int)
  | [] => some []
  | q :: l => match q.1, kInts l with
    | .inl i, some r => some (i :: r)
    | _, _ => none
theorem kInts_ok {ρ : List Addr} : ∀ {kvs : List (Key × U)} {ws : List (Key × V)} {l : List Int}, kInts kvs = some l → RK γ ρ kvs ws → ws.map (·.1) = l.map Sum.inl ∧ l.length = kvs.length
  | [], _, _, e, .nil => by cases e; exact ⟨rfl, rfl⟩
  | q :: kvs, _, l, e, .cons r t => by
    unfold kInts at e
    obtain ⟨k, u⟩ := q
    cases k with
    | inr x => cases e
    | inl i =>
      cases q2 : kInts kvs with
      | none => rw [q2] at e; cases e
      | some r0 =>
        rw [q2] at e
        cases e
        obtain ⟨h1, h2⟩ := kInts_ok q2 t
        exact ⟨by rw [List.map_cons, List.map_cons, h1, ← r.1], by rw [List.length_cons, List.length_cons, h2]⟩
def fSortD : U → VS → Go U := fun u st κ => match u with
  | .ref i => match st.get i with
    | some (.dct _ kvs) => match kInts kvs, Nat.blt kvs.length 64 with
      | some l, true => κ (.ok (.ref st.n)) (st.new (.lst ((iSort l).map U.int)))
      | _, _ => false
    | _ => false
  | _ => false
theorem cb_sortD (hc : X.calm = true) : Cb X γ W (.builtin "sorted") (f1 fSortD) := ⟨_, call_sortedDI hc, fun ρ st H τ us vs R rl κ Q hm ok ex => by
  rcases us with _ | ⟨u, _ | ⟨_, _⟩⟩ <;> first | (cases hm; done) | skip
  rcases rl with _ | ⟨ru, rl⟩
  cases rl
  cases u <;> first | (cases hm; done) | skip
  rename_i i
  have h2 : (match st.get i with
    | some (.dct _ kvs) => (match kInts kvs, Nat.blt kvs.length 64 with
      | some l, true => κ (.ok (.ref st.n)) (st.new (.lst ((iSort l).map U.int)))
      | _, _ => false)
    | _ => false) = true := hm
  cases q : st.get i with
  | none => rw [q] at h2; cases h2
  | some o =>
    rw [q] at h2
    cases o <;> first | (cases h2; done) | skip
    rename_i lk kvs
    obtain ⟨a, ev, ea, ro⟩ := R.get q ru
    subst ev
    obtain ⟨ws, rd, rk⟩ := dct_rd ro
    have h3 : (match kInts kvs, Nat.blt kvs.length 64 with
      | some l, true => κ (.ok (.ref st.n)) (st.new (.lst ((iSort l).map U.int)))
      | _, _ => false) = true := h2
    cases q2 : kInts kvs with
    | none => rw [q2] at h3; cases h3
    | some l =>
      cases q3 : Nat.blt kvs.length 64 with
      | false => rw [q2, q3] at h3; cases h3
      | true =>
        rw [q2, q3] at h3
        obtain ⟨e1, e2⟩ := kInts_ok q2 rk
        refine ⟨a, ws, l, rfl, rd, e1, by rw [e2]; exact Nat.le_of_ble_eq_true q3, fun ys p hp hs hn => ?_⟩
        rw [iSort_is hp hs]
        exact ok.alloc R h3 (fun p => ⟨_, upd_same, rl_ints _⟩) p hn⟩
def fSort (g : GT) : List U → VS → Go U := fOrL (f1 (fSortL g)) (f1 fSortD)
theorem cb_sort (G : GOk X.K γ g) (hc : X.calm = true) : Cb X γ W (.builtin "sorted") (fSort g) := (cb_sortL G).or (cb_sortD hc)

/-! ### max(i, j), min(i, j) -/
def fInt2 (h : Int → Int → Int) : List U → VS → Go U := fun us st κ => match us with
  | [.int i, .int j] => κ (.ok (.int (h i j))) st
  | _ => false
theorem leaf_int2 (h : Int → Int → Int) : LeafL γ W (fun xs H Q => ∃ i j, xs = [V.int i, V.int j] ∧ Q (.int (h i j)) H) (fInt2 h) := fun ρ st H τ us vs R rl κ Q hm ok ex => by
  rcases us with _ | ⟨u, _ | ⟨w, _ | ⟨_, _⟩⟩⟩ <;> first | (cases hm; done) | (cases u <;> cases hm; done) | skip
  · cases u <;> cases w <;> first | (cases hm; done) | skip
    rename_i i j
    rcases rl with _ | ⟨ru, rl⟩
    rcases rl with _ | ⟨rw_, rl⟩
    cases rl
    exact ⟨i, j, by rw [show _ = V.int i from ru, show _ = V.int j from rw_], ok.here (u := .int (h i j)) R rfl hm⟩
  · cases u <;> first | (cases hm; done) | skip
    cases w <;> cases hm
def iMax (i j : Int) : Int := if j > i then j else i
def iMin (i j : Int) : Int := if j < i then j else i
theorem cb_max2 (hc : X.calm = true) : Cb X γ W (.builtin "max") (fInt2 iMax) := ⟨_, call_max2 hc, leaf_int2 iMax⟩
theorem cb_min2 (hc : X.calm = true) : Cb X γ W (.builtin "min") (fInt2 iMin) := ⟨_, call_min2 hc, leaf_int2 iMin⟩

/-! ### operators of great ints -/
def CMulB (i j : Int) : Prop := CMul i j ∨ CMulW i j
theorem op_mulB : OpR X (binaryOp .Mult) (rI CMulB fun i j => .int (i * j)) := opI fun _ _ _ _ _ _ _ hc q => mul_int q (hc.elim CMul.ok CMulW.ok)
def smI (i : Int) : Bool := Nat.blt i.natAbs 18446744073709551616
theorem smI_ok {i : Int} (h : smI i = true) : -(2 ^ 64) < i ∧ i < 2 ^ 64 := by
  have : i.natAbs < 18446744073709551616 := Nat.le_of_ble_eq_true h
  omega
def cMul (i j : Int) : Bool := match smI i with
  | true => true
  | false => match smI j with
    | true => true
    | false => Nat.blt (i.natAbs.log2 + j.natAbs.log2) 1000000
theorem cMul_ok {i j : Int} (h : cMul i j = true) : CMulB i j := by
  unfold cMul at h
  cases q1 : smI i with
  | true => exact .inl (.inl (smI_ok q1))
  | false =>
    rw [q1] at h
    cases q2 : smI j with
    | true => exact .inl (.inr (smI_ok q2))
    | false => rw [q2] at h; exact .inr (Nat.le_of_ble_eq_true h)
def fMul : U → U → VS → Go U := fI cMul fun i j => .int (i * j)
theorem o_mulI : Op2 X γ W (binaryOp .Mult) fMul := ⟨_, op_mulB, leaf_I (C := CMulB) (fun _ _ h => cMul_ok h) fun _ _ => rfl⟩
def cDiv (i j : Int) : Bool := match decide (0 < j) with
  | true => Nat.blt j.natAbs.log2 9000
  | false => false
def fDiv : U → U → VS → Go U := fI cDiv fun i j => .int (i / j)
theorem o_div : Op2 X γ W (binaryOp .FloorDiv) fDiv := ⟨_, op_fdivW, leaf_I (C := CDivW) (fun i j h => by
  unfold cDiv at h
  cases q : decide (0 < j) with
  | false => rw [q] at h; cases h
  | true => rw [q] at h; exact ⟨of_decide_eq_true q, Nat.le_of_ble_eq_true h⟩) fun _ _ => rfl⟩
end
end MV

/-! **, d.get(k, x), displays of dicts, == of dicts, len(set(..)), o.m(e, *y), calls in a heap of their own. -/
namespace MV
open PySem PySem.Spec PyProof.Rows L2
section
variable {γ : Nat → Addr} {W : WX} {X : Cx} {g : GT}

/-! ### ** -/
def CPowW (i j : Int) : Prop := 0 ≤ j ∧ (i.natAbs.log2 + 1) * j.toNat ≤ 100000000
theorem op_powW : OpR X (binaryOp .Pow) (rI CPowW fun i j => .int (i ^ j.toNat)) := opI fun i j _ _ _ _ _ hc q => by
  have b : Builtin.Int.intBits i ≤ i.natAbs.log2 + 1 := by
    unfold Builtin.Int.intBits
    split <;> omega
  refine pow_int hc.1 ?_ q
  have h1 := Nat.mul_le_mul_right j.toNat b
  have h2 := hc.2
  have e : ((j.toNat : Nat) : Int) = j := Int.toNat_of_nonneg hc.1
  rw [← e]
  have h3 : Builtin.Int.intBits i * j.toNat ≤ 100000000 := Nat.le_trans h1 h2
  have h4 : ((Builtin.Int.intBits i * j.toNat : Nat) : Int) ≤ ((100000000 : Nat) : Int) := Int.ofNat_le.mpr h3
  rw [Int.natCast_mul] at h4
  have h5 : ((100000000 : Nat) : Int) ≤ 2 ^ 27 := by decide +kernel
  exact Int.le_trans h4 h5
def cPow (i j : Int) : Bool := match decide (0 ≤ j) with
  | true => Nat.ble ((i.natAbs.log2 + 1) * j.toNat) 100000000
  | false => false
def fPow : U → U → VS → Go U := fI cPow fun i j => .int (i ^ j.toNat)
theorem o_pow : Op2 X γ W (binaryOp .Pow) fPow := ⟨_, op_powW, leaf_I (C := CPowW) (fun i j h => by
  unfold cPow at h
  cases q : decide (0 ≤ j) with
  | false => rw [q] at h; cases h
  | true => rw [q] at h; exact ⟨of_decide_eq_true q, Nat.le_of_ble_eq_true h⟩) fun _ _ => rfl⟩

/-! ### d.get(k, x) -/
def mGet2 (mo mk mx : ME) : ME := fun σ st => bnd (mo σ st) fun u st1 => match u with
  | .ref i => match st1.get i with
    | some (.dct _ _) => bnd (mk σ st1) fun q st2 => bnd (mx σ st2) fun z st3 κ => match st3.get i, kOf q with
      | some (.dct _ kvs), some k => match kGet k kvs with
        | some w => κ (.ok w) st3
        | none => κ (.ok z) st3
      | _, _ => false
    | _ => bad
  | _ => bad
theorem se_get2 {o e f : Expr} {apos cpos : Pos} {mo mk mx : ME} (hu : X.A.units + 1 < cLine) (ho : SE γ W X o mo) (he : SE γ W X e mk) (hf : SE γ W X f mx) (h1 : attributeBase o "get" X.env (eval o X.env) = eval o X.env := by rfl)
    (h2 : ((backTo cpos (starEach [e, f] X.env)).all (fun x => !x.1) && (backToKw cpos (keywordEach [] X.env)).all (fun x => x.1.isSome) && decide (([e, f] : List Expr).length + ([] : List Keyword).length + (if ([] : List Keyword).isEmpty then 0 else 1) < 30)) = true := by rfl)
    (h3 : (apos.endLine == cpos.line) = true := by rfl) (h4 : backTo cpos (starEach [e, f] X.env) = [(false, eval e X.env), (false, eval f X.env)] := by rfl) : SE γ W X (.Call (.Attribute o "get" apos) [e, f] [] cpos) (mGet2 mo mk mx) := by
  obtain ⟨to, po, so⟩ := ho
  obtain ⟨te, pe, se⟩ := he
  obtain ⟨tf, pf, sf⟩ := hf
  refine ⟨_, pe_dget2 hu po pe pf ⟨h1, h2, h3, h4⟩, fun ρ st H σ τ R F κ Q hm ok ex => so ρ st H σ τ R F _ _ hm (fun ρ1 st1 H1 u v s1 R1 r1 k1 => ?_) ex⟩
  cases u <;> first | (cases k1; done) | skip
  rename_i i
  have k2 : (match st1.get i with
    | some (.dct _ _) => bnd (mk σ st1) fun q st2 => bnd (mx σ st2) fun z st3 κ => match st3.get i, kOf q with
      | some (.dct _ kvs), some k => (match kGet k kvs with
        | some w => κ (.ok w) st3
        | none => κ (.ok z) st3)
      | _, _ => false
    | _ => bad) κ = true := k1
  cases q : st1.get i with
  | none => rw [q] at k2; cases k2
  | some ob =>
    rw [q] at k2
    cases ob <;> first | (cases k2; done) | skip
    rename_i lk kvs
    obtain ⟨a, ev, ea, ro⟩ := R1.get q r1
    subst ev
    obtain ⟨ws, rd, rk⟩ := dct_rd ro
    refine ⟨a, rfl, .inl ⟨ws, rd⟩, se ρ1 st1 H1 σ τ R1 (F.step s1) _ _ k2 (fun ρ2 st2 H2 qk vq s2 R2 r2 k3 => sf ρ2 st2 H2 σ τ R2 (F.step (s1.trans s2)) _ _ k3 (fun ρ3 st3 H3 qz vz s3 R3 r3 k4 => ?_) (ex.step (s1.trans s2))) (ex.step s1)⟩
    have k5 : (match st3.get i, kOf qk with
      | some (.dct _ kvs), some k => (match kGet k kvs with
        | some w => κ (.ok w) st3
        | none => κ (.ok qz) st3)
      | _, _ => false) = true := k4
    cases q5 : st3.get i with
    | none => rw [q5] at k5; cases k5
    | some ob =>
      cases q6 : kOf qk with
      | none => rw [q5, q6] at k5; cases ob <;> cases k5
      | some k =>
        rw [q5, q6] at k5
        cases ob <;> first | (cases k5; done) | skip
        rename_i lk2 kvs2
        have k6 : (match kGet k kvs2 with
          | some w => κ (.ok w) st3
          | none => κ (.ok qz) st3) = true := k5
        obtain ⟨a2, ev2, _, ro2⟩ := R3.get q5 ((s2.trans s3).ru r1)
        cases ev2
        obtain ⟨ws2, rd2, rk2⟩ := dct_rd ro2
        have S := s1.trans (s2.trans s3)
        rcases rk2.get (k := k) with ⟨e1, e2⟩ | ⟨w, x, e1, e2, rw'⟩
        · rw [e1] at k6
          exact ⟨none, .inl ⟨ws2, k, rd2, kOf_ok q6 r2, e2.symm⟩, ok ρ3 st3 H3 qz vz S R3 r3 k6⟩
        · rw [e1] at k6
          exact ⟨some x, .inl ⟨ws2, k, rd2, kOf_ok q6 r2, e2.symm⟩, ok ρ3 st3 H3 w x S R3 rw' k6⟩

/-! ### {k: v, ..} -/
abbrev MP := Fr → VS → Go (List (U × U))
def RVV (γ : Nat → Addr) (ρ : List Addr) : List (U × U) → List (V × V) → Prop := Paired fun p q => RU γ ρ p.1 q.1 ∧ RU γ ρ p.2 q.2
theorem RVV.step {ρ ρ' : List Addr} {H H' : Hp} (s : Step ρ H ρ' H') {us : List (U × U)} {vs : List (V × V)} (h : RVV γ ρ us vs) : RVV γ ρ' us vs := pmap (fun _ _ q => ⟨s.ru q.1, s.ru q.2⟩) h
/-- the display's pairs -/
def SP (γ : Nat → Addr) (W : WX) (X : Cx) (pos : Pos) (keys : List (Option Expr)) (values : List Expr) (m : MP) : Prop := ∃ trs, PPs X pos keys values trs ∧ ∀ ρ st H σ τ, Rep γ ρ st H → FrR γ ρ σ τ → ∀ (κ : Rs (List (U × U)) → VS → Bool) (Q : List (V × V) → Hp → Prop), m σ st κ = true → OkK γ (RVV γ) ρ H κ Q → ExK γ W τ ρ H κ → tPairs trs τ H Q
def mpNil : MP := fun _ st => MV.ret [] st
def mpCons (mk mv : ME) (ms : MP) : MP := fun σ st => bnd (mk σ st) fun k st1 => bnd (mv σ st1) fun v st2 => bnd (ms σ st2) fun ps st3 => MV.ret ((k, v) :: ps) st3
theorem sp_nil {pos : Pos} : SP γ W X pos [] [] mpNil := ⟨[], pps_nil, fun ρ st H σ τ R F κ Q hm ok ex => ok.here (u := []) (v := []) R .nil hm⟩
theorem sp_cons {pos : Pos} {k v : Expr} {ks : List (Option Expr)} {vs : List Expr} {mk mv : ME} {ms : MP} (hk : SE γ W X k mk) (hv : SE γ W X v mv) (h : SP γ W X pos ks vs ms) : SP γ W X pos (some k :: ks) (v :: vs) (mpCons mk mv ms) := by
  obtain ⟨tk, pk, sk⟩ := hk
  obtain ⟨tv, pv', sv⟩ := hv
  obtain ⟨trs, pr, sr⟩ := h
  refine ⟨(tk, tv) :: trs, pps_cons pk pv' pr, fun ρ st H σ τ R F κ Q hm ok ex => sk ρ st H σ τ R F _ _ hm (fun ρ1 st1 H1 u1 v1 s1 R1 r1 k1 => sv ρ1 st1 H1 σ τ R1 (F.step s1) _ _ k1 (fun ρ2 st2 H2 u2 v2 s2 R2 r2 k2 =>
    sr ρ2 st2 H2 σ τ R2 (F.step (s1.trans s2)) _ _ k2 (fun ρ3 st3 H3 us vs s3 R3 r3 k3 => ok ρ3 st3 H3 _ _ (s1.trans (s2.trans s3)) R3 (.cons ⟨(s2.trans s3).ru r1, s3.ru r2⟩ r3) k3) (ex.step (s1.trans s2))) (ex.step s1)) ex⟩
def kPairs : List (U × U) → Option (List (Key × U))
  | [] => some []
  | q :: l => match kOf q.1, kPairs l with
    | some k, some r => some ((k, q.2) :: r)
    | _, _ => none
theorem kPairs_ok {ρ : List Addr} : ∀ {us : List (U × U)} {vs : List (V × V)} {l : List (Key × U)}, kPairs us = some l → RVV γ ρ us vs → ∃ kvs : List (Key × V), vs = kvs.map (fun kv => (kV kv.1, kv.2)) ∧ RK γ ρ l kvs ∧ l.length = us.length
  | [], _, _, e, .nil => by cases e; exact ⟨[], rfl, .nil, rfl⟩
  | q :: us, _, l, e, .cons (b := w) r t => by
    unfold kPairs at e
    cases q1 : kOf q.1 with
    | none => rw [q1] at e; cases e
    | some k =>
      cases q2 : kPairs us with
      | none => rw [q1, q2] at e; cases e
      | some r0 =>
        rw [q1, q2] at e
        cases e
        obtain ⟨kvs, e1, rk, e2⟩ := kPairs_ok q2 t
        refine ⟨(k, w.2) :: kvs, ?_, .cons ⟨rfl, r.2⟩ rk, by rw [List.length_cons, List.length_cons, e2]⟩
        rw [List.map_cons, ← e1, ← kOf_ok q1 r.1]
def mrgU (kvs more : List (Key × U)) : List (Key × U) := more.foldl (fun acc kv => kPut kv.1 kv.2 acc) kvs
theorem mrg_ok {ρ : List Addr} : ∀ {more : List (Key × U)} {ms : List (Key × V)} {kvs : List (Key × U)} {ws : List (Key × V)}, RK γ ρ more ms → RK γ ρ kvs ws → RK γ ρ (mrgU kvs more) (mergeK ws ms)
  | [], _, _, _, .nil, h => h
  | p :: more, _, kvs, ws, .cons (b := q) r t, h => by
    have e := RK.put (k := p.1) r.2 h
    have e1 : p.1 = q.1 := r.1
    show RK γ ρ (mrgU (kPut p.1 p.2 kvs) more) (mergeK (putK ws q.1 q.2) _)
    rw [← e1]
    exact mrg_ok t e
def mDisp (ms : MP) : ME := fun σ st => bnd (ms σ (st.new (.dct false []))) fun ps st1 κ => match st1.get st.n, kPairs ps, Nat.ble ps.length 15 with
  | some (.dct false []), some kvs, true => κ (.ok (.ref st.n)) (st1.put st.n (.dct false (mrgU [] kvs)))
  | _, _, _ => false
theorem se_disp {pos : Pos} {keys : List (Option Expr)} {values : List Expr} {ms : MP} (h : SP γ W X pos keys values ms) (hall : keys.all (·.isSome) = true := by rfl) (hl : keys.length = values.length := by rfl) (h0 : keys ≠ [] := by exact List.cons_ne_nil _ _) (h15 : keys.length ≤ 15 := by decide) :
    SE γ W X (.Dict keys values pos) (mDisp ms) := by
  obtain ⟨trs, pr, sr⟩ := h
  refine ⟨_, pe_disp pr hall hl h0 h15, fun ρ st H σ τ R F κ Q hm ok ex p hp => ?_⟩
  have ro : RO γ (ρ ++ [p]) (upd H p (.dK [])) p (.dct false []) := ⟨[], upd_same, .nil⟩
  obtain ⟨R2, S2⟩ := R.new hp (new_upd hp) ro
  have ep : (ρ ++ [p])[st.n]? = some p := by rw [← R.len, List.getElem?_append_right (Nat.le_refl _), Nat.sub_self]; rfl
  refine sr _ _ _ σ τ R2 (F.step S2) _ _ hm (fun ρ1 st1 H1 us vs s1 R1 r1 k1 => ?_) (ex.step S2)
  have k2 : (match st1.get st.n, kPairs us, Nat.ble us.length 15 with
    | some (.dct false []), some kvs, true => κ (.ok (.ref st.n)) (st1.put st.n (.dct false (mrgU [] kvs)))
    | _, _, _ => false) = true := k1
  have ep1 : ρ1[st.n]? = some p := by
    obtain ⟨l, e⟩ := s1.ext
    rw [e, List.getElem?_append_left (List.getElem?_eq_some_iff.mp ep).1]; exact ep
  cases q1 : st1.get st.n with
  | none => rw [q1] at k2; cases k2
  | some ob =>
    rw [q1] at k2
    cases ob <;> first | (cases k2; done) | skip
    rename_i lk kvs0
    cases lk <;> cases kvs0 <;> first | (cases k2; done) | skip
    cases q2 : kPairs us with
    | none => rw [q2] at k2; cases k2
    | some kvs =>
      cases q3 : Nat.ble us.length 15 with
      | false => rw [q2, q3] at k2; cases k2
      | true =>
        rw [q2, q3] at k2
        obtain ⟨b, eb, ws, hh, rk⟩ := R1.obj _ _ q1
        rw [ep1] at eb; cases eb
        cases rk
        have hh : H1 p = some (.dK []) := hh
        obtain ⟨kv, e1, rk, e2⟩ := kPairs_ok q2 r1
        refine ⟨hh, kv, e1, by rw [← Paired.length rk, e2]; exact Nat.le_of_ble_eq_true q3, ?_⟩
        have ro2 : RO γ ρ1 (upd H1 p (.dK (mergeK [] kv))) p (.dct false (mrgU [] kvs)) := ⟨_, upd_same, mrg_ok rk .nil⟩
        obtain ⟨R3, S3⟩ := R1.put (o := .dct false (mrgU [] kvs)) ep1 (by rw [hh]; intro _ _ z; cases z) ro2
        exact ok ρ1 _ _ (.ref st.n) _ (S2.trans (s1.trans S3)) R3 ⟨p, ep1, rfl⟩ k2

/-! ### == of dicts whose values are data -/
inductive HitsV (K : PySem.W.Frag) (H : Hp) (ls : List (Key × V)) : List (Key × V) → Bool → Prop
  | nil : HitsV K H ls [] true
  | miss {k : Key} {v : V} {r : List (Key × V)} : valV ls k = none → HitsV K H ls ((k, v) :: r) false
  | hit {k : Key} {v u : V} {r : List (Key × V)} {d e : PyData} {b : Bool} : valV ls k = some u → Dp K H v d → Dp K H u e → SeqAt.shaped d = true → SeqAt.shaped e = true → HitsV K H ls r b → HitsV K H ls ((k, v) :: r) (PyData.eqv d e && b)
theorem hits_of {pins : List (Addr × Obj)} {σ : L2.St} {H : Hp} {s : Shared} (I : Inv X pins σ H s) {A : Around} (hu : A.in1.units + 64 < cLine) {ls : List (Key × V)} {vb : List (Key × Value)} (rb : KV ls vb) {ks : List (Key × V)} {b : Bool} (h : HitsV X.K H ls ks b) :
    ∀ {va : List (Key × Value)}, KV ks va → PySem.W.KeqHits A.in1 s vb va b := by
  induction h with
  | nil => intro va ra; cases ra; exact .nil
  | miss e =>
    intro va ra
    cases ra with
    | cons r t =>
      rename_i q qs
      obtain ⟨k2, y⟩ := q
      have e1 := r.1
      dsimp only at e1
      subst e1
      exact .miss (RelO.none_of (by rw [← e]; exact rb.val _))
  | hit e dv du sd se _ ih =>
    intro va ra
    cases ra with
    | cons r t =>
      rename_i q qs
      obtain ⟨k2, y⟩ := q
      have e1 := r.1
      dsimp only at e1
      subst e1
      obtain ⟨z, hz, rz⟩ := RelO.some_of (by rw [← e]; exact rb.val _)
      obtain ⟨as, r1⟩ := Dp.reads I _ _ _ dv r.2
      obtain ⟨bs, r2⟩ := Dp.reads I _ _ _ du rz
      exact .hit hz (PySem.W.keq_at r1 r2 sd se hu) (ih t)
def rEqDD (K : PySem.W.Frag) (neg : Bool) : R2 := fun x y H Q => ∃ a b ks ls r, x = .ref a ∧ y = .ref b ∧ H a = some (.dK ks) ∧ H b = some (.dK ls) ∧ (ks.length = ls.length → HitsV K H ls ks r) ∧ Q (.bl (bif neg then !((ks.length == ls.length) && r) else ((ks.length == ls.length) && r))) H
theorem op_eqDD (hu : X.A.units + 66 < cLine) : OpR X (compareOp .Eq) (rEqDD X.K false) := by
  intro pins s σ H x y v u Q I rx ry h
  obtain ⟨a, b, ks, ls, r, rfl, rfl, ea, eb, hh, q⟩ := h
  obtain rfl : v = Value.ref a := rx
  obtain rfl : u = Value.ref b := ry
  obtain ⟨_, ya, va, ra, da⟩ := (show ObjOk X.prog X.w H s.heap a (.dK ks) from I.hok a _ ea)
  obtain ⟨_, yb, vb, rb, db⟩ := (show ObjOk X.prog X.w H s.heap b (.dK ls) from I.hok b _ eb)
  have l1 : va.length = ks.length := ra.length.symm
  have l2 : vb.length = ls.length := rb.length.symm
  refine PySem.W.keq_eq (knd := mixKind X.prog X.w) (r := r) ya yb da db (by omega) (fun e => hits_of I (by show X.A.units + 1 + 64 < cLine; omega) rb (hh (by rw [← l1, ← l2]; exact e)) ra) ?_
  rw [l1, l2]
  exact ⟨.bl _, H, I, rfl, q⟩
theorem op_neDD (hu : X.A.units + 66 < cLine) : OpR X (compareOp .NotEq) (rEqDD X.K true) := by
  intro pins s σ H x y v u Q I rx ry h
  obtain ⟨a, b, ks, ls, r, rfl, rfl, ea, eb, hh, q⟩ := h
  obtain rfl : v = Value.ref a := rx
  obtain rfl : u = Value.ref b := ry
  obtain ⟨_, ya, va, ra, da⟩ := (show ObjOk X.prog X.w H s.heap a (.dK ks) from I.hok a _ ea)
  obtain ⟨_, yb, vb, rb, db⟩ := (show ObjOk X.prog X.w H s.heap b (.dK ls) from I.hok b _ eb)
  have l1 : va.length = ks.length := ra.length.symm
  have l2 : vb.length = ls.length := rb.length.symm
  refine PySem.W.keq_ne (knd := mixKind X.prog X.w) (r := r) ya yb da db (by omega) (fun e => hits_of I (by show X.A.units + 1 + 64 < cLine; omega) rb (hh (by rw [← l1, ← l2]; exact e)) ra) ?_
  rw [l1, l2]
  exact ⟨.bl _, H, I, rfl, q⟩
def hitU (g : GT) (st : VS) (ls : List (Key × U)) : List (Key × U) → Option Bool
  | [] => some true
  | q :: l => match kGet q.1 ls with
    | none => some false
    | some w => match uD g st 30 q.2, uD g st 30 w with
      | some d, some e => match dSh 40 d, dSh 40 e, dEq 40 d e, hitU g st ls l with
        | true, true, some b, some r => some (b && r)
        | _, _, _, _ => none
      | _, _ => none
theorem hitU_ok {K : PySem.W.Frag} {ρ : List Addr} {st : VS} {H : Hp} (G : GOk K γ g) (R : Rep γ ρ st H) {ls : List (Key × U)} {lw : List (Key × V)} (rl : RK γ ρ ls lw) : ∀ {ks : List (Key × U)} {kw : List (Key × V)} {b : Bool}, hitU g st ls ks = some b → RK γ ρ ks kw → HitsV K H lw kw b
  | [], _, _, e, .nil => by cases e; exact .nil
  | q :: ks, _, b, e, .cons (b := p) r t => by
    unfold hitU at e
    obtain ⟨k, u⟩ := q
    obtain ⟨k', v⟩ := p
    have e1 : k = k' := r.1
    subst e1
    rcases rl.get (k := k) with ⟨g1, g2⟩ | ⟨w, x, g1, g2, rx⟩
    · simp only [g1] at e
      cases e
      exact .miss g2
    · simp only [g1] at e
      cases q1 : uD g st 30 u with
      | none => simp only [q1] at e; cases e
      | some d =>
        cases q2 : uD g st 30 w with
        | none => simp only [q1, q2] at e; cases e
        | some d2 =>
          simp only [q1, q2] at e
          cases q3 : dSh 40 d <;> cases q4 : dSh 40 d2 <;> simp only [q3, q4] at e <;> first | (cases e; done) | skip
          cases q5 : dEq 40 d d2 with
          | none => simp only [q5] at e; cases e
          | some b1 =>
            cases q6 : hitU g st ls ks with
            | none => simp only [q5, q6] at e; cases e
            | some b2 =>
              simp only [q5, q6] at e
              cases e
              rw [← dEq_ok 40 d d2 b1 q5]
              exact .hit g2 (uD_ok G R 30 _ _ _ q1 r.2) (uD_ok G R 30 _ _ _ q2 rx) (shaped_ok q3) (shaped_ok q4) (hitU_ok G R rl q6 t)
def fEqDD (g : GT) (neg : Bool) : U → U → VS → Go U := fun a b st κ => match a, b with
  | .ref i, .ref j => match st.get i, st.get j with
    | some (.dct false ks), some (.dct false ls) => match Nat.beq ks.length ls.length with
      | false => κ (.ok (.bl (bif neg then true else false))) st
      | true => match hitU g st ls ks with
        | some r => κ (.ok (.bl (bif neg then !r else r))) st
        | none => false
    | _, _ => false
  | _, _ => false
theorem leaf_eqDD {K : PySem.W.Frag} (G : GOk K γ g) (neg : Bool) : Leaf2 γ W (rEqDD K neg) (fEqDD g neg) := fun ρ st H τ u1 u2 v1 v2 R r1 r2 κ Q hm ok ex => by
  cases u1 <;> first | (cases hm; done) | (cases u2 <;> cases hm; done) | skip
  cases u2 <;> first | (cases hm; done) | skip
  rename_i i j
  have h2 : (match st.get i, st.get j with
    | some (.dct false ks), some (.dct false ls) => (match Nat.beq ks.length ls.length with
      | false => κ (.ok (.bl (bif neg then true else false))) st
      | true => match hitU g st ls ks with
        | some r => κ (.ok (.bl (bif neg then !r else r))) st
        | none => false)
    | _, _ => false) = true := hm
  cases q1 : st.get i with
  | none => rw [q1] at h2; cases h2
  | some o1 =>
    cases q2 : st.get j with
    | none => rw [q1, q2] at h2; cases o1 <;> first | (cases h2; done) | (rename_i lk _; cases lk <;> cases h2)
    | some o2 =>
      rw [q1, q2] at h2
      cases o1 <;> first | (cases h2; done) | skip
      rename_i lk ks
      cases lk <;> first | (cases h2; done) | skip
      cases o2 <;> first | (cases h2; done) | skip
      rename_i lk ls
      cases lk <;> first | (cases h2; done) | skip
      obtain ⟨a, ev, _, kw, ha, rk⟩ := R.get q1 r1
      obtain ⟨b, ev2, _, lw, hb, rl⟩ := R.get q2 r2
      subst ev ev2
      have n1 : ks.length = kw.length := Paired.length rk
      have n2 : ls.length = lw.length := Paired.length rl
      have h3 : (match Nat.beq ks.length ls.length with
        | false => κ (.ok (.bl (bif neg then true else false))) st
        | true => match hitU g st ls ks with
          | some r => κ (.ok (.bl (bif neg then !r else r))) st
          | none => false) = true := h2
      cases q3 : Nat.beq ks.length ls.length with
      | false =>
        rw [q3] at h3
        have ne : (kw.length == lw.length) = false := by rw [← n1, ← n2]; exact beq_eq_false_iff_ne.mpr fun z => by rw [z, Nat.beq_refl] at q3; cases q3
        refine ⟨a, b, kw, lw, true, rfl, rfl, ha, hb, fun e => ?_, ?_⟩
        · rw [e] at ne; simp at ne
        · rw [ne]
          cases neg <;> exact ok.here (u := .bl _) R rfl h3
      | true =>
        rw [q3] at h3
        have h4 : (match hitU g st ls ks with
          | some r => κ (.ok (.bl (bif neg then !r else r))) st
          | none => false) = true := h3
        have eq : (kw.length == lw.length) = true := by rw [← n1, ← n2]; exact beq_iff_eq.mpr (Nat.eq_of_beq_eq_true q3)
        cases q4 : hitU g st ls ks with
        | none => rw [q4] at h4; cases h4
        | some r =>
          rw [q4] at h4
          refine ⟨a, b, kw, lw, r, rfl, rfl, ha, hb, fun _ => hitU_ok G R rl q4 rk, ?_⟩
          rw [eq]
          cases neg <;> exact ok.here (u := .bl _) R rfl h4
def fEq3 (g : GT) (neg : Bool) : U → U → VS → Go U := fOr2 (fEq g neg) (fEqDD g neg)
theorem o_eq3 (G : GOk X.K γ g) (hu : X.A.units + 66 < cLine) : Op2 X γ W (compareOp .Eq) (fEq3 g false) := (o_eq G (by omega)).or ⟨_, op_eqDD hu, leaf_eqDD G false⟩
theorem o_ne3 (G : GOk X.K γ g) (hu : X.A.units + 66 < cLine) : Op2 X γ W (compareOp .NotEq) (fEq3 g true) := (o_ne G (by omega)).or ⟨_, op_neDD hu, leaf_eqDD G true⟩
theorem hu66 {k : Nat} {A : Around} (r : Room k A) : A.units + 66 < cLine := by have := r.un; omega

/-! ### len(set(xs)), ints all different -/
def iNodup : List Int → Bool
  | [] => true
  | x :: l => match l.any (iEq x) with
    | true => false
    | false => iNodup l
theorem iNodup_ok : ∀ {l : List Int}, iNodup l = true → l.Nodup
  | [], _ => List.nodup_nil
  | x :: l, h => by
    unfold iNodup at h
    cases q : l.any (iEq x) with
    | true => rw [q] at h; cases h
    | false =>
      rw [q] at h
      refine List.nodup_cons.mpr ⟨fun z => ?_, iNodup_ok h⟩
      have : l.any (iEq x) = true := List.any_eq_true.mpr ⟨x, z, iEq_iff.mpr rfl⟩
      rw [q] at this; cases this
def mLenSet (g : GT) (m : ME) : ME := fun σ st => bnd (m σ st) fun u st1 κ => match seqOf g st1 u with
  | some (false, us) => match intsOf us with
    | some l => match iNodup l, Nat.ble l.length 4000 with
      | true, true => κ (.ok (.int (l.length : Nat))) st1
      | _, _ => false
    | none => false
  | _ => false
theorem se_lenSet {a : Expr} {p p2 q pos : Pos} {m : ME} (G : GOk X.K γ g) (hc : X.calm = true) (h : SE γ W X a m) (hm : X.mg "len" = none) (hm2 : X.mg "set" = none) (hg : Gl X "len" := by rfl) (hg2 : Gl X "set" := by rfl)
    (na : starEach [a] X.env = (false, eval a X.env) :: starEach [] X.env := by rfl) : SE γ W X (.Call (.Name "len" p) [.Call (.Name "set" p2) [a] [] q] [] pos) (mLenSet g m) := by
  obtain ⟨t, pt, s⟩ := h
  refine ⟨_, RZ.pe_lenSetI hg hm hg2 hm2 pt hc na, fun ρ st H σ τ R F κ Q hmm ok ex => s ρ st H σ τ R F _ _ hmm (fun ρ1 st1 H1 u v s1 R1 r1 k1 => ?_) ex⟩
  have k2 : (match seqOf g st1 u with
    | some (false, us) => (match intsOf us with
      | some l => (match iNodup l, Nat.ble l.length 4000 with
        | true, true => κ (.ok (.int (l.length : Nat))) st1
        | _, _ => false)
      | none => false)
    | _ => false) = true := k1
  cases q1 : seqOf g st1 u with
  | none => rw [q1] at k2; cases k2
  | some bx =>
    obtain ⟨b, us⟩ := bx
    rw [q1] at k2
    cases b <;> first | (cases k2; done) | skip
    have k3 : (match intsOf us with
      | some l => (match iNodup l, Nat.ble l.length 4000 with
        | true, true => κ (.ok (.int (l.length : Nat))) st1
        | _, _ => false)
      | none => false) = true := k2
    obtain ⟨a, ys, ev, rl, hs⟩ := seq_ok G R1 r1 q1
    subst ev
    cases q2 : intsOf us with
    | none => rw [q2] at k3; cases k3
    | some l =>
      rw [q2] at k3
      have k4 : (match iNodup l, Nat.ble l.length 4000 with
        | true, true => κ (.ok (.int (l.length : Nat))) st1
        | _, _ => false) = true := k3
      cases q3 : iNodup l <;> cases q4 : Nat.ble l.length 4000 <;> rw [q3, q4] at k4 <;> first | (cases k4; done) | skip
      have ey := intsOf_ok q2 rl
      subst ey
      exact ⟨a, l, rfl, hs, iNodup_ok q3, Nat.le_of_ble_eq_true q4, ok ρ1 st1 H1 (.int (l.length : Nat)) _ s1 R1 rfl k4⟩
end
end MV

/-! o.m(e, *y); calls in a heap of their own. -/
namespace MV
open PySem PySem.Spec PyProof.Rows L2
section
variable {γ : Nat → Addr} {W : WX} {X : Cx} {g : GT} {k n np : Nat} {f C : Addr} {mf : MF}
/-- any number of values, at least np -/
def SpMS (γ : Nat → Addr) (np : Nat) (mf : MF) : Sp := fun vs H Q E => ∃ n, np ≤ n ∧ SpM γ n mf vs H Q E
theorem fnR_any {P : Program} {w : World} {K : PySem.W.Frag} {mg : Str → Option Value} {base : Heap} (h : ∀ n, np ≤ n → FnR P w K mg base CX0 k f (SpM γ n mf)) : FnR P w K mg base CX0 k f (SpMS γ np mf) := fun A outer s H us vs Q E hr e0 r ⟨n, hn, q⟩ => h n hn A outer s H us vs Q E hr e0 r q
def mMethS (g : GT) (c : Nat) (m : Str) (mf : MF) (np : Nat) (mo me ml : ME) : ME := fun σ st => bnd (mo σ st) fun u st1 => match u with
  | .ref i => match st1.get i with
    | some (.ins c' fs) => match Nat.beq c' c, fGet m fs with
      | true, none => bnd (me σ st1) fun y st2 => bnd (ml σ st2) fun z st3 κ => match seqOf g st3 z with
        | some (_, xs) => match Nat.ble np (xs.length + 2) with
          | true => mf (.ref i :: y :: xs) st3 (noX fun u st' => κ (.ok u) st')
          | false => false
        | none => false
      | _, _ => bad
    | _ => bad
  | _ => bad
theorem se_methS {c : Nat} {o e1 e2 : Expr} {m : Str} {p apos pos : Pos} {mo me ml : ME} (G : GOk X.K γ g) (hc : Cls X.K (γ c)) (hb : BMeth X.K (γ c) m f) (F : FnR X.prog X.w X.K X.mg X.base CX0 k f (SpMS γ np mf)) (hr : Room k X.A) (ho : SE γ W X o mo) (h1 : SE γ W X e1 me) (h2 : SE γ W X e2 ml)
    (hbase : attributeBase o m X.env (eval o X.env) = eval o X.env := by rfl) (hst : starEach [e1, .Starred e2 p] X.env = [(false, eval e1 X.env), (true, eval e2 X.env)] := by rfl) :
    SE γ W X (.Call (.Attribute o m apos) [e1, .Starred e2 p] [] pos) (mMethS g c m mf np mo me ml) := by
  obtain ⟨to, po, so⟩ := ho
  obtain ⟨t1, p1, s1'⟩ := h1
  obtain ⟨t2, p2, s2'⟩ := h2
  refine ⟨_, pe_methSB po hc hb F hr L2.pass0 p1 p2 hbase hst, fun ρ st H σ τ R F κ Q hm ok ex => so ρ st H σ τ R F _ _ hm (fun ρ1 st1 H1 u v s1 R1 r1 k1 => ?_) ex⟩
  cases u <;> first | (cases k1; done) | skip
  rename_i i
  have k2 : (match st1.get i with
    | some (.ins c' fs) => (match Nat.beq c' c, fGet m fs with
      | true, none => bnd (me σ st1) fun y st2 => bnd (ml σ st2) fun z st3 κ => match seqOf g st3 z with
        | some (_, xs) => (match Nat.ble np (xs.length + 2) with
          | true => mf (.ref i :: y :: xs) st3 (noX fun u st' => κ (.ok u) st')
          | false => false)
        | none => false
      | _, _ => bad)
    | _ => bad) κ = true := k1
  cases q : st1.get i with
  | none => rw [q] at k2; cases k2
  | some ob =>
    rw [q] at k2
    cases ob <;> first | (cases k2; done) | skip
    rename_i c' fs
    obtain ⟨a, ev, ea, dx, ws, hh, rf⟩ := R1.get q r1
    subst ev
    have k3 : (match Nat.beq c' c, fGet m fs with
      | true, none => bnd (me σ st1) fun y st2 => bnd (ml σ st2) fun z st3 κ => match seqOf g st3 z with
        | some (_, xs) => (match Nat.ble np (xs.length + 2) with
          | true => mf (.ref i :: y :: xs) st3 (noX fun u st' => κ (.ok u) st')
          | false => false)
        | none => false
      | _, _ => bad) κ = true := k2
    cases qc : Nat.beq c' c with
    | false => rw [qc] at k3; cases k3
    | true =>
      have ec := Nat.eq_of_beq_eq_true qc
      subst ec
      cases qf : fGet m fs with
      | some w => rw [qc, qf] at k3; cases k3
      | none =>
        rw [qc, qf] at k3
        have hl : ws.lookup m = none := by
          rcases rf.get (f := m) with ⟨_, e⟩ | ⟨_, _, e, _⟩
          · exact e
          · rw [qf] at e; cases e
        refine ⟨a, dx, ws, rfl, hh, hl, fun qa hq => ?_⟩
        -- the bound method's place is none of ours
        have nq : qa ∉ ρ1 := fun z => by obtain ⟨o, e⟩ := R1.all qa z; rw [hq] at e; cases e
        have Sq : Step ρ1 H1 ρ1 (upd H1 qa (.met f a)) := ⟨⟨[], (List.append_nil _).symm⟩, fun _ h n => absurd h n, fun b o _ e => by rw [upd_ne (ne_of_none e hq)]; exact e, fun b o u e => by rw [upd_ne (ne_of_none e hq)]; exact e⟩
        have Rq : Rep γ ρ1 st1 (upd H1 qa (.met f a)) := R1.ext fun b o e => by rw [upd_ne (ne_of_none e hq)]; exact e
        refine s1' ρ1 st1 _ σ τ Rq (F.step (s1.trans Sq)) _ _ k3 (fun ρ2 st2 H2 y vy S2 R2 ry k4 => s2' ρ2 st2 H2 σ τ R2 (F.step (s1.trans (Sq.trans S2))) _ _ k4 (fun ρ3 st3 H3 z vz S3 R3 rz k5 => ?_) (ex.step (s1.trans (Sq.trans S2)))) (ex.step (s1.trans Sq))
        have k6 : (match seqOf g st3 z with
          | some (_, xs) => (match Nat.ble np (xs.length + 2) with
            | true => mf (.ref i :: y :: xs) st3 (noX fun u st' => κ (.ok u) st')
            | false => false)
          | none => false) = true := k5
        cases q5 : seqOf g st3 z with
        | none => rw [q5] at k6; cases k6
        | some bx =>
          obtain ⟨b, xs⟩ := bx
          rw [q5] at k6
          have k7 : (match Nat.ble np (xs.length + 2) with
            | true => mf (.ref i :: y :: xs) st3 (noX fun u st' => κ (.ok u) st')
            | false => false) = true := k6
          obtain ⟨bb, ys, ev, rl, hs⟩ := seq_ok G R3 rz q5
          subst ev
          cases q6 : Nat.ble np (xs.length + 2) with
          | false => rw [q6] at k7; cases k7
          | true =>
            rw [q6] at k7
            have S23 := S2.trans S3
            refine ⟨bb, ys, rfl, by cases b with | true => exact .inl hs | false => exact .inr hs, S23.fr qa _ nq upd_same, ys.length + 2, by rw [← rl.length]; exact Nat.le_of_ble_eq_true q6, rfl, ρ3, st3, .ref i :: y :: xs, _, R3, .cons ((Sq.trans S23).ru r1) (.cons (S3.ru ry) rl), k7, fun ρ' st' H' u v s' R' r' k => ?_⟩
            exact ok ρ' st' H' u v (s1.trans (Sq.trans (S23.trans s'))) R' r' k

/-! ### a call that is run in a heap of its own, and that gives True -/
theorem flat_any {ρ ρ' : List Addr} {u : U} {v : V} (h : flatU u = true) (r : RU γ ρ u v) : RU γ ρ' u v := by
  cases u <;> first | exact r | cases h
theorem flats_any {ρ ρ' : List Addr} : ∀ {us : List U} {vs : List V}, allFlat us = true → RL γ ρ us vs → RL γ ρ' us vs
  | [], _, _, .nil => .nil
  | u :: us, _, h, .cons r t => by
    unfold allFlat at h
    cases q : flatU u with
    | false => rw [q] at h; cases h
    | true => rw [q] at h; exact .cons (flat_any q r) (flats_any h t)
def callT (mf : MF) (n : Nat) (us : List U) (st : VS) : Go U := fun κ => match Nat.beq us.length n, allFlat us with
  | true, true => match mf us vs0 (noX kT) with
    | true => κ (.ok (.bl true)) st
    | false => false
  | _, _ => false
theorem sim_callT {ρ : List Addr} {st : VS} {H : Hp} {τ : L2.St} {us : List U} {vs : List V} (R : Rep γ ρ st H) (r : RL γ ρ us vs) : SimAt γ W τ (RU γ) ρ H (fun Q => SpM γ n mf vs H Q E0) (callT mf n us st) := fun κ Q hm ok _ => by
  have hm2 : (match Nat.beq us.length n, allFlat us with
    | true, true => (match mf us vs0 (noX kT) with
      | true => κ (.ok (.bl true)) st
      | false => false)
    | _, _ => false) = true := hm
  cases q : Nat.beq us.length n with
  | false => rw [q] at hm2; cases hm2
  | true =>
    cases q2 : allFlat us with
    | false => rw [q, q2] at hm2; cases hm2
    | true =>
      rw [q, q2] at hm2
      have hm3 : (match mf us vs0 (noX kT) with | true => κ (.ok (.bl true)) st | false => false) = true := hm2
      cases q3 : mf us vs0 (noX kT) with
      | false => rw [q3] at hm3; cases hm3
      | true =>
        rw [q3] at hm3
        refine ⟨r.length.symm.trans (Nat.eq_of_beq_eq_true q), [], vs0, us, kT, rep0, flats_any q2 r, q3, fun ρ' st' H' u v s R' r' k => ?_⟩
        have keep : ∀ a o, H a = some o → H' a = some o := fun a o e => s.fr a o List.not_mem_nil e
        cases u <;> first | (cases k; done) | skip
        rename_i b
        cases b <;> first | (cases k; done) | skip
        have ev : v = .bl true := r'
        subst ev
        exact ok ρ st H' (.bl true) _ ⟨⟨[], (List.append_nil _).symm⟩, fun _ h n => absurd h n, fun a o _ e => keep a o e, fun a o u e => keep a _ e⟩ (R.ext keep) rfl hm3
def mCallT (mf : MF) (n : Nat) (ms : MA) : ME := fun σ st => bnd (ms σ st) fun us st1 => callT mf n us st1
theorem se_callT {x : Str} {e : Expr} {es : List Expr} {p pos : Pos} {ms : MA} (F : FnM X γ k f n mf) (hr : Room k X.A) (hm : X.mg x = some (.ref f)) (hk : PySem.W.keepIn X.K (.ref f) = true) (ha : SA γ W X (e :: es) ms) (hg : Gl X x := by rfl) (hd : (x == ("__debug__" : Str)) = false := by decide)
    (he : starEach (e :: es) X.env = (false, eval e X.env) :: starEach es X.env := by rfl) (hpl : (backTo pos (starEach es X.env)).any (·.1) = false := by rfl) : SE γ W X (.Call (.Name x p) (e :: es) [] pos) (mCallT mf n ms) := by
  obtain ⟨t, pa, s⟩ := ha
  have P : PE X (.Call (.Name x p) (e :: es) [] pos) (fun σ H Q => t σ H fun vs H1 => SpM γ n mf vs H1 Q E0) := by
    refine ⟨fun pins s σ H Q I h => ?_⟩
    refine wpAny_Call_Name_kw (ld_glob I hg hm ?_ hd)
    refine PySem.W.callWith_K (h₀ := X.base) I.ok.mod.kin hk (thn (pa.run pos pins s σ H _ I h) fun us s1 ⟨vs, H1, I1, r, q⟩ => ⟨I1.kIn, ?_⟩) he hpl
    exact wpAny_call (run_fnR F hr L2.pass0 I1 r q)
  exact ⟨_, P, fun ρ st H σ τ R F κ Q hm ok ex => s ρ st H σ τ R F _ _ hm (fun ρ1 st1 H1 us vs s1 R1 r1 k1 => sim_callT (W := W) (τ := τ) R1 r1 _ _ k1 (ok.step s1) (ex.step s1)) ex⟩
theorem se_callT0 {x : Str} {p pos : Pos} (F : FnM X γ k f n mf) (hr : Room k X.A) (hm : X.mg x = some (.ref f)) (hk : PySem.W.keepIn X.K (.ref f) = true) (hg : Gl X x := by rfl) (hd : (x == ("__debug__" : Str)) = false := by decide) : SE γ W X (.Call (.Name x p) [] [] pos) (mCallT mf n mNil) := by
  have P : PE X (.Call (.Name x p) [] [] pos) (fun σ H Q => tNil σ H fun vs H1 => SpM γ n mf vs H1 Q E0) := by
    refine ⟨fun pins s σ H Q I h => ?_⟩
    refine wpAny_Call_Name_kw (ld_glob I hg hm ?_ hd)
    exact PySem.W.callWith_K0 I.kIn hk (wpAny_call (run_fnR (us := []) F hr L2.pass0 I .nil h))
  exact ⟨_, P, fun ρ st H σ τ R F κ Q hm ok ex => sim_callT (W := W) (τ := τ) R .nil _ _ hm ok ex⟩
end
end MV

/-! d[k] op= e. -/
namespace MV
open PySem PySem.Spec PyProof.Rows L2
section
variable {γ : Nat → Addr} {W : WX} {X : Cx} {g : GT}
def mAugD (f : Int → Int → Int) (mo mi mv : ME) : MS := fun σ st κ => mo σ st (onE κ σ fun u st1 => mi σ st1 (onE κ σ fun q st2 => match u with
  | .ref i => match st2.get i, kOf q with
    | some (.dct _ kvs), some k => match kGet k kvs with
      | some (.int a) => mv σ st2 (onE κ σ fun w st3 => match w with
        | .int b => match st3.get i with
          | some (.dct false kvs') => match Nat.blt kvs'.length line with
            | true => κ .nx σ (st3.put i (.dct false (kPut k (.int (f a b)) kvs')))
            | false => false
          | _ => false
        | _ => false)
      | _ => false
    | _, _ => false
  | _ => false))
theorem ss_augD {o i value : Expr} {op : Operator} {rd : V → V → Hp → VK → Prop} {f : Int → Int → Int} {tpos pos : Pos} {mo mi mv : ME} (hu : X.A.units + 1 < cLine) (hop : InOp X op rd) (hrd : ∀ a b H (Q : VK), Q (.int (f a b)) H → rd (.int a) (.int b) H Q)
    (ho : SE γ W X o mo) (hi : SE γ W X i mi) (hv : SE γ W X value mv)
    (ha : ∀ ov iv new, augStore i ov iv new = (do holding [new, ov, iv] (setItem ov iv new); release [new, ov, iv] []; pure .next) := by intros; rfl) : SS γ W X (.AugAssign (.Subscript o i tpos) op value pos) (mAugD f mo mi mv) := by
  obtain ⟨to, po, so⟩ := ho
  obtain ⟨ti, pi, si⟩ := hi
  obtain ⟨tv, pv, sv⟩ := hv
  refine ⟨_, ps_daug hu po pi pv hop ha, fun ρ st H σ τ R F κ D hm ok => so ρ st H σ τ R F _ _ hm (fun ρ1 st1 H1 u v s1 R1 r1 k1 => si ρ1 st1 H1 σ τ R1 (F.step s1) _ _ k1 (fun ρ2 st2 H2 q vq s2 R2 rq k2 => ?_) ((ok.step s1).exK (F.step s1))) (ok.exK F)⟩
  cases u <;> first | (cases k2; done) | skip
  rename_i i
  have k3 : (match st2.get i, kOf q with
    | some (.dct _ kvs), some k => (match kGet k kvs with
      | some (.int a) => mv σ st2 (onE κ σ fun w st3 => match w with
        | .int b => (match st3.get i with
          | some (.dct false kvs') => (match Nat.blt kvs'.length line with
            | true => κ .nx σ (st3.put i (.dct false (kPut k (.int (f a b)) kvs')))
            | false => false)
          | _ => false)
        | _ => false)
      | _ => false)
    | _, _ => false) = true := k2
  cases q1 : st2.get i with
  | none => rw [q1] at k3; cases k3
  | some ob =>
    cases q2 : kOf q with
    | none => rw [q1, q2] at k3; cases ob <;> cases k3
    | some k =>
      rw [q1, q2] at k3
      cases ob <;> first | (cases k3; done) | skip
      rename_i lk kvs
      have k4 : (match kGet k kvs with
        | some (.int a) => mv σ st2 (onE κ σ fun w st3 => match w with
          | .int b => (match st3.get i with
            | some (.dct false kvs') => (match Nat.blt kvs'.length line with
              | true => κ .nx σ (st3.put i (.dct false (kPut k (.int (f a b)) kvs')))
              | false => false)
            | _ => false)
          | _ => false)
        | _ => false) = true := k3
      obtain ⟨a, ev, ea, ro⟩ := R2.get q1 (s2.ru r1)
      subst ev
      obtain ⟨ws, rdd, rk⟩ := dct_rd ro
      rcases rk.get (k := k) with ⟨e1, e2⟩ | ⟨w, x, e1, e2, rw'⟩
      · rw [e1] at k4; cases k4
      · rw [e1] at k4
        cases w <;> first | (cases k4; done) | skip
        rename_i n
        have ex : x = .int n := rw'
        subst ex
        refine ⟨a, .int n, rfl, .inl ⟨ws, k, rdd, kOf_ok q2 rq, e2.symm⟩, sv ρ2 st2 H2 σ τ R2 (F.step (s1.trans s2)) _ _ k4 (fun ρ3 st3 H3 w y s3 R3 r3 k5 => ?_) ((ok.step (s1.trans s2)).exK (F.step (s1.trans s2)))⟩
        cases w <;> first | (cases k5; done) | skip
        rename_i b
        have ey : y = .int b := r3
        subst ey
        have k6 : (match st3.get i with
          | some (.dct false kvs') => (match Nat.blt kvs'.length line with
            | true => κ .nx σ (st3.put i (.dct false (kPut k (.int (f n b)) kvs')))
            | false => false)
          | _ => false) = true := k5
        cases q5 : st3.get i with
        | none => rw [q5] at k6; cases k6
        | some ob =>
          rw [q5] at k6
          cases ob <;> first | (cases k6; done) | skip
          rename_i lk2 kvs2
          cases lk2 <;> first | (cases k6; done) | skip
          have k7 : (match Nat.blt kvs2.length line with
            | true => κ .nx σ (st3.put i (.dct false (kPut k (.int (f n b)) kvs2)))
            | false => false) = true := k6
          cases q6 : Nat.blt kvs2.length line with
          | false => rw [q6] at k7; cases k7
          | true =>
            rw [q6] at k7
            obtain ⟨a2, ev2, ea2, ws2, hh, rk2⟩ := R3.get q5 ((s2.trans s3).ru r1)
            cases ev2
            have hh : H3 a = some (.dK ws2) := hh
            have ro2 : RO γ ρ3 (upd H3 a (.dK (putK ws2 k (.int (f n b))))) a (.dct false (kPut k (.int (f n b)) kvs2)) := ⟨_, upd_same, rk2.put (u := .int (f n b)) (v := .int (f n b)) rfl⟩
            obtain ⟨R4, S4⟩ := R3.put ea2 (by rw [hh]; intro _ _ z; cases z) ro2
            have hl : ws2.length < sizeLine := by
              rw [← show kvs2.length = ws2.length from Paired.length rk2]; exact line_lt q6
            have S := s1.trans (s2.trans (s3.trans S4))
            exact hrd _ _ _ _ ⟨_, .inl ⟨ws2, k, hh, kOf_ok q2 rq, hl, rfl⟩, ok.nx ρ3 _ _ σ τ S R4 (F.step S) k7⟩
theorem rd_add (a b : Int) (H : Hp) (Q : VK) (h : Q (.int (a + b)) H) : rAdd (.int a) (.int b) H Q := ⟨a, b, rfl, rfl, h⟩
theorem rd_sub (a b : Int) (H : Hp) (Q : VK) (h : Q (.int (a - b)) H) : rSub (.int a) (.int b) H Q := ⟨a, b, rfl, rfl, h⟩
/-! ### a bound method as a value -/
def bmB (K : PySem.W.Frag) (x m : Str) : Bool := He.eqO (PySem.W.specialIn K (.ref (He.ma K (He.ga K x) m)) "__get__") (some (some (.builtin "function.__get__"))) && (decide (PySem.W.takesIn K (.ref (He.ma K (He.ga K x) m)) = some false) && (!PySem.W.copiedNames.contains m && PySem.W.fnIn K (He.ma K (He.ga K x) m)))
theorem bmB_ok {K : PySem.W.Frag} {x m : Str} (h : bmB K x m = true) (mt : Meth K (He.ga K x) m (He.ma K (He.ga K x) m)) : BMeth K (He.ga K x) m (He.ma K (He.ga K x) m) := by
  obtain ⟨h1, h2⟩ := He.ba h
  obtain ⟨h3, h4⟩ := He.ba h2
  obtain ⟨h5, h6⟩ := He.ba h4
  refine ⟨mt, He.eqO_ok h1, of_decide_eq_true h3, ?_, h6⟩
  cases q : PySem.W.copiedNames.contains m with
  | false => rfl
  | true => rw [q] at h5; cases h5
/-! ### calls with no values, or with an int of a list, that are known to give True -/
def mCallC : ME := fun σ st κ => κ (.ok (.bl true)) st
theorem se_callC {k : Nat} {f : Addr} {mf : MF} {x : Str} {p pos : Pos} (h : mf [] vs0 (noX kT) = true) (F : FnM X γ k f 0 mf) (hr : Room k X.A) (hm : X.mg x = some (.ref f)) (hk : PySem.W.keepIn X.K (.ref f) = true) (hg : Gl X x := by rfl) (hd : (x == ("__debug__" : Str)) = false := by decide) : SE γ W X (.Call (.Name x p) [] [] pos) mCallC := by
  obtain ⟨t, pt, s⟩ := se_callT0 (γ := γ) (W := W) (X := X) (pos := pos) (p := p) F hr hm hk hg hd
  refine ⟨t, pt, fun ρ st H σ τ R Fr κ Q hmm ok ex => s ρ st H σ τ R Fr κ Q ?_ ok ex⟩
  show (match mf [] vs0 (noX kT) with | true => κ (.ok (.bl true)) st | false => false) = true
  rw [h]
  exact hmm
def iMem (i : Int) (l : List Int) : Bool := l.any (iEq i)
def mCallC1 (l : List Int) (ms : MA) : ME := fun σ st => bnd (ms σ st) fun us st1 κ => match us with
  | [.int i] => match iMem i l with
    | true => κ (.ok (.bl true)) st1
    | false => false
  | _ => false
theorem callC1_go {mf : MF} {l : List Int} {us : List U} {st1 : VS} {κ : Rs U → VS → Bool} (h : ∀ i ∈ l, mf [.int i] vs0 (noX kT) = true) (k2 : (match us with
    | [.int i] => (match iMem i l with
      | true => κ (.ok (.bl true)) st1
      | false => false)
    | _ => false) = true) : callT mf 1 us st1 κ = true := by
  match us, k2 with
  | [.int i], k2 =>
    have k3 : (match iMem i l with
      | true => κ (.ok (.bl true)) st1
      | false => false) = true := k2
    cases q : iMem i l with
    | false => rw [q] at k3; cases k3
    | true =>
      rw [q] at k3
      obtain ⟨j, hj, ej⟩ := List.any_eq_true.mp q
      have ej := iEq_iff.mp ej
      subst ej
      show (match mf [.int i] vs0 (noX kT) with | true => κ (.ok (.bl true)) st1 | false => false) = true
      rw [h i hj]
      exact k3
theorem se_callC1 {k : Nat} {f : Addr} {mf : MF} {x : Str} {e : Expr} {l : List Int} {p pos : Pos} {ms : MA} (h : ∀ i ∈ l, mf [.int i] vs0 (noX kT) = true) (F : FnM X γ k f 1 mf) (hr : Room k X.A) (hm : X.mg x = some (.ref f)) (hk : PySem.W.keepIn X.K (.ref f) = true) (ha : SA γ W X [e] ms) (hg : Gl X x := by rfl) (hd : (x == ("__debug__" : Str)) = false := by decide)
    (he : starEach [e] X.env = (false, eval e X.env) :: starEach [] X.env := by rfl) (hpl : (backTo pos (starEach [] X.env)).any (·.1) = false := by rfl) : SE γ W X (.Call (.Name x p) [e] [] pos) (mCallC1 l ms) := by
  obtain ⟨t, pa, s⟩ := ha
  have P : PE X (.Call (.Name x p) [e] [] pos) (fun σ H Q => t σ H fun vs H1 => SpM γ 1 mf vs H1 Q E0) := by
    refine ⟨fun pins s σ H Q I h => ?_⟩
    refine wpAny_Call_Name_kw (ld_glob I hg hm ?_ hd)
    refine PySem.W.callWith_K (h₀ := X.base) I.ok.mod.kin hk (thn (pa.run pos pins s σ H _ I h) fun us s1 ⟨vs, H1, I1, r, q⟩ => ⟨I1.kIn, ?_⟩) he hpl
    exact wpAny_call (run_fnR F hr L2.pass0 I1 r q)
  refine ⟨_, P, fun ρ st H σ τ R F κ Q hmm ok ex => s ρ st H σ τ R F _ _ hmm (fun ρ1 st1 H1 us vs s1 R1 r1 k1 => sim_callT (W := W) (τ := τ) (mf := mf) R1 r1 _ _ (callC1_go h k1) (ok.step s1) (ex.step s1)) ex⟩
end
end MV

/-! name = {k: v for ..}. -/
namespace L2
open PySem PySem.Spec PyProof.Rows
section
variable {X : Cx}
theorem sw_trueD {kx vx : Expr} {gs : List Comprehension} {scope : Scope} {pos py : Pos} {y : Str} {l : Nat} {env : Env} (hk : env.scope.kind = .function) (hy : env.scope.names.lookup y = some .local) (hl : (py.line == pos.line) = true)
    (ha : (scope.names.any fun (n, k) => n == y && (k == .local || k == .cell)) = false) : swapsWith (.DictComp kx vx gs scope pos) (some (.Name y py)) l env = pure true := by
  have ky : env.kindOf y = some .local := hy
  have hb : env.blockKind = .function := by unfold Env.blockKind; rw [hk]; rfl
  unfold swapsWith
  simp only [hb, ky, ha, Expr.pos, hl]
  rfl
theorem ps_setDc {i : Nat} {y : Str} {py : Pos} {kx vx tg iter : Expr} {ifs : List Expr} {scope : Scope} {own : List (Str × Nat)} {pos spos : Pos} {wi : TI} {g : TG} {tt : TT} {tk tv : TE} (hc : X.calm = true) (hN : X.N.Nodup) (hy : X.N[i]? = some y) (hyl : X.env.scope.names.lookup y = some .local)
    (hsw : swapsWith (.DictComp kx vx [⟨tg, iter, ifs, 0⟩] scope pos) (some (.Name y py)) spos.line X.env = pure true) (hi : PI X tg iter wi) (ok : BlkOk X.N X.env.scope scope own)
    (hg : ∀ (s : Shared) (H : Hp) (C : Addr) (cl : List (Str × Addr)) (fp : List Addr), PG (X.blk s H scope (compEnvC scope cl C X.env) fp) tg g) (ht : ∀ (s : Shared) (H : Hp) (C : Addr) (cl : List (Str × Addr)) (fp : List Addr), PTs (X.blk s H scope (compEnvC scope cl C X.env) fp) ifs tt)
    (hk : ∀ (s : Shared) (H : Hp) (C : Addr) (cl : List (Str × Addr)) (fp : List Addr), PE (X.blk s H scope (compEnvC scope cl C X.env) fp) kx tk)
    (he : ∀ (s : Shared) (H : Hp) (C : Addr) (cl : List (Str × Addr)) (fp : List Addr), PE (X.blk s H scope (compEnvC scope cl C X.env) fp) vx tv) (hs : ∀ x, foldedSetIterable iter X.env x = pure x := by intro _; rfl) :
    PS X (.Assign [.Name y py] (.DictComp kx vx [⟨tg, iter, ifs, 0⟩] scope pos) spos) (tAsg (tDc wi g tt tk tv (own.map (·.2))) (gName i)) := by
  refine ⟨fun pins s σ H D I h => ?_⟩
  rw [exec_Assign_Name_used _ _ _ _ hsw]
  refine wpAny_bind (wpAny_standAt (wpAny_bind ?_))
  show wpAny _ X.A (do let _ ← comprehension (.DictComp kx vx [⟨tg, iter, ifs, 0⟩] scope pos) scope X.env (firstIterPos [⟨tg, iter, ifs, 0⟩] pos) newDict false (eval iter X.env) (some (assign (.Name y py) X.env))) _ _ s
  have h : tDc wi g tt tk tv (own.map (·.2)) σ H (fun x H1 => gName i x σ H1 D.nx) := h
  refine wpAny_bind (thn (dc_core (Qf := fun _ s' => SP X pins D .next s') hc hN I hi ok hg ht hk he hs h fun L C s' m H' I' q hn f => ?_) fun _ s' hq => wpAny_pure (wpAny_pure hq))
  show wpAny _ _ (assign (.Name y py) X.env (.ref L)) _ _ _
  refine wpAny_assign_Name (store_ok2 (v := V.ref L) I' hN hy (.inl hyl) rfl (fun s2 I2 ⟨a, sb, ha⟩ => ?_) (.inr hyl))
  obtain ⟨f0, f1, f2, f3, f4, f5⟩ := f
  have haC : C ≠ a := by
    rcases ha with z | z
    · rw [z]; exact f1
    · exact fun e => f4 y a z e.symm
  refine ⟨m, hn.sameBut sb haC, fun h3 sb3 => ?_⟩
  exact ⟨_, H', I2.turned (t' := s2.toks) (fun b o hb e => (sb3.2 b hb).trans e) f0 f1 f3 f4 f5, q⟩
end
end L2
namespace MV
open PySem PySem.Spec PyProof.Rows L2
section
variable {γ : Nat → Addr} {W : WX} {X : Cx} {g : GT}
theorem ss_setDc {i : Nat} {y : Str} {py : Pos} {kx vx tg iter : Expr} {ifs : List Expr} {scope : Scope} {own : List (Str × Nat)} {pos spos : Pos} {sl : List Nat} {mi : MI} {mg : MG} {mt : MT} {mk me : ME} (n : Nat) (hc : X.calm = true) (hN : X.N.Nodup) (hi : SI γ W g X tg iter mi) (ok : BlkOk X.N X.env.scope scope own)
    (hg : ∀ (s : Shared) (H : Hp) (C : Addr) (cl : List (Str × Addr)) (fp : List Addr), SG γ (X.blk s H scope (compEnvC scope cl C X.env) fp) sl tg mg) (ht : ∀ (s : Shared) (H : Hp) (C : Addr) (cl : List (Str × Addr)) (fp : List Addr), PTs (X.blk s H scope (compEnvC scope cl C X.env) fp) ifs (tMt γ W0 mt))
    (hk : ∀ (s : Shared) (H : Hp) (C : Addr) (cl : List (Str × Addr)) (fp : List Addr), SE γ W0 (X.blk s H scope (compEnvC scope cl C X.env) fp) kx mk) (he : ∀ (s : Shared) (H : Hp) (C : Addr) (cl : List (Str × Addr)) (fp : List Addr), SE γ W0 (X.blk s H scope (compEnvC scope cl C X.env) fp) vx me)
    (hy : X.N[i]? = some y := by rfl) (hyl : X.env.scope.names.lookup y = some .local := by rfl)
    (hsw : swapsWith (.DictComp kx vx [⟨tg, iter, ifs, 0⟩] scope pos) (some (.Name y py)) spos.line X.env = pure true := by exact sw_trueD rfl rfl rfl (by decide +kernel)) (hsl : ∀ j ∈ sl, j ∈ own.map (·.2) := by decide) (hs : ∀ x, foldedSetIterable iter X.env x = pure x := by intro _; rfl) :
    SS γ W X (.Assign [.Name y py] (.DictComp kx vx [⟨tg, iter, ifs, 0⟩] scope pos) spos) (mAsg (mDc g n (own.map (·.2)) mi mg mt mk me) (mgName i)) := by
  obtain ⟨ti, pi, si⟩ := hi
  refine ⟨_, ps_unl (ps_setDc hc hN hy hyl hsw pi ok (fun s H C cl fp => (hg s H C cl fp).pg) ht (fun s H C cl fp => (hk s H C cl fp).pe) (fun s H C cl fp => (he s H C cl fp).pe) hs), fun ρ st H σ τ R F κ D hm ok => ?_⟩
  exact sim_dc n si hsl ρ st H σ τ R F _ (fun v H1 => D.nx (τ.set i (some v)) H1) hm (fun ρ1 st1 H1 u v s1 R1 r1 k => ok.nx ρ1 st1 H1 _ _ s1 R1 ((F.step s1).set i r1) k) (ok.exK F)
/-! a block within a block -/
def blkB (N : List Str) (sc scope : Scope) (own : List (Str × Nat)) : Bool := decide (scope.kind = .function) && (decide (∀ y ∈ scope.names, scope.names.lookup y.1 = some y.2) && (decide (∀ p ∈ own, N[p.2]? = some p.1) && (decide (∀ y ∈ scope.names, y.2 = .free → sc.names.lookup y.1 = some .cell ∨ sc.names.lookup y.1 = some .free) &&
  decide (∀ y ∈ scope.names, y.2 = .local ∨ y.2 = .cell → y.1 ∈ own.map (·.1) ∨ y.1 ∉ N))))
theorem blkB_ok {N : List Str} {sc scope : Scope} {own : List (Str × Nat)} (h : blkB N sc scope own = true) : BlkOk N sc scope own := by
  obtain ⟨h1, h2⟩ := He.ba h
  obtain ⟨h3, h4⟩ := He.ba h2
  obtain ⟨h5, h6⟩ := He.ba h4
  obtain ⟨h7, h8⟩ := He.ba h6
  exact ⟨of_decide_eq_true h1, of_decide_eq_true h3, of_decide_eq_true h5, of_decide_eq_true h7, of_decide_eq_true h8⟩
theorem sw_falseD {kx vx : Expr} {gs : List Comprehension} {scope : Scope} {pos py : Pos} {y : Str} {l : Nat} {env : Env} (hy : env.scope.names.lookup y = some .cell) : swapsWith (.DictComp kx vx gs scope pos) (some (.Name y py)) l env = pure false := by
  have ky : env.kindOf y = some .cell := hy
  unfold swapsWith
  simp only [ky]
  cases (env.blockKind == .function) <;> rfl
theorem sw_falseL {elt : Expr} {gs : List Comprehension} {scope : Scope} {pos py : Pos} {y : Str} {l : Nat} {env : Env} (hy : env.scope.names.lookup y = some .cell) : swapsWith (.ListComp elt gs scope pos) (some (.Name y py)) l env = pure false := by
  have ky : env.kindOf y = some .cell := hy
  unfold swapsWith
  simp only [ky]
  cases (env.blockKind == .function) <;> rfl
end
end MV

/-! a list so many times. -/
namespace MV
open PySem PySem.Spec PyProof.Rows L2
section
variable {γ : Nat → Addr} {W : WX} {X : Cx} {g : GT}
def fRep : U → U → VS → Go U := fun a b st κ => match a, b with
  | .ref i, .int k => match st.get i with
    | some (.lst xs) => match decide (0 ≤ k), Nat.ble (xs.length * k.toNat) line with
      | true, true => match Nat.blt k.toNat 9223372036854775808 with
        | true => κ (.ok (.ref st.n)) (st.new (.lst (List.replicate k.toNat xs).flatten))
        | false => false
      | _, _ => false
    | _ => false
  | _, _ => false
theorem rl_rep {ρ : List Addr} {us : List U} {vs : List V} (h : RL γ ρ us vs) : ∀ n : Nat, RL γ ρ (List.replicate n us).flatten (List.replicate n vs).flatten
  | 0 => .nil
  | n + 1 => papp h (rl_rep h n)
theorem o_rep : Op2 X γ W (binaryOp .Mult) fRep := ⟨_, op_rep, fun ρ st H τ u1 u2 v1 v2 R r1 r2 κ Q hm ok ex => by
  cases u1 <;> cases u2 <;> first | (cases hm; done) | skip
  rename_i i k
  have hm2 : (match st.get i with
    | some (.lst xs) => (match decide (0 ≤ k), Nat.ble (xs.length * k.toNat) line with
      | true, true => (match Nat.blt k.toNat 9223372036854775808 with
        | true => κ (.ok (.ref st.n)) (st.new (.lst (List.replicate k.toNat xs).flatten))
        | false => false)
      | _, _ => false)
    | _ => false) = true := hm
  cases q1 : st.get i with
  | none => rw [q1] at hm2; cases hm2
  | some o1 =>
    rw [q1] at hm2
    cases o1 <;> first | (cases hm2; done) | skip
    rename_i xs
    have hm3 : (match decide (0 ≤ k), Nat.ble (xs.length * k.toNat) line with
      | true, true => (match Nat.blt k.toNat 9223372036854775808 with
        | true => κ (.ok (.ref st.n)) (st.new (.lst (List.replicate k.toNat xs).flatten))
        | false => false)
      | _, _ => false) = true := hm2
    cases qs : decide (0 ≤ k) with
    | false => rw [qs] at hm3; cases hm3
    | true =>
      cases q : Nat.ble (xs.length * k.toNat) line with
      | false => rw [qs, q] at hm3; cases hm3
      | true =>
        rw [qs, q] at hm3
        have hm4 : (match Nat.blt k.toNat 9223372036854775808 with
          | true => κ (.ok (.ref st.n)) (st.new (.lst (List.replicate k.toNat xs).flatten))
          | false => false) = true := hm3
        cases q3 : Nat.blt k.toNat 9223372036854775808 with
        | false => rw [q3] at hm4; cases hm4
        | true =>
          rw [q3] at hm4
          obtain ⟨a, ea, _, vs, ha, ra⟩ := R.get q1 r1
          have hk : v2 = .int k := r2
          have h5 : k.toNat < 9223372036854775808 := Nat.le_of_ble_eq_true q3
          have h6 : 0 ≤ k := of_decide_eq_true qs
          exact ⟨a, k, vs, ea, hk, ha, by omega, by omega, by rw [← ra.length]; exact line_ok q, ok.alloc R hm4 fun p => ⟨_, upd_same, (rl_rep ra k.toNat).mono⟩⟩⟩
def fMul3 : U → U → VS → Go U := fOr2 fMul fRep
theorem o_mul3 : Op2 X γ W (binaryOp .Mult) fMul3 := o_mulI.or o_rep
end
end MV

/-! dict(a list of pairs). -/
namespace MV
open PySem PySem.Spec PyProof.Rows L2
section
variable {γ : Nat → Addr} {W : WX} {X : Cx} {g : GT}
def prOf (g : GT) (st : VS) : List U → Option (List (Key × U))
  | [] => some []
  | u :: r => match seqOf g st u with
    | some (true, [k, x]) => match kOf k, prOf g st r with
      | some k', some l => some ((k', x) :: l)
      | _, _ => none
    | _ => none
theorem prOf_ok {K : PySem.W.Frag} (G : GOk K γ g) {ρ : List Addr} {st : VS} {H : Hp} (R : Rep γ ρ st H) : ∀ {us : List U} {vs : List V} {kvs : List (Key × U)}, prOf g st us = some kvs → RL γ ρ us vs →
    ∃ (ps : List Addr) (ws : List (Key × V)), vs = ps.map V.ref ∧ Paired (fun p kv => SqT K H p [kV kv.1, kv.2]) ps ws ∧ RK γ ρ kvs ws
  | [], _, kvs, h, .nil => by
    cases h
    exact ⟨[], [], rfl, .nil, .nil⟩
  | u :: r, v :: vs, kvs, h, .cons ru rr => by
    have h2 : (match seqOf g st u with
      | some (true, [k, x]) => (match kOf k, prOf g st r with
        | some k', some l => some ((k', x) :: l)
        | _, _ => none)
      | _ => none) = some kvs := h
    cases q : seqOf g st u with
    | none => rw [q] at h2; cases h2
    | some bx =>
      obtain ⟨b, xs⟩ := bx
      rw [q] at h2
      match b, xs, h2, q with
      | true, [k, x], h2, q =>
        have h3 : (match kOf k, prOf g st r with
          | some k', some l => some ((k', x) :: l)
          | _, _ => none) = some kvs := h2
        cases q1 : kOf k with
        | none => rw [q1] at h3; cases h3
        | some k' =>
          cases q2 : prOf g st r with
          | none => rw [q1, q2] at h3; cases h3
          | some l =>
            rw [q1, q2] at h3
            cases h3
            obtain ⟨a, ys, ev, ry, sq⟩ := seq_ok G R ru q
            obtain ⟨ps, ws, e1, e2, e3⟩ := prOf_ok G R q2 rr
            cases ry with
            | cons r1 ry =>
              cases ry with
              | cons r2 ry =>
                cases ry
                rename_i y1 y2
                have e4 : y1 = kV k' := kOf_ok q1 r1
                subst e4
                exact ⟨a :: ps, (k', y2) :: ws, by rw [ev, e1]; rfl, .cons sq e2, .cons ⟨rfl, r2⟩ e3⟩
def fDictP (g : GT) : U → VS → Go U := fun u st κ => match seqOf g st u with
  | some (false, us) => match prOf g st us with
    | some kvs => κ (.ok (.ref st.n)) (st.new (.dct false (mrgU [] kvs)))
    | none => false
  | _ => false
theorem cb_dictP (G : GOk X.K γ g) (hc : X.calm = true) : Cb X γ W (.type "dict") (f1 (fDictP g)) := ⟨fun vs H Q => ∃ x, vs = [x] ∧ ∃ (a : Addr) (ps : List Addr) (kvs : List (Key × V)), x = .ref a ∧ SqL X.K H a (ps.map V.ref) ∧ Paired (fun p kv => SqT X.K H p [kV kv.1, kv.2]) ps kvs ∧ ∀ p, H p = none → Q (.ref p) (upd H p (.dK (mergeK [] kvs))),
    fun pins s σ H xs us Q I r ⟨x, e1, a, ps, kvs, e2, h1, h2, q⟩ => call_dictP hc pins s σ H xs us Q I r ⟨a, ps, kvs, by rw [e1, e2], h1, h2, q⟩, leaf1 fun ρ st H τ u v R ru κ Q hm ok ex => by
  have hm2 : (match seqOf g st u with
    | some (false, us) => (match prOf g st us with
      | some kvs => κ (.ok (.ref st.n)) (st.new (.dct false (mrgU [] kvs)))
      | none => false)
    | _ => false) = true := hm
  cases q : seqOf g st u with
  | none => rw [q] at hm2; cases hm2
  | some bx =>
    obtain ⟨b, us⟩ := bx
    rw [q] at hm2
    cases b with
    | true => cases hm2
    | false =>
      have hm3 : (match prOf g st us with
        | some kvs => κ (.ok (.ref st.n)) (st.new (.dct false (mrgU [] kvs)))
        | none => false) = true := hm2
      cases q2 : prOf g st us with
      | none => rw [q2] at hm3; cases hm3
      | some kvs =>
        rw [q2] at hm3
        obtain ⟨a, ys, ev, ry, sq⟩ := seq_ok G R ru q
        obtain ⟨ps, ws, e1, e2, e3⟩ := prOf_ok G R q2 ry
        subst e1
        exact ⟨a, ps, ws, ev, sq, e2, ok.alloc R hm3 fun p => ⟨_, upd_same, mrg_ok (pmap (fun _ _ z => ⟨z.1, z.2.mono⟩) e3) .nil⟩⟩⟩
def fDict (g : GT) : List U → VS → Go U := fOrL (f1 fDictD) (f1 (fDictP g))
theorem cb_dict (G : GOk X.K γ g) (hc : X.calm = true) : Cb X γ W (.type "dict") (fDict g) := cb_dictD.or (cb_dictP G hc)
end
end MV

/-! in a list of nested data. -/
namespace MV
open PySem PySem.Spec PyProof.Rows L2
def anyD (d : PyData) : List PyData → Option Bool
  | [] => some false
  | e :: r => match dEq 40 e d with
    | some true => some true
    | some false => anyD d r
    | none => none
theorem anyD_ok {d : PyData} : ∀ {ds : List PyData} {b : Bool}, anyD d ds = some b → (ds.any fun z => PyData.eqv z d) = b
  | [], b, h => by cases h; rfl
  | e :: r, b, h => by
    have h2 : (match dEq 40 e d with
      | some true => some true
      | some false => anyD d r
      | none => none) = some b := h
    rw [List.any_cons]
    cases q : dEq 40 e d with
    | none => rw [q] at h2; cases h2
    | some c =>
      rw [q] at h2
      rw [dEq_ok 40 e d c q]
      cases c with
      | true => cases h2; rfl
      | false => rw [Bool.false_or]; exact anyD_ok h2
section
variable {γ : Nat → Addr} {W : WX} {X : Cx} {g : GT}
def fInDp (g : GT) (neg : Bool) : U → U → VS → Go U := fun a b st κ => match uD g st 30 a, uD g st 30 b with
  | some d, some (.list ds) => match dSh 40 d, dSh 40 (.list ds), anyD d ds with
    | true, true, some r => κ (.ok (.bl (bif neg then !r else r))) st
    | _, _, _ => false
  | _, _ => false
theorem leaf_inDp {K : PySem.W.Frag} (G : GOk K γ g) (neg : Bool) : Leaf2 γ W (fun x y H Q => ∃ d ds, Dp K H x d ∧ Dp K H y (.list ds) ∧ SeqAt.shaped d = true ∧ SeqAt.shaped (.list ds) = true ∧ Q (.bl (bif neg then !(ds.any fun z => PyData.eqv z d) else ds.any fun z => PyData.eqv z d)) H) (fInDp g neg) := fun ρ st H τ u1 u2 v1 v2 R r1 r2 κ Q hm ok ex => by
  have hm2 : (match uD g st 30 u1, uD g st 30 u2 with
    | some d, some (.list ds) => (match dSh 40 d, dSh 40 (.list ds), anyD d ds with
      | true, true, some r => κ (.ok (.bl (bif neg then !r else r))) st
      | _, _, _ => false)
    | _, _ => false) = true := hm
  cases q1 : uD g st 30 u1 with
  | none => rw [q1] at hm2; cases hm2
  | some d =>
    cases q2 : uD g st 30 u2 with
    | none => rw [q1, q2] at hm2; cases hm2
    | some e =>
      rw [q1, q2] at hm2
      cases e <;> first | (cases hm2; done) | skip
      rename_i ds
      have hm3 : (match dSh 40 d, dSh 40 (.list ds), anyD d ds with
        | true, true, some r => κ (.ok (.bl (bif neg then !r else r))) st
        | _, _, _ => false) = true := hm2
      cases q3 : dSh 40 d with
      | false => rw [q3] at hm3; cases hm3
      | true =>
        cases q4 : dSh 40 (.list ds) with
        | false => rw [q3, q4] at hm3; cases hm3
        | true =>
          cases q5 : anyD d ds with
          | none => rw [q3, q4, q5] at hm3; cases hm3
          | some r =>
            rw [q3, q4, q5] at hm3
            refine ⟨d, ds, uD_ok G R 30 _ _ _ q1 r1, uD_ok G R 30 _ _ _ q2 r2, shaped_ok q3, shaped_ok q4, ?_⟩
            rw [anyD_ok q5]
            exact ok.here (u := .bl (bif neg then !r else r)) R rfl hm3
theorem o_inDp (G : GOk X.K γ g) (hu : X.A.units + 65 < cLine) : Op2 X γ W (compareOp .In) (fInDp g false) := ⟨_, op_inD hu, leaf_inDp G false⟩
theorem o_ninDp (G : GOk X.K γ g) (hu : X.A.units + 65 < cLine) : Op2 X γ W (compareOp .NotIn) (fInDp g true) := ⟨_, op_notInD hu, leaf_inDp G true⟩
def fIn2 (g : GT) (neg : Bool) : U → U → VS → Go U := fOr2 (fIn g neg) (fInDp g neg)
theorem o_in2 (G : GOk X.K γ g) (hu : X.A.units + 66 < cLine) : Op2 X γ W (compareOp .In) (fIn2 g false) := (o_in G (by omega)).or (o_inDp G (by omega))
theorem o_nin2 (G : GOk X.K γ g) (hu : X.A.units + 66 < cLine) : Op2 X γ W (compareOp .NotIn) (fIn2 g true) := (o_nin G (by omega)).or (o_ninDp G (by omega))
end
end MV

/-! runs over states that are not written out: what each step gives. -/
namespace MV
open PySem L2
section
variable {g : GT} {st : VS} {κ : Rs U → VS → Bool}
theorem fLt_i (i j : Int) : fLt (.int i) (.int j) st κ = κ (.ok (.bl (decide (i < j)))) st := rfl
theorem fLe_i (i j : Int) : fLe (.int i) (.int j) st κ = κ (.ok (.bl (decide (i ≤ j)))) st := rfl
theorem fGt_i (i j : Int) : fGt (.int i) (.int j) st κ = κ (.ok (.bl (decide (j < i)))) st := rfl
theorem fGe_i (i j : Int) : fGe (.int i) (.int j) st κ = κ (.ok (.bl (decide (j ≤ i)))) st := rfl
theorem fAdd_i (i j : Int) : fAdd (.int i) (.int j) st κ = κ (.ok (.int (i + j))) st := rfl
theorem fSub_i (i j : Int) : fSub (.int i) (.int j) st κ = κ (.ok (.int (i - j))) st := rfl
theorem fMod_i {i j : Int} (h : 0 < j) : fMod (.int i) (.int j) st κ = κ (.ok (.int (i % j))) st := by
  show (match decide (0 < j) with | true => κ (.ok (.int (i % j))) st | false => false) = _
  rw [decide_eq_true h]
theorem smI_of {i : Int} (h : -18446744073709551616 < i ∧ i < 18446744073709551616) : smI i = true := Nat.ble_eq_true_of_le (by omega)
theorem fMul_i {i j : Int} (h : smI i = true ∨ smI j = true) : fMul3 (.int i) (.int j) st κ = κ (.ok (.int (i * j))) st := by
  have c : cMul i j = true := by
    unfold cMul
    rcases h with h | h
    · rw [h]
    · rw [h]; cases smI i <;> rfl
  have e : ∀ κ : Rs U → VS → Bool, fMul (.int i) (.int j) st κ = κ (.ok (.int (i * j))) st := fun κ => by
    show (match cMul i j with | true => κ (.ok (.int (i * j))) st | false => false) = _
    rw [c]
  show (match fMul (.int i) (.int j) st (fun _ _ => true) with | true => fMul (.int i) (.int j) st κ | false => fRep (.int i) (.int j) st κ) = _
  rw [e, e]
theorem fDiv_i {i j : Int} (h : 0 < j) (h2 : j < 18446744073709551616) : fDiv (.int i) (.int j) st κ = κ (.ok (.int (i / j))) st := by
  have c : cDiv i j = true := by
    unfold cDiv
    rw [decide_eq_true h]
    have : j.natAbs.log2 < 9000 := by
      have h3 : j.natAbs < 2 ^ 64 := by omega
      have := (Nat.log2_lt (n := j.natAbs) (k := 64) (by omega)).mpr h3
      omega
    exact Nat.ble_eq_true_of_le this
  show (match cDiv i j with | true => κ (.ok (.int (i / j))) st | false => false) = _
  rw [c]
theorem fPow3 {i : Int} (h : i.natAbs < 2 ^ 1000) : fPow (.int i) (.int 3) st κ = κ (.ok (.int (i ^ 3))) st := by
  have c : cPow i 3 = true := by
    unfold cPow
    have : i.natAbs.log2 ≤ 1000 := by
      by_cases z : i.natAbs = 0
      · rw [z]; decide
      · exact Nat.le_of_lt ((Nat.log2_lt z).mpr h)
    show Nat.ble ((i.natAbs.log2 + 1) * (3 : Int).toNat) 100000000 = true
    exact Nat.ble_eq_true_of_le (by show (i.natAbs.log2 + 1) * 3 ≤ 100000000; omega)
  show (match cPow i 3 with | true => κ (.ok (.int (i ^ (3 : Int).toNat))) st | false => false) = _
  rw [c]
  rfl
theorem fIx_l {i : Nat} {k : Int} {xs : List U} {u : U} (h : st.get i = some (.lst xs)) (e : uAt xs k = some u) : fIx g (.ref i) (.int k) st κ = κ (.ok u) st := by
  have s : seqOf g st (.ref i) = some (false, xs) := by
    show (match st.get i with | some (.lst xs) => some (false, xs) | some (.fl xs) => some (false, xs) | some (.tup xs) => some (true, xs) | _ => none) = _
    rw [h]
  have q : ∀ κ : Rs U → VS → Bool, fIxS g (.ref i) (.int k) st κ = κ (.ok u) st := fun κ => by
    show (match seqOf g st (.ref i) with | some (_, xs) => (match uAt xs k with | some u => κ (.ok u) st | none => false) | none => false) = _
    rw [s]
    show (match uAt xs k with | some u => κ (.ok u) st | none => false) = _
    rw [e]
  show (match fIxS g (.ref i) (.int k) st (fun _ _ => true) with | true => fIxS g (.ref i) (.int k) st κ | false => fIxD (.ref i) (.int k) st κ) = _
  rw [q, q]
end
end MV
namespace MV
open PySem L2
section
variable {g : GT} {st : VS} {κ : Rs U → VS → Bool}
theorem fSetI_l {i : Nat} {k : Int} {xs : List U} {w : U} {j : Nat} {κ : VS → Bool} (h : st.get i = some (.lst xs)) (e : uIx xs.length k = some j) : fSetI (.ref i) (.int k) w st κ = κ (st.put i (.lst (xs.set j w))) := by
  show (match st.get i with
    | some (.lst xs) => (match intOf (.int k) with
      | some k => (match uIx xs.length k with
        | some j => κ (st.put i (.lst (xs.set j w)))
        | none => false)
      | none => false)
    | some (.dct false kvs) => (match kOf (.int k) with
      | some k => (match Nat.blt kvs.length line with
        | true => κ (st.put i (.dct false (kPut k w kvs)))
        | false => false)
      | none => false)
    | _ => false) = _
  rw [h]
  show (match uIx xs.length k with
    | some j => κ (st.put i (.lst (xs.set j w)))
    | none => false) = _
  rw [e]
theorem fIx_t {i : Nat} {k : Int} {xs : List U} {u : U} (h : st.get i = some (.tup xs)) (e : uAt xs k = some u) : fIx g (.ref i) (.int k) st κ = κ (.ok u) st := by
  have s : seqOf g st (.ref i) = some (true, xs) := by
    show (match st.get i with | some (.lst xs) => some (false, xs) | some (.fl xs) => some (false, xs) | some (.tup xs) => some (true, xs) | _ => none) = _
    rw [h]
  have q : ∀ κ : Rs U → VS → Bool, fIxS g (.ref i) (.int k) st κ = κ (.ok u) st := fun κ => by
    show (match seqOf g st (.ref i) with | some (_, xs) => (match uAt xs k with | some u => κ (.ok u) st | none => false) | none => false) = _
    rw [s]
    show (match uAt xs k with | some u => κ (.ok u) st | none => false) = _
    rw [e]
  show (match fIxS g (.ref i) (.int k) st (fun _ _ => true) with | true => fIxS g (.ref i) (.int k) st κ | false => fIxD (.ref i) (.int k) st κ) = _
  rw [q, q]
theorem get_put_same (s : VS) (i : Nat) (o : VO) : (s.put i o).get i = some o := by rw [VS.get_put, if_pos rfl]
theorem get_put_ne {s : VS} {i j : Nat} {o : VO} (h : j ≠ i) : (s.put i o).get j = s.get j := by rw [VS.get_put, if_neg h]
theorem get_new_same (s : VS) (o : VO) : (s.new o).get s.n = some o := by rw [VS.get_new, if_pos rfl]
theorem get_new_ne {s : VS} {j : Nat} {o : VO} (h : j ≠ s.n) : (s.new o).get j = s.get j := by rw [VS.get_new, if_neg h]
end
end MV
namespace MV
open PySem L2
section
variable {g : GT} {st : VS} {κ : Rs U → VS → Bool}
theorem seq_fl {i : Nat} {xs : List U} (h : st.get i = some (.fl xs)) : seqOf g st (.ref i) = some (false, xs) := by
  show (match st.get i with | some (.lst xs) => some (false, xs) | some (.fl xs) => some (false, xs) | some (.tup xs) => some (true, xs) | _ => none) = _
  rw [h]
theorem seq_lst {i : Nat} {xs : List U} (h : st.get i = some (.lst xs)) : seqOf g st (.ref i) = some (false, xs) := by
  show (match st.get i with | some (.lst xs) => some (false, xs) | some (.fl xs) => some (false, xs) | some (.tup xs) => some (true, xs) | _ => none) = _
  rw [h]
theorem seq_tup {i : Nat} {xs : List U} (h : st.get i = some (.tup xs)) : seqOf g st (.ref i) = some (true, xs) := by
  show (match st.get i with | some (.lst xs) => some (false, xs) | some (.fl xs) => some (false, xs) | some (.tup xs) => some (true, xs) | _ => none) = _
  rw [h]
theorem fLen_s {i : Nat} {b : Bool} {xs : List U} (h : seqOf g st (.ref i) = some (b, xs)) : fLen g [.ref i] st κ = κ (.ok (.int xs.length)) st := by
  have e : ∀ κ : Rs U → VS → Bool, fLenS g (.ref i) st κ = κ (.ok (.int xs.length)) st := fun κ => by
    show (match seqOf g st (.ref i) with | some (_, xs) => κ (.ok (.int xs.length)) st | none => false) = _
    rw [h]
  show (match fLenS g (.ref i) st (fun _ _ => true) with | true => fLenS g (.ref i) st κ | false => _) = _
  rw [e, e]
theorem fIx_s {i : Nat} {k : Int} {b : Bool} {xs : List U} {u : U} (s : seqOf g st (.ref i) = some (b, xs)) (e : uAt xs k = some u) : fIx g (.ref i) (.int k) st κ = κ (.ok u) st := by
  have q : ∀ κ : Rs U → VS → Bool, fIxS g (.ref i) (.int k) st κ = κ (.ok u) st := fun κ => by
    show (match seqOf g st (.ref i) with | some (_, xs) => (match uAt xs k with | some u => κ (.ok u) st | none => false) | none => false) = _
    rw [s]
    show (match uAt xs k with | some u => κ (.ok u) st | none => false) = _
    rw [e]
  show (match fIxS g (.ref i) (.int k) st (fun _ _ => true) with | true => fIxS g (.ref i) (.int k) st κ | false => fIxD (.ref i) (.int k) st κ) = _
  rw [q, q]
theorem fAbs_i (i : Int) : MV.f1 fAbs [.int i] st κ = κ (.ok (.int (if i < 0 then -i else i))) st := rfl
theorem fInt_b (b : Bool) : MV.f1 fInt [.bl b] st κ = κ (.ok (.int (bI b))) st := rfl
theorem fMax_i (i j : Int) : fInt2 iMax [.int i, .int j] st κ = κ (.ok (.int (iMax i j))) st := rfl
theorem fMin_i (i j : Int) : fInt2 iMin [.int i, .int j] st κ = κ (.ok (.int (iMin i j))) st := rfl
theorem bI_01 (b : Bool) : smI (bI b) = true := by cases b <;> decide
end
end MV
namespace MV
theorem all_nil {P : Int → Prop} : ∀ i ∈ ([] : List Int), P i := fun _ h => absurd h List.not_mem_nil
theorem all_cons {P : Int → Prop} {a : Int} {l : List Int} (h : P a) (t : ∀ i ∈ l, P i) : ∀ i ∈ a :: l, P i := fun i hi => by
  rcases List.mem_cons.mp hi with e | e
  · rw [e]; exact h
  · exact t i e
end MV
namespace MV
/-- for i in range(..): I is what holds ahead of the turn i -/
theorem rng_loop {g : GT} {mg : MG} {b : MS} {lo : Int} {n : Nat} {κ : Out → Fr → VS → Bool} (I : Nat → Fr → VS → Prop)
    (hstep : ∀ (i : Nat) (σ : Fr) (st : VS) (nxt : Fr → VS → Bool), i < n → I i σ st → (∀ σ' st', I (i + 1) σ' st' → nxt σ' st' = true) → mg (.int (lo + i)) σ st (fun σ1 st1 => b σ1 st1 (loopU (.rng lo n) κ nxt)) = true)
    (hend : ∀ (σ : Fr) (st : VS), I n σ st → κ .nx σ st = true) : ∀ (m fuel i : Nat) (σ : Fr) (st : VS), i + m = n → m < fuel → I i σ st → fLoop g (.rng lo n) mg b fuel i σ st κ = true
  | 0, fuel + 1, i, σ, st, e, _, h => by
    have e : i = n := e
    subst e
    have nx : Itm.next g st i (.rng lo i) = some none := by
      show (match Nat.blt i i with | true => _ | false => _) = _
      rw [show Nat.blt i i = false from by cases q : Nat.blt i i with | false => rfl | true => exact absurd (Nat.le_of_ble_eq_true q) (Nat.lt_irrefl i)]
    show (match Itm.next g st i (.rng lo i) with | none => false | some none => finK (.rng lo i) κ .nx σ st | some (some y) => _) = true
    rw [nx]
    exact hend σ st h
  | m + 1, fuel + 1, i, σ, st, e, hf, h => by
    have nx : Itm.next g st i (.rng lo n) = some (some (.one (.int (lo + i)))) := by
      show (match Nat.blt i n with | true => _ | false => _) = _
      rw [show Nat.blt i n = true from Nat.ble_eq_true_of_le (by omega)]
    show (match Itm.next g st i (.rng lo n) with | none => false | some none => finK (.rng lo n) κ .nx σ st | some (some y) => mg (y.u st) σ (y.st st) fun σ1 st1 => b σ1 st1 (loopU (.rng lo n) κ fun σ2 st2 => fLoop g (.rng lo n) mg b fuel (i + 1) σ2 st2 κ)) = true
    rw [nx]
    exact hstep i σ st _ (by omega) h fun σ' st' h' => rng_loop I hstep hend m fuel (i + 1) σ' st' (by omega) (by omega) h'
end MV
namespace MV
theorem inR_of {i : Int} (h : -1000000 ≤ i) (h2 : i < 1000000) : inR i = true := by
  have a : decide ((-4611686018427387904 : Int) ≤ i) = true := decide_eq_true (by omega)
  have b : decide (i < (4611686018427387904 : Int)) = true := decide_eq_true (by omega)
  show (match decide ((-4611686018427387904 : Int) ≤ i), decide (i < (4611686018427387904 : Int)) with | true, true => true | _, _ => false) = true
  rw [a, b]
end MV

/-! objects that no slot reaches are let go; a loop in pieces. -/
namespace MV
open PySem PySem.Spec PyProof.Rows L2
theorem Rep.sub {γ : Nat → Addr} {ρ : List Addr} {s s' : VS} {H : Hp} (R : Rep γ ρ s H) (hn : s'.n = s.n) (h : ∀ i o, s'.get i = some o → s.get i = some o) : Rep γ ρ s' H := ⟨R.len.trans hn.symm, R.nd, R.all, fun i o e => R.obj i o (h i o e)⟩
def refU : U → List Nat → List Nat
  | .ref i, l => i :: l
  | _, l => l
def refL : List U → List Nat → List Nat
  | [], l => l
  | u :: r, l => refU u (refL r l)
def refK {α : Type} : List (α × U) → List Nat → List Nat
  | [], l => l
  | q :: r, l => refU q.2 (refK r l)
def refO : VO → List Nat → List Nat
  | .lst xs, l => refL xs l
  | .fl xs, l => refL xs l
  | .tup xs, l => refL xs l
  | .dct _ kvs, l => refK kvs l
  | .ins _ fs, l => refK fs l
def refF : Fr → List Nat → List Nat
  | [], l => l
  | some u :: r, l => refU u (refF r l)
  | none :: r, l => refF r l
def gcW (s : VS) : Nat → List Nat → Tr → (Tr → Bool) → Bool
  | 0, _, _, _ => false
  | _ + 1, [], t, k => k t
  | f + 1, i :: w, t, k => match t.get i with
    | some _ => gcW s f w t k
    | none => match s.get i with
      | none => gcW s f w t k
      | some o => frcN i fun i => putTK (i + 1) t i o fun t' => gcW s f (refO o w) t' k
theorem gcW_ok (s : VS) : ∀ (f : Nat) (w : List Nat) (t : Tr) (k : Tr → Bool), (∀ j o, t.get j = some o → s.get j = some o) → gcW s f w t k = true → ∃ t', (∀ j o, Tr.get t' j = some o → s.get j = some o) ∧ k t' = true
  | 0, _, _, _, _, h => nomatch h
  | _ + 1, [], t, _, ht, h => ⟨t, ht, h⟩
  | f + 1, i :: w, t, k, ht, h => by
    have h2 : (match t.get i with
      | some _ => gcW s f w t k
      | none => (match s.get i with
        | none => gcW s f w t k
        | some o => frcN i fun i => putTK (i + 1) t i o fun t' => gcW s f (refO o w) t' k)) = true := h
    cases q : t.get i with
    | some x => rw [q] at h2; exact gcW_ok s f w t k ht h2
    | none =>
      rw [q] at h2
      have h3 : (match s.get i with
        | none => gcW s f w t k
        | some o => frcN i fun i => putTK (i + 1) t i o fun t' => gcW s f (refO o w) t' k) = true := h2
      cases q2 : s.get i with
      | none => rw [q2] at h3; exact gcW_ok s f w t k ht h3
      | some o =>
        rw [q2] at h3
        have h4 : (frcN i fun i => putTK (i + 1) t i o fun t' => gcW s f (refO o w) t' k) = true := h3
        rw [frcN_eq, putTK_eq] at h4
        refine gcW_ok s f _ _ k (fun j x e => ?_) h4
        have e2 : (t.put i o).get j = some x := e
        rw [Tr.get_put] at e2
        by_cases z : j = i
        · rw [if_pos z] at e2; cases e2; rw [z]; exact q2
        · rw [if_neg z] at e2; exact ht j x e2
def gcK (s : VS) (σ : Fr) (k : VS → Bool) : Bool := gcW s 1000000 (refF σ []) .nil fun t => frcN s.n fun n => k ⟨t, [], n⟩
theorem gcK_ok {s : VS} {σ : Fr} {k : VS → Bool} (h : gcK s σ k = true) : ∃ s' : VS, s'.n = s.n ∧ (∀ j o, s'.get j = some o → s.get j = some o) ∧ k s' = true := by
  obtain ⟨t, ht, hk⟩ := gcW_ok s _ _ _ _ (fun j o e => by rw [show Tr.get .nil j = none from getF_nil _ _] at e; cases e) h
  rw [frcN_eq] at hk
  exact ⟨⟨t, [], s.n⟩, rfl, fun j o e => ht j o e, hk⟩
def frcO' (x : Option U) (k : Option U → Bool) : Bool := match x with
  | some u => frcU u fun u' => k (some u')
  | none => k none
theorem frcO'_eq (x : Option U) (k : Option U → Bool) : frcO' x k = k x := by
  cases x with
  | none => rfl
  | some u => exact frcU_eq u _
def mSeqG (m n : MS) : MS := fun σ st κ => m σ st fun o σ1 st1 => match o with
  | .nx => tidy st1 fun st2 => frcL frcO' σ1 fun σ2 => gcK st2 σ2 fun st3 => n σ2 st3 κ
  | .bk => κ .bk σ1 st1
  | .ct => κ .ct σ1 st1
  | .rt u => κ (.rt u) σ1 st1
  | .ex x => κ (.ex x) σ1 st1
section
variable {γ : Nat → Addr} {W : WX} {X : Cx} {g : GT}
theorem sss_consG {s : Stmt} {ss : List Stmt} {m n : MS} (h : SS γ W X s m) (h' : SSs γ W X ss n) : SSs γ W X (s :: ss) (mSeqG m n) := by
  obtain ⟨t, p, q⟩ := h
  obtain ⟨t', p', q'⟩ := h'
  exact ⟨_, pss_cons p p', fun ρ st H σ τ R F κ D hm ok => q ρ st H σ τ R F _ _ hm
    ⟨fun ρ1 st1 H1 σ1 τ1 s1 R1 F1 k => by
      have k2 : (tidy st1 fun st2 => frcL frcO' σ1 fun σ2 => gcK st2 σ2 fun st3 => n σ2 st3 κ) = true := k
      rw [tidy_eq, frcL_eq frcO'_eq] at k2
      obtain ⟨s', hn, hg, hk⟩ := gcK_ok k2
      exact q' ρ1 s' H1 σ1 τ1 (R1.sub (hn.trans rfl) fun i o e => (st1.tid_get i).symm.trans (hg i o e)) F1 κ D hk (ok.step s1), fun ρ1 st1 H1 σ1 τ1 s1 R1 F1 k => ok.bk ρ1 st1 H1 σ1 τ1 s1 R1 F1 k, fun ρ1 st1 H1 σ1 τ1 s1 R1 F1 k => ok.ct ρ1 st1 H1 σ1 τ1 s1 R1 F1 k,
      fun ρ1 st1 H1 σ1 u v s1 R1 r k => ok.rt ρ1 st1 H1 σ1 u v s1 R1 r k, fun ρ1 st1 H1 σ1 τ1 x c d s1 R1 F1 r k => ok.ex ρ1 st1 H1 σ1 τ1 x c d s1 R1 F1 r k⟩⟩
theorem sss_nilG {ss : List Stmt} {m : MS} (h : SSs γ W X ss m) : SSs γ W X ss m := h
end
/-! ### a loop in pieces -/
/-- so many turns, then K -/
def fIter (g : GT) (it : Itm) (mg : MG) (b : MS) (κ : Out → Fr → VS → Bool) : Nat → Nat → Fr → VS → (Fr → VS → Bool) → Bool
  | 0, _, σ, st, K => K σ st
  | n + 1, i, σ, st, K => match it.next g st i with
    | none => false
    | some none => finK it κ .nx σ st
    | some (some y) => mg (y.u st) σ (y.st st) fun σ1 st1 => b σ1 st1 (loopU it κ fun σ2 st2 => fIter g it mg b κ n (i + 1) σ2 st2 K)
theorem fIter_eq {g : GT} {it : Itm} {mg : MG} {b : MS} {κ : Out → Fr → VS → Bool} : ∀ (n f i : Nat) (σ : Fr) (st : VS), fLoop g it mg b (f + n) i σ st κ = fIter g it mg b κ n i σ st fun σ' st' => fLoop g it mg b f (i + n) σ' st' κ
  | 0, _, _, _, _ => rfl
  | n + 1, f, i, σ, st => by
    have ih := fun σ st => fIter_eq (g := g) (it := it) (mg := mg) (b := b) (κ := κ) n f (i + 1) σ st
    show (match it.next g st i with
      | none => false
      | some none => finK it κ .nx σ st
      | some (some y) => mg (y.u st) σ (y.st st) fun σ1 st1 => b σ1 st1 (loopU it κ fun σ2 st2 => fLoop g it mg b (f + n) (i + 1) σ2 st2 κ)) = (match it.next g st i with
      | none => false
      | some none => finK it κ .nx σ st
      | some (some y) => mg (y.u st) σ (y.st st) fun σ1 st1 => b σ1 st1 (loopU it κ fun σ2 st2 => fIter g it mg b κ n (i + 1) σ2 st2 fun σ' st' => fLoop g it mg b f (i + (n + 1)) σ' st' κ))
    have e : (fun σ2 st2 => fLoop g it mg b (f + n) (i + 1) σ2 st2 κ) = fun σ2 st2 => fIter g it mg b κ n (i + 1) σ2 st2 fun σ' st' => fLoop g it mg b f (i + (n + 1)) σ' st' κ := funext fun σ2 => funext fun st2 => by
      rw [ih]
      rw [show i + 1 + n = i + (n + 1) from by omega]
    rw [e]
end MV

namespace C70
open PySem PySem.Spec PyProof.Rows L2 MV
def top (i : Nat) : Stmt := PySem.Challenge.pw_copymemos_k70_hooks_by_hand.main.body.getD i (.Pass ⟨0, 0, 0, 0⟩)
abbrev R : PySem.W.OpenRow := PySem.W.OpenLaw.row PySem.Challenge.rw_copymemos_k70_hooks_by_hand
def d0 : He5.DefA := ⟨fun K => (He.fAd K ("law", none)), "law", "law", defArgs (top 91), defBody (top 91), defScope (top 91), [], []⟩
def d1 : He5.DefA := ⟨fun K => (He.fAd K ("_law_keepers_right", none)), "_law_keepers_right", "_law_keepers_right", defArgs (top 90), defBody (top 90), defScope (top 90), [], []⟩
def d2 : He5.DefA := ⟨fun K => (He.fAd K ("Heap", some "__init__")), "__init__", "Heap.__init__", defArgs (inClass (top 80) 0), defBody (inClass (top 80) 0), defScope (inClass (top 80) 0), [], []⟩
def d3 : He5.DefA := ⟨fun K => (gP K "Shape" "name"), "name", "Shape.name", defArgs (inClass (top 38) 3), defBody (inClass (top 38) 3), defScope (inClass (top 38) 3), [], []⟩
def d4 : He5.DefA := ⟨fun K => (He.fAd K ("Shape", some "__init__")), "__init__", "Shape.__init__", defArgs (inClass (top 38) 0), defBody (inClass (top 38) 0), defScope (inClass (top 38) 0), [], [("deep", .non), ("shallow", .non)]⟩
def d5 : He5.DefA := ⟨fun K => (He.fAd K ("are_fields", none)), "are_fields", "are_fields", defArgs (top 28), defBody (top 28), defScope (top 28), [], []⟩
def d6 : He5.DefA := ⟨fun K => (He.fAd K ("is_word", none)), "is_word", "is_word", defArgs (top 26), defBody (top 26), defScope (top 26), [], []⟩
def d7 : He5.DefA := ⟨fun K => (He.fAd K ("form_of_shapes", none)), "form_of", "form_of", defArgs (top 34), defBody (top 34), defScope (top 34), [], []⟩
def d8 : He5.DefA := ⟨fun K => (He.fAd K ("are_steps", none)), "are_steps", "are_steps", defArgs (top 33), defBody (top 33), defScope (top 33), [], []⟩
def d9 : He5.DefA := ⟨fun K => (He.fAd K ("is_builder_step", none)), "is_builder_step", "is_builder_step", defArgs (top 32), defBody (top 32), defScope (top 32), [], []⟩
def d10 : He5.DefA := ⟨fun K => (He.fAd K ("is_remark", none)), "is_remark", "is_remark", defArgs (top 29), defBody (top 29), defScope (top 29), [], []⟩
def d11 : He5.DefA := ⟨fun K => (He.fAd K ("is_put", none)), "is_put", "is_put", defArgs (top 31), defBody (top 31), defScope (top 31), [], []⟩
def d12 : He5.DefA := ⟨fun K => (He.fAd K ("is_atom", none)), "is_atom", "is_atom", defArgs (top 27), defBody (top 27), defScope (top 27), [], []⟩
def d13 : He5.DefA := ⟨fun K => (He.fAd K ("is_field_step", none)), "is_field_step", "is_field_step", defArgs (top 30), defBody (top 30), defScope (top 30), [], []⟩
def d14 : He5.DefA := ⟨fun K => (He.fAd K ("is_shallow", none)), "is_shallow", "is_shallow", defArgs (top 36), defBody (top 36), defScope (top 36), [], []⟩
def d15 : He5.DefA := ⟨fun K => (He.fAd K ("Heap", some "make_object")), "make_object", "Heap.make_object", defArgs (inClass (top 80) 14), defBody (inClass (top 80) 14), defScope (inClass (top 80) 14), [], []⟩
def d16 : He5.DefA := ⟨fun K => (gP K "Shape" "fields"), "fields", "Shape.fields", defArgs (inClass (top 38) 4), defBody (inClass (top 38) 4), defScope (inClass (top 38) 4), [], []⟩
def d17 : He5.DefA := ⟨fun K => (He.fAd K ("Heap", some "need_value")), "need_value", "Heap.need_value", defArgs (inClass (top 80) 6), defBody (inClass (top 80) 6), defScope (inClass (top 80) 6), [], []⟩
def d18 : He5.DefA := ⟨fun K => (He.fAd K ("Heap", some "is_value")), "is_value", "Heap.is_value", defArgs (inClass (top 80) 5), defBody (inClass (top 80) 5), defScope (inClass (top 80) 5), [], []⟩
def d19 : He5.DefA := ⟨fun K => (He.fAd K ("Heap", some "is_cell")), "is_cell", "Heap.is_cell", defArgs (inClass (top 80) 4), defBody (inClass (top 80) 4), defScope (inClass (top 80) 4), [], []⟩
def d20 : He5.DefA := ⟨fun K => (He.fAd K ("is_integer", none)), "is_integer", "is_integer", defArgs (top 25), defBody (top 25), defScope (top 25), [], []⟩
def d21 : He5.DefA := ⟨fun K => (He.fAd K ("Heap", some "new_cell")), "new_cell", "Heap.new_cell", defArgs (inClass (top 80) 8), defBody (inClass (top 80) 8), defScope (inClass (top 80) 8), [.non, .adr (He.dflAt ("Heap", some "new_cell") 1)], []⟩
def d22 : He5.DefA := ⟨fun K => (He.fAd K ("without_repetitions", none)), "without_repetitions", "without_repetitions", defArgs (top 79), defBody (top 79), defScope (top 79), [], []⟩
def d23 : He5.DefA := ⟨fun K => (He.fAd K ("Cell", some "__init__")), "__init__", "Cell.__init__", defArgs (inClass (top 77) 0), defBody (inClass (top 77) 0), defScope (inClass (top 77) 0), [], []⟩
def d24 : He5.DefA := ⟨fun K => (He.fAd K ("Heap", some "set_part")), "set_part", "Heap.set_part", defArgs (inClass (top 80) 10), defBody (inClass (top 80) 10), defScope (inClass (top 80) 10), [], []⟩
def d25 : He5.DefA := ⟨fun K => (He.fAd K ("Heap", some "make")), "make", "Heap.make", defArgs (inClass (top 80) 12), defBody (inClass (top 80) 12), defScope (inClass (top 80) 12), [], []⟩
def d26 : He5.DefA := ⟨fun K => (He.fAd K ("Copying", some "__init__")), "__init__", "Copying.__init__", defArgs (inClass (top 45) 0), defBody (inClass (top 45) 0), defScope (inClass (top 45) 0), [], [("memo", .non)]⟩
def d27 : He5.DefA := ⟨fun K => (He.fAd K ("Memo", some "__init__")), "__init__", "Memo.__init__", defArgs (inClass (top 40) 0), defBody (inClass (top 40) 0), defScope (inClass (top 40) 0), [], []⟩
def d28 : He5.DefA := ⟨fun K => (He.fAd K ("Heap", some "new_entries")), "new_entries", "Heap.new_entries", defArgs (inClass (top 80) 3), defBody (inClass (top 80) 3), defScope (inClass (top 80) 3), [], []⟩
def d29 : He5.DefA := ⟨fun K => (He.fAd K ("Entries", some "__init__")), "__init__", "Entries.__init__", defArgs (inClass (top 78) 0), defBody (inClass (top 78) 0), defScope (inClass (top 78) 0), [], []⟩
def d30 : He5.DefA := ⟨fun K => (He.fAd K ("Memo", some "is_in_use")), "is_in_use", "Memo.is_in_use", defArgs (inClass (top 40) 6), defBody (inClass (top 40) 6), defScope (inClass (top 40) 6), [], []⟩
def d31 : He5.DefA := ⟨fun K => (He.fAd K ("Heap", some "__contains__")), "__contains__", "Heap.__contains__", defArgs (inClass (top 80) 2), defBody (inClass (top 80) 2), defScope (inClass (top 80) 2), [], []⟩
def d32 : He5.DefA := ⟨fun K => (He.fAd K ("Memo", some "set_use")), "set_use", "Memo.set_use", defArgs (inClass (top 40) 7), defBody (inClass (top 40) 7), defScope (inClass (top 40) 7), [], []⟩
def d33 : He5.DefA := ⟨fun K => (He.fAd K ("Copying", some "finish")), "finish", "Copying.finish", defArgs (inClass (top 45) 7), defBody (inClass (top 45) 7), defScope (inClass (top 45) 7), [], []⟩
def d34 : He5.DefA := ⟨fun K => (He.fAd K ("Copying", some "step")), "step", "Copying.step", defArgs (inClass (top 45) 5), defBody (inClass (top 45) 5), defScope (inClass (top 45) 5), [], []⟩
def d35 : He5.DefA := ⟨fun K => (He.fAd K ("Copying", some "begin")), "begin", "Copying.begin", defArgs (inClass (top 45) 8), defBody (inClass (top 45) 8), defScope (inClass (top 45) 8), [], []⟩
def d36 : He5.DefA := ⟨fun K => (He.fAd K ("Memo", some "__contains__")), "__contains__", "Memo.__contains__", defArgs (inClass (top 40) 1), defBody (inClass (top 40) 1), defScope (inClass (top 40) 1), [], []⟩
def d37 : He5.DefA := ⟨fun K => (He.fAd K ("Memo", some "__getitem__")), "__getitem__", "Memo.__getitem__", defArgs (inClass (top 40) 2), defBody (inClass (top 40) 2), defScope (inClass (top 40) 2), [], []⟩
def d38 : He5.DefA := ⟨fun K => (He.fAd K ("Copying", some "deliver")), "deliver", "Copying.deliver", defArgs (inClass (top 45) 10), defBody (inClass (top 45) 10), defScope (inClass (top 45) 10), [], []⟩
def d39 : He5.DefA := ⟨fun K => (He.fAd K ("Copying", some "be_over")), "be_over", "Copying.be_over", defArgs (inClass (top 45) 6), defBody (inClass (top 45) 6), defScope (inClass (top 45) 6), [], []⟩
def d40 : He5.DefA := ⟨fun K => (He.fAd K ("attach", none)), "attach", "attach", defArgs (top 43), defBody (top 43), defScope (top 43), [], []⟩
def d41 : He5.DefA := ⟨fun K => (He.fAd K ("Heap", some "kind")), "kind", "Heap.kind", defArgs (inClass (top 80) 15), defBody (inClass (top 80) 15), defScope (inClass (top 80) 15), [], []⟩
def d42 : He5.DefA := ⟨fun K => (He.fAd K ("Heap", some "cell_of")), "cell_of", "Heap.cell_of", defArgs (inClass (top 80) 7), defBody (inClass (top 80) 7), defScope (inClass (top 80) 7), [], []⟩
def d43 : He5.DefA := ⟨fun K => (He.fAd K ("Heap", some "append_to")), "append_to", "Heap.append_to", defArgs (inClass (top 80) 9), defBody (inClass (top 80) 9), defScope (inClass (top 80) 9), [], []⟩
def d44 : He5.DefA := ⟨fun K => (He.fAd K ("Memo", some "__len__")), "__len__", "Memo.__len__", defArgs (inClass (top 40) 4), defBody (inClass (top 40) 4), defScope (inClass (top 40) 4), [], []⟩
def d45 : He5.DefA := ⟨fun K => (He.fAd K ("Frame", some "__init__")), "__init__", "Frame.__init__", defArgs (inClass (top 44) 0), defBody (inClass (top 44) 0), defScope (inClass (top 44) 0), [], []⟩
def d46 : He5.DefA := ⟨fun K => (He.fAd K ("Copying", some "go_on")), "go_on", "Copying.go_on", defArgs (inClass (top 45) 14), defBody (inClass (top 45) 14), defScope (inClass (top 45) 14), [], []⟩
def d47 : He5.DefA := ⟨fun K => (gP K "Shape" "deep_hook"), "deep_hook", "Shape.deep_hook", defArgs (inClass (top 38) 5), defBody (inClass (top 38) 5), defScope (inClass (top 38) 5), [], []⟩
def d48 : He5.DefA := ⟨fun K => (He.fAd K ("Copying", some "go_on_hook")), "go_on_hook", "Copying.go_on_hook", defArgs (inClass (top 45) 18), defBody (inClass (top 45) 18), defScope (inClass (top 45) 18), [], []⟩
def d49 : He5.DefA := ⟨fun K => (gP K "Shape" "form"), "form", "Shape.form", defArgs (inClass (top 38) 7), defBody (inClass (top 38) 7), defScope (inClass (top 38) 7), [], []⟩
def d50 : He5.DefA := ⟨fun K => (He.fAd K ("Memo", some "enter_for")), "enter_for", "Memo.enter_for", defArgs (inClass (top 40) 8), defBody (inClass (top 40) 8), defScope (inClass (top 40) 8), [], []⟩
def d51 : He5.DefA := ⟨fun K => (He.fAd K ("Copying", some "close")), "close", "Copying.close", defArgs (inClass (top 45) 12), defBody (inClass (top 45) 12), defScope (inClass (top 45) 12), [], []⟩
def d52 : He5.DefA := ⟨fun K => (He.fAd K ("Copying", some "set_field")), "set_field", "Copying.set_field", defArgs (inClass (top 45) 20), defBody (inClass (top 45) 20), defScope (inClass (top 45) 20), [], []⟩
def d53 : He5.DefA := ⟨fun K => (He.fAd K ("Copying", some "field_of")), "field_of", "Copying.field_of", defArgs (inClass (top 45) 19), defBody (inClass (top 45) 19), defScope (inClass (top 45) 19), [], []⟩
def d54 : He5.DefA := ⟨fun K => (He.fAd K ("Heap", some "parts")), "parts", "Heap.parts", defArgs (inClass (top 80) 17), defBody (inClass (top 80) 17), defScope (inClass (top 80) 17), [], []⟩
def d55 : He5.DefA := ⟨fun K => (He.fAd K ("Heap", some "steps_and_values")), "steps_and_values", "Heap.steps_and_values", defArgs (inClass (top 80) 11), defBody (inClass (top 80) 11), defScope (inClass (top 80) 11), [], []⟩
def d56 : He5.DefA := ⟨fun K => (He.fAd K ("Copying", some "carry_out")), "carry_out", "Copying.carry_out", defArgs (inClass (top 45) 21), defBody (inClass (top 45) 21), defScope (inClass (top 45) 21), [], []⟩
def d57 : He5.DefA := ⟨fun K => (He.fAd K ("Copying", some "read")), "read", "Copying.read", defArgs (inClass (top 45) 11), defBody (inClass (top 45) 11), defScope (inClass (top 45) 11), [], []⟩
def d58 : He5.DefA := ⟨fun K => (He.fAd K ("Copying", some "enter")), "enter", "Copying.enter", defArgs (inClass (top 45) 9), defBody (inClass (top 45) 9), defScope (inClass (top 45) 9), [], []⟩
def d59 : He5.DefA := ⟨fun K => (He.fAd K ("Memo", some "begin_half")), "begin_half", "Memo.begin_half", defArgs (inClass (top 40) 9), defBody (inClass (top 40) 9), defScope (inClass (top 40) 9), [], []⟩
def d60 : He5.DefA := ⟨fun K => (He.fAd K ("Copying", some "end")), "end", "Copying.end", defArgs (inClass (top 45) 13), defBody (inClass (top 45) 13), defScope (inClass (top 45) 13), [], []⟩
def d61 : He5.DefA := ⟨fun K => (He.fAd K ("Memo", some "end_half")), "end_half", "Memo.end_half", defArgs (inClass (top 40) 10), defBody (inClass (top 40) 10), defScope (inClass (top 40) 10), [], []⟩
def d62 : He5.DefA := ⟨fun K => (He.fAd K ("Copying", some "end_builder")), "end_builder", "Copying.end_builder", defArgs (inClass (top 45) 22), defBody (inClass (top 45) 22), defScope (inClass (top 45) 22), [], []⟩
def d63 : He5.DefA := ⟨fun K => (He.fAd K ("Copying", some "go_on_values")), "go_on_values", "Copying.go_on_values", defArgs (inClass (top 45) 15), defBody (inClass (top 45) 15), defScope (inClass (top 45) 15), [], []⟩
def d64 : He5.DefA := ⟨fun K => (He.fAd K ("Copying", some "end_fixed")), "end_fixed", "Copying.end_fixed", defArgs (inClass (top 45) 17), defBody (inClass (top 45) 17), defScope (inClass (top 45) 17), [], []⟩
def d65 : He5.DefA := ⟨fun K => (He.fAd K ("Copying", some "go_on_fields")), "go_on_fields", "Copying.go_on_fields", defArgs (inClass (top 45) 16), defBody (inClass (top 45) 16), defScope (inClass (top 45) 16), [], []⟩
def d66 : He5.DefA := ⟨fun K => (He.fAd K ("_law_hooks", none)), "_law_hooks", "_law_hooks", defArgs (top 86), defBody (top 86), defScope (top 86), [], []⟩
def d67 : He5.DefA := ⟨fun K => (He.fAd K ("Copying", some "trace")), "trace", "Copying.trace", defArgs (inClass (top 45) 4), defBody (inClass (top 45) 4), defScope (inClass (top 45) 4), [], []⟩
def d68 : He5.DefA := ⟨fun K => (He.fAd K ("foretold", none)), "foretold", "foretold", defArgs (top 68), defBody (top 68), defScope (top 68), [], [("memo", .non)]⟩
def d69 : He5.DefA := ⟨fun K => (He.fAd K ("ruled", none)), "ruled", "ruled", defArgs (top 65), defBody (top 65), defScope (top 65), [], []⟩
def d70 : He5.DefA := ⟨fun K => (He.fAd K ("check_value", none)), "check_value", "check_value", defArgs (top 59), defBody (top 59), defScope (top 59), [], []⟩
def d71 : He5.DefA := ⟨fun K => (He.fAd K ("View", some "__init__")), "__init__", "View.__init__", defArgs (inClass (top 52) 0), defBody (inClass (top 52) 0), defScope (inClass (top 52) 0), [], []⟩
def d72 : He5.DefA := ⟨fun K => (He.fAd K ("cycles_in", none)), "cycles_in", "cycles_in", defArgs (top 64), defBody (top 64), defScope (top 64), [], []⟩
def d73 : He5.DefA := ⟨fun K => (He.fAd K ("cyclic_part", none)), "cyclic_part", "cyclic_part", defArgs (top 62), defBody (top 62), defScope (top 62), [], []⟩
def d74 : He5.DefA := ⟨fun K => (He.fAd K ("late_edges", none)), "late_edges", "late_edges", defArgs (top 61), defBody (top 61), defScope (top 61), [], []⟩
def d75 : He5.DefA := ⟨fun K => (He.fAd K ("late_parts", none)), "late_parts", "late_parts", defArgs (top 58), defBody (top 58), defScope (top 58), [], []⟩
def d76 : He5.DefA := ⟨fun K => (He.fAd K ("form_of_ahead", none)), "form_of", "form_of", defArgs (top 55), defBody (top 55), defScope (top 55), [], []⟩
def d77 : He5.DefA := ⟨fun K => (He.fAd K ("deep_parts", none)), "deep_parts", "deep_parts", defArgs (top 57), defBody (top 57), defScope (top 57), [], []⟩
def d78 : He5.DefA := ⟨fun K => (He.fAd K ("hook_of", none)), "hook_of", "hook_of", defArgs (top 54), defBody (top 54), defScope (top 54), [], []⟩
def d79 : He5.DefA := ⟨fun K => (He.fAd K ("field_value", none)), "field_value", "field_value", defArgs (top 53), defBody (top 53), defScope (top 53), [], []⟩
def d80 : He5.DefA := ⟨fun K => (gP K "Shape" "late_fields"), "late_fields", "Shape.late_fields", defArgs (inClass (top 38) 8), defBody (inClass (top 38) 8), defScope (inClass (top 38) 8), [], []⟩
def d81 : He5.DefA := ⟨fun K => (He.fAd K ("late_steps", none)), "late_steps", "late_steps", defArgs (top 37), defBody (top 37), defScope (top 37), [], []⟩
def d82 : He5.DefA := ⟨fun K => (He.fAd K ("View", some "is_open")), "is_open", "View.is_open", defArgs (inClass (top 52) 1), defBody (inClass (top 52) 1), defScope (inClass (top 52) 1), [], []⟩
def d83 : He5.DefA := ⟨fun K => (He.fAd K ("reached_cells", none)), "reached_cells", "reached_cells", defArgs (top 60), defBody (top 60), defScope (top 60), [], []⟩
def d84 : He5.DefA := ⟨fun K => (He.fAd K ("cycle_from", none)), "cycle_from", "cycle_from", defArgs (top 63), defBody (top 63), defScope (top 63), [], []⟩
def d85 : He5.DefA := ⟨fun K => (He.fAd K ("entries_of", none)), "entries_of", "entries_of", defArgs (top 51), defBody (top 51), defScope (top 51), [], []⟩
def d86 : He5.DefA := ⟨fun K => (He.fAd K ("Memo", some "entries")), "entries", "Memo.entries", defArgs (inClass (top 40) 11), defBody (inClass (top 40) 11), defScope (inClass (top 40) 11), [], []⟩
def d87 : He5.DefA := ⟨fun K => (He.fAd K ("Images", some "__init__")), "__init__", "Images.__init__", defArgs (inClass (top 66) 0), defBody (inClass (top 66) 0), defScope (inClass (top 66) 0), [], []⟩
def d88 : He5.DefA := ⟨fun K => (He.fAd K ("source_of", none)), "source_of", "source_of", defArgs (top 67), defBody (top 67), defScope (top 67), [], []⟩
def d89 : He5.DefA := ⟨fun K => (He.fAd K ("Images", some "of")), "of", "Images.of", defArgs (inClass (top 66) 2), defBody (inClass (top 66) 2), defScope (inClass (top 66) 2), [], []⟩
def d90 : He5.DefA := ⟨fun K => (He.fAd K ("Images", some "simple")), "simple", "Images.simple", defArgs (inClass (top 66) 1), defBody (inClass (top 66) 1), defScope (inClass (top 66) 1), [], []⟩
def d91 : He5.DefA := ⟨fun K => (He.fAd K ("Images", some "composed")), "composed", "Images.composed", defArgs (inClass (top 66) 3), defBody (inClass (top 66) 3), defScope (inClass (top 66) 3), [], []⟩
def d92 : He5.DefA := ⟨fun K => (He.fAd K ("leaks", none)), "leaks", "leaks", defArgs (top 84), defBody (top 84), defScope (top 84), [], []⟩
def d93 : He5.DefA := ⟨fun K => (He.fAd K ("linked", none)), "linked", "linked", defArgs (top 83), defBody (top 83), defScope (top 83), [], []⟩
def d94 : He5.DefA := ⟨fun K => (He.fAd K ("is_changeable", none)), "is_changeable", "is_changeable", defArgs (top 82), defBody (top 82), defScope (top 82), [], []⟩
def d95 : He5.DefA := ⟨fun K => (He.fAd K ("_law_givers_right", none)), "_law_givers_right", "_law_givers_right", defArgs (top 89), defBody (top 89), defScope (top 89), [], []⟩
def d96 : He5.DefA := ⟨fun K => (He.fAd K ("Heap", some "put")), "put", "Heap.put", defArgs (inClass (top 80) 20), defBody (inClass (top 80) 20), defScope (inClass (top 80) 20), [], []⟩
def d97 : He5.DefA := ⟨fun K => (He.fAd K ("Heap", some "need_changeable")), "need_changeable", "Heap.need_changeable", defArgs (inClass (top 80) 18), defBody (inClass (top 80) 18), defScope (inClass (top 80) 18), [], []⟩
def d98 : He5.DefA := ⟨fun K => (He.fAd K ("Heap", some "can_put")), "can_put", "Heap.can_put", defArgs (inClass (top 80) 19), defBody (inClass (top 80) 19), defScope (inClass (top 80) 19), [], []⟩
def d99 : He5.DefA := ⟨fun K => (He.fAd K ("counts", none)), "counts", "counts", defArgs (top 70), defBody (top 70), defScope (top 70), [], [("memo", .non)]⟩
def d100 : He5.DefA := ⟨fun K => (He.fAd K ("Tracer", some "__init__")), "__init__", "Tracer.__init__", defArgs (inClass (top 69) 0), defBody (inClass (top 69) 0), defScope (inClass (top 69) 0), [], []⟩
def d101 : He5.DefA := ⟨fun K => (He.fAd K ("Tracer", some "run")), "run", "Tracer.run", defArgs (inClass (top 69) 3), defBody (inClass (top 69) 3), defScope (inClass (top 69) 3), [], []⟩
def d102 : He5.DefA := ⟨fun K => (He.fAd K ("Tracer", some "deeds")), "deeds", "Tracer.deeds", defArgs (inClass (top 69) 1), defBody (inClass (top 69) 1), defScope (inClass (top 69) 1), [], []⟩
def d103 : He5.DefA := ⟨fun K => (He.fAd K ("Tracer", some "do")), "do", "Tracer.do", defArgs (inClass (top 69) 2), defBody (inClass (top 69) 2), defScope (inClass (top 69) 2), [], []⟩
def d104 : He5.DefA := ⟨fun K => (He.fAd K ("deep", none)), "deep", "deep", defArgs (top 46), defBody (top 46), defScope (top 46), [], [("memo", .non)]⟩
def d105 : He5.DefA := ⟨fun K => (He.fAd K ("_law_between_right", none)), "_law_between_right", "_law_between_right", defArgs (top 88), defBody (top 88), defScope (top 88), [], []⟩
def d106 : He5.DefA := ⟨fun K => (He.fAd K ("unsafe", none)), "unsafe", "unsafe", defArgs (top 72), defBody (top 72), defScope (top 72), [], []⟩
def d107 : He5.DefA := ⟨fun K => (He.fAd K ("Heap", some "__len__")), "__len__", "Heap.__len__", defArgs (inClass (top 80) 1), defBody (inClass (top 80) 1), defScope (inClass (top 80) 1), [], []⟩
def d108 : He5.DefA := ⟨fun K => (He.fAd K ("is_safe", none)), "is_safe", "is_safe", defArgs (top 71), defBody (top 71), defScope (top 71), [], []⟩
def d109 : He5.DefA := ⟨fun K => (He.fAd K ("_law_three_right", none)), "_law_three_right", "_law_three_right", defArgs (top 87), defBody (top 87), defScope (top 87), [], []⟩
def fn : List He5.DefA := [d0, d1, d2, d3, d4, d5, d6, d7, d8, d9, d10, d11, d12, d13, d14, d15, d16, d17, d18, d19, d20, d21, d22, d23, d24, d25, d26, d27, d28, d29, d30, d31, d32, d33, d34, d35, d36, d37, d38, d39, d40, d41, d42, d43, d44, d45, d46, d47, d48, d49, d50, d51, d52, d53, d54, d55, d56, d57, d58, d59, d60, d61, d62, d63, d64, d65, d66, d67, d68, d69, d70, d71, d72, d73, d74, d75, d76, d77, d78, d79, d80, d81, d82, d83, d84, d85, d86, d87, d88, d89, d90, d91, d92, d93, d94, d95, d96, d97, d98, d99, d100, d101, d102, d103, d104, d105, d106, d107, d108, d109]
def gm (K : PySem.W.Frag) : Nat → Addr := fun k => match k with
  | 0 => He.ga K "Shape"
  | 1 => He.ga K "Heap"
  | 2 => He.ga K "ROWS"
  | 3 => He.ga K "SINGLE"
  | 4 => He.ga K "Cell"
  | 5 => He.dflAt ("Heap", some "new_cell") 1 K
  | 6 => He.ga K "Entries"
  | 7 => He.ga K "Memo"
  | 8 => He.ga K "Copying"
  | 9 => He.ga K "Frame"
  | 10 => He.ga K "FIXED_copying"
  | 11 => He.ga K "View"
  | 12 => He.ga K "Images"
  | 13 => He.ga K "Tracer"
  | 14 => He.ga K "CLOSE"
  | 15 => He.ga K "ENTER"
  | 16 => He.ga K "CALL"
  | _ => 0
def g0 : GT where
  seq := fun k => match k with
    | 2 => some (true, [.str "list", .str "tuple", .str "set", .str "frozen"])
    | 3 => some (true, [.str "set", .str "frozen"])
    | 5 => some (true, [])
    | 10 => some (true, [.str "tuple", .str "frozen"])
    | 14 => some (true, [.str "close"])
    | 15 => some (true, [.str "enter"])
    | 16 => some (true, [.str "call"])
    | _ => none
  fld := fun c f => match c with
    | 0 => strIn f ["label", "field_names", "deep_steps", "shallow_steps"]
    | 1 => strIn f ["shapes", "cells", "memos"]
    | 4 => strIn f ["family", "design", "held"]
    | 6 => strIn f ["entered", "open_copies", "is_busy"]
    | 7 => strIn f ["heap", "number"]
    | 8 => strIn f ["heap", "own_memo", "stack", "written", "coming", "found", "ended"]
    | 9 => strIn f ["of_cell", "size", "copy", "at", "place", "ahead", "gathered", "kept_back"]
    | 11 => strIn f ["heap", "known"]
    | 12 => strIn f ["view", "known"]
    | 13 => strIn f ["view", "images", "entered", "calls", "copies"]
    | _ => false
def ex0 (K : PySem.W.Frag) : Bool := tupA K (gm K 2) [.str "list", .str "tuple", .str "set", .str "frozen"]
def ex1 (K : PySem.W.Frag) : Bool := tupA K (gm K 3) [.str "set", .str "frozen"]
def ex2 (K : PySem.W.Frag) : Bool := tupA K (gm K 5) []
def ex3 (K : PySem.W.Frag) : Bool := tupA K (gm K 10) [.str "tuple", .str "frozen"]
def ex4 (K : PySem.W.Frag) : Bool := tupA K (gm K 14) [.str "close"]
def ex5 (K : PySem.W.Frag) : Bool := tupA K (gm K 15) [.str "enter"]
def ex6 (K : PySem.W.Frag) : Bool := tupA K (gm K 16) [.str "call"]
def ex7 (K : PySem.W.Frag) : Bool := PySem.W.fnIn K (He.ma K (He.ga K "Memo") "__getitem__")
def ex8 (K : PySem.W.Frag) : Bool := propB K "Shape" "deep_hook"
def ex9 (K : PySem.W.Frag) : Bool := propB K "Shape" "fields"
def ex10 (K : PySem.W.Frag) : Bool := propB K "Shape" "form"
def ex11 (K : PySem.W.Frag) : Bool := propB K "Shape" "late_fields"
def ex12 (K : PySem.W.Frag) : Bool := propB K "Shape" "name"
def ex13 (K : PySem.W.Frag) : Bool := bmB K "Copying" "carry_out"
def ex14 (K : PySem.W.Frag) : Bool := noLst K
def exB (K : PySem.W.Frag) : Bool := (ex0 K && (ex1 K && (ex2 K && (ex3 K && (ex4 K && (ex5 K && (ex6 K && (ex7 K && (ex8 K && (ex9 K && (ex10 K && (ex11 K && (ex12 K && (ex13 K && (ex14 K && true)))))))))))))))
def fa : List He.Fa := [.cls "Shape", .mkr "Heap", .str "LETTERS" "abcdefghijklmnopqrstuvwxyz", .free "all", .free "len", .int "MOST_LETTERS" 6, .free "isinstance", .free "str", .glo "is_word", .int "MOST_FIELDS" 6, .free "tuple", .glo "are_fields", .int "MOST_STEPS" 10, .glo "are_steps", .glo "is_remark", .glo "is_atom", .glo "is_put", .glo "is_field_step", .glo "is_builder_step", .str "BUILDER" "builder", .str "GIVER" "giver", .str "KEEPER" "keeper", .glo "form_of_shapes", .glo "is_shallow", .mkr "Shape", .glo "Shape", .glo "Heap", .free "bool", .free "int", .glo "is_integer", .cls "Heap", .meth "Heap" "is_cell", .meth "Heap" "is_value", .meth "Heap" "need_value", .glo "ROWS", .glo "SINGLE", .glo "without_repetitions", .free "list", .mkr "Cell", .glo "Cell", .meth "Heap" "new_cell", .meth "Heap" "set_part", .meth "Heap" "make_object", .meth "Heap" "make", .mkr "Entries", .glo "Entries", .meth "Heap" "new_entries", .mkr "Memo", .glo "Memo", .cls "Memo", .meth "Memo" "is_in_use", .meth "Heap" "__contains__", .meth "Memo" "set_use", .mkr "Copying", .glo "Copying", .meth "Memo" "__contains__", .meth "Memo" "__getitem__", .cls "Copying", .meth "Copying" "be_over", .meth "Heap" "cell_of", .meth "Heap" "kind", .meth "Heap" "append_to", .glo "attach", .meth "Copying" "deliver", .meth "Memo" "__len__", .free "any", .mkr "Frame", .glo "Frame", .glo "FIXED_copying", .str "PLAIN" "plain", .meth "Memo" "enter_for", .meth "Copying" "close", .free "enumerate", .meth "Heap" "steps_and_values", .meth "Heap" "parts", .free "dict", .meth "Copying" "field_of", .meth "Copying" "set_field", .meth "Copying" "read", .meth "Memo" "begin_half", .meth "Copying" "enter", .meth "Copying" "carry_out", .meth "Memo" "end_half", .meth "Copying" "end", .meth "Copying" "end_builder", .meth "Copying" "go_on_hook", .meth "Copying" "end_fixed", .meth "Copying" "go_on_values", .meth "Copying" "go_on_fields", .meth "Copying" "go_on", .meth "Copying" "begin", .meth "Copying" "step", .meth "Copying" "finish", .meth "Copying" "trace", .glo "_law_hooks", .glo "check_value", .mkr "View", .glo "View", .glo "form_of_ahead", .glo "hook_of", .glo "field_value", .glo "deep_parts", .glo "late_steps", .glo "late_parts", .cls "View", .meth "View" "is_open", .free "sorted", .glo "reached_cells", .glo "late_edges", .glo "cyclic_part", .glo "cycle_from", .glo "cycles_in", .meth "Memo" "entries", .glo "entries_of", .glo "ruled", .mkr "Images", .glo "Images", .glo "source_of", .cls "Images", .meth "Images" "simple", .free "zip", .meth "Images" "composed", .meth "Images" "of", .glo "foretold", .glo "linked", .glo "is_changeable", .glo "leaks", .glo "_law_keepers_right", .meth "Heap" "need_changeable", .meth "Heap" "can_put", .meth "Heap" "put", .mkr "Tracer", .glo "Tracer", .glo "CLOSE", .glo "ENTER", .glo "CALL", .cls "Tracer", .meth "Tracer" "deeds", .meth "Tracer" "do", .meth "Tracer" "run", .glo "counts", .glo "deep", .glo "_law_givers_right", .meth "Heap" "__len__", .free "range", .glo "is_safe", .glo "unsafe", .glo "_law_between_right", .free "set", .glo "_law_three_right", .glo "law", .noat "Shape" "shallow_steps", .noat "Shape" "deep_steps", .noat "Shape" "field_names", .noat "Shape" "label", .noat "Heap" "memos", .noat "Heap" "cells", .noat "Heap" "shapes", .cls "Cell", .noat "Cell" "held", .noat "Cell" "design", .noat "Cell" "family", .cls "Entries", .noat "Entries" "is_busy", .noat "Entries" "open_copies", .noat "Entries" "entered", .noat "Memo" "number", .noat "Memo" "heap", .noat "Copying" "ended", .noat "Copying" "found", .noat "Copying" "coming", .noat "Copying" "written", .noat "Copying" "stack", .noat "Copying" "own_memo", .noat "Copying" "heap", .cls "Frame", .noat "Frame" "kept_back", .noat "Frame" "gathered", .noat "Frame" "ahead", .noat "Frame" "place", .noat "Frame" "at", .noat "Frame" "copy", .noat "Frame" "size", .noat "Frame" "of_cell", .noat "View" "known", .noat "View" "heap", .noat "Images" "known", .noat "Images" "view", .noat "Tracer" "copies", .noat "Tracer" "calls", .noat "Tracer" "entered", .noat "Tracer" "images", .noat "Tracer" "view"]
structure Bd (K : PySem.W.Frag) (h : Heap) (mg : Str → Option Value) : Prop where
  X : K.In h
  G : h.Ns mainGlobals mg
  c : He5.SaysA fa fn K
  e : exB K = true
def loose0 : List PySem.Str := ["_wall", "CopyError", "BadShape", "BadKind", "BadValue", "WrongKind", "UnknownShape", "UnknownCell", "NoEntry", "BadStep", "Busy", "Changed", "Endless", "LateCycle", "Failed", "is_integer", "is_word", "is_atom", "are_fields", "is_remark", "is_field_step", "is_put", "is_builder_step", "are_steps", "form_of", "is_shallow", "late_steps", "Shape", "Memo", "attach"]
def loose1 : List PySem.Str := ["Frame", "Copying", "deep", "entries_of", "View", "field_value", "hook_of", "deep_parts", "late_parts", "check_value", "reached_cells", "late_edges", "cyclic_part", "cycle_from", "cycles_in", "ruled", "Images", "source_of", "foretold", "Tracer", "counts", "is_safe", "unsafe", "Cell", "Entries", "without_repetitions", "Heap", "is_changeable", "linked", "leaks"]
def loose2 : List PySem.Str := ["_law_hooks", "_law_three_right", "_law_between_right", "_law_givers_right", "_law_keepers_right", "MOST_LETTERS", "MOST_FIELDS", "MOST_STEPS", "LETTERS", "BUILDER", "GIVER", "KEEPER", "PLAIN", "form_of_shapes", "FIXED_copying", "ENTER", "CALL", "CLOSE", "form_of_ahead", "ROWS", "FIXED_heaps", "SINGLE"]
def loose : List PySem.Str := loose0 ++ loose1 ++ loose2
def vl : List He.FnW := [d0.val, d1.val, d2.val, d3.val, d4.val, d5.val, d6.val, d7.val, d8.val, d9.val, d10.val, d11.val, d12.val, d13.val, d14.val, d15.val, d16.val, d17.val, d18.val, d19.val, d20.val, d21.val, d22.val, d23.val, d24.val, d25.val, d26.val, d27.val, d28.val, d29.val, d30.val, d31.val, d32.val, d33.val, d34.val, d35.val, d36.val, d37.val, d38.val, d39.val, d40.val, d41.val, d42.val, d43.val, d44.val, d45.val, d46.val, d47.val, d48.val, d49.val, d50.val, d51.val, d52.val, d53.val, d54.val, d55.val, d56.val, d57.val, d58.val, d59.val, d60.val, d61.val, d62.val, d63.val, d64.val, d65.val, d66.val, d67.val, d68.val, d69.val, d70.val, d71.val, d72.val, d73.val, d74.val, d75.val, d76.val, d77.val, d78.val, d79.val, d80.val, d81.val, d82.val, d83.val, d84.val, d85.val, d86.val, d87.val, d88.val, d89.val, d90.val, d91.val, d92.val, d93.val, d94.val, d95.val, d96.val, d97.val, d98.val, d99.val, d100.val, d101.val, d102.val, d103.val, d104.val, d105.val, d106.val, d107.val, d108.val, d109.val]
abbrev hk : PySem.W.Hook := hookM 5 fa fn exB vl rfl
def ob (s : PySem.W.SharedT) : AlM := obsM 5 fa fn exB (HandSHeadRun.getT s)
theorem ob_eq (s : PySem.W.SharedT) : ob s = hk.obs s.abs := obsM_eq (HandSHeadRun.getT_eq s)
noncomputable abbrev eF (w : World) (os : OsState) : Option PySem.W.SharedT := HandSHeadRun.endF (HandSHeadRun.stepQ (HandSHeadRun.denQ HandSHeadRun.tabQ) R.prog w) 60000 R.prog w os
theorem map_pair {α β γ : Type} {o : Option α} {f : α → β} {g : α → γ} {b : β} {c : γ} (h : o.map f = some b) (h2 : o.map g = some c) : o.map (fun s => (f s, g s)) = some (b, c) := by
  cases o with
  | none => cases h
  | some s => cases h; cases h2; rfl
theorem run1 (w : World) (os : OsState) : (eF w os).map (fun s => HandSHeadRun.looksF R.prog (PySem.W.boot_heap w.params) s.abs) = some true := by kernel_rfl
theorem run2 (w : World) (os : OsState) : (eF w os).map (fun s => HandSHeadRun.seenQ (PySem.W.view R.prog [91]) loose (importedModules R.prog.main.body) (fun s => PySem.W.xlAt (PySem.W.view R.prog [91]) [] s && PySem.W.recOk R.toRowW.records s) s.abs) = some (PySem.W.openGood (PySem.W.view R.prog [91]) loose) := by kernel_rfl
noncomputable abbrev kf (s : PySem.W.SharedT) : PySem.W.Frag := He.frG (HandSHeadRun.getT s) (asM (HandSHeadRun.getT s) 5 [mainGlobals])
theorem map_and {α : Type} {o : Option α} {f g : α → Bool} (h : o.map f = some true) (h2 : o.map g = some true) : o.map (fun s => f s && g s) = some true := by
  cases o with
  | none => cases h
  | some s =>
    have e : f s = true := Option.some.inj h
    have e2 : g s = true := Option.some.inj h2
    show some (f s && g s) = some true
    rw [e, e2]; rfl
theorem run3a (w : World) (os : OsState) : (eF w os).map (fun s => fa.all fun f => f.ok (kf s)) = some true := by kernel_rfl
theorem run3b (w : World) (os : OsState) : (eF w os).map (fun s => fn.all fun d => d.ok (kf s)) = some true := by kernel_rfl
theorem run3c (w : World) (os : OsState) : (eF w os).map (fun s => exB (kf s)) = some true := by kernel_rfl
theorem run3 (w : World) (os : OsState) : (eF w os).map (fun s => (ob s).1) = some true := map_and (map_and (run3a w os) (run3b w os)) (run3c w os)
theorem run4 (w : World) (os : OsState) : (eF w os).map (fun s => (ob s).2) = some vl := by kernel_rfl
theorem run (w : World) : HandSHeadRun.RunEq R (PySem.W.view R.prog [91]) hk ob 60000 loose w := fun os => map_pair (run1 w os) (map_pair (run2 w os) (map_pair (f := fun s => (ob s).1) (g := fun s => (ob s).2) (run3 w os) (run4 w os)))
section
variable {P : Program} {w : World} {K : PySem.W.Frag} {mg : Str → Option Value} {base hh : Heap}
theorem exOk0 (B : Bd K hh mg) : ex0 K = true := (He.ba B.e).1
theorem exOk1 (B : Bd K hh mg) : ex1 K = true := (He.ba (He.ba B.e).2).1
theorem exOk2 (B : Bd K hh mg) : ex2 K = true := (He.ba (He.ba (He.ba B.e).2).2).1
theorem exOk3 (B : Bd K hh mg) : ex3 K = true := (He.ba (He.ba (He.ba (He.ba B.e).2).2).2).1
theorem exOk4 (B : Bd K hh mg) : ex4 K = true := (He.ba (He.ba (He.ba (He.ba (He.ba B.e).2).2).2).2).1
theorem exOk5 (B : Bd K hh mg) : ex5 K = true := (He.ba (He.ba (He.ba (He.ba (He.ba (He.ba B.e).2).2).2).2).2).1
theorem exOk6 (B : Bd K hh mg) : ex6 K = true := (He.ba (He.ba (He.ba (He.ba (He.ba (He.ba (He.ba B.e).2).2).2).2).2).2).1
theorem exOk7 (B : Bd K hh mg) : ex7 K = true := (He.ba (He.ba (He.ba (He.ba (He.ba (He.ba (He.ba (He.ba B.e).2).2).2).2).2).2).2).1
theorem exOk8 (B : Bd K hh mg) : ex8 K = true := (He.ba (He.ba (He.ba (He.ba (He.ba (He.ba (He.ba (He.ba (He.ba B.e).2).2).2).2).2).2).2).2).1
theorem exOk9 (B : Bd K hh mg) : ex9 K = true := (He.ba (He.ba (He.ba (He.ba (He.ba (He.ba (He.ba (He.ba (He.ba (He.ba B.e).2).2).2).2).2).2).2).2).2).1
theorem exOk10 (B : Bd K hh mg) : ex10 K = true := (He.ba (He.ba (He.ba (He.ba (He.ba (He.ba (He.ba (He.ba (He.ba (He.ba (He.ba B.e).2).2).2).2).2).2).2).2).2).2).1
theorem exOk11 (B : Bd K hh mg) : ex11 K = true := (He.ba (He.ba (He.ba (He.ba (He.ba (He.ba (He.ba (He.ba (He.ba (He.ba (He.ba (He.ba B.e).2).2).2).2).2).2).2).2).2).2).2).1
theorem exOk12 (B : Bd K hh mg) : ex12 K = true := (He.ba (He.ba (He.ba (He.ba (He.ba (He.ba (He.ba (He.ba (He.ba (He.ba (He.ba (He.ba (He.ba B.e).2).2).2).2).2).2).2).2).2).2).2).2).1
theorem exOk13 (B : Bd K hh mg) : ex13 K = true := (He.ba (He.ba (He.ba (He.ba (He.ba (He.ba (He.ba (He.ba (He.ba (He.ba (He.ba (He.ba (He.ba (He.ba B.e).2).2).2).2).2).2).2).2).2).2).2).2).2).1
theorem exOk14 (B : Bd K hh mg) : ex14 K = true := (He.ba (He.ba (He.ba (He.ba (He.ba (He.ba (He.ba (He.ba (He.ba (He.ba (He.ba (He.ba (He.ba (He.ba (He.ba B.e).2).2).2).2).2).2).2).2).2).2).2).2).2).2).1
theorem bm_Copying_carry_out (B : Bd K hh mg) : bmB K "Copying" "carry_out" = true := exOk13 B
theorem prop_Shape_deep_hook (B : Bd K hh mg) : PropOf K (He.ga K "Shape") "deep_hook" (He.ma K (He.ga K "Shape") "deep_hook") (gP K "Shape" "deep_hook") := propB_ok (exOk8 B)
theorem prop_Shape_fields (B : Bd K hh mg) : PropOf K (He.ga K "Shape") "fields" (He.ma K (He.ga K "Shape") "fields") (gP K "Shape" "fields") := propB_ok (exOk9 B)
theorem prop_Shape_form (B : Bd K hh mg) : PropOf K (He.ga K "Shape") "form" (He.ma K (He.ga K "Shape") "form") (gP K "Shape" "form") := propB_ok (exOk10 B)
theorem prop_Shape_late_fields (B : Bd K hh mg) : PropOf K (He.ga K "Shape") "late_fields" (He.ma K (He.ga K "Shape") "late_fields") (gP K "Shape" "late_fields") := propB_ok (exOk11 B)
theorem prop_Shape_name (B : Bd K hh mg) : PropOf K (He.ga K "Shape") "name" (He.ma K (He.ga K "Shape") "name") (gP K "Shape" "name") := propB_ok (exOk12 B)
theorem fnin_Memo__getitem__ (B : Bd K hh mg) : PySem.W.fnIn K (He.ma K (He.ga K "Memo") "__getitem__") = true := exOk7 B
theorem gok (B : Bd K hh mg) : GOk K (gm K) g0 where
  seq := fun k b xs e => match k, e with
    | 2, e => by cases e; exact ⟨_, (.cons rfl (.cons rfl (.cons rfl (.cons rfl .nil)))), fun H => tupA_ok (exOk0 B) H⟩
    | 3, e => by cases e; exact ⟨_, (.cons rfl (.cons rfl .nil)), fun H => tupA_ok (exOk1 B) H⟩
    | 5, e => by cases e; exact ⟨_, .nil, fun H => tupA_ok (exOk2 B) H⟩
    | 10, e => by cases e; exact ⟨_, (.cons rfl (.cons rfl .nil)), fun H => tupA_ok (exOk3 B) H⟩
    | 14, e => by cases e; exact ⟨_, (.cons rfl .nil), fun H => tupA_ok (exOk4 B) H⟩
    | 15, e => by cases e; exact ⟨_, (.cons rfl .nil), fun H => tupA_ok (exOk5 B) H⟩
    | 16, e => by cases e; exact ⟨_, (.cons rfl .nil), fun H => tupA_ok (exOk6 B) H⟩
    | n + 17, e => (nomatch e)
    | 0, e => (nomatch e)
    | 1, e => (nomatch e)
    | 4, e => (nomatch e)
    | 6, e => (nomatch e)
    | 7, e => (nomatch e)
    | 8, e => (nomatch e)
    | 9, e => (nomatch e)
    | 11, e => (nomatch e)
    | 12, e => (nomatch e)
    | 13, e => (nomatch e)
  fld := fun c f h => match c, f, h with
    | 0, f, h => ⟨He.cls_ok (B.c.fact 0 rfl), (mem_cons (He.noat_ok (B.c.fact 154 rfl)) (mem_cons (He.noat_ok (B.c.fact 153 rfl)) (mem_cons (He.noat_ok (B.c.fact 152 rfl)) (mem_cons (He.noat_ok (B.c.fact 151 rfl)) mem_nil)))) f (strIn_ok h)⟩
    | 1, f, h => ⟨He.cls_ok (B.c.fact 30 rfl), (mem_cons (He.noat_ok (B.c.fact 157 rfl)) (mem_cons (He.noat_ok (B.c.fact 156 rfl)) (mem_cons (He.noat_ok (B.c.fact 155 rfl)) mem_nil))) f (strIn_ok h)⟩
    | 4, f, h => ⟨He.cls_ok (B.c.fact 158 rfl), (mem_cons (He.noat_ok (B.c.fact 161 rfl)) (mem_cons (He.noat_ok (B.c.fact 160 rfl)) (mem_cons (He.noat_ok (B.c.fact 159 rfl)) mem_nil))) f (strIn_ok h)⟩
    | 6, f, h => ⟨He.cls_ok (B.c.fact 162 rfl), (mem_cons (He.noat_ok (B.c.fact 165 rfl)) (mem_cons (He.noat_ok (B.c.fact 164 rfl)) (mem_cons (He.noat_ok (B.c.fact 163 rfl)) mem_nil))) f (strIn_ok h)⟩
    | 7, f, h => ⟨He.cls_ok (B.c.fact 49 rfl), (mem_cons (He.noat_ok (B.c.fact 167 rfl)) (mem_cons (He.noat_ok (B.c.fact 166 rfl)) mem_nil)) f (strIn_ok h)⟩
    | 8, f, h => ⟨He.cls_ok (B.c.fact 57 rfl), (mem_cons (He.noat_ok (B.c.fact 174 rfl)) (mem_cons (He.noat_ok (B.c.fact 173 rfl)) (mem_cons (He.noat_ok (B.c.fact 172 rfl)) (mem_cons (He.noat_ok (B.c.fact 171 rfl)) (mem_cons (He.noat_ok (B.c.fact 170 rfl)) (mem_cons (He.noat_ok (B.c.fact 169 rfl)) (mem_cons (He.noat_ok (B.c.fact 168 rfl)) mem_nil))))))) f (strIn_ok h)⟩
    | 9, f, h => ⟨He.cls_ok (B.c.fact 175 rfl), (mem_cons (He.noat_ok (B.c.fact 183 rfl)) (mem_cons (He.noat_ok (B.c.fact 182 rfl)) (mem_cons (He.noat_ok (B.c.fact 181 rfl)) (mem_cons (He.noat_ok (B.c.fact 180 rfl)) (mem_cons (He.noat_ok (B.c.fact 179 rfl)) (mem_cons (He.noat_ok (B.c.fact 178 rfl)) (mem_cons (He.noat_ok (B.c.fact 177 rfl)) (mem_cons (He.noat_ok (B.c.fact 176 rfl)) mem_nil)))))))) f (strIn_ok h)⟩
    | 11, f, h => ⟨He.cls_ok (B.c.fact 104 rfl), (mem_cons (He.noat_ok (B.c.fact 185 rfl)) (mem_cons (He.noat_ok (B.c.fact 184 rfl)) mem_nil)) f (strIn_ok h)⟩
    | 12, f, h => ⟨He.cls_ok (B.c.fact 118 rfl), (mem_cons (He.noat_ok (B.c.fact 187 rfl)) (mem_cons (He.noat_ok (B.c.fact 186 rfl)) mem_nil)) f (strIn_ok h)⟩
    | 13, f, h => ⟨He.cls_ok (B.c.fact 136 rfl), (mem_cons (He.noat_ok (B.c.fact 192 rfl)) (mem_cons (He.noat_ok (B.c.fact 191 rfl)) (mem_cons (He.noat_ok (B.c.fact 190 rfl)) (mem_cons (He.noat_ok (B.c.fact 189 rfl)) (mem_cons (He.noat_ok (B.c.fact 188 rfl)) mem_nil))))) f (strIn_ok h)⟩
    | 2, f, h => (nomatch h)
    | 3, f, h => (nomatch h)
    | 5, f, h => (nomatch h)
    | 10, f, h => (nomatch h)
    | 14, f, h => (nomatch h)
    | 15, f, h => (nomatch h)
    | 16, f, h => (nomatch h)
    | n + 17, f, h => (nomatch h)
/-! ### Shape.name -/
theorem sc3 : FnScope ["self"] ["self"] (defScope (inClass (top 38) 3)) := ⟨rfl, rfl, rfl, by decide +kernel, rfl, by decide +kernel, by decide +kernel⟩
def m3 : MS := (mRet (mFld g0 "label" (mVar 0)))
theorem b3 (B : Bd K hh mg) (cdv : Value) (A : Around) (outer : List Env) (s : Shared) (H : Hp) (hr : Room 0 (A.deeper (envOfC "Shape.name" (defScope (inClass (top 38) 3)) s.heap.objs.size (gP K "Shape" "name") cdv))) : SSs (gm K) W0 (cxOf CX0 P w K mg base ["self"] "Shape.name" (defScope (inClass (top 38) 3)) (gP K "Shape" "name") cdv A outer s H E0).nox (defBody (inClass (top 38) 3)) m3 := by
  have G : GOk K (gm K) g0 := gok B
  exact (sss_one (ss_ret (se_fld G (se_var 0))))
theorem kp3 (B : Bd K hh mg) : PySem.W.keepIn K (.ref (gP K "Shape" "name")) = true := by obtain ⟨fd, F⟩ := B.c.def_ 3 (d := d3) rfl; exact F.kp
def f3 : MF := mDef 1 0 m3
theorem o3 (B : Bd K hh mg) : ∃ fd, FnOk P w K mg base CX0 1 (gP K "Shape" "name") fd ["self"] (SpM (gm K) 1 f3) ∧ FunD K d3.name d3.qual d3.params d3.body d3.scope (d3.dvs K) (d3.kws K) (gP K "Shape" "name") fd := by
  obtain ⟨fd, F⟩ := B.c.def_ 3 (d := d3) rfl
  exact ⟨fd, fn_okM (ps := ["self"]) F sc3 rfl rfl (fun cdv A outer s H hr => b3 B cdv A outer s H hr), F⟩
theorem r3 (B : Bd K hh mg) : FnR P w K mg base CX0 1 (gP K "Shape" "name") (SpM (gm K) 1 f3) := by
  obtain ⟨fd, F, D⟩ := o3 (P := P) (w := w) (base := base) B
  exact fnM_all F (FunD.bindsN (ps := ["self"]) D fun _ _ _ _ _ _ us hl => match us, hl with | [_], _ => rfl)
theorem p3 (B : Bd K hh mg) : ∃ fd, FnOk P w K mg base CX0 1 (gP K "Shape" "name") fd ["self"] (SpM (gm K) 1 f3) ∧ L2.Binds K fd ["self"] [] := by
  obtain ⟨fd, F, D⟩ := o3 (P := P) (w := w) (base := base) B
  exact ⟨fd, F, FunD.bindsN (ps := ["self"]) D fun _ _ _ _ _ _ us hl => match us, hl with | [_], _ => rfl⟩
/-! ### Heap.__init__ -/
theorem sc2 : FnScope ["self", "shapes", "shape"] ["self", "shapes"] (defScope (inClass (top 80) 0)) := ⟨rfl, rfl, rfl, by decide +kernel, rfl, by decide +kernel, by decide +kernel⟩
def m2 : MS := (mSeqT (mSetF g0 "shapes" (mVar 0) (mDc g0 300 [2] (miAny g0 (mVar 1)) (mgName 2) mYes (mProp 0 f3 (mVar 2)) (mVar 2))) (mSeqT (mSetF g0 "cells" (mVar 0) (mLst mNil)) (mSetF g0 "memos" (mVar 0) (mLst mNil))))
theorem b2 (B : Bd K hh mg) (cdv : Value) (A : Around) (outer : List Env) (s : Shared) (H : Hp) (hr : Room 2 (A.deeper (envOfC "Heap.__init__" (defScope (inClass (top 80) 0)) s.heap.objs.size (He.fAd K ("Heap", some "__init__")) cdv))) : SSs (gm K) W0 (cxOf CX0 P w K mg base ["self", "shapes", "shape"] "Heap.__init__" (defScope (inClass (top 80) 0)) (He.fAd K ("Heap", some "__init__")) cdv A outer s H E0).nox (defBody (inClass (top 80) 0)) m2 := by
  have G : GOk K (gm K) g0 := gok B
  exact (sss_consT (ss_setF G (se_var 0) (se_dc (own := [("shape", 2)]) 300 rfl sc2.nd (si_any G (se_var 1)) (show BlkOk ["self", "shapes", "shape"] (defScope (inClass (top 80) 0)) _ [("shape", 2)] from ⟨rfl, by decide +kernel, by decide +kernel, by decide +kernel, by decide +kernel⟩) (fun _ _ _ _ _ => (sg_name sc2.nd)) (fun _ _ _ _ _ => pts_nilM) (fun _ _ _ _ _ => (se_prop2 (c := 0) (He.cls_ok (B.c.fact 0 rfl)) (prop_Shape_name B) (p3 B) (hr.mono (by decide)) (se_var 2))) (fun _ _ _ _ _ => (se_var 2)))) (sss_consT (ss_setF G (se_var 0) (se_lst sa_nil)) (sss_one (ss_setF G (se_var 0) (se_lst sa_nil)))))
theorem kp2 (B : Bd K hh mg) : PySem.W.keepIn K (.ref (He.fAd K ("Heap", some "__init__"))) = true := by obtain ⟨fd, F⟩ := B.c.def_ 2 (d := d2) rfl; exact F.kp
def fs2_2 : MF := mfStar 1 (mDef 2 1 m2)
theorem rs2_2 (B : Bd K hh mg) : FnR P w K mg base CX0 3 (He.fAd K ("Heap", some "__init__")) (SpM (gm K) 2 fs2_2) := by
  obtain ⟨fd, F⟩ := B.c.def_ 2 (d := d2) rfl
  exact fn_starM (ps := ["self"]) (pv := "shapes") F sc2 rfl rfl (by decide) (fun _ _ _ _ _ _ us rest hl => match us, rest, hl with | [_], [], _ => rfl | [_], _ :: _, _ => rfl) (fun cdv A outer s H hr => b2 B cdv A outer s H hr)
/-! ### is_word -/
theorem sc6 : FnScope ["thing", "sign"] ["thing"] (defScope (top 26)) := ⟨rfl, rfl, rfl, by decide +kernel, rfl, by decide +kernel, by decide +kernel⟩
def m6 : MS := (mRet (mAndV (mIsi isStr (mVar 0)) (mAndV (mChain fLe fLe (mC (.int 1)) (mCb (fLen g0) (mCons (mVar 0) mNil)) (mC (.int 6))) (mCb (MV.f1 (fBls g0 allT)) (mCons (mLc g0 300 [1] (miAny g0 (mVar 0)) (mgName 1) mYes (mBin (fIn2 g0 false) (mVar 1) (mC (.str "abcdefghijklmnopqrstuvwxyz")))) mNil)))))
theorem b6 (B : Bd K hh mg) (cdv : Value) (A : Around) (outer : List Env) (s : Shared) (H : Hp) (hr : Room 0 (A.deeper (envOfC "is_word" (defScope (top 26)) s.heap.objs.size (He.fAd K ("is_word", none)) cdv))) : SSs (gm K) W0 (cxOf CX0 P w K mg base ["thing", "sign"] "is_word" (defScope (top 26)) (He.fAd K ("is_word", none)) cdv A outer s H E0).nox (defBody (top 26)) m6 := by
  have G : GOk K (gm K) g0 := gok B
  exact (sss_one (ss_ret (se_and (se_isi (isStr_ok K) (se_var 0) (He.free_ok B.X B.G (B.c.fact 6 rfl)) (He.free_ok B.X B.G (B.c.fact 7 rfl)) rfl) (se_and (se_chain2 o_le o_le se_int (se_callB (id := "len") (cb_len G) (He.free_ok B.X B.G (B.c.fact 4 rfl)) rfl (sa_cons (se_var 0) sa_nil)) (se_gint (He.int_ok B.X B.G (B.c.fact 5 rfl)))) (se_one (se_callB (id := "all") (cb_all G rfl) (He.free_ok B.X B.G (B.c.fact 3 rfl)) rfl (sa_cons (se_lc (own := [("sign", 1)]) 300 rfl sc6.nd (si_any G (se_var 0)) (show BlkOk ["thing", "sign"] (defScope (top 26)) _ [("sign", 1)] from ⟨rfl, by decide +kernel, by decide +kernel, by decide +kernel, by decide +kernel⟩) (fun _ _ _ _ _ => (sg_name sc6.nd)) (fun _ _ _ _ _ => pts_nilM) (fun _ _ _ _ _ => (se_cmp2 (o_in2 G (hu66 hr)) (se_var 1) (se_gstr (He.str_ok B.X B.G (B.c.fact 2 rfl)))))) sa_nil)))))))
theorem kp6 (B : Bd K hh mg) : PySem.W.keepIn K (.ref (He.fAd K ("is_word", none))) = true := by obtain ⟨fd, F⟩ := B.c.def_ 6 (d := d6) rfl; exact F.kp
def f6 : MF := mDef 1 1 m6
theorem o6 (B : Bd K hh mg) : ∃ fd, FnOk P w K mg base CX0 1 (He.fAd K ("is_word", none)) fd ["thing"] (SpM (gm K) 1 f6) ∧ FunD K d6.name d6.qual d6.params d6.body d6.scope (d6.dvs K) (d6.kws K) (He.fAd K ("is_word", none)) fd := by
  obtain ⟨fd, F⟩ := B.c.def_ 6 (d := d6) rfl
  exact ⟨fd, fn_okM (ps := ["thing"]) F sc6 rfl rfl (fun cdv A outer s H hr => b6 B cdv A outer s H hr), F⟩
theorem r6 (B : Bd K hh mg) : FnR P w K mg base CX0 1 (He.fAd K ("is_word", none)) (SpM (gm K) 1 f6) := by
  obtain ⟨fd, F, D⟩ := o6 (P := P) (w := w) (base := base) B
  exact fnM_all F (FunD.bindsN (ps := ["thing"]) D fun _ _ _ _ _ _ us hl => match us, hl with | [_], _ => rfl)
/-! ### are_fields -/
theorem sc5 : FnScope ["thing", "one"] ["thing"] (defScope (top 28)) := ⟨rfl, rfl, rfl, by decide +kernel, rfl, by decide +kernel, by decide +kernel⟩
def m5 : MS := (mSeqT (mIfS (mOrT (mNot (mTest (mIsi isTuple (mVar 0)))) (mOrT (mTest (mBin fGt (mCb (fLen g0) (mCons (mVar 0) mNil)) (mC (.int 6)))) (mNot (mTest (mCb (MV.f1 (fBls g0 allT)) (mCons (mLc g0 300 [1] (miAny g0 (mVar 0)) (mgName 1) mYes (mCall f6 1 (mCons (mVar 1) mNil))) mNil)))))) (mRet (mC (.bl false))) mNext) (mRet (mBin (fEq3 g0 false) (mLenSc g0 300 [1] (miAny g0 (mVar 0)) (mgName 1) mYes (mVar 1)) (mCb (fLen g0) (mCons (mVar 0) mNil)))))
theorem b5 (B : Bd K hh mg) (cdv : Value) (A : Around) (outer : List Env) (s : Shared) (H : Hp) (hr : Room 1 (A.deeper (envOfC "are_fields" (defScope (top 28)) s.heap.objs.size (He.fAd K ("are_fields", none)) cdv))) : SSs (gm K) W0 (cxOf CX0 P w K mg base ["thing", "one"] "are_fields" (defScope (top 28)) (He.fAd K ("are_fields", none)) cdv A outer s H E0).nox (defBody (top 28)) m5 := by
  have G : GOk K (gm K) g0 := gok B
  exact (sss_consT (ss_if (SW.st (sw_or (st_not (st_val (se_isi (isTuple_ok K) (se_var 0) (He.free_ok B.X B.G (B.c.fact 6 rfl)) (He.free_ok B.X B.G (B.c.fact 10 rfl)) rfl))) (sw_or (st_cmp2 o_gt (se_callB (id := "len") (cb_len G) (He.free_ok B.X B.G (B.c.fact 4 rfl)) rfl (sa_cons (se_var 0) sa_nil)) (se_gint (He.int_ok B.X B.G (B.c.fact 9 rfl)))) (sw_or1 (st_not (st_val (se_callB (id := "all") (cb_all G rfl) (He.free_ok B.X B.G (B.c.fact 3 rfl)) rfl (sa_cons (se_lc (own := [("one", 1)]) 300 rfl sc5.nd (si_any G (se_var 0)) (show BlkOk ["thing", "one"] (defScope (top 28)) _ [("one", 1)] from ⟨rfl, by decide +kernel, by decide +kernel, by decide +kernel, by decide +kernel⟩) (fun _ _ _ _ _ => (sg_name sc5.nd)) (fun _ _ _ _ _ => pts_nilM) (fun _ _ _ _ _ => (se_call (r6 B) (hr.mono (by decide)) (He.glo_ok B.X B.G (B.c.fact 8 rfl)) (kp6 B) (sa_cons (se_var 1) sa_nil)))) sa_nil)))))))) (sss_one (ss_ret se_bl)) sss_nil) (sss_one (ss_ret (se_cmp2 (o_eq3 G (hu66 hr)) (se_lenSc (own := [("one", 1)]) 300 rfl sc5.nd (si_any G (se_var 0)) (show BlkOk ["thing", "one"] (defScope (top 28)) _ [("one", 1)] from ⟨rfl, by decide +kernel, by decide +kernel, by decide +kernel, by decide +kernel⟩) (fun _ _ _ _ _ => (sg_name sc5.nd)) (fun _ _ _ _ _ => pts_nilM) (fun _ _ _ _ _ => (se_var 1)) (He.free_ok B.X B.G (B.c.fact 4 rfl))) (se_callB (id := "len") (cb_len G) (He.free_ok B.X B.G (B.c.fact 4 rfl)) rfl (sa_cons (se_var 0) sa_nil))))))
theorem kp5 (B : Bd K hh mg) : PySem.W.keepIn K (.ref (He.fAd K ("are_fields", none))) = true := by obtain ⟨fd, F⟩ := B.c.def_ 5 (d := d5) rfl; exact F.kp
def f5 : MF := mDef 1 1 m5
theorem o5 (B : Bd K hh mg) : ∃ fd, FnOk P w K mg base CX0 2 (He.fAd K ("are_fields", none)) fd ["thing"] (SpM (gm K) 1 f5) ∧ FunD K d5.name d5.qual d5.params d5.body d5.scope (d5.dvs K) (d5.kws K) (He.fAd K ("are_fields", none)) fd := by
  obtain ⟨fd, F⟩ := B.c.def_ 5 (d := d5) rfl
  exact ⟨fd, fn_okM (ps := ["thing"]) F sc5 rfl rfl (fun cdv A outer s H hr => b5 B cdv A outer s H hr), F⟩
theorem r5 (B : Bd K hh mg) : FnR P w K mg base CX0 2 (He.fAd K ("are_fields", none)) (SpM (gm K) 1 f5) := by
  obtain ⟨fd, F, D⟩ := o5 (P := P) (w := w) (base := base) B
  exact fnM_all F (FunD.bindsN (ps := ["thing"]) D fun _ _ _ _ _ _ us hl => match us, hl with | [_], _ => rfl)
/-! ### are_steps -/
theorem sc8 : FnScope ["thing", "one"] ["thing"] (defScope (top 33)) := ⟨rfl, rfl, rfl, by decide +kernel, rfl, by decide +kernel, by decide +kernel⟩
def m8 : MS := (mSeqT (mIfS (mOrT (mNot (mTest (mIsi isTuple (mVar 0)))) (mTest (mBin fGt (mCb (fLen g0) (mCons (mVar 0) mNil)) (mC (.int 10))))) (mRet (mC (.bl false))) mNext) (mRet (mCb (MV.f1 (fBls g0 allT)) (mCons (mLc g0 300 [1] (miAny g0 (mVar 0)) (mgName 1) mYes (mAndV (mIsi isTuple (mVar 1)) (mAndV (mBin (fEq3 g0 true) (mVar 1) (mTup mNil)) (mIsi isStr (mBin (fIx g0) (mVar 1) (mC (.int 0))))))) mNil))))
theorem b8 (B : Bd K hh mg) (cdv : Value) (A : Around) (outer : List Env) (s : Shared) (H : Hp) (hr : Room 0 (A.deeper (envOfC "are_steps" (defScope (top 33)) s.heap.objs.size (He.fAd K ("are_steps", none)) cdv))) : SSs (gm K) W0 (cxOf CX0 P w K mg base ["thing", "one"] "are_steps" (defScope (top 33)) (He.fAd K ("are_steps", none)) cdv A outer s H E0).nox (defBody (top 33)) m8 := by
  have G : GOk K (gm K) g0 := gok B
  exact (sss_consT (ss_if (SW.st (sw_or (st_not (st_val (se_isi (isTuple_ok K) (se_var 0) (He.free_ok B.X B.G (B.c.fact 6 rfl)) (He.free_ok B.X B.G (B.c.fact 10 rfl)) rfl))) (sw_or1 (st_cmp2 o_gt (se_callB (id := "len") (cb_len G) (He.free_ok B.X B.G (B.c.fact 4 rfl)) rfl (sa_cons (se_var 0) sa_nil)) (se_gint (He.int_ok B.X B.G (B.c.fact 12 rfl))))))) (sss_one (ss_ret se_bl)) sss_nil) (sss_one (ss_ret (se_callB (id := "all") (cb_all G rfl) (He.free_ok B.X B.G (B.c.fact 3 rfl)) rfl (sa_cons (se_lc (own := [("one", 1)]) 300 rfl sc8.nd (si_any G (se_var 0)) (show BlkOk ["thing", "one"] (defScope (top 33)) _ [("one", 1)] from ⟨rfl, by decide +kernel, by decide +kernel, by decide +kernel, by decide +kernel⟩) (fun _ _ _ _ _ => (sg_name sc8.nd)) (fun _ _ _ _ _ => pts_nilM) (fun _ _ _ _ _ => (se_and (se_isi (isTuple_ok K) (se_var 1) (He.free_ok B.X B.G (B.c.fact 6 rfl)) (He.free_ok B.X B.G (B.c.fact 10 rfl)) rfl) (se_and (se_cmp2 (o_ne3 G (hu66 hr)) (se_var 1) (se_tup sa_nil)) (se_one (se_isi (isStr_ok K) (se_ix2 (o_ix G (hu1 hr)) (se_var 1) se_int) (He.free_ok B.X B.G (B.c.fact 6 rfl)) (He.free_ok B.X B.G (B.c.fact 7 rfl)) rfl)))))) sa_nil)))))
theorem kp8 (B : Bd K hh mg) : PySem.W.keepIn K (.ref (He.fAd K ("are_steps", none))) = true := by obtain ⟨fd, F⟩ := B.c.def_ 8 (d := d8) rfl; exact F.kp
def f8 : MF := mDef 1 1 m8
theorem o8 (B : Bd K hh mg) : ∃ fd, FnOk P w K mg base CX0 1 (He.fAd K ("are_steps", none)) fd ["thing"] (SpM (gm K) 1 f8) ∧ FunD K d8.name d8.qual d8.params d8.body d8.scope (d8.dvs K) (d8.kws K) (He.fAd K ("are_steps", none)) fd := by
  obtain ⟨fd, F⟩ := B.c.def_ 8 (d := d8) rfl
  exact ⟨fd, fn_okM (ps := ["thing"]) F sc8 rfl rfl (fun cdv A outer s H hr => b8 B cdv A outer s H hr), F⟩
theorem r8 (B : Bd K hh mg) : FnR P w K mg base CX0 1 (He.fAd K ("are_steps", none)) (SpM (gm K) 1 f8) := by
  obtain ⟨fd, F, D⟩ := o8 (P := P) (w := w) (base := base) B
  exact fnM_all F (FunD.bindsN (ps := ["thing"]) D fun _ _ _ _ _ _ us hl => match us, hl with | [_], _ => rfl)
/-! ### is_remark -/
theorem sc10 : FnScope ["thing"] ["thing"] (defScope (top 29)) := ⟨rfl, rfl, rfl, by decide +kernel, rfl, by decide +kernel, by decide +kernel⟩
def m10 : MS := (mRet (mAndV (mBin (fEq3 g0 false) (mCb (fLen g0) (mCons (mVar 0) mNil)) (mC (.int 2))) (mAndV (mBin (fIn2 g0 false) (mBin (fIx g0) (mVar 0) (mC (.int 0))) (mTup (mCons (mC (.str "note")) (mCons (mC (.str "fail")) mNil)))) (mCall f6 1 (mCons (mBin (fIx g0) (mVar 0) (mC (.int 1))) mNil)))))
theorem b10 (B : Bd K hh mg) (cdv : Value) (A : Around) (outer : List Env) (s : Shared) (H : Hp) (hr : Room 1 (A.deeper (envOfC "is_remark" (defScope (top 29)) s.heap.objs.size (He.fAd K ("is_remark", none)) cdv))) : SSs (gm K) W0 (cxOf CX0 P w K mg base ["thing"] "is_remark" (defScope (top 29)) (He.fAd K ("is_remark", none)) cdv A outer s H E0).nox (defBody (top 29)) m10 := by
  have G : GOk K (gm K) g0 := gok B
  exact (sss_one (ss_ret (se_and (se_cmp2 (o_eq3 G (hu66 hr)) (se_callB (id := "len") (cb_len G) (He.free_ok B.X B.G (B.c.fact 4 rfl)) rfl (sa_cons (se_var 0) sa_nil)) se_int) (se_and (se_cmp2 (o_in2 G (hu66 hr)) (se_ix2 (o_ix G (hu1 hr)) (se_var 0) se_int) (se_tup (sa_cons se_str (sa_cons se_str sa_nil)))) (se_one (se_call (r6 B) (hr.mono (by decide)) (He.glo_ok B.X B.G (B.c.fact 8 rfl)) (kp6 B) (sa_cons (se_ix2 (o_ix G (hu1 hr)) (se_var 0) se_int) sa_nil)))))))
theorem kp10 (B : Bd K hh mg) : PySem.W.keepIn K (.ref (He.fAd K ("is_remark", none))) = true := by obtain ⟨fd, F⟩ := B.c.def_ 10 (d := d10) rfl; exact F.kp
def f10 : MF := mDef 1 0 m10
theorem o10 (B : Bd K hh mg) : ∃ fd, FnOk P w K mg base CX0 2 (He.fAd K ("is_remark", none)) fd ["thing"] (SpM (gm K) 1 f10) ∧ FunD K d10.name d10.qual d10.params d10.body d10.scope (d10.dvs K) (d10.kws K) (He.fAd K ("is_remark", none)) fd := by
  obtain ⟨fd, F⟩ := B.c.def_ 10 (d := d10) rfl
  exact ⟨fd, fn_okM (ps := ["thing"]) F sc10 rfl rfl (fun cdv A outer s H hr => b10 B cdv A outer s H hr), F⟩
theorem r10 (B : Bd K hh mg) : FnR P w K mg base CX0 2 (He.fAd K ("is_remark", none)) (SpM (gm K) 1 f10) := by
  obtain ⟨fd, F, D⟩ := o10 (P := P) (w := w) (base := base) B
  exact fnM_all F (FunD.bindsN (ps := ["thing"]) D fun _ _ _ _ _ _ us hl => match us, hl with | [_], _ => rfl)
/-! ### is_atom -/
theorem sc12 : FnScope ["thing"] ["thing"] (defScope (top 27)) := ⟨rfl, rfl, rfl, by decide +kernel, rfl, by decide +kernel, by decide +kernel⟩
def m12 : MS := (mRet (mOrV (mBin (fIsN false) (mVar 0) (mC .non)) (mCall f6 1 (mCons (mVar 0) mNil))))
theorem b12 (B : Bd K hh mg) (cdv : Value) (A : Around) (outer : List Env) (s : Shared) (H : Hp) (hr : Room 1 (A.deeper (envOfC "is_atom" (defScope (top 27)) s.heap.objs.size (He.fAd K ("is_atom", none)) cdv))) : SSs (gm K) W0 (cxOf CX0 P w K mg base ["thing"] "is_atom" (defScope (top 27)) (He.fAd K ("is_atom", none)) cdv A outer s H E0).nox (defBody (top 27)) m12 := by
  have G : GOk K (gm K) g0 := gok B
  exact (sss_one (ss_ret (se_orV (se_cmp2 o_isN (se_var 0) se_non) (se_one (se_call (r6 B) (hr.mono (by decide)) (He.glo_ok B.X B.G (B.c.fact 8 rfl)) (kp6 B) (sa_cons (se_var 0) sa_nil))))))
theorem kp12 (B : Bd K hh mg) : PySem.W.keepIn K (.ref (He.fAd K ("is_atom", none))) = true := by obtain ⟨fd, F⟩ := B.c.def_ 12 (d := d12) rfl; exact F.kp
def f12 : MF := mDef 1 0 m12
theorem o12 (B : Bd K hh mg) : ∃ fd, FnOk P w K mg base CX0 2 (He.fAd K ("is_atom", none)) fd ["thing"] (SpM (gm K) 1 f12) ∧ FunD K d12.name d12.qual d12.params d12.body d12.scope (d12.dvs K) (d12.kws K) (He.fAd K ("is_atom", none)) fd := by
  obtain ⟨fd, F⟩ := B.c.def_ 12 (d := d12) rfl
  exact ⟨fd, fn_okM (ps := ["thing"]) F sc12 rfl rfl (fun cdv A outer s H hr => b12 B cdv A outer s H hr), F⟩
theorem r12 (B : Bd K hh mg) : FnR P w K mg base CX0 2 (He.fAd K ("is_atom", none)) (SpM (gm K) 1 f12) := by
  obtain ⟨fd, F, D⟩ := o12 (P := P) (w := w) (base := base) B
  exact fnM_all F (FunD.bindsN (ps := ["thing"]) D fun _ _ _ _ _ _ us hl => match us, hl with | [_], _ => rfl)
/-! ### is_put -/
theorem sc11 : FnScope ["thing", "fields"] ["thing", "fields"] (defScope (top 31)) := ⟨rfl, rfl, rfl, by decide +kernel, rfl, by decide +kernel, by decide +kernel⟩
def m11 : MS := (mSeqT (mIfS (mOrT (mTest (mBin (fEq3 g0 true) (mCb (fLen g0) (mCons (mVar 0) mNil)) (mC (.int 3)))) (mOrT (mTest (mBin (fEq3 g0 true) (mBin (fIx g0) (mVar 0) (mC (.int 0))) (mC (.str "put")))) (mNot (mTest (mCall f12 1 (mCons (mBin (fIx g0) (mVar 0) (mC (.int 2))) mNil)))))) (mRet (mC (.bl false))) mNext) (mRet (mAndV (mIsi isStr (mBin (fIx g0) (mVar 0) (mC (.int 1)))) (mBin (fIn2 g0 false) (mBin (fIx g0) (mVar 0) (mC (.int 1))) (mVar 1)))))
theorem b11 (B : Bd K hh mg) (cdv : Value) (A : Around) (outer : List Env) (s : Shared) (H : Hp) (hr : Room 2 (A.deeper (envOfC "is_put" (defScope (top 31)) s.heap.objs.size (He.fAd K ("is_put", none)) cdv))) : SSs (gm K) W0 (cxOf CX0 P w K mg base ["thing", "fields"] "is_put" (defScope (top 31)) (He.fAd K ("is_put", none)) cdv A outer s H E0).nox (defBody (top 31)) m11 := by
  have G : GOk K (gm K) g0 := gok B
  exact (sss_consT (ss_if (SW.st (sw_or (st_cmp2 (o_ne3 G (hu66 hr)) (se_callB (id := "len") (cb_len G) (He.free_ok B.X B.G (B.c.fact 4 rfl)) rfl (sa_cons (se_var 0) sa_nil)) se_int) (sw_or (st_cmp2 (o_ne3 G (hu66 hr)) (se_ix2 (o_ix G (hu1 hr)) (se_var 0) se_int) se_str) (sw_or1 (st_not (st_val (se_call (r12 B) (hr.mono (by decide)) (He.glo_ok B.X B.G (B.c.fact 15 rfl)) (kp12 B) (sa_cons (se_ix2 (o_ix G (hu1 hr)) (se_var 0) se_int) sa_nil)))))))) (sss_one (ss_ret se_bl)) sss_nil) (sss_one (ss_ret (se_and (se_isi (isStr_ok K) (se_ix2 (o_ix G (hu1 hr)) (se_var 0) se_int) (He.free_ok B.X B.G (B.c.fact 6 rfl)) (He.free_ok B.X B.G (B.c.fact 7 rfl)) rfl) (se_one (se_cmp2 (o_in2 G (hu66 hr)) (se_ix2 (o_ix G (hu1 hr)) (se_var 0) se_int) (se_var 1)))))))
theorem kp11 (B : Bd K hh mg) : PySem.W.keepIn K (.ref (He.fAd K ("is_put", none))) = true := by obtain ⟨fd, F⟩ := B.c.def_ 11 (d := d11) rfl; exact F.kp
def f11 : MF := mDef 2 0 m11
theorem o11 (B : Bd K hh mg) : ∃ fd, FnOk P w K mg base CX0 3 (He.fAd K ("is_put", none)) fd ["thing", "fields"] (SpM (gm K) 2 f11) ∧ FunD K d11.name d11.qual d11.params d11.body d11.scope (d11.dvs K) (d11.kws K) (He.fAd K ("is_put", none)) fd := by
  obtain ⟨fd, F⟩ := B.c.def_ 11 (d := d11) rfl
  exact ⟨fd, fn_okM (ps := ["thing", "fields"]) F sc11 rfl rfl (fun cdv A outer s H hr => b11 B cdv A outer s H hr), F⟩
theorem r11 (B : Bd K hh mg) : FnR P w K mg base CX0 3 (He.fAd K ("is_put", none)) (SpM (gm K) 2 f11) := by
  obtain ⟨fd, F, D⟩ := o11 (P := P) (w := w) (base := base) B
  exact fnM_all F (FunD.bindsN (ps := ["thing", "fields"]) D fun _ _ _ _ _ _ us hl => match us, hl with | [_, _], _ => rfl)
/-! ### is_field_step -/
theorem sc13 : FnScope ["thing", "words", "fields"] ["thing", "words", "fields"] (defScope (top 30)) := ⟨rfl, rfl, rfl, by decide +kernel, rfl, by decide +kernel, by decide +kernel⟩
def m13 : MS := (mRet (mAndV (mBin (fEq3 g0 false) (mCb (fLen g0) (mCons (mVar 0) mNil)) (mC (.int 2))) (mAndV (mBin (fIn2 g0 false) (mBin (fIx g0) (mVar 0) (mC (.int 0))) (mVar 1)) (mAndV (mIsi isStr (mBin (fIx g0) (mVar 0) (mC (.int 1)))) (mBin (fIn2 g0 false) (mBin (fIx g0) (mVar 0) (mC (.int 1))) (mVar 2))))))
theorem b13 (B : Bd K hh mg) (cdv : Value) (A : Around) (outer : List Env) (s : Shared) (H : Hp) (hr : Room 0 (A.deeper (envOfC "is_field_step" (defScope (top 30)) s.heap.objs.size (He.fAd K ("is_field_step", none)) cdv))) : SSs (gm K) W0 (cxOf CX0 P w K mg base ["thing", "words", "fields"] "is_field_step" (defScope (top 30)) (He.fAd K ("is_field_step", none)) cdv A outer s H E0).nox (defBody (top 30)) m13 := by
  have G : GOk K (gm K) g0 := gok B
  exact (sss_one (ss_ret (se_and (se_cmp2 (o_eq3 G (hu66 hr)) (se_callB (id := "len") (cb_len G) (He.free_ok B.X B.G (B.c.fact 4 rfl)) rfl (sa_cons (se_var 0) sa_nil)) se_int) (se_and (se_cmp2 (o_in2 G (hu66 hr)) (se_ix2 (o_ix G (hu1 hr)) (se_var 0) se_int) (se_var 1)) (se_and (se_isi (isStr_ok K) (se_ix2 (o_ix G (hu1 hr)) (se_var 0) se_int) (He.free_ok B.X B.G (B.c.fact 6 rfl)) (He.free_ok B.X B.G (B.c.fact 7 rfl)) rfl) (se_one (se_cmp2 (o_in2 G (hu66 hr)) (se_ix2 (o_ix G (hu1 hr)) (se_var 0) se_int) (se_var 2))))))))
theorem kp13 (B : Bd K hh mg) : PySem.W.keepIn K (.ref (He.fAd K ("is_field_step", none))) = true := by obtain ⟨fd, F⟩ := B.c.def_ 13 (d := d13) rfl; exact F.kp
def f13 : MF := mDef 3 0 m13
theorem o13 (B : Bd K hh mg) : ∃ fd, FnOk P w K mg base CX0 1 (He.fAd K ("is_field_step", none)) fd ["thing", "words", "fields"] (SpM (gm K) 3 f13) ∧ FunD K d13.name d13.qual d13.params d13.body d13.scope (d13.dvs K) (d13.kws K) (He.fAd K ("is_field_step", none)) fd := by
  obtain ⟨fd, F⟩ := B.c.def_ 13 (d := d13) rfl
  exact ⟨fd, fn_okM (ps := ["thing", "words", "fields"]) F sc13 rfl rfl (fun cdv A outer s H hr => b13 B cdv A outer s H hr), F⟩
theorem r13 (B : Bd K hh mg) : FnR P w K mg base CX0 1 (He.fAd K ("is_field_step", none)) (SpM (gm K) 3 f13) := by
  obtain ⟨fd, F, D⟩ := o13 (P := P) (w := w) (base := base) B
  exact fnM_all F (FunD.bindsN (ps := ["thing", "words", "fields"]) D fun _ _ _ _ _ _ us hl => match us, hl with | [_, _, _], _ => rfl)
/-! ### is_builder_step -/
theorem sc9 : FnScope ["thing", "fields"] ["thing", "fields"] (defScope (top 32)) := ⟨rfl, rfl, rfl, by decide +kernel, rfl, by decide +kernel, by decide +kernel⟩
def m9 : MS := (mSeqT (mIfS (mOrT (mTest (mBin (fEq3 g0 false) (mVar 0) (mTup (mCons (mC (.str "enter")) mNil)))) (mTest (mCall f10 1 (mCons (mVar 0) mNil)))) (mRet (mC (.bl true))) mNext) (mRet (mOrV (mCall f13 3 (mCons (mVar 0) (mCons (mTup (mCons (mC (.str "deep")) (mCons (mC (.str "same")) mNil))) (mCons (mVar 1) mNil)))) (mCall f11 2 (mCons (mVar 0) (mCons (mVar 1) mNil))))))
theorem b9 (B : Bd K hh mg) (cdv : Value) (A : Around) (outer : List Env) (s : Shared) (H : Hp) (hr : Room 3 (A.deeper (envOfC "is_builder_step" (defScope (top 32)) s.heap.objs.size (He.fAd K ("is_builder_step", none)) cdv))) : SSs (gm K) W0 (cxOf CX0 P w K mg base ["thing", "fields"] "is_builder_step" (defScope (top 32)) (He.fAd K ("is_builder_step", none)) cdv A outer s H E0).nox (defBody (top 32)) m9 := by
  have G : GOk K (gm K) g0 := gok B
  exact (sss_consT (ss_if (SW.st (sw_or (st_cmp2 (o_eq3 G (hu66 hr)) (se_var 0) (se_tup (sa_cons se_str sa_nil))) (sw_or1 (st_val (se_call (r10 B) (hr.mono (by decide)) (He.glo_ok B.X B.G (B.c.fact 14 rfl)) (kp10 B) (sa_cons (se_var 0) sa_nil)))))) (sss_one (ss_ret se_bl)) sss_nil) (sss_one (ss_ret (se_orV (se_call (r13 B) (hr.mono (by decide)) (He.glo_ok B.X B.G (B.c.fact 17 rfl)) (kp13 B) (sa_cons (se_var 0) (sa_cons (se_tup (sa_cons se_str (sa_cons se_str sa_nil))) (sa_cons (se_var 1) sa_nil)))) (se_one (se_call (r11 B) (hr.mono (by decide)) (He.glo_ok B.X B.G (B.c.fact 16 rfl)) (kp11 B) (sa_cons (se_var 0) (sa_cons (se_var 1) sa_nil))))))))
theorem kp9 (B : Bd K hh mg) : PySem.W.keepIn K (.ref (He.fAd K ("is_builder_step", none))) = true := by obtain ⟨fd, F⟩ := B.c.def_ 9 (d := d9) rfl; exact F.kp
def f9 : MF := mDef 2 0 m9
theorem o9 (B : Bd K hh mg) : ∃ fd, FnOk P w K mg base CX0 4 (He.fAd K ("is_builder_step", none)) fd ["thing", "fields"] (SpM (gm K) 2 f9) ∧ FunD K d9.name d9.qual d9.params d9.body d9.scope (d9.dvs K) (d9.kws K) (He.fAd K ("is_builder_step", none)) fd := by
  obtain ⟨fd, F⟩ := B.c.def_ 9 (d := d9) rfl
  exact ⟨fd, fn_okM (ps := ["thing", "fields"]) F sc9 rfl rfl (fun cdv A outer s H hr => b9 B cdv A outer s H hr), F⟩
theorem r9 (B : Bd K hh mg) : FnR P w K mg base CX0 4 (He.fAd K ("is_builder_step", none)) (SpM (gm K) 2 f9) := by
  obtain ⟨fd, F, D⟩ := o9 (P := P) (w := w) (base := base) B
  exact fnM_all F (FunD.bindsN (ps := ["thing", "fields"]) D fun _ _ _ _ _ _ us hl => match us, hl with | [_, _], _ => rfl)
/-! ### form_of -/
theorem sc7 : FnScope ["hook", "fields", "one", "last", "first"] ["hook", "fields"] (defScope (top 34)) := ⟨rfl, rfl, rfl, by decide +kernel, rfl, by decide +kernel, by decide +kernel⟩
def m7 : MS := (mSeqT (mIfS (mNot (mTest (mCall f8 1 (mCons (mVar 0) mNil)))) (mRet (mC .non)) mNext) (mSeqT (mIfS (mTest (mCb (MV.f1 (fBls g0 allT)) (mCons (mLc g0 300 [2] (miAny g0 (mVar 0)) (mgName 2) mYes (mCall f9 2 (mCons (mVar 2) (mCons (mVar 1) mNil)))) mNil))) (mRet (mIf (mTest (mBin fLe (mCb (fLen g0) (mCons (mLc g0 300 [2] (miAny g0 (mVar 0)) (mgName 2) (mTest (mBin (fEq3 g0 false) (mVar 2) (mTup (mCons (mC (.str "enter")) mNil)))) (mVar 2)) mNil)) (mC (.int 1)))) (mC (.str "builder")) (mC .non))) mNext) (mSeqT (mAsg (mVar 0) (mgStar g0 2 0 (mgCons (mgName 4) (mgCons (mgName 3) mgNil)))) (mSeqT (mIfS (mNot (mTest (mCb (MV.f1 (fBls g0 allT)) (mCons (mLc g0 300 [2] (miAny g0 (mVar 4)) (mgName 2) mYes (mCall f10 1 (mCons (mVar 2) mNil))) mNil)))) (mRet (mC .non)) mNext) (mSeqT (mIfS (mTest (mCall f13 3 (mCons (mVar 3) (mCons (mTup (mCons (mC (.str "give")) mNil)) (mCons (mVar 1) mNil))))) (mRet (mC (.str "giver"))) mNext) (mRet (mIf (mTest (mBin (fEq3 g0 false) (mVar 3) (mTup (mCons (mC (.str "keep")) mNil)))) (mC (.str "keeper")) (mC .non))))))))
theorem b7 (B : Bd K hh mg) (cdv : Value) (A : Around) (outer : List Env) (s : Shared) (H : Hp) (hr : Room 4 (A.deeper (envOfC "form_of" (defScope (top 34)) s.heap.objs.size (He.fAd K ("form_of_shapes", none)) cdv))) : SSs (gm K) W0 (cxOf CX0 P w K mg base ["hook", "fields", "one", "last", "first"] "form_of" (defScope (top 34)) (He.fAd K ("form_of_shapes", none)) cdv A outer s H E0).nox (defBody (top 34)) m7 := by
  have G : GOk K (gm K) g0 := gok B
  exact (sss_consT (ss_if (st_not (st_val (se_call (r8 B) (hr.mono (by decide)) (He.glo_ok B.X B.G (B.c.fact 13 rfl)) (kp8 B) (sa_cons (se_var 0) sa_nil)))) (sss_one (ss_ret se_non)) sss_nil) (sss_consT (ss_if (st_val (se_callB (id := "all") (cb_all G rfl) (He.free_ok B.X B.G (B.c.fact 3 rfl)) rfl (sa_cons (se_lc (own := [("one", 2)]) 300 rfl sc7.nd (si_any G (se_var 0)) (show BlkOk ["hook", "fields", "one", "last", "first"] (defScope (top 34)) _ [("one", 2)] from ⟨rfl, by decide +kernel, by decide +kernel, by decide +kernel, by decide +kernel⟩) (fun _ _ _ _ _ => (sg_name sc7.nd)) (fun _ _ _ _ _ => pts_nilM) (fun _ _ _ _ _ => (se_call (r9 B) (hr.mono (by decide)) (He.glo_ok B.X B.G (B.c.fact 18 rfl)) (kp9 B) (sa_cons (se_var 2) (sa_cons (se_var 1) sa_nil))))) sa_nil))) (sss_one (ss_ret (se_if (st_cmp2 o_le (se_callB (id := "len") (cb_len G) (He.free_ok B.X B.G (B.c.fact 4 rfl)) rfl (sa_cons (se_lc (own := [("one", 2)]) 300 rfl sc7.nd (si_any G (se_var 0)) (show BlkOk ["hook", "fields", "one", "last", "first"] (defScope (top 34)) _ [("one", 2)] from ⟨rfl, by decide +kernel, by decide +kernel, by decide +kernel, by decide +kernel⟩) (fun _ _ _ _ _ => (sg_name sc7.nd)) (fun _ _ _ _ _ => ST.pts1 (st_cmp2 (o_eq3 G (hu66 hr)) (se_var 2) (se_tup (sa_cons se_str sa_nil)))) (fun _ _ _ _ _ => (se_var 2))) sa_nil)) se_int) (se_gstr (He.str_ok B.X B.G (B.c.fact 19 rfl))) se_non))) sss_nil) (sss_consT (ss_asg (se_var 0) (sg_star (n := 2) (i := 0) G rfl (sgs_star (sg_name sc7.nd) (sgs_cons (sg_name sc7.nd) sgs_nil)))) (sss_consT (ss_if (st_not (st_val (se_callB (id := "all") (cb_all G rfl) (He.free_ok B.X B.G (B.c.fact 3 rfl)) rfl (sa_cons (se_lc (own := [("one", 2)]) 300 rfl sc7.nd (si_any G (se_var 4)) (show BlkOk ["hook", "fields", "one", "last", "first"] (defScope (top 34)) _ [("one", 2)] from ⟨rfl, by decide +kernel, by decide +kernel, by decide +kernel, by decide +kernel⟩) (fun _ _ _ _ _ => (sg_name sc7.nd)) (fun _ _ _ _ _ => pts_nilM) (fun _ _ _ _ _ => (se_call (r10 B) (hr.mono (by decide)) (He.glo_ok B.X B.G (B.c.fact 14 rfl)) (kp10 B) (sa_cons (se_var 2) sa_nil)))) sa_nil)))) (sss_one (ss_ret se_non)) sss_nil) (sss_consT (ss_if (st_val (se_call (r13 B) (hr.mono (by decide)) (He.glo_ok B.X B.G (B.c.fact 17 rfl)) (kp13 B) (sa_cons (se_var 3) (sa_cons (se_tup (sa_cons se_str sa_nil)) (sa_cons (se_var 1) sa_nil))))) (sss_one (ss_ret (se_gstr (He.str_ok B.X B.G (B.c.fact 20 rfl))))) sss_nil) (sss_one (ss_ret (se_if (st_cmp2 (o_eq3 G (hu66 hr)) (se_var 3) (se_tup (sa_cons se_str sa_nil))) (se_gstr (He.str_ok B.X B.G (B.c.fact 21 rfl))) se_non))))))))
theorem kp7 (B : Bd K hh mg) : PySem.W.keepIn K (.ref (He.fAd K ("form_of_shapes", none))) = true := by obtain ⟨fd, F⟩ := B.c.def_ 7 (d := d7) rfl; exact F.kp
def f7 : MF := mDef 2 3 m7
theorem o7 (B : Bd K hh mg) : ∃ fd, FnOk P w K mg base CX0 5 (He.fAd K ("form_of_shapes", none)) fd ["hook", "fields"] (SpM (gm K) 2 f7) ∧ FunD K d7.name d7.qual d7.params d7.body d7.scope (d7.dvs K) (d7.kws K) (He.fAd K ("form_of_shapes", none)) fd := by
  obtain ⟨fd, F⟩ := B.c.def_ 7 (d := d7) rfl
  exact ⟨fd, fn_okM (ps := ["hook", "fields"]) F sc7 rfl rfl (fun cdv A outer s H hr => b7 B cdv A outer s H hr), F⟩
theorem r7 (B : Bd K hh mg) : FnR P w K mg base CX0 5 (He.fAd K ("form_of_shapes", none)) (SpM (gm K) 2 f7) := by
  obtain ⟨fd, F, D⟩ := o7 (P := P) (w := w) (base := base) B
  exact fnM_all F (FunD.bindsN (ps := ["hook", "fields"]) D fun _ _ _ _ _ _ us hl => match us, hl with | [_, _], _ => rfl)
/-! ### is_shallow -/
theorem sc14 : FnScope ["hook", "fields", "form", "one"] ["hook", "fields"] (defScope (top 36)) := ⟨rfl, rfl, rfl, by decide +kernel, rfl, by decide +kernel, by decide +kernel⟩
def m14 : MS := (mSeqT (mAsg (mCall f7 2 (mCons (mVar 0) (mCons (mVar 1) mNil))) (mgName 2)) (mRet (mOrV (mBin (fEq3 g0 false) (mVar 2) (mC (.str "keeper"))) (mAndV (mBin (fEq3 g0 false) (mVar 2) (mC (.str "builder"))) (mCb (MV.f1 (fBls g0 allT)) (mCons (mLc g0 300 [3] (miAny g0 (mVar 0)) (mgName 3) mYes (mBin (fIn2 g0 true) (mBin (fIx g0) (mVar 3) (mC (.int 0))) (mTup (mCons (mC (.str "enter")) (mCons (mC (.str "deep")) mNil))))) mNil))))))
theorem b14 (B : Bd K hh mg) (cdv : Value) (A : Around) (outer : List Env) (s : Shared) (H : Hp) (hr : Room 5 (A.deeper (envOfC "is_shallow" (defScope (top 36)) s.heap.objs.size (He.fAd K ("is_shallow", none)) cdv))) : SSs (gm K) W0 (cxOf CX0 P w K mg base ["hook", "fields", "form", "one"] "is_shallow" (defScope (top 36)) (He.fAd K ("is_shallow", none)) cdv A outer s H E0).nox (defBody (top 36)) m14 := by
  have G : GOk K (gm K) g0 := gok B
  exact (sss_consT (ss_set sc14.nd (se_call (r7 B) (hr.mono (by decide)) (He.glo_ok B.X B.G (B.c.fact 22 rfl)) (kp7 B) (sa_cons (se_var 0) (sa_cons (se_var 1) sa_nil)))) (sss_one (ss_ret (se_orV (se_cmp2 (o_eq3 G (hu66 hr)) (se_var 2) (se_gstr (He.str_ok B.X B.G (B.c.fact 21 rfl)))) (se_one (se_and (se_cmp2 (o_eq3 G (hu66 hr)) (se_var 2) (se_gstr (He.str_ok B.X B.G (B.c.fact 19 rfl)))) (se_one (se_callB (id := "all") (cb_all G rfl) (He.free_ok B.X B.G (B.c.fact 3 rfl)) rfl (sa_cons (se_lc (own := [("one", 3)]) 300 rfl sc14.nd (si_any G (se_var 0)) (show BlkOk ["hook", "fields", "form", "one"] (defScope (top 36)) _ [("one", 3)] from ⟨rfl, by decide +kernel, by decide +kernel, by decide +kernel, by decide +kernel⟩) (fun _ _ _ _ _ => (sg_name sc14.nd)) (fun _ _ _ _ _ => pts_nilM) (fun _ _ _ _ _ => (se_cmp2 (o_nin2 G (hu66 hr)) (se_ix2 (o_ix G (hu1 hr)) (se_var 3) se_int) (se_tup (sa_cons se_str (sa_cons se_str sa_nil)))))) sa_nil)))))))))
theorem kp14 (B : Bd K hh mg) : PySem.W.keepIn K (.ref (He.fAd K ("is_shallow", none))) = true := by obtain ⟨fd, F⟩ := B.c.def_ 14 (d := d14) rfl; exact F.kp
def f14 : MF := mDef 2 2 m14
theorem o14 (B : Bd K hh mg) : ∃ fd, FnOk P w K mg base CX0 6 (He.fAd K ("is_shallow", none)) fd ["hook", "fields"] (SpM (gm K) 2 f14) ∧ FunD K d14.name d14.qual d14.params d14.body d14.scope (d14.dvs K) (d14.kws K) (He.fAd K ("is_shallow", none)) fd := by
  obtain ⟨fd, F⟩ := B.c.def_ 14 (d := d14) rfl
  exact ⟨fd, fn_okM (ps := ["hook", "fields"]) F sc14 rfl rfl (fun cdv A outer s H hr => b14 B cdv A outer s H hr), F⟩
theorem r14 (B : Bd K hh mg) : FnR P w K mg base CX0 6 (He.fAd K ("is_shallow", none)) (SpM (gm K) 2 f14) := by
  obtain ⟨fd, F, D⟩ := o14 (P := P) (w := w) (base := base) B
  exact fnM_all F (FunD.bindsN (ps := ["hook", "fields"]) D fun _ _ _ _ _ _ us hl => match us, hl with | [_, _], _ => rfl)
/-! ### Shape.__init__ -/
theorem sc4 : FnScope ["self", "name", "fields", "deep", "shallow"] ["self", "name", "fields", "deep", "shallow"] (defScope (inClass (top 38) 0)) := ⟨rfl, rfl, rfl, by decide +kernel, rfl, by decide +kernel, by decide +kernel⟩
def m4 : MS := (mSeqT (mIfS (mOrT (mNot (mTest (mCall f6 1 (mCons (mVar 1) mNil)))) (mNot (mTest (mCall f5 1 (mCons (mVar 2) mNil))))) mDeadS mNext) (mSeqT (mIfS (mAnd (mTest (mBin (fIsN true) (mVar 3) (mC .non))) (mTest (mBin (fIsN false) (mCall f7 2 (mCons (mVar 3) (mCons (mVar 2) mNil))) (mC .non)))) mDeadS mNext) (mSeqT (mIfS (mAnd (mTest (mBin (fIsN true) (mVar 4) (mC .non))) (mNot (mTest (mCall f14 2 (mCons (mVar 4) (mCons (mVar 2) mNil)))))) mDeadS mNext) (mSeqT (mSetF g0 "label" (mVar 0) (mVar 1)) (mSeqT (mSetF g0 "field_names" (mVar 0) (mVar 2)) (mSeqT (mSetF g0 "deep_steps" (mVar 0) (mVar 3)) (mSetF g0 "shallow_steps" (mVar 0) (mVar 4))))))))
theorem b4 (B : Bd K hh mg) (cdv : Value) (A : Around) (outer : List Env) (s : Shared) (H : Hp) (hr : Room 6 (A.deeper (envOfC "Shape.__init__" (defScope (inClass (top 38) 0)) s.heap.objs.size (He.fAd K ("Shape", some "__init__")) cdv))) : SSs (gm K) W0 (cxOf CX0 P w K mg base ["self", "name", "fields", "deep", "shallow"] "Shape.__init__" (defScope (inClass (top 38) 0)) (He.fAd K ("Shape", some "__init__")) cdv A outer s H E0).nox (defBody (inClass (top 38) 0)) m4 := by
  have G : GOk K (gm K) g0 := gok B
  exact (sss_consT (ss_if (SW.st (sw_or (st_not (st_val (se_call (r6 B) (hr.mono (by decide)) (He.glo_ok B.X B.G (B.c.fact 8 rfl)) (kp6 B) (sa_cons (se_var 1) sa_nil)))) (sw_or1 (st_not (st_val (se_call (r5 B) (hr.mono (by decide)) (He.glo_ok B.X B.G (B.c.fact 11 rfl)) (kp5 B) (sa_cons (se_var 2) sa_nil))))))) (sss_one s_dead) sss_nil) (sss_consT (ss_if (SW.st (sw_and (st_cmp2 o_notN (se_var 3) se_non) (sw_and1 (st_cmp2 o_isN (se_call (r7 B) (hr.mono (by decide)) (He.glo_ok B.X B.G (B.c.fact 22 rfl)) (kp7 B) (sa_cons (se_var 3) (sa_cons (se_var 2) sa_nil))) se_non)))) (sss_one s_dead) sss_nil) (sss_consT (ss_if (SW.st (sw_and (st_cmp2 o_notN (se_var 4) se_non) (sw_and1 (st_not (st_val (se_call (r14 B) (hr.mono (by decide)) (He.glo_ok B.X B.G (B.c.fact 23 rfl)) (kp14 B) (sa_cons (se_var 4) (sa_cons (se_var 2) sa_nil)))))))) (sss_one s_dead) sss_nil) (sss_consT (ss_setF G (se_var 0) (se_var 1)) (sss_consT (ss_setF G (se_var 0) (se_var 2)) (sss_consT (ss_setF G (se_var 0) (se_var 3)) (sss_one (ss_setF G (se_var 0) (se_var 4)))))))))
theorem kp4 (B : Bd K hh mg) : PySem.W.keepIn K (.ref (He.fAd K ("Shape", some "__init__"))) = true := by obtain ⟨fd, F⟩ := B.c.def_ 4 (d := d4) rfl; exact F.kp
def f4 : MF := mDef 5 0 m4
theorem o4 (B : Bd K hh mg) : ∃ fd, FnOk P w K mg base CX0 7 (He.fAd K ("Shape", some "__init__")) fd ["self", "name", "fields", "deep", "shallow"] (SpM (gm K) 5 f4) ∧ FunD K d4.name d4.qual d4.params d4.body d4.scope (d4.dvs K) (d4.kws K) (He.fAd K ("Shape", some "__init__")) fd := by
  obtain ⟨fd, F⟩ := B.c.def_ 4 (d := d4) rfl
  exact ⟨fd, fn_okM (ps := ["self", "name", "fields", "deep", "shallow"]) F sc4 rfl rfl (fun cdv A outer s H hr => b4 B cdv A outer s H hr), F⟩
def fk4_3_deep : MFK := fun us ws st => f4 ((fun (us mv ws : List U) => us ++ (nth1 0 ws ++ nth1 0 mv)) us [.non] ws) st
theorem rk4_3_deep (B : Bd K hh mg) : FnMK P w K mg base (gm K) 7 (He.fAd K ("Shape", some "__init__")) 3 ["deep"] fk4_3_deep := by
  obtain ⟨fd, F, D⟩ := o4 (P := P) (w := w) (base := base) B
  obtain ⟨mv, hb⟩ := FunD.kbinds0 (ps := ["self", "name", "fields", "deep", "shallow"]) D 3 ["deep"] [("shallow", V.non)] (fun us mv ws => us ++ (nth1 0 ws ++ nth1 0 mv)) (by exact List.cons_ne_nil _ _) (mem_cons (List.mem_cons_of_mem _ List.mem_cons_self) mem_nil) (fun a b c => papp a (papp (nth1_rel 0 c) (nth1_rel 0 b))) fun _ _ _ _ _ _ us mv ws hl hm hw => match us, mv, ws, hl, hm, hw with | [_, _, _], [_], [_], _, _, _ => ⟨_, _, _, _, _, _, rfl, rfl, rfl⟩
  exact fnMK_of (gU := fun us ws => (fun (us mv ws : List U) => us ++ (nth1 0 ws ++ nth1 0 mv)) us [.non] ws) F hb (fun a c => (fun b => papp a (papp (nth1_rel 0 c) (nth1_rel 0 b))) (show RL _ _ [.non] [V.non] from (.cons rfl .nil))) (fun vs zs hl hz => match vs, zs, hl, hz with | [_, _, _], [_], _, _ => rfl)
/-! ### Shape.fields -/
theorem sc16 : FnScope ["self"] ["self"] (defScope (inClass (top 38) 4)) := ⟨rfl, rfl, rfl, by decide +kernel, rfl, by decide +kernel, by decide +kernel⟩
def m16 : MS := (mRet (mFld g0 "field_names" (mVar 0)))
theorem b16 (B : Bd K hh mg) (cdv : Value) (A : Around) (outer : List Env) (s : Shared) (H : Hp) (hr : Room 0 (A.deeper (envOfC "Shape.fields" (defScope (inClass (top 38) 4)) s.heap.objs.size (gP K "Shape" "fields") cdv))) : SSs (gm K) W0 (cxOf CX0 P w K mg base ["self"] "Shape.fields" (defScope (inClass (top 38) 4)) (gP K "Shape" "fields") cdv A outer s H E0).nox (defBody (inClass (top 38) 4)) m16 := by
  have G : GOk K (gm K) g0 := gok B
  exact (sss_one (ss_ret (se_fld G (se_var 0))))
theorem kp16 (B : Bd K hh mg) : PySem.W.keepIn K (.ref (gP K "Shape" "fields")) = true := by obtain ⟨fd, F⟩ := B.c.def_ 16 (d := d16) rfl; exact F.kp
def f16 : MF := mDef 1 0 m16
theorem o16 (B : Bd K hh mg) : ∃ fd, FnOk P w K mg base CX0 1 (gP K "Shape" "fields") fd ["self"] (SpM (gm K) 1 f16) ∧ FunD K d16.name d16.qual d16.params d16.body d16.scope (d16.dvs K) (d16.kws K) (gP K "Shape" "fields") fd := by
  obtain ⟨fd, F⟩ := B.c.def_ 16 (d := d16) rfl
  exact ⟨fd, fn_okM (ps := ["self"]) F sc16 rfl rfl (fun cdv A outer s H hr => b16 B cdv A outer s H hr), F⟩
theorem r16 (B : Bd K hh mg) : FnR P w K mg base CX0 1 (gP K "Shape" "fields") (SpM (gm K) 1 f16) := by
  obtain ⟨fd, F, D⟩ := o16 (P := P) (w := w) (base := base) B
  exact fnM_all F (FunD.bindsN (ps := ["self"]) D fun _ _ _ _ _ _ us hl => match us, hl with | [_], _ => rfl)
theorem p16 (B : Bd K hh mg) : ∃ fd, FnOk P w K mg base CX0 1 (gP K "Shape" "fields") fd ["self"] (SpM (gm K) 1 f16) ∧ L2.Binds K fd ["self"] [] := by
  obtain ⟨fd, F, D⟩ := o16 (P := P) (w := w) (base := base) B
  exact ⟨fd, F, FunD.bindsN (ps := ["self"]) D fun _ _ _ _ _ _ us hl => match us, hl with | [_], _ => rfl⟩
/-! ### is_integer -/
theorem sc20 : FnScope ["thing"] ["thing"] (defScope (top 25)) := ⟨rfl, rfl, rfl, by decide +kernel, rfl, by decide +kernel, by decide +kernel⟩
def m20 : MS := (mRet (mAndV (mIsi isInt (mVar 0)) (mNotV (mIsi isBool (mVar 0)))))
theorem b20 (B : Bd K hh mg) (cdv : Value) (A : Around) (outer : List Env) (s : Shared) (H : Hp) (hr : Room 0 (A.deeper (envOfC "is_integer" (defScope (top 25)) s.heap.objs.size (He.fAd K ("is_integer", none)) cdv))) : SSs (gm K) W0 (cxOf CX0 P w K mg base ["thing"] "is_integer" (defScope (top 25)) (He.fAd K ("is_integer", none)) cdv A outer s H E0).nox (defBody (top 25)) m20 := by
  have G : GOk K (gm K) g0 := gok B
  exact (sss_one (ss_ret (se_and (se_isi (isInt_ok K) (se_var 0) (He.free_ok B.X B.G (B.c.fact 6 rfl)) (He.free_ok B.X B.G (B.c.fact 28 rfl)) rfl) (se_one (se_not (se_isi (isBool_ok K) (se_var 0) (He.free_ok B.X B.G (B.c.fact 6 rfl)) (He.free_ok B.X B.G (B.c.fact 27 rfl)) rfl))))))
theorem kp20 (B : Bd K hh mg) : PySem.W.keepIn K (.ref (He.fAd K ("is_integer", none))) = true := by obtain ⟨fd, F⟩ := B.c.def_ 20 (d := d20) rfl; exact F.kp
def f20 : MF := mDef 1 0 m20
theorem o20 (B : Bd K hh mg) : ∃ fd, FnOk P w K mg base CX0 1 (He.fAd K ("is_integer", none)) fd ["thing"] (SpM (gm K) 1 f20) ∧ FunD K d20.name d20.qual d20.params d20.body d20.scope (d20.dvs K) (d20.kws K) (He.fAd K ("is_integer", none)) fd := by
  obtain ⟨fd, F⟩ := B.c.def_ 20 (d := d20) rfl
  exact ⟨fd, fn_okM (ps := ["thing"]) F sc20 rfl rfl (fun cdv A outer s H hr => b20 B cdv A outer s H hr), F⟩
theorem r20 (B : Bd K hh mg) : FnR P w K mg base CX0 1 (He.fAd K ("is_integer", none)) (SpM (gm K) 1 f20) := by
  obtain ⟨fd, F, D⟩ := o20 (P := P) (w := w) (base := base) B
  exact fnM_all F (FunD.bindsN (ps := ["thing"]) D fun _ _ _ _ _ _ us hl => match us, hl with | [_], _ => rfl)
/-! ### Heap.is_cell -/
theorem sc19 : FnScope ["self", "thing"] ["self", "thing"] (defScope (inClass (top 80) 4)) := ⟨rfl, rfl, rfl, by decide +kernel, rfl, by decide +kernel, by decide +kernel⟩
def m19 : MS := (mRet (mAndV (mCall f20 1 (mCons (mVar 1) mNil)) (mChain fLe fLt (mC (.int 0)) (mVar 1) (mCb (fLen g0) (mCons (mFld g0 "cells" (mVar 0)) mNil)))))
theorem b19 (B : Bd K hh mg) (cdv : Value) (A : Around) (outer : List Env) (s : Shared) (H : Hp) (hr : Room 1 (A.deeper (envOfC "Heap.is_cell" (defScope (inClass (top 80) 4)) s.heap.objs.size (He.fAd K ("Heap", some "is_cell")) cdv))) : SSs (gm K) W0 (cxOf CX0 P w K mg base ["self", "thing"] "Heap.is_cell" (defScope (inClass (top 80) 4)) (He.fAd K ("Heap", some "is_cell")) cdv A outer s H E0).nox (defBody (inClass (top 80) 4)) m19 := by
  have G : GOk K (gm K) g0 := gok B
  exact (sss_one (ss_ret (se_and (se_call (r20 B) (hr.mono (by decide)) (He.glo_ok B.X B.G (B.c.fact 29 rfl)) (kp20 B) (sa_cons (se_var 1) sa_nil)) (se_one (se_chain2 o_le o_lt se_int (se_var 1) (se_callB (id := "len") (cb_len G) (He.free_ok B.X B.G (B.c.fact 4 rfl)) rfl (sa_cons (se_fld G (se_var 0)) sa_nil)))))))
theorem kp19 (B : Bd K hh mg) : PySem.W.keepIn K (.ref (He.fAd K ("Heap", some "is_cell"))) = true := by obtain ⟨fd, F⟩ := B.c.def_ 19 (d := d19) rfl; exact F.kp
def f19 : MF := mDef 2 0 m19
theorem o19 (B : Bd K hh mg) : ∃ fd, FnOk P w K mg base CX0 2 (He.fAd K ("Heap", some "is_cell")) fd ["self", "thing"] (SpM (gm K) 2 f19) ∧ FunD K d19.name d19.qual d19.params d19.body d19.scope (d19.dvs K) (d19.kws K) (He.fAd K ("Heap", some "is_cell")) fd := by
  obtain ⟨fd, F⟩ := B.c.def_ 19 (d := d19) rfl
  exact ⟨fd, fn_okM (ps := ["self", "thing"]) F sc19 rfl rfl (fun cdv A outer s H hr => b19 B cdv A outer s H hr), F⟩
theorem r19 (B : Bd K hh mg) : FnR P w K mg base CX0 2 (He.fAd K ("Heap", some "is_cell")) (SpM (gm K) 2 f19) := by
  obtain ⟨fd, F, D⟩ := o19 (P := P) (w := w) (base := base) B
  exact fnM_all F (FunD.bindsN (ps := ["self", "thing"]) D fun _ _ _ _ _ _ us hl => match us, hl with | [_, _], _ => rfl)
/-! ### Heap.is_value -/
theorem sc18 : FnScope ["self", "thing"] ["self", "thing"] (defScope (inClass (top 80) 5)) := ⟨rfl, rfl, rfl, by decide +kernel, rfl, by decide +kernel, by decide +kernel⟩
def m18 : MS := (mRet (mOrV (mCall f12 1 (mCons (mVar 1) mNil)) (mMeth 1 "is_cell" f19 2 (mVar 0) (mCons (mVar 1) mNil))))
theorem b18 (B : Bd K hh mg) (cdv : Value) (A : Around) (outer : List Env) (s : Shared) (H : Hp) (hr : Room 2 (A.deeper (envOfC "Heap.is_value" (defScope (inClass (top 80) 5)) s.heap.objs.size (He.fAd K ("Heap", some "is_value")) cdv))) : SSs (gm K) W0 (cxOf CX0 P w K mg base ["self", "thing"] "Heap.is_value" (defScope (inClass (top 80) 5)) (He.fAd K ("Heap", some "is_value")) cdv A outer s H E0).nox (defBody (inClass (top 80) 5)) m18 := by
  have G : GOk K (gm K) g0 := gok B
  exact (sss_one (ss_ret (se_orV (se_call (r12 B) (hr.mono (by decide)) (He.glo_ok B.X B.G (B.c.fact 15 rfl)) (kp12 B) (sa_cons (se_var 1) sa_nil)) (se_one (se_meth (c := 1) (He.cls_ok (B.c.fact 30 rfl)) (He.meth_ok (B.c.fact 31 rfl)) (r19 B) (hr.mono (by decide)) (se_var 0) (sa_cons (se_var 1) sa_nil))))))
theorem kp18 (B : Bd K hh mg) : PySem.W.keepIn K (.ref (He.fAd K ("Heap", some "is_value"))) = true := by obtain ⟨fd, F⟩ := B.c.def_ 18 (d := d18) rfl; exact F.kp
def f18 : MF := mDef 2 0 m18
theorem o18 (B : Bd K hh mg) : ∃ fd, FnOk P w K mg base CX0 3 (He.fAd K ("Heap", some "is_value")) fd ["self", "thing"] (SpM (gm K) 2 f18) ∧ FunD K d18.name d18.qual d18.params d18.body d18.scope (d18.dvs K) (d18.kws K) (He.fAd K ("Heap", some "is_value")) fd := by
  obtain ⟨fd, F⟩ := B.c.def_ 18 (d := d18) rfl
  exact ⟨fd, fn_okM (ps := ["self", "thing"]) F sc18 rfl rfl (fun cdv A outer s H hr => b18 B cdv A outer s H hr), F⟩
theorem r18 (B : Bd K hh mg) : FnR P w K mg base CX0 3 (He.fAd K ("Heap", some "is_value")) (SpM (gm K) 2 f18) := by
  obtain ⟨fd, F, D⟩ := o18 (P := P) (w := w) (base := base) B
  exact fnM_all F (FunD.bindsN (ps := ["self", "thing"]) D fun _ _ _ _ _ _ us hl => match us, hl with | [_, _], _ => rfl)
/-! ### Heap.need_value -/
theorem sc17 : FnScope ["self", "thing"] ["self", "thing"] (defScope (inClass (top 80) 6)) := ⟨rfl, rfl, rfl, by decide +kernel, rfl, by decide +kernel, by decide +kernel⟩
def m17 : MS := (mIfS (mNot (mTest (mMeth 1 "is_value" f18 2 (mVar 0) (mCons (mVar 1) mNil)))) mDeadS mNext)
theorem b17 (B : Bd K hh mg) (cdv : Value) (A : Around) (outer : List Env) (s : Shared) (H : Hp) (hr : Room 3 (A.deeper (envOfC "Heap.need_value" (defScope (inClass (top 80) 6)) s.heap.objs.size (He.fAd K ("Heap", some "need_value")) cdv))) : SSs (gm K) W0 (cxOf CX0 P w K mg base ["self", "thing"] "Heap.need_value" (defScope (inClass (top 80) 6)) (He.fAd K ("Heap", some "need_value")) cdv A outer s H E0).nox (defBody (inClass (top 80) 6)) m17 := by
  have G : GOk K (gm K) g0 := gok B
  exact (sss_one (ss_if (st_not (st_val (se_meth (c := 1) (He.cls_ok (B.c.fact 30 rfl)) (He.meth_ok (B.c.fact 32 rfl)) (r18 B) (hr.mono (by decide)) (se_var 0) (sa_cons (se_var 1) sa_nil)))) (sss_one s_dead) sss_nil))
theorem kp17 (B : Bd K hh mg) : PySem.W.keepIn K (.ref (He.fAd K ("Heap", some "need_value"))) = true := by obtain ⟨fd, F⟩ := B.c.def_ 17 (d := d17) rfl; exact F.kp
def f17 : MF := mDef 2 0 m17
theorem o17 (B : Bd K hh mg) : ∃ fd, FnOk P w K mg base CX0 4 (He.fAd K ("Heap", some "need_value")) fd ["self", "thing"] (SpM (gm K) 2 f17) ∧ FunD K d17.name d17.qual d17.params d17.body d17.scope (d17.dvs K) (d17.kws K) (He.fAd K ("Heap", some "need_value")) fd := by
  obtain ⟨fd, F⟩ := B.c.def_ 17 (d := d17) rfl
  exact ⟨fd, fn_okM (ps := ["self", "thing"]) F sc17 rfl rfl (fun cdv A outer s H hr => b17 B cdv A outer s H hr), F⟩
theorem r17 (B : Bd K hh mg) : FnR P w K mg base CX0 4 (He.fAd K ("Heap", some "need_value")) (SpM (gm K) 2 f17) := by
  obtain ⟨fd, F, D⟩ := o17 (P := P) (w := w) (base := base) B
  exact fnM_all F (FunD.bindsN (ps := ["self", "thing"]) D fun _ _ _ _ _ _ us hl => match us, hl with | [_, _], _ => rfl)
/-! ### without_repetitions -/
theorem sc22 : FnScope ["values", "found", "value"] ["values"] (defScope (top 79)) := ⟨rfl, rfl, rfl, by decide +kernel, rfl, by decide +kernel, by decide +kernel⟩
def m22 : MS := (mSeqT (mAsg (mLst mNil) (mgName 1)) (mSeqT (mFor g0 300 (miAny g0 (mVar 0)) (mgName 2) (mIfS (mTest (mBin (fIn2 g0 true) (mVar 2) (mVar 1))) (mDrop (mMt fAppend (mVar 1) (mCons (mVar 2) mNil))) mNext)) (mRet (mVar 1))))
theorem b22 (B : Bd K hh mg) (cdv : Value) (A : Around) (outer : List Env) (s : Shared) (H : Hp) (hr : Room 0 (A.deeper (envOfC "without_repetitions" (defScope (top 79)) s.heap.objs.size (He.fAd K ("without_repetitions", none)) cdv))) : SSs (gm K) W0 (cxOf CX0 P w K mg base ["values", "found", "value"] "without_repetitions" (defScope (top 79)) (He.fAd K ("without_repetitions", none)) cdv A outer s H E0).nox (defBody (top 79)) m22 := by
  have G : GOk K (gm K) g0 := gok B
  exact (sss_consT (ss_set sc22.nd (se_lst sa_nil)) (sss_consT (ss_for 300 PassesOwn.never rfl (si_any G (se_var 0)) (sg_name sc22.nd) (sss_one (ss_if (st_cmp2 (o_nin2 G (hu66 hr)) (se_var 2) (se_var 1)) (sss_one (ss_expr (se_bm PySem.F.slot_list_append PySem.F.type_list_append mt2_append (se_var 1) (sa_cons (se_var 2) sa_nil)))) sss_nil))) (sss_one (ss_ret (se_var 1)))))
theorem kp22 (B : Bd K hh mg) : PySem.W.keepIn K (.ref (He.fAd K ("without_repetitions", none))) = true := by obtain ⟨fd, F⟩ := B.c.def_ 22 (d := d22) rfl; exact F.kp
def f22 : MF := mDef 1 2 m22
theorem o22 (B : Bd K hh mg) : ∃ fd, FnOk P w K mg base CX0 1 (He.fAd K ("without_repetitions", none)) fd ["values"] (SpM (gm K) 1 f22) ∧ FunD K d22.name d22.qual d22.params d22.body d22.scope (d22.dvs K) (d22.kws K) (He.fAd K ("without_repetitions", none)) fd := by
  obtain ⟨fd, F⟩ := B.c.def_ 22 (d := d22) rfl
  exact ⟨fd, fn_okM (ps := ["values"]) F sc22 rfl rfl (fun cdv A outer s H hr => b22 B cdv A outer s H hr), F⟩
theorem r22 (B : Bd K hh mg) : FnR P w K mg base CX0 1 (He.fAd K ("without_repetitions", none)) (SpM (gm K) 1 f22) := by
  obtain ⟨fd, F, D⟩ := o22 (P := P) (w := w) (base := base) B
  exact fnM_all F (FunD.bindsN (ps := ["values"]) D fun _ _ _ _ _ _ us hl => match us, hl with | [_], _ => rfl)
/-! ### Cell.__init__ -/
theorem sc23 : FnScope ["self", "kind", "shape", "parts"] ["self", "kind", "shape", "parts"] (defScope (inClass (top 77) 0)) := ⟨rfl, rfl, rfl, by decide +kernel, rfl, by decide +kernel, by decide +kernel⟩
def m23 : MS := (mSeqT (mSetF g0 "family" (mVar 0) (mVar 1)) (mSeqT (mSetF g0 "design" (mVar 0) (mVar 2)) (mSetF g0 "held" (mVar 0) (mVar 3))))
theorem b23 (B : Bd K hh mg) (cdv : Value) (A : Around) (outer : List Env) (s : Shared) (H : Hp) (hr : Room 0 (A.deeper (envOfC "Cell.__init__" (defScope (inClass (top 77) 0)) s.heap.objs.size (He.fAd K ("Cell", some "__init__")) cdv))) : SSs (gm K) W0 (cxOf CX0 P w K mg base ["self", "kind", "shape", "parts"] "Cell.__init__" (defScope (inClass (top 77) 0)) (He.fAd K ("Cell", some "__init__")) cdv A outer s H E0).nox (defBody (inClass (top 77) 0)) m23 := by
  have G : GOk K (gm K) g0 := gok B
  exact (sss_consT (ss_setF G (se_var 0) (se_var 1)) (sss_consT (ss_setF G (se_var 0) (se_var 2)) (sss_one (ss_setF G (se_var 0) (se_var 3)))))
theorem kp23 (B : Bd K hh mg) : PySem.W.keepIn K (.ref (He.fAd K ("Cell", some "__init__"))) = true := by obtain ⟨fd, F⟩ := B.c.def_ 23 (d := d23) rfl; exact F.kp
def f23 : MF := mDef 4 0 m23
theorem o23 (B : Bd K hh mg) : ∃ fd, FnOk P w K mg base CX0 1 (He.fAd K ("Cell", some "__init__")) fd ["self", "kind", "shape", "parts"] (SpM (gm K) 4 f23) ∧ FunD K d23.name d23.qual d23.params d23.body d23.scope (d23.dvs K) (d23.kws K) (He.fAd K ("Cell", some "__init__")) fd := by
  obtain ⟨fd, F⟩ := B.c.def_ 23 (d := d23) rfl
  exact ⟨fd, fn_okM (ps := ["self", "kind", "shape", "parts"]) F sc23 rfl rfl (fun cdv A outer s H hr => b23 B cdv A outer s H hr), F⟩
theorem r23 (B : Bd K hh mg) : FnR P w K mg base CX0 1 (He.fAd K ("Cell", some "__init__")) (SpM (gm K) 4 f23) := by
  obtain ⟨fd, F, D⟩ := o23 (P := P) (w := w) (base := base) B
  exact fnM_all F (FunD.bindsN (ps := ["self", "kind", "shape", "parts"]) D fun _ _ _ _ _ _ us hl => match us, hl with | [_, _, _, _], _ => rfl)
/-! ### Heap.new_cell -/
theorem sc21 : FnScope ["self", "kind", "shape", "values", "parts"] ["self", "kind", "shape", "values"] (defScope (inClass (top 80) 8)) := ⟨rfl, rfl, rfl, by decide +kernel, rfl, by decide +kernel, by decide +kernel⟩
def m21 : MS := (mSeqT (mAsg mDict0 (mgName 4)) (mSeqT (mIfS (mTest (mBin (fIn2 g0 false) (mVar 1) (mC (.glo 2)))) (mAsg (mIf (mTest (mBin (fIn2 g0 false) (mVar 1) (mC (.glo 3)))) (mCall f22 1 (mCons (mVar 3) mNil)) (mCb (fList g0) (mCons (mVar 3) mNil))) (mgName 4)) mNext) (mSeqT (mDrop (mMt fAppend (mFld g0 "cells" (mVar 0)) (mCons (mMake 4 f23 4 (mCons (mVar 1) (mCons (mVar 2) (mCons (mVar 4) mNil)))) mNil))) (mRet (mBin fSub (mCb (fLen g0) (mCons (mFld g0 "cells" (mVar 0)) mNil)) (mC (.int 1)))))))
theorem b21 (B : Bd K hh mg) (cdv : Value) (A : Around) (outer : List Env) (s : Shared) (H : Hp) (hr : Room 2 (A.deeper (envOfC "Heap.new_cell" (defScope (inClass (top 80) 8)) s.heap.objs.size (He.fAd K ("Heap", some "new_cell")) cdv))) : SSs (gm K) W0 (cxOf CX0 P w K mg base ["self", "kind", "shape", "values", "parts"] "Heap.new_cell" (defScope (inClass (top 80) 8)) (He.fAd K ("Heap", some "new_cell")) cdv A outer s H E0).nox (defBody (inClass (top 80) 8)) m21 := by
  have G : GOk K (gm K) g0 := gok B
  exact (sss_consT (ss_set sc21.nd se_dict0) (sss_consT (ss_if (st_cmp2 (o_in2 G (hu66 hr)) (se_var 1) (se_glo (k := 2) (He.glo_ok B.X B.G (B.c.fact 34 rfl)))) (sss_one (ss_set sc21.nd (se_if (st_cmp2 (o_in2 G (hu66 hr)) (se_var 1) (se_glo (k := 3) (He.glo_ok B.X B.G (B.c.fact 35 rfl)))) (se_call (r22 B) (hr.mono (by decide)) (He.glo_ok B.X B.G (B.c.fact 36 rfl)) (kp22 B) (sa_cons (se_var 3) sa_nil)) (se_callTy (T := "list") (cb_list G rfl) (He.free_ok B.X B.G (B.c.fact 37 rfl)) rfl (sa_cons (se_var 3) sa_nil))))) sss_nil) (sss_consT (ss_expr (se_bm PySem.F.slot_list_append PySem.F.type_list_append mt2_append (se_fld G (se_var 0)) (sa_cons (se_make (c := 4) (He.mkr_ok (B.c.fact 38 rfl)) (r23 B) (hr.mono (by decide)) (He.glo_ok B.X B.G (B.c.fact 39 rfl)) (sa_cons (se_var 1) (sa_cons (se_var 2) (sa_cons (se_var 4) sa_nil)))) sa_nil))) (sss_one (ss_ret (se_bin2 o_sub (se_callB (id := "len") (cb_len G) (He.free_ok B.X B.G (B.c.fact 4 rfl)) rfl (sa_cons (se_fld G (se_var 0)) sa_nil)) se_int))))))
theorem kp21 (B : Bd K hh mg) : PySem.W.keepIn K (.ref (He.fAd K ("Heap", some "new_cell"))) = true := by obtain ⟨fd, F⟩ := B.c.def_ 21 (d := d21) rfl; exact F.kp
def f21 : MF := mDef 4 1 m21
theorem o21 (B : Bd K hh mg) : ∃ fd, FnOk P w K mg base CX0 3 (He.fAd K ("Heap", some "new_cell")) fd ["self", "kind", "shape", "values"] (SpM (gm K) 4 f21) ∧ FunD K d21.name d21.qual d21.params d21.body d21.scope (d21.dvs K) (d21.kws K) (He.fAd K ("Heap", some "new_cell")) fd := by
  obtain ⟨fd, F⟩ := B.c.def_ 21 (d := d21) rfl
  exact ⟨fd, fn_okM (ps := ["self", "kind", "shape", "values"]) F sc21 rfl rfl (fun cdv A outer s H hr => b21 B cdv A outer s H hr), F⟩
theorem r21 (B : Bd K hh mg) : FnR P w K mg base CX0 3 (He.fAd K ("Heap", some "new_cell")) (SpM (gm K) 4 f21) := by
  obtain ⟨fd, F, D⟩ := o21 (P := P) (w := w) (base := base) B
  obtain ⟨ds, hd, hb⟩ := FunD.binds1 (ps := ["self", "kind", "shape", "values"]) D 4 2 (by exact List.cons_ne_nil _ _) rfl fun _ _ _ _ _ _ _ us its hl hi => match us, its, hl, hi with | [_, _, _, _], [_, _], _, _ => ⟨_, rfl, rfl⟩
  cases hd
  exact fnM_all F hb
def fd21_3 : MF := mfD f21 [.glo 5]
theorem rd21_3 (B : Bd K hh mg) : FnR P w K mg base CX0 3 (He.fAd K ("Heap", some "new_cell")) (SpM (gm K) 3 fd21_3) := by
  obtain ⟨fd, F, D⟩ := o21 (P := P) (w := w) (base := base) B
  obtain ⟨ds, hd, hb⟩ := FunD.binds1 (ps := ["self", "kind", "shape", "values"]) D 3 1 (by exact List.cons_ne_nil _ _) rfl fun _ _ _ _ _ _ _ us its hl hi => match us, its, hl, hi with | [_, _, _], [_, _], _, _ => ⟨_, rfl, rfl⟩
  exact fnM_of F hb hd (.cons rfl .nil) rfl
/-! ### Heap.set_part -/
theorem sc24 : FnScope ["self", "cell", "step", "value"] ["self", "cell", "step", "value"] (defScope (inClass (top 80) 10)) := ⟨rfl, rfl, rfl, by decide +kernel, rfl, by decide +kernel, by decide +kernel⟩
def m24 : MS := (mAsg (mVar 3) (mgSub (mFld g0 "held" (mBin (fIx g0) (mFld g0 "cells" (mVar 0)) (mVar 1))) (mVar 2)))
theorem b24 (B : Bd K hh mg) (cdv : Value) (A : Around) (outer : List Env) (s : Shared) (H : Hp) (hr : Room 0 (A.deeper (envOfC "Heap.set_part" (defScope (inClass (top 80) 10)) s.heap.objs.size (He.fAd K ("Heap", some "set_part")) cdv))) : SSs (gm K) W0 (cxOf CX0 P w K mg base ["self", "cell", "step", "value"] "Heap.set_part" (defScope (inClass (top 80) 10)) (He.fAd K ("Heap", some "set_part")) cdv A outer s H E0).nox (defBody (inClass (top 80) 10)) m24 := by
  have G : GOk K (gm K) g0 := gok B
  exact (sss_one (ss_asg (se_var 3) (sg_sub (W := W0) (hu1 hr) (se_fld G (se_ix2 (o_ix G (hu1 hr)) (se_fld G (se_var 0)) (se_var 1))) (se_var 2))))
theorem kp24 (B : Bd K hh mg) : PySem.W.keepIn K (.ref (He.fAd K ("Heap", some "set_part"))) = true := by obtain ⟨fd, F⟩ := B.c.def_ 24 (d := d24) rfl; exact F.kp
def f24 : MF := mDef 4 0 m24
theorem o24 (B : Bd K hh mg) : ∃ fd, FnOk P w K mg base CX0 1 (He.fAd K ("Heap", some "set_part")) fd ["self", "cell", "step", "value"] (SpM (gm K) 4 f24) ∧ FunD K d24.name d24.qual d24.params d24.body d24.scope (d24.dvs K) (d24.kws K) (He.fAd K ("Heap", some "set_part")) fd := by
  obtain ⟨fd, F⟩ := B.c.def_ 24 (d := d24) rfl
  exact ⟨fd, fn_okM (ps := ["self", "cell", "step", "value"]) F sc24 rfl rfl (fun cdv A outer s H hr => b24 B cdv A outer s H hr), F⟩
theorem r24 (B : Bd K hh mg) : FnR P w K mg base CX0 1 (He.fAd K ("Heap", some "set_part")) (SpM (gm K) 4 f24) := by
  obtain ⟨fd, F, D⟩ := o24 (P := P) (w := w) (base := base) B
  exact fnM_all F (FunD.bindsN (ps := ["self", "cell", "step", "value"]) D fun _ _ _ _ _ _ us hl => match us, hl with | [_, _, _, _], _ => rfl)
/-! ### Heap.make_object -/
theorem sc15 : FnScope ["self", "shape", "fields", "form", "name", "value", "cell"] ["self", "shape", "fields"] (defScope (inClass (top 80) 14)) := ⟨rfl, rfl, rfl, by decide +kernel, rfl, by decide +kernel, by decide +kernel⟩
def m15 : MS := (mSeqT (mIfS (mOrT (mNot (mTest (mIsi isStr (mVar 1)))) (mTest (mBin (fIn2 g0 true) (mVar 1) (mFld g0 "shapes" (mVar 0))))) mDeadS mNext) (mSeqT (mAsg (mBin (fIx g0) (mFld g0 "shapes" (mVar 0)) (mVar 1)) (mgName 3)) (mSeqT (mFor g0 300 (miDict .items (mVar 2)) (mgTup g0 2 (mgCons (mgName 4) (mgCons (mgName 5) mgNil))) (mSeqT (mIfS (mTest (mBin (fIn2 g0 true) (mVar 4) (mProp 0 f16 (mVar 3)))) mDeadS mNext) (mDrop (mMeth 1 "need_value" f17 2 (mVar 0) (mCons (mVar 5) mNil))))) (mSeqT (mAsg (mMeth 1 "new_cell" fd21_3 3 (mVar 0) (mCons (mC (.str "object")) (mCons (mVar 3) mNil))) (mgName 6)) (mSeqT (mFor g0 300 (miDict .items (mVar 2)) (mgTup g0 2 (mgCons (mgName 4) (mgCons (mgName 5) mgNil))) (mDrop (mMeth 1 "set_part" f24 4 (mVar 0) (mCons (mVar 6) (mCons (mVar 4) (mCons (mVar 5) mNil)))))) (mRet (mVar 6)))))))
theorem b15 (B : Bd K hh mg) (cdv : Value) (A : Around) (outer : List Env) (s : Shared) (H : Hp) (hr : Room 4 (A.deeper (envOfC "Heap.make_object" (defScope (inClass (top 80) 14)) s.heap.objs.size (He.fAd K ("Heap", some "make_object")) cdv))) : SSs (gm K) W0 (cxOf CX0 P w K mg base ["self", "shape", "fields", "form", "name", "value", "cell"] "Heap.make_object" (defScope (inClass (top 80) 14)) (He.fAd K ("Heap", some "make_object")) cdv A outer s H E0).nox (defBody (inClass (top 80) 14)) m15 := by
  have G : GOk K (gm K) g0 := gok B
  exact (sss_consT (ss_if (SW.st (sw_or (st_not (st_val (se_isi (isStr_ok K) (se_var 1) (He.free_ok B.X B.G (B.c.fact 6 rfl)) (He.free_ok B.X B.G (B.c.fact 7 rfl)) rfl))) (sw_or1 (st_cmp2 (o_nin2 G (hu66 hr)) (se_var 1) (se_fld G (se_var 0)))))) (sss_one s_dead) sss_nil) (sss_consT (ss_set sc15.nd (se_ix2 (o_ix G (hu1 hr)) (se_fld G (se_var 0)) (se_var 1))) (sss_consT (ss_for 300 PassesOwn.never rfl (si_items (se_var 2)) (sg_tup G rfl (sgs_cons (sg_name sc15.nd) (sgs_cons (sg_name sc15.nd) sgs_nil))) (sss_consT (ss_if (st_cmp2 (o_nin2 G (hu66 hr)) (se_var 4) (se_prop2 (c := 0) (He.cls_ok (B.c.fact 0 rfl)) (prop_Shape_fields B) (p16 B) (hr.mono (by decide)) (se_var 3))) (sss_one s_dead) sss_nil) (sss_one (ss_expr (se_meth (c := 1) (He.cls_ok (B.c.fact 30 rfl)) (He.meth_ok (B.c.fact 33 rfl)) (r17 B) (hr.mono (by decide)) (se_var 0) (sa_cons (se_var 5) sa_nil)))))) (sss_consT (ss_set sc15.nd (se_meth (c := 1) (He.cls_ok (B.c.fact 30 rfl)) (He.meth_ok (B.c.fact 40 rfl)) (rd21_3 B) (hr.mono (by decide)) (se_var 0) (sa_cons se_str (sa_cons (se_var 3) sa_nil)))) (sss_consT (ss_for 300 PassesOwn.never rfl (si_items (se_var 2)) (sg_tup G rfl (sgs_cons (sg_name sc15.nd) (sgs_cons (sg_name sc15.nd) sgs_nil))) (sss_one (ss_expr (se_meth (c := 1) (He.cls_ok (B.c.fact 30 rfl)) (He.meth_ok (B.c.fact 41 rfl)) (r24 B) (hr.mono (by decide)) (se_var 0) (sa_cons (se_var 6) (sa_cons (se_var 4) (sa_cons (se_var 5) sa_nil))))))) (sss_one (ss_ret (se_var 6))))))))
theorem kp15 (B : Bd K hh mg) : PySem.W.keepIn K (.ref (He.fAd K ("Heap", some "make_object"))) = true := by obtain ⟨fd, F⟩ := B.c.def_ 15 (d := d15) rfl; exact F.kp
def fk15_2_f : MFK := fun us ws st => mDef 3 4 m15 (us ++ [.ref st.n]) (st.new (.dct false (kkv ["f"] ws)))
theorem rk15_2_f (B : Bd K hh mg) : FnMK P w K mg base (gm K) 5 (He.fAd K ("Heap", some "make_object")) 2 ["f"] fk15_2_f := by
  obtain ⟨fd, F⟩ := B.c.def_ 15 (d := d15) rfl
  exact fn_kwM (ps := ["self", "shape"]) (pd := "fields") (ks := ["f"]) F sc15 rfl rfl (by decide) (by decide) (fun _ _ _ _ _ _ us ws hl hw => match us, ws, hl, hw with | [_, _], [_], _, _ => rfl) (fun cdv A outer s H hr => b15 B cdv A outer s H hr)
/-! ### Heap.make -/
theorem sc25 : FnScope ["self", "kind", "values", "value"] ["self", "kind", "values"] (defScope (inClass (top 80) 12)) := ⟨rfl, rfl, rfl, by decide +kernel, rfl, by decide +kernel, by decide +kernel⟩
def m25 : MS := (mSeqT (mIfS (mOrT (mNot (mTest (mIsi isStr (mVar 1)))) (mTest (mBin (fIn2 g0 true) (mVar 1) (mC (.glo 2))))) mDeadS mNext) (mSeqT (mFor g0 300 (miAny g0 (mVar 2)) (mgName 3) (mDrop (mMeth 1 "need_value" f17 2 (mVar 0) (mCons (mVar 3) mNil)))) (mRet (mMeth 1 "new_cell" f21 4 (mVar 0) (mCons (mVar 1) (mCons (mC .non) (mCons (mVar 2) mNil)))))))
theorem b25 (B : Bd K hh mg) (cdv : Value) (A : Around) (outer : List Env) (s : Shared) (H : Hp) (hr : Room 4 (A.deeper (envOfC "Heap.make" (defScope (inClass (top 80) 12)) s.heap.objs.size (He.fAd K ("Heap", some "make")) cdv))) : SSs (gm K) W0 (cxOf CX0 P w K mg base ["self", "kind", "values", "value"] "Heap.make" (defScope (inClass (top 80) 12)) (He.fAd K ("Heap", some "make")) cdv A outer s H E0).nox (defBody (inClass (top 80) 12)) m25 := by
  have G : GOk K (gm K) g0 := gok B
  exact (sss_consT (ss_if (SW.st (sw_or (st_not (st_val (se_isi (isStr_ok K) (se_var 1) (He.free_ok B.X B.G (B.c.fact 6 rfl)) (He.free_ok B.X B.G (B.c.fact 7 rfl)) rfl))) (sw_or1 (st_cmp2 (o_nin2 G (hu66 hr)) (se_var 1) (se_glo (k := 2) (He.glo_ok B.X B.G (B.c.fact 34 rfl))))))) (sss_one s_dead) sss_nil) (sss_consT (ss_for 300 PassesOwn.never rfl (si_any G (se_var 2)) (sg_name sc25.nd) (sss_one (ss_expr (se_meth (c := 1) (He.cls_ok (B.c.fact 30 rfl)) (He.meth_ok (B.c.fact 33 rfl)) (r17 B) (hr.mono (by decide)) (se_var 0) (sa_cons (se_var 3) sa_nil))))) (sss_one (ss_ret (se_meth (c := 1) (He.cls_ok (B.c.fact 30 rfl)) (He.meth_ok (B.c.fact 40 rfl)) (r21 B) (hr.mono (by decide)) (se_var 0) (sa_cons (se_var 1) (sa_cons se_non (sa_cons (se_var 2) sa_nil))))))))
theorem kp25 (B : Bd K hh mg) : PySem.W.keepIn K (.ref (He.fAd K ("Heap", some "make"))) = true := by obtain ⟨fd, F⟩ := B.c.def_ 25 (d := d25) rfl; exact F.kp
def f25 : MF := mDef 3 1 m25
theorem o25 (B : Bd K hh mg) : ∃ fd, FnOk P w K mg base CX0 5 (He.fAd K ("Heap", some "make")) fd ["self", "kind", "values"] (SpM (gm K) 3 f25) ∧ FunD K d25.name d25.qual d25.params d25.body d25.scope (d25.dvs K) (d25.kws K) (He.fAd K ("Heap", some "make")) fd := by
  obtain ⟨fd, F⟩ := B.c.def_ 25 (d := d25) rfl
  exact ⟨fd, fn_okM (ps := ["self", "kind", "values"]) F sc25 rfl rfl (fun cdv A outer s H hr => b25 B cdv A outer s H hr), F⟩
theorem r25 (B : Bd K hh mg) : FnR P w K mg base CX0 5 (He.fAd K ("Heap", some "make")) (SpM (gm K) 3 f25) := by
  obtain ⟨fd, F, D⟩ := o25 (P := P) (w := w) (base := base) B
  exact fnM_all F (FunD.bindsN (ps := ["self", "kind", "values"]) D fun _ _ _ _ _ _ us hl => match us, hl with | [_, _, _], _ => rfl)
/-! ### Entries.__init__ -/
theorem sc29 : FnScope ["self"] ["self"] (defScope (inClass (top 78) 0)) := ⟨rfl, rfl, rfl, by decide +kernel, rfl, by decide +kernel, by decide +kernel⟩
def m29 : MS := (mSeqT (mSetF g0 "entered" (mVar 0) mDict0) (mSeqT (mSetF g0 "open_copies" (mVar 0) (mLst mNil)) (mSetF g0 "is_busy" (mVar 0) (mC (.bl false)))))
theorem b29 (B : Bd K hh mg) (cdv : Value) (A : Around) (outer : List Env) (s : Shared) (H : Hp) (hr : Room 0 (A.deeper (envOfC "Entries.__init__" (defScope (inClass (top 78) 0)) s.heap.objs.size (He.fAd K ("Entries", some "__init__")) cdv))) : SSs (gm K) W0 (cxOf CX0 P w K mg base ["self"] "Entries.__init__" (defScope (inClass (top 78) 0)) (He.fAd K ("Entries", some "__init__")) cdv A outer s H E0).nox (defBody (inClass (top 78) 0)) m29 := by
  have G : GOk K (gm K) g0 := gok B
  exact (sss_consT (ss_setF G (se_var 0) se_dict0) (sss_consT (ss_setF G (se_var 0) (se_lst sa_nil)) (sss_one (ss_setF G (se_var 0) se_bl))))
theorem kp29 (B : Bd K hh mg) : PySem.W.keepIn K (.ref (He.fAd K ("Entries", some "__init__"))) = true := by obtain ⟨fd, F⟩ := B.c.def_ 29 (d := d29) rfl; exact F.kp
def f29 : MF := mDef 1 0 m29
theorem o29 (B : Bd K hh mg) : ∃ fd, FnOk P w K mg base CX0 1 (He.fAd K ("Entries", some "__init__")) fd ["self"] (SpM (gm K) 1 f29) ∧ FunD K d29.name d29.qual d29.params d29.body d29.scope (d29.dvs K) (d29.kws K) (He.fAd K ("Entries", some "__init__")) fd := by
  obtain ⟨fd, F⟩ := B.c.def_ 29 (d := d29) rfl
  exact ⟨fd, fn_okM (ps := ["self"]) F sc29 rfl rfl (fun cdv A outer s H hr => b29 B cdv A outer s H hr), F⟩
theorem r29 (B : Bd K hh mg) : FnR P w K mg base CX0 1 (He.fAd K ("Entries", some "__init__")) (SpM (gm K) 1 f29) := by
  obtain ⟨fd, F, D⟩ := o29 (P := P) (w := w) (base := base) B
  exact fnM_all F (FunD.bindsN (ps := ["self"]) D fun _ _ _ _ _ _ us hl => match us, hl with | [_], _ => rfl)
/-! ### Heap.new_entries -/
theorem sc28 : FnScope ["self"] ["self"] (defScope (inClass (top 80) 3)) := ⟨rfl, rfl, rfl, by decide +kernel, rfl, by decide +kernel, by decide +kernel⟩
def m28 : MS := (mSeqT (mDrop (mMt fAppend (mFld g0 "memos" (mVar 0)) (mCons (mMake 6 f29 1 mNil) mNil))) (mRet (mBin fSub (mCb (fLen g0) (mCons (mFld g0 "memos" (mVar 0)) mNil)) (mC (.int 1)))))
theorem b28 (B : Bd K hh mg) (cdv : Value) (A : Around) (outer : List Env) (s : Shared) (H : Hp) (hr : Room 2 (A.deeper (envOfC "Heap.new_entries" (defScope (inClass (top 80) 3)) s.heap.objs.size (He.fAd K ("Heap", some "new_entries")) cdv))) : SSs (gm K) W0 (cxOf CX0 P w K mg base ["self"] "Heap.new_entries" (defScope (inClass (top 80) 3)) (He.fAd K ("Heap", some "new_entries")) cdv A outer s H E0).nox (defBody (inClass (top 80) 3)) m28 := by
  have G : GOk K (gm K) g0 := gok B
  exact (sss_consT (ss_expr (se_bm PySem.F.slot_list_append PySem.F.type_list_append mt2_append (se_fld G (se_var 0)) (sa_cons (se_make0 (c := 6) (He.mkr_ok (B.c.fact 44 rfl)) (r29 B) (hr.mono (by decide)) (He.glo_ok B.X B.G (B.c.fact 45 rfl))) sa_nil))) (sss_one (ss_ret (se_bin2 o_sub (se_callB (id := "len") (cb_len G) (He.free_ok B.X B.G (B.c.fact 4 rfl)) rfl (sa_cons (se_fld G (se_var 0)) sa_nil)) se_int))))
theorem kp28 (B : Bd K hh mg) : PySem.W.keepIn K (.ref (He.fAd K ("Heap", some "new_entries"))) = true := by obtain ⟨fd, F⟩ := B.c.def_ 28 (d := d28) rfl; exact F.kp
def f28 : MF := mDef 1 0 m28
theorem o28 (B : Bd K hh mg) : ∃ fd, FnOk P w K mg base CX0 3 (He.fAd K ("Heap", some "new_entries")) fd ["self"] (SpM (gm K) 1 f28) ∧ FunD K d28.name d28.qual d28.params d28.body d28.scope (d28.dvs K) (d28.kws K) (He.fAd K ("Heap", some "new_entries")) fd := by
  obtain ⟨fd, F⟩ := B.c.def_ 28 (d := d28) rfl
  exact ⟨fd, fn_okM (ps := ["self"]) F sc28 rfl rfl (fun cdv A outer s H hr => b28 B cdv A outer s H hr), F⟩
theorem r28 (B : Bd K hh mg) : FnR P w K mg base CX0 3 (He.fAd K ("Heap", some "new_entries")) (SpM (gm K) 1 f28) := by
  obtain ⟨fd, F, D⟩ := o28 (P := P) (w := w) (base := base) B
  exact fnM_all F (FunD.bindsN (ps := ["self"]) D fun _ _ _ _ _ _ us hl => match us, hl with | [_], _ => rfl)
/-! ### Memo.__init__ -/
theorem sc27 : FnScope ["self", "heap"] ["self", "heap"] (defScope (inClass (top 40) 0)) := ⟨rfl, rfl, rfl, by decide +kernel, rfl, by decide +kernel, by decide +kernel⟩
def m27 : MS := (mSeqT (mSetF g0 "heap" (mVar 0) (mVar 1)) (mSetF g0 "number" (mVar 0) (mMeth 1 "new_entries" f28 1 (mVar 1) mNil)))
theorem b27 (B : Bd K hh mg) (cdv : Value) (A : Around) (outer : List Env) (s : Shared) (H : Hp) (hr : Room 3 (A.deeper (envOfC "Memo.__init__" (defScope (inClass (top 40) 0)) s.heap.objs.size (He.fAd K ("Memo", some "__init__")) cdv))) : SSs (gm K) W0 (cxOf CX0 P w K mg base ["self", "heap"] "Memo.__init__" (defScope (inClass (top 40) 0)) (He.fAd K ("Memo", some "__init__")) cdv A outer s H E0).nox (defBody (inClass (top 40) 0)) m27 := by
  have G : GOk K (gm K) g0 := gok B
  exact (sss_consT (ss_setF G (se_var 0) (se_var 1)) (sss_one (ss_setF G (se_var 0) (se_meth0 (c := 1) (He.cls_ok (B.c.fact 30 rfl)) (He.meth_ok (B.c.fact 46 rfl)) (r28 B) (hr.mono (by decide)) (se_var 1)))))
theorem kp27 (B : Bd K hh mg) : PySem.W.keepIn K (.ref (He.fAd K ("Memo", some "__init__"))) = true := by obtain ⟨fd, F⟩ := B.c.def_ 27 (d := d27) rfl; exact F.kp
def f27 : MF := mDef 2 0 m27
theorem o27 (B : Bd K hh mg) : ∃ fd, FnOk P w K mg base CX0 4 (He.fAd K ("Memo", some "__init__")) fd ["self", "heap"] (SpM (gm K) 2 f27) ∧ FunD K d27.name d27.qual d27.params d27.body d27.scope (d27.dvs K) (d27.kws K) (He.fAd K ("Memo", some "__init__")) fd := by
  obtain ⟨fd, F⟩ := B.c.def_ 27 (d := d27) rfl
  exact ⟨fd, fn_okM (ps := ["self", "heap"]) F sc27 rfl rfl (fun cdv A outer s H hr => b27 B cdv A outer s H hr), F⟩
theorem r27 (B : Bd K hh mg) : FnR P w K mg base CX0 4 (He.fAd K ("Memo", some "__init__")) (SpM (gm K) 2 f27) := by
  obtain ⟨fd, F, D⟩ := o27 (P := P) (w := w) (base := base) B
  exact fnM_all F (FunD.bindsN (ps := ["self", "heap"]) D fun _ _ _ _ _ _ us hl => match us, hl with | [_, _], _ => rfl)
/-! ### Memo.is_in_use -/
theorem sc30 : FnScope ["self"] ["self"] (defScope (inClass (top 40) 6)) := ⟨rfl, rfl, rfl, by decide +kernel, rfl, by decide +kernel, by decide +kernel⟩
def m30 : MS := (mRet (mFld g0 "is_busy" (mBin (fIx g0) (mFld g0 "memos" (mFld g0 "heap" (mVar 0))) (mFld g0 "number" (mVar 0)))))
theorem b30 (B : Bd K hh mg) (cdv : Value) (A : Around) (outer : List Env) (s : Shared) (H : Hp) (hr : Room 0 (A.deeper (envOfC "Memo.is_in_use" (defScope (inClass (top 40) 6)) s.heap.objs.size (He.fAd K ("Memo", some "is_in_use")) cdv))) : SSs (gm K) W0 (cxOf CX0 P w K mg base ["self"] "Memo.is_in_use" (defScope (inClass (top 40) 6)) (He.fAd K ("Memo", some "is_in_use")) cdv A outer s H E0).nox (defBody (inClass (top 40) 6)) m30 := by
  have G : GOk K (gm K) g0 := gok B
  exact (sss_one (ss_ret (se_fld G (se_ix2 (o_ix G (hu1 hr)) (se_fld G (se_fld G (se_var 0))) (se_fld G (se_var 0))))))
theorem kp30 (B : Bd K hh mg) : PySem.W.keepIn K (.ref (He.fAd K ("Memo", some "is_in_use"))) = true := by obtain ⟨fd, F⟩ := B.c.def_ 30 (d := d30) rfl; exact F.kp
def f30 : MF := mDef 1 0 m30
theorem o30 (B : Bd K hh mg) : ∃ fd, FnOk P w K mg base CX0 1 (He.fAd K ("Memo", some "is_in_use")) fd ["self"] (SpM (gm K) 1 f30) ∧ FunD K d30.name d30.qual d30.params d30.body d30.scope (d30.dvs K) (d30.kws K) (He.fAd K ("Memo", some "is_in_use")) fd := by
  obtain ⟨fd, F⟩ := B.c.def_ 30 (d := d30) rfl
  exact ⟨fd, fn_okM (ps := ["self"]) F sc30 rfl rfl (fun cdv A outer s H hr => b30 B cdv A outer s H hr), F⟩
theorem r30 (B : Bd K hh mg) : FnR P w K mg base CX0 1 (He.fAd K ("Memo", some "is_in_use")) (SpM (gm K) 1 f30) := by
  obtain ⟨fd, F, D⟩ := o30 (P := P) (w := w) (base := base) B
  exact fnM_all F (FunD.bindsN (ps := ["self"]) D fun _ _ _ _ _ _ us hl => match us, hl with | [_], _ => rfl)
/-! ### Heap.__contains__ -/
theorem sc31 : FnScope ["self", "cell"] ["self", "cell"] (defScope (inClass (top 80) 2)) := ⟨rfl, rfl, rfl, by decide +kernel, rfl, by decide +kernel, by decide +kernel⟩
def m31 : MS := (mRet (mMeth 1 "is_cell" f19 2 (mVar 0) (mCons (mVar 1) mNil)))
theorem b31 (B : Bd K hh mg) (cdv : Value) (A : Around) (outer : List Env) (s : Shared) (H : Hp) (hr : Room 2 (A.deeper (envOfC "Heap.__contains__" (defScope (inClass (top 80) 2)) s.heap.objs.size (He.fAd K ("Heap", some "__contains__")) cdv))) : SSs (gm K) W0 (cxOf CX0 P w K mg base ["self", "cell"] "Heap.__contains__" (defScope (inClass (top 80) 2)) (He.fAd K ("Heap", some "__contains__")) cdv A outer s H E0).nox (defBody (inClass (top 80) 2)) m31 := by
  have G : GOk K (gm K) g0 := gok B
  exact (sss_one (ss_ret (se_meth (c := 1) (He.cls_ok (B.c.fact 30 rfl)) (He.meth_ok (B.c.fact 31 rfl)) (r19 B) (hr.mono (by decide)) (se_var 0) (sa_cons (se_var 1) sa_nil))))
theorem kp31 (B : Bd K hh mg) : PySem.W.keepIn K (.ref (He.fAd K ("Heap", some "__contains__"))) = true := by obtain ⟨fd, F⟩ := B.c.def_ 31 (d := d31) rfl; exact F.kp
def f31 : MF := mDef 2 0 m31
theorem o31 (B : Bd K hh mg) : ∃ fd, FnOk P w K mg base CX0 3 (He.fAd K ("Heap", some "__contains__")) fd ["self", "cell"] (SpM (gm K) 2 f31) ∧ FunD K d31.name d31.qual d31.params d31.body d31.scope (d31.dvs K) (d31.kws K) (He.fAd K ("Heap", some "__contains__")) fd := by
  obtain ⟨fd, F⟩ := B.c.def_ 31 (d := d31) rfl
  exact ⟨fd, fn_okM (ps := ["self", "cell"]) F sc31 rfl rfl (fun cdv A outer s H hr => b31 B cdv A outer s H hr), F⟩
theorem r31 (B : Bd K hh mg) : FnR P w K mg base CX0 3 (He.fAd K ("Heap", some "__contains__")) (SpM (gm K) 2 f31) := by
  obtain ⟨fd, F, D⟩ := o31 (P := P) (w := w) (base := base) B
  exact fnM_all F (FunD.bindsN (ps := ["self", "cell"]) D fun _ _ _ _ _ _ us hl => match us, hl with | [_, _], _ => rfl)
/-! ### Memo.set_use -/
theorem sc32 : FnScope ["self", "is_used", "held"] ["self", "is_used"] (defScope (inClass (top 40) 7)) := ⟨rfl, rfl, rfl, by decide +kernel, rfl, by decide +kernel, by decide +kernel⟩
def m32 : MS := (mSeqT (mAsg (mBin (fIx g0) (mFld g0 "memos" (mFld g0 "heap" (mVar 0))) (mFld g0 "number" (mVar 0))) (mgName 2)) (mSetF g0 "is_busy" (mVar 2) (mVar 1)))
theorem b32 (B : Bd K hh mg) (cdv : Value) (A : Around) (outer : List Env) (s : Shared) (H : Hp) (hr : Room 0 (A.deeper (envOfC "Memo.set_use" (defScope (inClass (top 40) 7)) s.heap.objs.size (He.fAd K ("Memo", some "set_use")) cdv))) : SSs (gm K) W0 (cxOf CX0 P w K mg base ["self", "is_used", "held"] "Memo.set_use" (defScope (inClass (top 40) 7)) (He.fAd K ("Memo", some "set_use")) cdv A outer s H E0).nox (defBody (inClass (top 40) 7)) m32 := by
  have G : GOk K (gm K) g0 := gok B
  exact (sss_consT (ss_set sc32.nd (se_ix2 (o_ix G (hu1 hr)) (se_fld G (se_fld G (se_var 0))) (se_fld G (se_var 0)))) (sss_one (ss_setF G (se_var 2) (se_var 1))))
theorem kp32 (B : Bd K hh mg) : PySem.W.keepIn K (.ref (He.fAd K ("Memo", some "set_use"))) = true := by obtain ⟨fd, F⟩ := B.c.def_ 32 (d := d32) rfl; exact F.kp
def f32 : MF := mDef 2 1 m32
theorem o32 (B : Bd K hh mg) : ∃ fd, FnOk P w K mg base CX0 1 (He.fAd K ("Memo", some "set_use")) fd ["self", "is_used"] (SpM (gm K) 2 f32) ∧ FunD K d32.name d32.qual d32.params d32.body d32.scope (d32.dvs K) (d32.kws K) (He.fAd K ("Memo", some "set_use")) fd := by
  obtain ⟨fd, F⟩ := B.c.def_ 32 (d := d32) rfl
  exact ⟨fd, fn_okM (ps := ["self", "is_used"]) F sc32 rfl rfl (fun cdv A outer s H hr => b32 B cdv A outer s H hr), F⟩
theorem r32 (B : Bd K hh mg) : FnR P w K mg base CX0 1 (He.fAd K ("Memo", some "set_use")) (SpM (gm K) 2 f32) := by
  obtain ⟨fd, F, D⟩ := o32 (P := P) (w := w) (base := base) B
  exact fnM_all F (FunD.bindsN (ps := ["self", "is_used"]) D fun _ _ _ _ _ _ us hl => match us, hl with | [_, _], _ => rfl)
/-! ### Copying.__init__ -/
theorem sc26 : FnScope ["self", "heap", "value", "memo"] ["self", "heap", "value", "memo"] (defScope (inClass (top 45) 0)) := ⟨rfl, rfl, rfl, by decide +kernel, rfl, by decide +kernel, by decide +kernel⟩
def m26 : MS := (mSeqT (mIfS (mNot (mTest (mMeth 1 "is_value" f18 2 (mVar 1) (mCons (mVar 2) mNil)))) mDeadS mNext) (mSeqT (mSetF g0 "heap" (mVar 0) (mVar 1)) (mSeqT (mSetF g0 "own_memo" (mVar 0) (mIf (mTest (mBin (fIsN false) (mVar 3) (mC .non))) (mMake 7 f27 2 (mCons (mVar 1) mNil)) (mVar 3))) (mSeqT (mIfS (mTest (mMeth 7 "is_in_use" f30 1 (mFld g0 "own_memo" (mVar 0)) mNil)) mDeadS mNext) (mSeqT (mSetF g0 "stack" (mVar 0) (mLst mNil)) (mSeqT (mSetF g0 "written" (mVar 0) (mLst mNil)) (mSeqT (mSetF g0 "coming" (mVar 0) (mC .non)) (mSeqT (mSetF g0 "found" (mVar 0) (mC .non)) (mSeqT (mSetF g0 "ended" (mVar 0) (mC (.bl false))) (mIfS (mTest (mBin (fOwn2 1 f31 fun b => bif false then !b else b) (mVar 2) (mVar 1))) (mSeqT (mSetF g0 "coming" (mVar 0) (mVar 2)) (mDrop (mMeth 7 "set_use" f32 2 (mFld g0 "own_memo" (mVar 0)) (mCons (mC (.bl true)) mNil)))) (mSeqT (mSetF g0 "found" (mVar 0) (mVar 2)) (mSetF g0 "ended" (mVar 0) (mC (.bl true))))))))))))))
theorem b26 (B : Bd K hh mg) (cdv : Value) (A : Around) (outer : List Env) (s : Shared) (H : Hp) (hr : Room 5 (A.deeper (envOfC "Copying.__init__" (defScope (inClass (top 45) 0)) s.heap.objs.size (He.fAd K ("Copying", some "__init__")) cdv))) : SSs (gm K) W0 (cxOf CX0 P w K mg base ["self", "heap", "value", "memo"] "Copying.__init__" (defScope (inClass (top 45) 0)) (He.fAd K ("Copying", some "__init__")) cdv A outer s H E0).nox (defBody (inClass (top 45) 0)) m26 := by
  have G : GOk K (gm K) g0 := gok B
  exact (sss_consT (ss_if (st_not (st_val (se_meth (c := 1) (He.cls_ok (B.c.fact 30 rfl)) (He.meth_ok (B.c.fact 32 rfl)) (r18 B) (hr.mono (by decide)) (se_var 1) (sa_cons (se_var 2) sa_nil)))) (sss_one s_dead) sss_nil) (sss_consT (ss_setF G (se_var 0) (se_var 1)) (sss_consT (ss_setF G (se_var 0) (se_if (st_cmp2 o_isN (se_var 3) se_non) (se_make (c := 7) (He.mkr_ok (B.c.fact 47 rfl)) (r27 B) (hr.mono (by decide)) (He.glo_ok B.X B.G (B.c.fact 48 rfl)) (sa_cons (se_var 1) sa_nil)) (se_var 3))) (sss_consT (ss_if (st_val (se_meth0 (c := 7) (He.cls_ok (B.c.fact 49 rfl)) (He.meth_ok (B.c.fact 50 rfl)) (r30 B) (hr.mono (by decide)) (se_fld G (se_var 0)))) (sss_one s_dead) sss_nil) (sss_consT (ss_setF G (se_var 0) (se_lst sa_nil)) (sss_consT (ss_setF G (se_var 0) (se_lst sa_nil)) (sss_consT (ss_setF G (se_var 0) se_non) (sss_consT (ss_setF G (se_var 0) se_non) (sss_consT (ss_setF G (se_var 0) se_bl) (sss_one (ss_if (st_cmp2 (o_inOwn (c := 1) (He.meth_ok (B.c.fact 51 rfl)).at_ (He.meth_ok (B.c.fact 51 rfl)).fn (r31 B) (hr.mono (by decide))) (se_var 2) (se_var 1)) (sss_consT (ss_setF G (se_var 0) (se_var 2)) (sss_one (ss_expr (se_meth (c := 7) (He.cls_ok (B.c.fact 49 rfl)) (He.meth_ok (B.c.fact 52 rfl)) (r32 B) (hr.mono (by decide)) (se_fld G (se_var 0)) (sa_cons se_bl sa_nil))))) (sss_consT (ss_setF G (se_var 0) (se_var 2)) (sss_one (ss_setF G (se_var 0) se_bl))))))))))))))
theorem kp26 (B : Bd K hh mg) : PySem.W.keepIn K (.ref (He.fAd K ("Copying", some "__init__"))) = true := by obtain ⟨fd, F⟩ := B.c.def_ 26 (d := d26) rfl; exact F.kp
def f26 : MF := mDef 4 0 m26
theorem o26 (B : Bd K hh mg) : ∃ fd, FnOk P w K mg base CX0 6 (He.fAd K ("Copying", some "__init__")) fd ["self", "heap", "value", "memo"] (SpM (gm K) 4 f26) ∧ FunD K d26.name d26.qual d26.params d26.body d26.scope (d26.dvs K) (d26.kws K) (He.fAd K ("Copying", some "__init__")) fd := by
  obtain ⟨fd, F⟩ := B.c.def_ 26 (d := d26) rfl
  exact ⟨fd, fn_okM (ps := ["self", "heap", "value", "memo"]) F sc26 rfl rfl (fun cdv A outer s H hr => b26 B cdv A outer s H hr), F⟩
def fd26_3 : MF := mfD f26 [.non]
theorem rd26_3 (B : Bd K hh mg) : FnR P w K mg base CX0 6 (He.fAd K ("Copying", some "__init__")) (SpM (gm K) 3 fd26_3) := by
  obtain ⟨fd, F, D⟩ := o26 (P := P) (w := w) (base := base) B
  obtain ⟨ds, hd, hb⟩ := FunD.binds0 (ps := ["self", "heap", "value", "memo"]) D 3 (by exact List.cons_ne_nil _ _) rfl fun _ _ _ _ _ _ us ks hl hi => match us, ks, hl, hi with | [_, _, _], [_], _, _ => ⟨_, _, _, _, _, _, rfl, rfl, rfl⟩
  exact fnM_of F hb hd (.cons rfl .nil) rfl
/-! ### Memo.__contains__ -/
theorem sc36 : FnScope ["self", "cell"] ["self", "cell"] (defScope (inClass (top 40) 1)) := ⟨rfl, rfl, rfl, by decide +kernel, rfl, by decide +kernel, by decide +kernel⟩
def m36 : MS := (mRet (mAndV (mCall f20 1 (mCons (mVar 1) mNil)) (mBin (fIn2 g0 false) (mVar 1) (mFld g0 "entered" (mBin (fIx g0) (mFld g0 "memos" (mFld g0 "heap" (mVar 0))) (mFld g0 "number" (mVar 0)))))))
theorem b36 (B : Bd K hh mg) (cdv : Value) (A : Around) (outer : List Env) (s : Shared) (H : Hp) (hr : Room 1 (A.deeper (envOfC "Memo.__contains__" (defScope (inClass (top 40) 1)) s.heap.objs.size (He.fAd K ("Memo", some "__contains__")) cdv))) : SSs (gm K) W0 (cxOf CX0 P w K mg base ["self", "cell"] "Memo.__contains__" (defScope (inClass (top 40) 1)) (He.fAd K ("Memo", some "__contains__")) cdv A outer s H E0).nox (defBody (inClass (top 40) 1)) m36 := by
  have G : GOk K (gm K) g0 := gok B
  exact (sss_one (ss_ret (se_and (se_call (r20 B) (hr.mono (by decide)) (He.glo_ok B.X B.G (B.c.fact 29 rfl)) (kp20 B) (sa_cons (se_var 1) sa_nil)) (se_one (se_cmp2 (o_in2 G (hu66 hr)) (se_var 1) (se_fld G (se_ix2 (o_ix G (hu1 hr)) (se_fld G (se_fld G (se_var 0))) (se_fld G (se_var 0)))))))))
theorem kp36 (B : Bd K hh mg) : PySem.W.keepIn K (.ref (He.fAd K ("Memo", some "__contains__"))) = true := by obtain ⟨fd, F⟩ := B.c.def_ 36 (d := d36) rfl; exact F.kp
def f36 : MF := mDef 2 0 m36
theorem o36 (B : Bd K hh mg) : ∃ fd, FnOk P w K mg base CX0 2 (He.fAd K ("Memo", some "__contains__")) fd ["self", "cell"] (SpM (gm K) 2 f36) ∧ FunD K d36.name d36.qual d36.params d36.body d36.scope (d36.dvs K) (d36.kws K) (He.fAd K ("Memo", some "__contains__")) fd := by
  obtain ⟨fd, F⟩ := B.c.def_ 36 (d := d36) rfl
  exact ⟨fd, fn_okM (ps := ["self", "cell"]) F sc36 rfl rfl (fun cdv A outer s H hr => b36 B cdv A outer s H hr), F⟩
theorem r36 (B : Bd K hh mg) : FnR P w K mg base CX0 2 (He.fAd K ("Memo", some "__contains__")) (SpM (gm K) 2 f36) := by
  obtain ⟨fd, F, D⟩ := o36 (P := P) (w := w) (base := base) B
  exact fnM_all F (FunD.bindsN (ps := ["self", "cell"]) D fun _ _ _ _ _ _ us hl => match us, hl with | [_, _], _ => rfl)
/-! ### Memo.__getitem__ -/
theorem sc37 : FnScope ["self", "cell"] ["self", "cell"] (defScope (inClass (top 40) 2)) := ⟨rfl, rfl, rfl, by decide +kernel, rfl, by decide +kernel, by decide +kernel⟩
def m37 : MS := (mSeqT (mIfS (mOrT (mNot (mTest (mCall f20 1 (mCons (mVar 1) mNil)))) (mTest (mBin (fIn2 g0 true) (mVar 1) (mFld g0 "entered" (mBin (fIx g0) (mFld g0 "memos" (mFld g0 "heap" (mVar 0))) (mFld g0 "number" (mVar 0))))))) mDeadS mNext) (mRet (mBin (fIx g0) (mFld g0 "entered" (mBin (fIx g0) (mFld g0 "memos" (mFld g0 "heap" (mVar 0))) (mFld g0 "number" (mVar 0)))) (mVar 1))))
theorem b37 (B : Bd K hh mg) (cdv : Value) (A : Around) (outer : List Env) (s : Shared) (H : Hp) (hr : Room 1 (A.deeper (envOfC "Memo.__getitem__" (defScope (inClass (top 40) 2)) s.heap.objs.size (He.fAd K ("Memo", some "__getitem__")) cdv))) : SSs (gm K) W0 (cxOf CX0 P w K mg base ["self", "cell"] "Memo.__getitem__" (defScope (inClass (top 40) 2)) (He.fAd K ("Memo", some "__getitem__")) cdv A outer s H E0).nox (defBody (inClass (top 40) 2)) m37 := by
  have G : GOk K (gm K) g0 := gok B
  exact (sss_consT (ss_if (SW.st (sw_or (st_not (st_val (se_call (r20 B) (hr.mono (by decide)) (He.glo_ok B.X B.G (B.c.fact 29 rfl)) (kp20 B) (sa_cons (se_var 1) sa_nil)))) (sw_or1 (st_cmp2 (o_nin2 G (hu66 hr)) (se_var 1) (se_fld G (se_ix2 (o_ix G (hu1 hr)) (se_fld G (se_fld G (se_var 0))) (se_fld G (se_var 0)))))))) (sss_one s_dead) sss_nil) (sss_one (ss_ret (se_ix2 (o_ix G (hu1 hr)) (se_fld G (se_ix2 (o_ix G (hu1 hr)) (se_fld G (se_fld G (se_var 0))) (se_fld G (se_var 0)))) (se_var 1)))))
theorem kp37 (B : Bd K hh mg) : PySem.W.keepIn K (.ref (He.fAd K ("Memo", some "__getitem__"))) = true := by obtain ⟨fd, F⟩ := B.c.def_ 37 (d := d37) rfl; exact F.kp
def f37 : MF := mDef 2 0 m37
theorem o37 (B : Bd K hh mg) : ∃ fd, FnOk P w K mg base CX0 2 (He.fAd K ("Memo", some "__getitem__")) fd ["self", "cell"] (SpM (gm K) 2 f37) ∧ FunD K d37.name d37.qual d37.params d37.body d37.scope (d37.dvs K) (d37.kws K) (He.fAd K ("Memo", some "__getitem__")) fd := by
  obtain ⟨fd, F⟩ := B.c.def_ 37 (d := d37) rfl
  exact ⟨fd, fn_okM (ps := ["self", "cell"]) F sc37 rfl rfl (fun cdv A outer s H hr => b37 B cdv A outer s H hr), F⟩
theorem r37 (B : Bd K hh mg) : FnR P w K mg base CX0 2 (He.fAd K ("Memo", some "__getitem__")) (SpM (gm K) 2 f37) := by
  obtain ⟨fd, F, D⟩ := o37 (P := P) (w := w) (base := base) B
  exact fnM_all F (FunD.bindsN (ps := ["self", "cell"]) D fun _ _ _ _ _ _ us hl => match us, hl with | [_, _], _ => rfl)
/-! ### Copying.be_over -/
theorem sc39 : FnScope ["self"] ["self"] (defScope (inClass (top 45) 6)) := ⟨rfl, rfl, rfl, by decide +kernel, rfl, by decide +kernel, by decide +kernel⟩
def m39 : MS := (mSeqT (mSetF g0 "ended" (mVar 0) (mC (.bl true))) (mDrop (mMeth 7 "set_use" f32 2 (mFld g0 "own_memo" (mVar 0)) (mCons (mC (.bl false)) mNil))))
theorem b39 (B : Bd K hh mg) (cdv : Value) (A : Around) (outer : List Env) (s : Shared) (H : Hp) (hr : Room 1 (A.deeper (envOfC "Copying.be_over" (defScope (inClass (top 45) 6)) s.heap.objs.size (He.fAd K ("Copying", some "be_over")) cdv))) : SSs (gm K) W0 (cxOf CX0 P w K mg base ["self"] "Copying.be_over" (defScope (inClass (top 45) 6)) (He.fAd K ("Copying", some "be_over")) cdv A outer s H E0).nox (defBody (inClass (top 45) 6)) m39 := by
  have G : GOk K (gm K) g0 := gok B
  exact (sss_consT (ss_setF G (se_var 0) se_bl) (sss_one (ss_expr (se_meth (c := 7) (He.cls_ok (B.c.fact 49 rfl)) (He.meth_ok (B.c.fact 52 rfl)) (r32 B) (hr.mono (by decide)) (se_fld G (se_var 0)) (sa_cons se_bl sa_nil)))))
theorem kp39 (B : Bd K hh mg) : PySem.W.keepIn K (.ref (He.fAd K ("Copying", some "be_over"))) = true := by obtain ⟨fd, F⟩ := B.c.def_ 39 (d := d39) rfl; exact F.kp
def f39 : MF := mDef 1 0 m39
theorem o39 (B : Bd K hh mg) : ∃ fd, FnOk P w K mg base CX0 2 (He.fAd K ("Copying", some "be_over")) fd ["self"] (SpM (gm K) 1 f39) ∧ FunD K d39.name d39.qual d39.params d39.body d39.scope (d39.dvs K) (d39.kws K) (He.fAd K ("Copying", some "be_over")) fd := by
  obtain ⟨fd, F⟩ := B.c.def_ 39 (d := d39) rfl
  exact ⟨fd, fn_okM (ps := ["self"]) F sc39 rfl rfl (fun cdv A outer s H hr => b39 B cdv A outer s H hr), F⟩
theorem r39 (B : Bd K hh mg) : FnR P w K mg base CX0 2 (He.fAd K ("Copying", some "be_over")) (SpM (gm K) 1 f39) := by
  obtain ⟨fd, F, D⟩ := o39 (P := P) (w := w) (base := base) B
  exact fnM_all F (FunD.bindsN (ps := ["self"]) D fun _ _ _ _ _ _ us hl => match us, hl with | [_], _ => rfl)
/-! ### Heap.cell_of -/
theorem sc42 : FnScope ["self", "cell"] ["self", "cell"] (defScope (inClass (top 80) 7)) := ⟨rfl, rfl, rfl, by decide +kernel, rfl, by decide +kernel, by decide +kernel⟩
def m42 : MS := (mSeqT (mIfS (mNot (mTest (mMeth 1 "is_cell" f19 2 (mVar 0) (mCons (mVar 1) mNil)))) mDeadS mNext) (mRet (mBin (fIx g0) (mFld g0 "cells" (mVar 0)) (mVar 1))))
theorem b42 (B : Bd K hh mg) (cdv : Value) (A : Around) (outer : List Env) (s : Shared) (H : Hp) (hr : Room 2 (A.deeper (envOfC "Heap.cell_of" (defScope (inClass (top 80) 7)) s.heap.objs.size (He.fAd K ("Heap", some "cell_of")) cdv))) : SSs (gm K) W0 (cxOf CX0 P w K mg base ["self", "cell"] "Heap.cell_of" (defScope (inClass (top 80) 7)) (He.fAd K ("Heap", some "cell_of")) cdv A outer s H E0).nox (defBody (inClass (top 80) 7)) m42 := by
  have G : GOk K (gm K) g0 := gok B
  exact (sss_consT (ss_if (st_not (st_val (se_meth (c := 1) (He.cls_ok (B.c.fact 30 rfl)) (He.meth_ok (B.c.fact 31 rfl)) (r19 B) (hr.mono (by decide)) (se_var 0) (sa_cons (se_var 1) sa_nil)))) (sss_one s_dead) sss_nil) (sss_one (ss_ret (se_ix2 (o_ix G (hu1 hr)) (se_fld G (se_var 0)) (se_var 1)))))
theorem kp42 (B : Bd K hh mg) : PySem.W.keepIn K (.ref (He.fAd K ("Heap", some "cell_of"))) = true := by obtain ⟨fd, F⟩ := B.c.def_ 42 (d := d42) rfl; exact F.kp
def f42 : MF := mDef 2 0 m42
theorem o42 (B : Bd K hh mg) : ∃ fd, FnOk P w K mg base CX0 3 (He.fAd K ("Heap", some "cell_of")) fd ["self", "cell"] (SpM (gm K) 2 f42) ∧ FunD K d42.name d42.qual d42.params d42.body d42.scope (d42.dvs K) (d42.kws K) (He.fAd K ("Heap", some "cell_of")) fd := by
  obtain ⟨fd, F⟩ := B.c.def_ 42 (d := d42) rfl
  exact ⟨fd, fn_okM (ps := ["self", "cell"]) F sc42 rfl rfl (fun cdv A outer s H hr => b42 B cdv A outer s H hr), F⟩
theorem r42 (B : Bd K hh mg) : FnR P w K mg base CX0 3 (He.fAd K ("Heap", some "cell_of")) (SpM (gm K) 2 f42) := by
  obtain ⟨fd, F, D⟩ := o42 (P := P) (w := w) (base := base) B
  exact fnM_all F (FunD.bindsN (ps := ["self", "cell"]) D fun _ _ _ _ _ _ us hl => match us, hl with | [_, _], _ => rfl)
/-! ### Heap.kind -/
theorem sc41 : FnScope ["self", "cell"] ["self", "cell"] (defScope (inClass (top 80) 15)) := ⟨rfl, rfl, rfl, by decide +kernel, rfl, by decide +kernel, by decide +kernel⟩
def m41 : MS := (mRet (mFld g0 "family" (mMeth 1 "cell_of" f42 2 (mVar 0) (mCons (mVar 1) mNil))))
theorem b41 (B : Bd K hh mg) (cdv : Value) (A : Around) (outer : List Env) (s : Shared) (H : Hp) (hr : Room 3 (A.deeper (envOfC "Heap.kind" (defScope (inClass (top 80) 15)) s.heap.objs.size (He.fAd K ("Heap", some "kind")) cdv))) : SSs (gm K) W0 (cxOf CX0 P w K mg base ["self", "cell"] "Heap.kind" (defScope (inClass (top 80) 15)) (He.fAd K ("Heap", some "kind")) cdv A outer s H E0).nox (defBody (inClass (top 80) 15)) m41 := by
  have G : GOk K (gm K) g0 := gok B
  exact (sss_one (ss_ret (se_fld G (se_meth (c := 1) (He.cls_ok (B.c.fact 30 rfl)) (He.meth_ok (B.c.fact 59 rfl)) (r42 B) (hr.mono (by decide)) (se_var 0) (sa_cons (se_var 1) sa_nil)))))
theorem kp41 (B : Bd K hh mg) : PySem.W.keepIn K (.ref (He.fAd K ("Heap", some "kind"))) = true := by obtain ⟨fd, F⟩ := B.c.def_ 41 (d := d41) rfl; exact F.kp
def f41 : MF := mDef 2 0 m41
theorem o41 (B : Bd K hh mg) : ∃ fd, FnOk P w K mg base CX0 4 (He.fAd K ("Heap", some "kind")) fd ["self", "cell"] (SpM (gm K) 2 f41) ∧ FunD K d41.name d41.qual d41.params d41.body d41.scope (d41.dvs K) (d41.kws K) (He.fAd K ("Heap", some "kind")) fd := by
  obtain ⟨fd, F⟩ := B.c.def_ 41 (d := d41) rfl
  exact ⟨fd, fn_okM (ps := ["self", "cell"]) F sc41 rfl rfl (fun cdv A outer s H hr => b41 B cdv A outer s H hr), F⟩
theorem r41 (B : Bd K hh mg) : FnR P w K mg base CX0 4 (He.fAd K ("Heap", some "kind")) (SpM (gm K) 2 f41) := by
  obtain ⟨fd, F, D⟩ := o41 (P := P) (w := w) (base := base) B
  exact fnM_all F (FunD.bindsN (ps := ["self", "cell"]) D fun _ _ _ _ _ _ us hl => match us, hl with | [_, _], _ => rfl)
/-! ### Heap.append_to -/
theorem sc43 : FnScope ["self", "cell", "value", "found"] ["self", "cell", "value"] (defScope (inClass (top 80) 9)) := ⟨rfl, rfl, rfl, by decide +kernel, rfl, by decide +kernel, by decide +kernel⟩
def m43 : MS := (mSeqT (mAsg (mBin (fIx g0) (mFld g0 "cells" (mVar 0)) (mVar 1)) (mgName 3)) (mIfS (mOrT (mTest (mBin (fIn2 g0 true) (mFld g0 "family" (mVar 3)) (mC (.glo 3)))) (mTest (mBin (fIn2 g0 true) (mVar 2) (mFld g0 "held" (mVar 3))))) (mDrop (mMt fAppend (mFld g0 "held" (mVar 3)) (mCons (mVar 2) mNil))) mNext))
theorem b43 (B : Bd K hh mg) (cdv : Value) (A : Around) (outer : List Env) (s : Shared) (H : Hp) (hr : Room 0 (A.deeper (envOfC "Heap.append_to" (defScope (inClass (top 80) 9)) s.heap.objs.size (He.fAd K ("Heap", some "append_to")) cdv))) : SSs (gm K) W0 (cxOf CX0 P w K mg base ["self", "cell", "value", "found"] "Heap.append_to" (defScope (inClass (top 80) 9)) (He.fAd K ("Heap", some "append_to")) cdv A outer s H E0).nox (defBody (inClass (top 80) 9)) m43 := by
  have G : GOk K (gm K) g0 := gok B
  exact (sss_consT (ss_set sc43.nd (se_ix2 (o_ix G (hu1 hr)) (se_fld G (se_var 0)) (se_var 1))) (sss_one (ss_if (SW.st (sw_or (st_cmp2 (o_nin2 G (hu66 hr)) (se_fld G (se_var 3)) (se_glo (k := 3) (He.glo_ok B.X B.G (B.c.fact 35 rfl)))) (sw_or1 (st_cmp2 (o_nin2 G (hu66 hr)) (se_var 2) (se_fld G (se_var 3)))))) (sss_one (ss_expr (se_bm PySem.F.slot_list_append PySem.F.type_list_append mt2_append (se_fld G (se_var 3)) (sa_cons (se_var 2) sa_nil)))) sss_nil)))
theorem kp43 (B : Bd K hh mg) : PySem.W.keepIn K (.ref (He.fAd K ("Heap", some "append_to"))) = true := by obtain ⟨fd, F⟩ := B.c.def_ 43 (d := d43) rfl; exact F.kp
def f43 : MF := mDef 3 1 m43
theorem o43 (B : Bd K hh mg) : ∃ fd, FnOk P w K mg base CX0 1 (He.fAd K ("Heap", some "append_to")) fd ["self", "cell", "value"] (SpM (gm K) 3 f43) ∧ FunD K d43.name d43.qual d43.params d43.body d43.scope (d43.dvs K) (d43.kws K) (He.fAd K ("Heap", some "append_to")) fd := by
  obtain ⟨fd, F⟩ := B.c.def_ 43 (d := d43) rfl
  exact ⟨fd, fn_okM (ps := ["self", "cell", "value"]) F sc43 rfl rfl (fun cdv A outer s H hr => b43 B cdv A outer s H hr), F⟩
theorem r43 (B : Bd K hh mg) : FnR P w K mg base CX0 1 (He.fAd K ("Heap", some "append_to")) (SpM (gm K) 3 f43) := by
  obtain ⟨fd, F, D⟩ := o43 (P := P) (w := w) (base := base) B
  exact fnM_all F (FunD.bindsN (ps := ["self", "cell", "value"]) D fun _ _ _ _ _ _ us hl => match us, hl with | [_, _, _], _ => rfl)
/-! ### attach -/
theorem sc40 : FnScope ["heap", "cell", "step", "value"] ["heap", "cell", "step", "value"] (defScope (top 43)) := ⟨rfl, rfl, rfl, by decide +kernel, rfl, by decide +kernel, by decide +kernel⟩
def m40 : MS := (mIfS (mTest (mBin (fIn2 g0 false) (mMeth 1 "kind" f41 2 (mVar 0) (mCons (mVar 1) mNil)) (mTup (mCons (mC (.str "list")) (mCons (mC (.str "set")) mNil))))) (mDrop (mMeth 1 "append_to" f43 3 (mVar 0) (mCons (mVar 1) (mCons (mVar 3) mNil)))) (mDrop (mMeth 1 "set_part" f24 4 (mVar 0) (mCons (mVar 1) (mCons (mVar 2) (mCons (mVar 3) mNil))))))
theorem b40 (B : Bd K hh mg) (cdv : Value) (A : Around) (outer : List Env) (s : Shared) (H : Hp) (hr : Room 4 (A.deeper (envOfC "attach" (defScope (top 43)) s.heap.objs.size (He.fAd K ("attach", none)) cdv))) : SSs (gm K) W0 (cxOf CX0 P w K mg base ["heap", "cell", "step", "value"] "attach" (defScope (top 43)) (He.fAd K ("attach", none)) cdv A outer s H E0).nox (defBody (top 43)) m40 := by
  have G : GOk K (gm K) g0 := gok B
  exact (sss_one (ss_if (st_cmp2 (o_in2 G (hu66 hr)) (se_meth (c := 1) (He.cls_ok (B.c.fact 30 rfl)) (He.meth_ok (B.c.fact 60 rfl)) (r41 B) (hr.mono (by decide)) (se_var 0) (sa_cons (se_var 1) sa_nil)) (se_tup (sa_cons se_str (sa_cons se_str sa_nil)))) (sss_one (ss_expr (se_meth (c := 1) (He.cls_ok (B.c.fact 30 rfl)) (He.meth_ok (B.c.fact 61 rfl)) (r43 B) (hr.mono (by decide)) (se_var 0) (sa_cons (se_var 1) (sa_cons (se_var 3) sa_nil))))) (sss_one (ss_expr (se_meth (c := 1) (He.cls_ok (B.c.fact 30 rfl)) (He.meth_ok (B.c.fact 41 rfl)) (r24 B) (hr.mono (by decide)) (se_var 0) (sa_cons (se_var 1) (sa_cons (se_var 2) (sa_cons (se_var 3) sa_nil))))))))
theorem kp40 (B : Bd K hh mg) : PySem.W.keepIn K (.ref (He.fAd K ("attach", none))) = true := by obtain ⟨fd, F⟩ := B.c.def_ 40 (d := d40) rfl; exact F.kp
def f40 : MF := mDef 4 0 m40
theorem o40 (B : Bd K hh mg) : ∃ fd, FnOk P w K mg base CX0 5 (He.fAd K ("attach", none)) fd ["heap", "cell", "step", "value"] (SpM (gm K) 4 f40) ∧ FunD K d40.name d40.qual d40.params d40.body d40.scope (d40.dvs K) (d40.kws K) (He.fAd K ("attach", none)) fd := by
  obtain ⟨fd, F⟩ := B.c.def_ 40 (d := d40) rfl
  exact ⟨fd, fn_okM (ps := ["heap", "cell", "step", "value"]) F sc40 rfl rfl (fun cdv A outer s H hr => b40 B cdv A outer s H hr), F⟩
theorem r40 (B : Bd K hh mg) : FnR P w K mg base CX0 5 (He.fAd K ("attach", none)) (SpM (gm K) 4 f40) := by
  obtain ⟨fd, F, D⟩ := o40 (P := P) (w := w) (base := base) B
  exact fnM_all F (FunD.bindsN (ps := ["heap", "cell", "step", "value"]) D fun _ _ _ _ _ _ us hl => match us, hl with | [_, _, _, _], _ => rfl)
/-! ### Copying.deliver -/
theorem sc38 : FnScope ["self", "value", "frame"] ["self", "value"] (defScope (inClass (top 45) 10)) := ⟨rfl, rfl, rfl, by decide +kernel, rfl, by decide +kernel, by decide +kernel⟩
def m38 : MS := (mSeqT (mIfS (mTest (mBin (fEq3 g0 false) (mFld g0 "stack" (mVar 0)) (mLst mNil))) (mSeqT (mSetF g0 "found" (mVar 0) (mVar 1)) (mSeqT (mDrop (mMeth 8 "be_over" f39 1 (mVar 0) mNil)) mRetN)) mNext) (mSeqT (mAsg (mBin (fIx g0) (mFld g0 "stack" (mVar 0)) (mC (.int (-1)))) (mgName 2)) (mIfS (mTest (mBin (fIsN true) (mFld g0 "copy" (mVar 2)) (mC .non))) (mDrop (mCall f40 4 (mCons (mFld g0 "heap" (mVar 0)) (mCons (mFld g0 "copy" (mVar 2)) (mCons (mFld g0 "place" (mVar 2)) (mCons (mVar 1) mNil)))))) (mSeqT (mDrop (mMt fAppend (mFld g0 "gathered" (mVar 2)) (mCons (mVar 1) mNil))) (mAsg (mVar 1) (mgSub (mFld g0 "kept_back" (mVar 2)) (mFld g0 "place" (mVar 2))))))))
theorem b38 (B : Bd K hh mg) (cdv : Value) (A : Around) (outer : List Env) (s : Shared) (H : Hp) (hr : Room 5 (A.deeper (envOfC "Copying.deliver" (defScope (inClass (top 45) 10)) s.heap.objs.size (He.fAd K ("Copying", some "deliver")) cdv))) : SSs (gm K) W0 (cxOf CX0 P w K mg base ["self", "value", "frame"] "Copying.deliver" (defScope (inClass (top 45) 10)) (He.fAd K ("Copying", some "deliver")) cdv A outer s H E0).nox (defBody (inClass (top 45) 10)) m38 := by
  have G : GOk K (gm K) g0 := gok B
  exact (sss_consT (ss_if (st_cmp2 (o_eq3 G (hu66 hr)) (se_fld G (se_var 0)) (se_lst sa_nil)) (sss_consT (ss_setF G (se_var 0) (se_var 1)) (sss_consT (ss_expr (se_meth0 (c := 8) (He.cls_ok (B.c.fact 57 rfl)) (He.meth_ok (B.c.fact 58 rfl)) (r39 B) (hr.mono (by decide)) (se_var 0))) (sss_one ss_retN))) sss_nil) (sss_consT (ss_set sc38.nd (se_ix2 (o_ix G (hu1 hr)) (se_fld G (se_var 0)) se_negc)) (sss_one (ss_if (st_cmp2 o_notN (se_fld G (se_var 2)) se_non) (sss_one (ss_expr (se_call (r40 B) (hr.mono (by decide)) (He.glo_ok B.X B.G (B.c.fact 62 rfl)) (kp40 B) (sa_cons (se_fld G (se_var 0)) (sa_cons (se_fld G (se_var 2)) (sa_cons (se_fld G (se_var 2)) (sa_cons (se_var 1) sa_nil))))))) (sss_consT (ss_expr (se_bm PySem.F.slot_list_append PySem.F.type_list_append mt2_append (se_fld G (se_var 2)) (sa_cons (se_var 1) sa_nil))) (sss_one (ss_asg (se_var 1) (sg_sub (W := W0) (hu1 hr) (se_fld G (se_var 2)) (se_fld G (se_var 2))))))))))
theorem kp38 (B : Bd K hh mg) : PySem.W.keepIn K (.ref (He.fAd K ("Copying", some "deliver"))) = true := by obtain ⟨fd, F⟩ := B.c.def_ 38 (d := d38) rfl; exact F.kp
def f38 : MF := mDef 2 1 m38
theorem o38 (B : Bd K hh mg) : ∃ fd, FnOk P w K mg base CX0 6 (He.fAd K ("Copying", some "deliver")) fd ["self", "value"] (SpM (gm K) 2 f38) ∧ FunD K d38.name d38.qual d38.params d38.body d38.scope (d38.dvs K) (d38.kws K) (He.fAd K ("Copying", some "deliver")) fd := by
  obtain ⟨fd, F⟩ := B.c.def_ 38 (d := d38) rfl
  exact ⟨fd, fn_okM (ps := ["self", "value"]) F sc38 rfl rfl (fun cdv A outer s H hr => b38 B cdv A outer s H hr), F⟩
theorem r38 (B : Bd K hh mg) : FnR P w K mg base CX0 6 (He.fAd K ("Copying", some "deliver")) (SpM (gm K) 2 f38) := by
  obtain ⟨fd, F, D⟩ := o38 (P := P) (w := w) (base := base) B
  exact fnM_all F (FunD.bindsN (ps := ["self", "value"]) D fun _ _ _ _ _ _ us hl => match us, hl with | [_, _], _ => rfl)
/-! ### Memo.__len__ -/
theorem sc44 : FnScope ["self"] ["self"] (defScope (inClass (top 40) 4)) := ⟨rfl, rfl, rfl, by decide +kernel, rfl, by decide +kernel, by decide +kernel⟩
def m44 : MS := (mRet (mCb (fLen g0) (mCons (mFld g0 "entered" (mBin (fIx g0) (mFld g0 "memos" (mFld g0 "heap" (mVar 0))) (mFld g0 "number" (mVar 0)))) mNil)))
theorem b44 (B : Bd K hh mg) (cdv : Value) (A : Around) (outer : List Env) (s : Shared) (H : Hp) (hr : Room 0 (A.deeper (envOfC "Memo.__len__" (defScope (inClass (top 40) 4)) s.heap.objs.size (He.fAd K ("Memo", some "__len__")) cdv))) : SSs (gm K) W0 (cxOf CX0 P w K mg base ["self"] "Memo.__len__" (defScope (inClass (top 40) 4)) (He.fAd K ("Memo", some "__len__")) cdv A outer s H E0).nox (defBody (inClass (top 40) 4)) m44 := by
  have G : GOk K (gm K) g0 := gok B
  exact (sss_one (ss_ret (se_callB (id := "len") (cb_len G) (He.free_ok B.X B.G (B.c.fact 4 rfl)) rfl (sa_cons (se_fld G (se_ix2 (o_ix G (hu1 hr)) (se_fld G (se_fld G (se_var 0))) (se_fld G (se_var 0)))) sa_nil))))
theorem kp44 (B : Bd K hh mg) : PySem.W.keepIn K (.ref (He.fAd K ("Memo", some "__len__"))) = true := by obtain ⟨fd, F⟩ := B.c.def_ 44 (d := d44) rfl; exact F.kp
def f44 : MF := mDef 1 0 m44
theorem o44 (B : Bd K hh mg) : ∃ fd, FnOk P w K mg base CX0 1 (He.fAd K ("Memo", some "__len__")) fd ["self"] (SpM (gm K) 1 f44) ∧ FunD K d44.name d44.qual d44.params d44.body d44.scope (d44.dvs K) (d44.kws K) (He.fAd K ("Memo", some "__len__")) fd := by
  obtain ⟨fd, F⟩ := B.c.def_ 44 (d := d44) rfl
  exact ⟨fd, fn_okM (ps := ["self"]) F sc44 rfl rfl (fun cdv A outer s H hr => b44 B cdv A outer s H hr), F⟩
theorem r44 (B : Bd K hh mg) : FnR P w K mg base CX0 1 (He.fAd K ("Memo", some "__len__")) (SpM (gm K) 1 f44) := by
  obtain ⟨fd, F, D⟩ := o44 (P := P) (w := w) (base := base) B
  exact fnM_all F (FunD.bindsN (ps := ["self"]) D fun _ _ _ _ _ _ us hl => match us, hl with | [_], _ => rfl)
/-! ### Frame.__init__ -/
theorem sc45 : FnScope ["self", "cell", "size"] ["self", "cell", "size"] (defScope (inClass (top 44) 0)) := ⟨rfl, rfl, rfl, by decide +kernel, rfl, by decide +kernel, by decide +kernel⟩
def m45 : MS := (mSeqT (mSetF g0 "of_cell" (mVar 0) (mVar 1)) (mSeqT (mSetF g0 "size" (mVar 0) (mVar 2)) (mSeqT (mSetF g0 "copy" (mVar 0) (mC .non)) (mSeqT (mSetF g0 "at" (mVar 0) (mC (.int 0))) (mSeqT (mSetF g0 "place" (mVar 0) (mC .non)) (mSeqT (mSetF g0 "ahead" (mVar 0) (mLst mNil)) (mSeqT (mSetF g0 "gathered" (mVar 0) (mLst mNil)) (mSetF g0 "kept_back" (mVar 0) mDict0))))))))
theorem b45 (B : Bd K hh mg) (cdv : Value) (A : Around) (outer : List Env) (s : Shared) (H : Hp) (hr : Room 0 (A.deeper (envOfC "Frame.__init__" (defScope (inClass (top 44) 0)) s.heap.objs.size (He.fAd K ("Frame", some "__init__")) cdv))) : SSs (gm K) W0 (cxOf CX0 P w K mg base ["self", "cell", "size"] "Frame.__init__" (defScope (inClass (top 44) 0)) (He.fAd K ("Frame", some "__init__")) cdv A outer s H E0).nox (defBody (inClass (top 44) 0)) m45 := by
  have G : GOk K (gm K) g0 := gok B
  exact (sss_consT (ss_setF G (se_var 0) (se_var 1)) (sss_consT (ss_setF G (se_var 0) (se_var 2)) (sss_consT (ss_setF G (se_var 0) se_non) (sss_consT (ss_setF G (se_var 0) se_int) (sss_consT (ss_setF G (se_var 0) se_non) (sss_consT (ss_setF G (se_var 0) (se_lst sa_nil)) (sss_consT (ss_setF G (se_var 0) (se_lst sa_nil)) (sss_one (ss_setF G (se_var 0) se_dict0)))))))))
theorem kp45 (B : Bd K hh mg) : PySem.W.keepIn K (.ref (He.fAd K ("Frame", some "__init__"))) = true := by obtain ⟨fd, F⟩ := B.c.def_ 45 (d := d45) rfl; exact F.kp
def f45 : MF := mDef 3 0 m45
theorem o45 (B : Bd K hh mg) : ∃ fd, FnOk P w K mg base CX0 1 (He.fAd K ("Frame", some "__init__")) fd ["self", "cell", "size"] (SpM (gm K) 3 f45) ∧ FunD K d45.name d45.qual d45.params d45.body d45.scope (d45.dvs K) (d45.kws K) (He.fAd K ("Frame", some "__init__")) fd := by
  obtain ⟨fd, F⟩ := B.c.def_ 45 (d := d45) rfl
  exact ⟨fd, fn_okM (ps := ["self", "cell", "size"]) F sc45 rfl rfl (fun cdv A outer s H hr => b45 B cdv A outer s H hr), F⟩
theorem r45 (B : Bd K hh mg) : FnR P w K mg base CX0 1 (He.fAd K ("Frame", some "__init__")) (SpM (gm K) 3 f45) := by
  obtain ⟨fd, F, D⟩ := o45 (P := P) (w := w) (base := base) B
  exact fnM_all F (FunD.bindsN (ps := ["self", "cell", "size"]) D fun _ _ _ _ _ _ us hl => match us, hl with | [_, _, _], _ => rfl)
/-! ### Shape.deep_hook -/
theorem sc47 : FnScope ["self"] ["self"] (defScope (inClass (top 38) 5)) := ⟨rfl, rfl, rfl, by decide +kernel, rfl, by decide +kernel, by decide +kernel⟩
def m47 : MS := (mRet (mFld g0 "deep_steps" (mVar 0)))
theorem b47 (B : Bd K hh mg) (cdv : Value) (A : Around) (outer : List Env) (s : Shared) (H : Hp) (hr : Room 0 (A.deeper (envOfC "Shape.deep_hook" (defScope (inClass (top 38) 5)) s.heap.objs.size (gP K "Shape" "deep_hook") cdv))) : SSs (gm K) W0 (cxOf CX0 P w K mg base ["self"] "Shape.deep_hook" (defScope (inClass (top 38) 5)) (gP K "Shape" "deep_hook") cdv A outer s H E0).nox (defBody (inClass (top 38) 5)) m47 := by
  have G : GOk K (gm K) g0 := gok B
  exact (sss_one (ss_ret (se_fld G (se_var 0))))
theorem kp47 (B : Bd K hh mg) : PySem.W.keepIn K (.ref (gP K "Shape" "deep_hook")) = true := by obtain ⟨fd, F⟩ := B.c.def_ 47 (d := d47) rfl; exact F.kp
def f47 : MF := mDef 1 0 m47
theorem o47 (B : Bd K hh mg) : ∃ fd, FnOk P w K mg base CX0 1 (gP K "Shape" "deep_hook") fd ["self"] (SpM (gm K) 1 f47) ∧ FunD K d47.name d47.qual d47.params d47.body d47.scope (d47.dvs K) (d47.kws K) (gP K "Shape" "deep_hook") fd := by
  obtain ⟨fd, F⟩ := B.c.def_ 47 (d := d47) rfl
  exact ⟨fd, fn_okM (ps := ["self"]) F sc47 rfl rfl (fun cdv A outer s H hr => b47 B cdv A outer s H hr), F⟩
theorem r47 (B : Bd K hh mg) : FnR P w K mg base CX0 1 (gP K "Shape" "deep_hook") (SpM (gm K) 1 f47) := by
  obtain ⟨fd, F, D⟩ := o47 (P := P) (w := w) (base := base) B
  exact fnM_all F (FunD.bindsN (ps := ["self"]) D fun _ _ _ _ _ _ us hl => match us, hl with | [_], _ => rfl)
theorem p47 (B : Bd K hh mg) : ∃ fd, FnOk P w K mg base CX0 1 (gP K "Shape" "deep_hook") fd ["self"] (SpM (gm K) 1 f47) ∧ L2.Binds K fd ["self"] [] := by
  obtain ⟨fd, F, D⟩ := o47 (P := P) (w := w) (base := base) B
  exact ⟨fd, F, FunD.bindsN (ps := ["self"]) D fun _ _ _ _ _ _ us hl => match us, hl with | [_], _ => rfl⟩
/-! ### Shape.form -/
theorem sc49 : FnScope ["self"] ["self"] (defScope (inClass (top 38) 7)) := ⟨rfl, rfl, rfl, by decide +kernel, rfl, by decide +kernel, by decide +kernel⟩
def m49 : MS := (mRet (mIf (mTest (mBin (fIsN false) (mFld g0 "deep_steps" (mVar 0)) (mC .non))) (mC (.str "plain")) (mCall f7 2 (mCons (mFld g0 "deep_steps" (mVar 0)) (mCons (mFld g0 "field_names" (mVar 0)) mNil)))))
theorem b49 (B : Bd K hh mg) (cdv : Value) (A : Around) (outer : List Env) (s : Shared) (H : Hp) (hr : Room 5 (A.deeper (envOfC "Shape.form" (defScope (inClass (top 38) 7)) s.heap.objs.size (gP K "Shape" "form") cdv))) : SSs (gm K) W0 (cxOf CX0 P w K mg base ["self"] "Shape.form" (defScope (inClass (top 38) 7)) (gP K "Shape" "form") cdv A outer s H E0).nox (defBody (inClass (top 38) 7)) m49 := by
  have G : GOk K (gm K) g0 := gok B
  exact (sss_one (ss_ret (se_if (st_cmp2 o_isN (se_fld G (se_var 0)) se_non) (se_gstr (He.str_ok B.X B.G (B.c.fact 69 rfl))) (se_call (r7 B) (hr.mono (by decide)) (He.glo_ok B.X B.G (B.c.fact 22 rfl)) (kp7 B) (sa_cons (se_fld G (se_var 0)) (sa_cons (se_fld G (se_var 0)) sa_nil))))))
theorem kp49 (B : Bd K hh mg) : PySem.W.keepIn K (.ref (gP K "Shape" "form")) = true := by obtain ⟨fd, F⟩ := B.c.def_ 49 (d := d49) rfl; exact F.kp
def f49 : MF := mDef 1 0 m49
theorem o49 (B : Bd K hh mg) : ∃ fd, FnOk P w K mg base CX0 6 (gP K "Shape" "form") fd ["self"] (SpM (gm K) 1 f49) ∧ FunD K d49.name d49.qual d49.params d49.body d49.scope (d49.dvs K) (d49.kws K) (gP K "Shape" "form") fd := by
  obtain ⟨fd, F⟩ := B.c.def_ 49 (d := d49) rfl
  exact ⟨fd, fn_okM (ps := ["self"]) F sc49 rfl rfl (fun cdv A outer s H hr => b49 B cdv A outer s H hr), F⟩
theorem r49 (B : Bd K hh mg) : FnR P w K mg base CX0 6 (gP K "Shape" "form") (SpM (gm K) 1 f49) := by
  obtain ⟨fd, F, D⟩ := o49 (P := P) (w := w) (base := base) B
  exact fnM_all F (FunD.bindsN (ps := ["self"]) D fun _ _ _ _ _ _ us hl => match us, hl with | [_], _ => rfl)
theorem p49 (B : Bd K hh mg) : ∃ fd, FnOk P w K mg base CX0 6 (gP K "Shape" "form") fd ["self"] (SpM (gm K) 1 f49) ∧ L2.Binds K fd ["self"] [] := by
  obtain ⟨fd, F, D⟩ := o49 (P := P) (w := w) (base := base) B
  exact ⟨fd, F, FunD.bindsN (ps := ["self"]) D fun _ _ _ _ _ _ us hl => match us, hl with | [_], _ => rfl⟩
/-! ### Memo.enter_for -/
theorem sc50 : FnScope ["self", "cell", "value", "held"] ["self", "cell", "value"] (defScope (inClass (top 40) 8)) := ⟨rfl, rfl, rfl, by decide +kernel, rfl, by decide +kernel, by decide +kernel⟩
def m50 : MS := (mSeqT (mAsg (mBin (fIx g0) (mFld g0 "memos" (mFld g0 "heap" (mVar 0))) (mFld g0 "number" (mVar 0))) (mgName 3)) (mAsg (mVar 2) (mgSub (mFld g0 "entered" (mVar 3)) (mVar 1))))
theorem b50 (B : Bd K hh mg) (cdv : Value) (A : Around) (outer : List Env) (s : Shared) (H : Hp) (hr : Room 0 (A.deeper (envOfC "Memo.enter_for" (defScope (inClass (top 40) 8)) s.heap.objs.size (He.fAd K ("Memo", some "enter_for")) cdv))) : SSs (gm K) W0 (cxOf CX0 P w K mg base ["self", "cell", "value", "held"] "Memo.enter_for" (defScope (inClass (top 40) 8)) (He.fAd K ("Memo", some "enter_for")) cdv A outer s H E0).nox (defBody (inClass (top 40) 8)) m50 := by
  have G : GOk K (gm K) g0 := gok B
  exact (sss_consT (ss_set sc50.nd (se_ix2 (o_ix G (hu1 hr)) (se_fld G (se_fld G (se_var 0))) (se_fld G (se_var 0)))) (sss_one (ss_asg (se_var 2) (sg_sub (W := W0) (hu1 hr) (se_fld G (se_var 3)) (se_var 1)))))
theorem kp50 (B : Bd K hh mg) : PySem.W.keepIn K (.ref (He.fAd K ("Memo", some "enter_for"))) = true := by obtain ⟨fd, F⟩ := B.c.def_ 50 (d := d50) rfl; exact F.kp
def f50 : MF := mDef 3 1 m50
theorem o50 (B : Bd K hh mg) : ∃ fd, FnOk P w K mg base CX0 1 (He.fAd K ("Memo", some "enter_for")) fd ["self", "cell", "value"] (SpM (gm K) 3 f50) ∧ FunD K d50.name d50.qual d50.params d50.body d50.scope (d50.dvs K) (d50.kws K) (He.fAd K ("Memo", some "enter_for")) fd := by
  obtain ⟨fd, F⟩ := B.c.def_ 50 (d := d50) rfl
  exact ⟨fd, fn_okM (ps := ["self", "cell", "value"]) F sc50 rfl rfl (fun cdv A outer s H hr => b50 B cdv A outer s H hr), F⟩
theorem r50 (B : Bd K hh mg) : FnR P w K mg base CX0 1 (He.fAd K ("Memo", some "enter_for")) (SpM (gm K) 3 f50) := by
  obtain ⟨fd, F, D⟩ := o50 (P := P) (w := w) (base := base) B
  exact fnM_all F (FunD.bindsN (ps := ["self", "cell", "value"]) D fun _ _ _ _ _ _ us hl => match us, hl with | [_, _, _], _ => rfl)
/-! ### Copying.close -/
theorem sc51 : FnScope ["self", "entry", "value"] ["self", "entry", "value"] (defScope (inClass (top 45) 12)) := ⟨rfl, rfl, rfl, by decide +kernel, rfl, by decide +kernel, by decide +kernel⟩
def m51 : MS := (mSeqT (mDrop (mMt fPop (mFld g0 "stack" (mVar 0)) mNil)) (mSeqT (mDrop (mMt fAppend (mFld g0 "written" (mVar 0)) (mCons (mVar 1) mNil))) (mDrop (mMeth 8 "deliver" f38 2 (mVar 0) (mCons (mVar 2) mNil)))))
theorem b51 (B : Bd K hh mg) (cdv : Value) (A : Around) (outer : List Env) (s : Shared) (H : Hp) (hr : Room 6 (A.deeper (envOfC "Copying.close" (defScope (inClass (top 45) 12)) s.heap.objs.size (He.fAd K ("Copying", some "close")) cdv))) : SSs (gm K) W0 (cxOf CX0 P w K mg base ["self", "entry", "value"] "Copying.close" (defScope (inClass (top 45) 12)) (He.fAd K ("Copying", some "close")) cdv A outer s H E0).nox (defBody (inClass (top 45) 12)) m51 := by
  have G : GOk K (gm K) g0 := gok B
  exact (sss_consT (ss_expr (se_bm0 PySem.F.slot_list_pop PySem.F.type_list_pop mt2_pop (se_fld G (se_var 0)))) (sss_consT (ss_expr (se_bm PySem.F.slot_list_append PySem.F.type_list_append mt2_append (se_fld G (se_var 0)) (sa_cons (se_var 1) sa_nil))) (sss_one (ss_expr (se_meth (c := 8) (He.cls_ok (B.c.fact 57 rfl)) (He.meth_ok (B.c.fact 63 rfl)) (r38 B) (hr.mono (by decide)) (se_var 0) (sa_cons (se_var 2) sa_nil))))))
theorem kp51 (B : Bd K hh mg) : PySem.W.keepIn K (.ref (He.fAd K ("Copying", some "close"))) = true := by obtain ⟨fd, F⟩ := B.c.def_ 51 (d := d51) rfl; exact F.kp
def f51 : MF := mDef 3 0 m51
theorem o51 (B : Bd K hh mg) : ∃ fd, FnOk P w K mg base CX0 7 (He.fAd K ("Copying", some "close")) fd ["self", "entry", "value"] (SpM (gm K) 3 f51) ∧ FunD K d51.name d51.qual d51.params d51.body d51.scope (d51.dvs K) (d51.kws K) (He.fAd K ("Copying", some "close")) fd := by
  obtain ⟨fd, F⟩ := B.c.def_ 51 (d := d51) rfl
  exact ⟨fd, fn_okM (ps := ["self", "entry", "value"]) F sc51 rfl rfl (fun cdv A outer s H hr => b51 B cdv A outer s H hr), F⟩
theorem r51 (B : Bd K hh mg) : FnR P w K mg base CX0 7 (He.fAd K ("Copying", some "close")) (SpM (gm K) 3 f51) := by
  obtain ⟨fd, F, D⟩ := o51 (P := P) (w := w) (base := base) B
  exact fnM_all F (FunD.bindsN (ps := ["self", "entry", "value"]) D fun _ _ _ _ _ _ us hl => match us, hl with | [_, _, _], _ => rfl)
/-! ### Copying.set_field -/
theorem sc52 : FnScope ["self", "frame", "field", "value"] ["self", "frame", "field", "value"] (defScope (inClass (top 45) 20)) := ⟨rfl, rfl, rfl, by decide +kernel, rfl, by decide +kernel, by decide +kernel⟩
def m52 : MS := (mIfS (mTest (mBin (fIsN true) (mFld g0 "copy" (mVar 1)) (mC .non))) (mDrop (mCall f40 4 (mCons (mFld g0 "heap" (mVar 0)) (mCons (mFld g0 "copy" (mVar 1)) (mCons (mVar 2) (mCons (mVar 3) mNil)))))) (mAsg (mVar 3) (mgSub (mFld g0 "kept_back" (mVar 1)) (mVar 2))))
theorem b52 (B : Bd K hh mg) (cdv : Value) (A : Around) (outer : List Env) (s : Shared) (H : Hp) (hr : Room 5 (A.deeper (envOfC "Copying.set_field" (defScope (inClass (top 45) 20)) s.heap.objs.size (He.fAd K ("Copying", some "set_field")) cdv))) : SSs (gm K) W0 (cxOf CX0 P w K mg base ["self", "frame", "field", "value"] "Copying.set_field" (defScope (inClass (top 45) 20)) (He.fAd K ("Copying", some "set_field")) cdv A outer s H E0).nox (defBody (inClass (top 45) 20)) m52 := by
  have G : GOk K (gm K) g0 := gok B
  exact (sss_one (ss_if (st_cmp2 o_notN (se_fld G (se_var 1)) se_non) (sss_one (ss_expr (se_call (r40 B) (hr.mono (by decide)) (He.glo_ok B.X B.G (B.c.fact 62 rfl)) (kp40 B) (sa_cons (se_fld G (se_var 0)) (sa_cons (se_fld G (se_var 1)) (sa_cons (se_var 2) (sa_cons (se_var 3) sa_nil))))))) (sss_one (ss_asg (se_var 3) (sg_sub (W := W0) (hu1 hr) (se_fld G (se_var 1)) (se_var 2))))))
theorem kp52 (B : Bd K hh mg) : PySem.W.keepIn K (.ref (He.fAd K ("Copying", some "set_field"))) = true := by obtain ⟨fd, F⟩ := B.c.def_ 52 (d := d52) rfl; exact F.kp
def f52 : MF := mDef 4 0 m52
theorem o52 (B : Bd K hh mg) : ∃ fd, FnOk P w K mg base CX0 6 (He.fAd K ("Copying", some "set_field")) fd ["self", "frame", "field", "value"] (SpM (gm K) 4 f52) ∧ FunD K d52.name d52.qual d52.params d52.body d52.scope (d52.dvs K) (d52.kws K) (He.fAd K ("Copying", some "set_field")) fd := by
  obtain ⟨fd, F⟩ := B.c.def_ 52 (d := d52) rfl
  exact ⟨fd, fn_okM (ps := ["self", "frame", "field", "value"]) F sc52 rfl rfl (fun cdv A outer s H hr => b52 B cdv A outer s H hr), F⟩
theorem r52 (B : Bd K hh mg) : FnR P w K mg base CX0 6 (He.fAd K ("Copying", some "set_field")) (SpM (gm K) 4 f52) := by
  obtain ⟨fd, F, D⟩ := o52 (P := P) (w := w) (base := base) B
  exact fnM_all F (FunD.bindsN (ps := ["self", "frame", "field", "value"]) D fun _ _ _ _ _ _ us hl => match us, hl with | [_, _, _, _], _ => rfl)
/-! ### Heap.steps_and_values -/
theorem sc55 : FnScope ["self", "cell", "found", "step"] ["self", "cell"] (defScope (inClass (top 80) 11)) := ⟨rfl, rfl, rfl, by decide +kernel, rfl, by decide +kernel, by decide +kernel⟩
def m55 : MS := (mSeqT (mAsg (mBin (fIx g0) (mFld g0 "cells" (mVar 0)) (mVar 1)) (mgName 2)) (mSeqT (mIfS (mTest (mIsi isList (mFld g0 "held" (mVar 2)))) (mRet (mListEnum g0 (mFld g0 "held" (mVar 2)))) mNext) (mSeqT (mIfS (mTest (mBin (fEq3 g0 false) (mFld g0 "family" (mVar 2)) (mC (.str "dict")))) (mRet (mListItems (mFld g0 "held" (mVar 2)))) mNext) (mRet (mLc g0 300 [3] (miAny g0 (mProp 0 f16 (mFld g0 "design" (mVar 2)))) (mgName 3) (mTest (mBin (fIn2 g0 false) (mVar 3) (mFld g0 "held" (mVar 2)))) (mTup (mCons (mVar 3) (mCons (mBin (fIx g0) (mFld g0 "held" (mVar 2)) (mVar 3)) mNil))))))))
theorem b55 (B : Bd K hh mg) (cdv : Value) (A : Around) (outer : List Env) (s : Shared) (H : Hp) (hr : Room 2 (A.deeper (envOfC "Heap.steps_and_values" (defScope (inClass (top 80) 11)) s.heap.objs.size (He.fAd K ("Heap", some "steps_and_values")) cdv))) : SSs (gm K) W0 (cxOf CX0 P w K mg base ["self", "cell", "found", "step"] "Heap.steps_and_values" (defScope (inClass (top 80) 11)) (He.fAd K ("Heap", some "steps_and_values")) cdv A outer s H E0).nox (defBody (inClass (top 80) 11)) m55 := by
  have G : GOk K (gm K) g0 := gok B
  exact (sss_consT (ss_set sc55.nd (se_ix2 (o_ix G (hu1 hr)) (se_fld G (se_var 0)) (se_var 1))) (sss_consT (ss_if (st_val (se_isi (isList_ok K) (se_fld G (se_var 2)) (He.free_ok B.X B.G (B.c.fact 6 rfl)) (He.free_ok B.X B.G (B.c.fact 37 rfl)) rfl)) (sss_one (ss_ret (se_listEnum G rfl (se_fld G (se_var 2)) (He.free_ok B.X B.G (B.c.fact 37 rfl)) (He.free_ok B.X B.G (B.c.fact 72 rfl))))) sss_nil) (sss_consT (ss_if (st_cmp2 (o_eq3 G (hu66 hr)) (se_fld G (se_var 2)) se_str) (sss_one (ss_ret (se_listItems rfl (se_fld G (se_var 2)) (He.free_ok B.X B.G (B.c.fact 37 rfl))))) sss_nil) (sss_one (ss_ret (se_lc (own := [("step", 3)]) 300 rfl sc55.nd (si_any G (se_prop2 (c := 0) (He.cls_ok (B.c.fact 0 rfl)) (prop_Shape_fields B) (p16 B) (hr.mono (by decide)) (se_fld G (se_var 2)))) (show BlkOk ["self", "cell", "found", "step"] (defScope (inClass (top 80) 11)) _ [("step", 3)] from ⟨rfl, by decide +kernel, by decide +kernel, by decide +kernel, by decide +kernel⟩) (fun _ _ _ _ _ => (sg_name sc55.nd)) (fun _ _ _ _ _ => ST.pts1 (st_cmp2 (o_in2 G (hu66 hr)) (se_var 3) (se_fld G (se_var 2)))) (fun _ _ _ _ _ => (se_tup (sa_cons (se_var 3) (sa_cons (se_ix2 (o_ix G (hu1 hr)) (se_fld G (se_var 2)) (se_var 3)) sa_nil))))))))))
theorem kp55 (B : Bd K hh mg) : PySem.W.keepIn K (.ref (He.fAd K ("Heap", some "steps_and_values"))) = true := by obtain ⟨fd, F⟩ := B.c.def_ 55 (d := d55) rfl; exact F.kp
def f55 : MF := mDef 2 2 m55
theorem o55 (B : Bd K hh mg) : ∃ fd, FnOk P w K mg base CX0 3 (He.fAd K ("Heap", some "steps_and_values")) fd ["self", "cell"] (SpM (gm K) 2 f55) ∧ FunD K d55.name d55.qual d55.params d55.body d55.scope (d55.dvs K) (d55.kws K) (He.fAd K ("Heap", some "steps_and_values")) fd := by
  obtain ⟨fd, F⟩ := B.c.def_ 55 (d := d55) rfl
  exact ⟨fd, fn_okM (ps := ["self", "cell"]) F sc55 rfl rfl (fun cdv A outer s H hr => b55 B cdv A outer s H hr), F⟩
theorem r55 (B : Bd K hh mg) : FnR P w K mg base CX0 3 (He.fAd K ("Heap", some "steps_and_values")) (SpM (gm K) 2 f55) := by
  obtain ⟨fd, F, D⟩ := o55 (P := P) (w := w) (base := base) B
  exact fnM_all F (FunD.bindsN (ps := ["self", "cell"]) D fun _ _ _ _ _ _ us hl => match us, hl with | [_, _], _ => rfl)
/-! ### Heap.parts -/
theorem sc54 : FnScope ["self", "cell"] ["self", "cell"] (defScope (inClass (top 80) 17)) := ⟨rfl, rfl, rfl, by decide +kernel, rfl, by decide +kernel, by decide +kernel⟩
def m54 : MS := (mSeqT (mDrop (mMeth 1 "cell_of" f42 2 (mVar 0) (mCons (mVar 1) mNil))) (mRet (mMeth 1 "steps_and_values" f55 2 (mVar 0) (mCons (mVar 1) mNil))))
theorem b54 (B : Bd K hh mg) (cdv : Value) (A : Around) (outer : List Env) (s : Shared) (H : Hp) (hr : Room 3 (A.deeper (envOfC "Heap.parts" (defScope (inClass (top 80) 17)) s.heap.objs.size (He.fAd K ("Heap", some "parts")) cdv))) : SSs (gm K) W0 (cxOf CX0 P w K mg base ["self", "cell"] "Heap.parts" (defScope (inClass (top 80) 17)) (He.fAd K ("Heap", some "parts")) cdv A outer s H E0).nox (defBody (inClass (top 80) 17)) m54 := by
  have G : GOk K (gm K) g0 := gok B
  exact (sss_consT (ss_expr (se_meth (c := 1) (He.cls_ok (B.c.fact 30 rfl)) (He.meth_ok (B.c.fact 59 rfl)) (r42 B) (hr.mono (by decide)) (se_var 0) (sa_cons (se_var 1) sa_nil))) (sss_one (ss_ret (se_meth (c := 1) (He.cls_ok (B.c.fact 30 rfl)) (He.meth_ok (B.c.fact 73 rfl)) (r55 B) (hr.mono (by decide)) (se_var 0) (sa_cons (se_var 1) sa_nil)))))
theorem kp54 (B : Bd K hh mg) : PySem.W.keepIn K (.ref (He.fAd K ("Heap", some "parts"))) = true := by obtain ⟨fd, F⟩ := B.c.def_ 54 (d := d54) rfl; exact F.kp
def f54 : MF := mDef 2 0 m54
theorem o54 (B : Bd K hh mg) : ∃ fd, FnOk P w K mg base CX0 4 (He.fAd K ("Heap", some "parts")) fd ["self", "cell"] (SpM (gm K) 2 f54) ∧ FunD K d54.name d54.qual d54.params d54.body d54.scope (d54.dvs K) (d54.kws K) (He.fAd K ("Heap", some "parts")) fd := by
  obtain ⟨fd, F⟩ := B.c.def_ 54 (d := d54) rfl
  exact ⟨fd, fn_okM (ps := ["self", "cell"]) F sc54 rfl rfl (fun cdv A outer s H hr => b54 B cdv A outer s H hr), F⟩
theorem r54 (B : Bd K hh mg) : FnR P w K mg base CX0 4 (He.fAd K ("Heap", some "parts")) (SpM (gm K) 2 f54) := by
  obtain ⟨fd, F, D⟩ := o54 (P := P) (w := w) (base := base) B
  exact fnM_all F (FunD.bindsN (ps := ["self", "cell"]) D fun _ _ _ _ _ _ us hl => match us, hl with | [_, _], _ => rfl)
/-! ### Copying.field_of -/
theorem sc53 : FnScope ["self", "cell", "field"] ["self", "cell", "field"] (defScope (inClass (top 45) 19)) := ⟨rfl, rfl, rfl, by decide +kernel, rfl, by decide +kernel, by decide +kernel⟩
def m53 : MS := (mRet (mGet1 (mCb (fDict g0) (mCons (mMeth 1 "parts" f54 2 (mFld g0 "heap" (mVar 0)) (mCons (mVar 1) mNil)) mNil)) (mVar 2)))
theorem b53 (B : Bd K hh mg) (cdv : Value) (A : Around) (outer : List Env) (s : Shared) (H : Hp) (hr : Room 4 (A.deeper (envOfC "Copying.field_of" (defScope (inClass (top 45) 19)) s.heap.objs.size (He.fAd K ("Copying", some "field_of")) cdv))) : SSs (gm K) W0 (cxOf CX0 P w K mg base ["self", "cell", "field"] "Copying.field_of" (defScope (inClass (top 45) 19)) (He.fAd K ("Copying", some "field_of")) cdv A outer s H E0).nox (defBody (inClass (top 45) 19)) m53 := by
  have G : GOk K (gm K) g0 := gok B
  exact (sss_one (ss_ret (se_get1 (hu1 hr) (se_callTy (T := "dict") (cb_dict G rfl) (He.free_ok B.X B.G (B.c.fact 75 rfl)) rfl (sa_cons (se_meth (c := 1) (He.cls_ok (B.c.fact 30 rfl)) (He.meth_ok (B.c.fact 74 rfl)) (r54 B) (hr.mono (by decide)) (se_fld G (se_var 0)) (sa_cons (se_var 1) sa_nil)) sa_nil)) (se_var 2))))
theorem kp53 (B : Bd K hh mg) : PySem.W.keepIn K (.ref (He.fAd K ("Copying", some "field_of"))) = true := by obtain ⟨fd, F⟩ := B.c.def_ 53 (d := d53) rfl; exact F.kp
def f53 : MF := mDef 3 0 m53
theorem o53 (B : Bd K hh mg) : ∃ fd, FnOk P w K mg base CX0 5 (He.fAd K ("Copying", some "field_of")) fd ["self", "cell", "field"] (SpM (gm K) 3 f53) ∧ FunD K d53.name d53.qual d53.params d53.body d53.scope (d53.dvs K) (d53.kws K) (He.fAd K ("Copying", some "field_of")) fd := by
  obtain ⟨fd, F⟩ := B.c.def_ 53 (d := d53) rfl
  exact ⟨fd, fn_okM (ps := ["self", "cell", "field"]) F sc53 rfl rfl (fun cdv A outer s H hr => b53 B cdv A outer s H hr), F⟩
theorem r53 (B : Bd K hh mg) : FnR P w K mg base CX0 5 (He.fAd K ("Copying", some "field_of")) (SpM (gm K) 3 f53) := by
  obtain ⟨fd, F, D⟩ := o53 (P := P) (w := w) (base := base) B
  exact fnM_all F (FunD.bindsN (ps := ["self", "cell", "field"]) D fun _ _ _ _ _ _ us hl => match us, hl with | [_, _, _], _ => rfl)
/-! ### Copying.read -/
theorem sc57 : FnScope ["self", "frame", "step", "value"] ["self", "frame", "step", "value"] (defScope (inClass (top 45) 11)) := ⟨rfl, rfl, rfl, by decide +kernel, rfl, by decide +kernel, by decide +kernel⟩
def m57 : MS := (mSeqT (mAugF g0 "at" (mVar 1) (mC (.int 1))) (mSeqT (mSetF g0 "place" (mVar 1) (mVar 2)) (mSeqT (mDrop (mMt fAppend (mFld g0 "written" (mVar 0)) (mCons (mTup (mCons (mC (.str "part")) (mCons (mFld g0 "of_cell" (mVar 1)) (mCons (mVar 2) (mCons (mVar 3) mNil))))) mNil))) (mIfS (mTest (mBin (fOwn2 1 f31 fun b => bif false then !b else b) (mVar 3) (mFld g0 "heap" (mVar 0)))) (mSetF g0 "coming" (mVar 0) (mVar 3)) (mDrop (mMeth 8 "deliver" f38 2 (mVar 0) (mCons (mVar 3) mNil)))))))
theorem b57 (B : Bd K hh mg) (cdv : Value) (A : Around) (outer : List Env) (s : Shared) (H : Hp) (hr : Room 6 (A.deeper (envOfC "Copying.read" (defScope (inClass (top 45) 11)) s.heap.objs.size (He.fAd K ("Copying", some "read")) cdv))) : SSs (gm K) W0 (cxOf CX0 P w K mg base ["self", "frame", "step", "value"] "Copying.read" (defScope (inClass (top 45) 11)) (He.fAd K ("Copying", some "read")) cdv A outer s H E0).nox (defBody (inClass (top 45) 11)) m57 := by
  have G : GOk K (gm K) g0 := gok B
  exact (sss_consT (ss_augF G (se_var 1) se_int) (sss_consT (ss_setF G (se_var 1) (se_var 2)) (sss_consT (ss_expr (se_bm PySem.F.slot_list_append PySem.F.type_list_append mt2_append (se_fld G (se_var 0)) (sa_cons (se_tup (sa_cons se_str (sa_cons (se_fld G (se_var 1)) (sa_cons (se_var 2) (sa_cons (se_var 3) sa_nil))))) sa_nil))) (sss_one (ss_if (st_cmp2 (o_inOwn (c := 1) (He.meth_ok (B.c.fact 51 rfl)).at_ (He.meth_ok (B.c.fact 51 rfl)).fn (r31 B) (hr.mono (by decide))) (se_var 3) (se_fld G (se_var 0))) (sss_one (ss_setF G (se_var 0) (se_var 3))) (sss_one (ss_expr (se_meth (c := 8) (He.cls_ok (B.c.fact 57 rfl)) (He.meth_ok (B.c.fact 63 rfl)) (r38 B) (hr.mono (by decide)) (se_var 0) (sa_cons (se_var 3) sa_nil)))))))))
theorem kp57 (B : Bd K hh mg) : PySem.W.keepIn K (.ref (He.fAd K ("Copying", some "read"))) = true := by obtain ⟨fd, F⟩ := B.c.def_ 57 (d := d57) rfl; exact F.kp
def f57 : MF := mDef 4 0 m57
theorem o57 (B : Bd K hh mg) : ∃ fd, FnOk P w K mg base CX0 7 (He.fAd K ("Copying", some "read")) fd ["self", "frame", "step", "value"] (SpM (gm K) 4 f57) ∧ FunD K d57.name d57.qual d57.params d57.body d57.scope (d57.dvs K) (d57.kws K) (He.fAd K ("Copying", some "read")) fd := by
  obtain ⟨fd, F⟩ := B.c.def_ 57 (d := d57) rfl
  exact ⟨fd, fn_okM (ps := ["self", "frame", "step", "value"]) F sc57 rfl rfl (fun cdv A outer s H hr => b57 B cdv A outer s H hr), F⟩
theorem r57 (B : Bd K hh mg) : FnR P w K mg base CX0 7 (He.fAd K ("Copying", some "read")) (SpM (gm K) 4 f57) := by
  obtain ⟨fd, F, D⟩ := o57 (P := P) (w := w) (base := base) B
  exact fnM_all F (FunD.bindsN (ps := ["self", "frame", "step", "value"]) D fun _ _ _ _ _ _ us hl => match us, hl with | [_, _, _, _], _ => rfl)
/-! ### Memo.begin_half -/
theorem sc59 : FnScope ["self", "copy"] ["self", "copy"] (defScope (inClass (top 40) 9)) := ⟨rfl, rfl, rfl, by decide +kernel, rfl, by decide +kernel, by decide +kernel⟩
def m59 : MS := (mDrop (mMt fAppend (mFld g0 "open_copies" (mBin (fIx g0) (mFld g0 "memos" (mFld g0 "heap" (mVar 0))) (mFld g0 "number" (mVar 0)))) (mCons (mVar 1) mNil)))
theorem b59 (B : Bd K hh mg) (cdv : Value) (A : Around) (outer : List Env) (s : Shared) (H : Hp) (hr : Room 0 (A.deeper (envOfC "Memo.begin_half" (defScope (inClass (top 40) 9)) s.heap.objs.size (He.fAd K ("Memo", some "begin_half")) cdv))) : SSs (gm K) W0 (cxOf CX0 P w K mg base ["self", "copy"] "Memo.begin_half" (defScope (inClass (top 40) 9)) (He.fAd K ("Memo", some "begin_half")) cdv A outer s H E0).nox (defBody (inClass (top 40) 9)) m59 := by
  have G : GOk K (gm K) g0 := gok B
  exact (sss_one (ss_expr (se_bm PySem.F.slot_list_append PySem.F.type_list_append mt2_append (se_fld G (se_ix2 (o_ix G (hu1 hr)) (se_fld G (se_fld G (se_var 0))) (se_fld G (se_var 0)))) (sa_cons (se_var 1) sa_nil))))
theorem kp59 (B : Bd K hh mg) : PySem.W.keepIn K (.ref (He.fAd K ("Memo", some "begin_half"))) = true := by obtain ⟨fd, F⟩ := B.c.def_ 59 (d := d59) rfl; exact F.kp
def f59 : MF := mDef 2 0 m59
theorem o59 (B : Bd K hh mg) : ∃ fd, FnOk P w K mg base CX0 1 (He.fAd K ("Memo", some "begin_half")) fd ["self", "copy"] (SpM (gm K) 2 f59) ∧ FunD K d59.name d59.qual d59.params d59.body d59.scope (d59.dvs K) (d59.kws K) (He.fAd K ("Memo", some "begin_half")) fd := by
  obtain ⟨fd, F⟩ := B.c.def_ 59 (d := d59) rfl
  exact ⟨fd, fn_okM (ps := ["self", "copy"]) F sc59 rfl rfl (fun cdv A outer s H hr => b59 B cdv A outer s H hr), F⟩
theorem r59 (B : Bd K hh mg) : FnR P w K mg base CX0 1 (He.fAd K ("Memo", some "begin_half")) (SpM (gm K) 2 f59) := by
  obtain ⟨fd, F, D⟩ := o59 (P := P) (w := w) (base := base) B
  exact fnM_all F (FunD.bindsN (ps := ["self", "copy"]) D fun _ _ _ _ _ _ us hl => match us, hl with | [_, _], _ => rfl)
/-! ### Copying.enter -/
theorem sc58 : FnScope ["self", "frame", "field", "value"] ["self", "frame"] (defScope (inClass (top 45) 9)) := ⟨rfl, rfl, rfl, by decide +kernel, rfl, by decide +kernel, by decide +kernel⟩
def m58 : MS := (mSeqT (mSetF g0 "copy" (mVar 1) (mMeth 1 "new_cell" fd21_3 3 (mFld g0 "heap" (mVar 0)) (mCons (mMeth 1 "kind" f41 2 (mFld g0 "heap" (mVar 0)) (mCons (mFld g0 "of_cell" (mVar 1)) mNil)) (mCons (mFld g0 "design" (mBin (fIx g0) (mFld g0 "cells" (mFld g0 "heap" (mVar 0))) (mFld g0 "of_cell" (mVar 1)))) mNil)))) (mSeqT (mFor g0 300 (miDict .items (mFld g0 "kept_back" (mVar 1))) (mgTup g0 2 (mgCons (mgName 2) (mgCons (mgName 3) mgNil))) (mDrop (mCall f40 4 (mCons (mFld g0 "heap" (mVar 0)) (mCons (mFld g0 "copy" (mVar 1)) (mCons (mVar 2) (mCons (mVar 3) mNil))))))) (mSeqT (mDrop (mMeth 7 "enter_for" f50 3 (mFld g0 "own_memo" (mVar 0)) (mCons (mFld g0 "of_cell" (mVar 1)) (mCons (mFld g0 "copy" (mVar 1)) mNil)))) (mSeqT (mDrop (mMeth 7 "begin_half" f59 2 (mFld g0 "own_memo" (mVar 0)) (mCons (mFld g0 "copy" (mVar 1)) mNil))) (mDrop (mMt fAppend (mFld g0 "written" (mVar 0)) (mCons (mTup (mCons (mC (.str "enter")) (mCons (mFld g0 "of_cell" (mVar 1)) (mCons (mFld g0 "copy" (mVar 1)) mNil)))) mNil)))))))
theorem b58 (B : Bd K hh mg) (cdv : Value) (A : Around) (outer : List Env) (s : Shared) (H : Hp) (hr : Room 5 (A.deeper (envOfC "Copying.enter" (defScope (inClass (top 45) 9)) s.heap.objs.size (He.fAd K ("Copying", some "enter")) cdv))) : SSs (gm K) W0 (cxOf CX0 P w K mg base ["self", "frame", "field", "value"] "Copying.enter" (defScope (inClass (top 45) 9)) (He.fAd K ("Copying", some "enter")) cdv A outer s H E0).nox (defBody (inClass (top 45) 9)) m58 := by
  have G : GOk K (gm K) g0 := gok B
  exact (sss_consT (ss_setF G (se_var 1) (se_meth (c := 1) (He.cls_ok (B.c.fact 30 rfl)) (He.meth_ok (B.c.fact 40 rfl)) (rd21_3 B) (hr.mono (by decide)) (se_fld G (se_var 0)) (sa_cons (se_meth (c := 1) (He.cls_ok (B.c.fact 30 rfl)) (He.meth_ok (B.c.fact 60 rfl)) (r41 B) (hr.mono (by decide)) (se_fld G (se_var 0)) (sa_cons (se_fld G (se_var 1)) sa_nil)) (sa_cons (se_fld G (se_ix2 (o_ix G (hu1 hr)) (se_fld G (se_fld G (se_var 0))) (se_fld G (se_var 1)))) sa_nil)))) (sss_consT (ss_for 300 PassesOwn.never rfl (si_items (se_fld G (se_var 1))) (sg_tup G rfl (sgs_cons (sg_name sc58.nd) (sgs_cons (sg_name sc58.nd) sgs_nil))) (sss_one (ss_expr (se_call (r40 B) (hr.mono (by decide)) (He.glo_ok B.X B.G (B.c.fact 62 rfl)) (kp40 B) (sa_cons (se_fld G (se_var 0)) (sa_cons (se_fld G (se_var 1)) (sa_cons (se_var 2) (sa_cons (se_var 3) sa_nil)))))))) (sss_consT (ss_expr (se_meth (c := 7) (He.cls_ok (B.c.fact 49 rfl)) (He.meth_ok (B.c.fact 70 rfl)) (r50 B) (hr.mono (by decide)) (se_fld G (se_var 0)) (sa_cons (se_fld G (se_var 1)) (sa_cons (se_fld G (se_var 1)) sa_nil)))) (sss_consT (ss_expr (se_meth (c := 7) (He.cls_ok (B.c.fact 49 rfl)) (He.meth_ok (B.c.fact 79 rfl)) (r59 B) (hr.mono (by decide)) (se_fld G (se_var 0)) (sa_cons (se_fld G (se_var 1)) sa_nil))) (sss_one (ss_expr (se_bm PySem.F.slot_list_append PySem.F.type_list_append mt2_append (se_fld G (se_var 0)) (sa_cons (se_tup (sa_cons se_str (sa_cons (se_fld G (se_var 1)) (sa_cons (se_fld G (se_var 1)) sa_nil)))) sa_nil))))))))
theorem kp58 (B : Bd K hh mg) : PySem.W.keepIn K (.ref (He.fAd K ("Copying", some "enter"))) = true := by obtain ⟨fd, F⟩ := B.c.def_ 58 (d := d58) rfl; exact F.kp
def f58 : MF := mDef 2 2 m58
theorem o58 (B : Bd K hh mg) : ∃ fd, FnOk P w K mg base CX0 6 (He.fAd K ("Copying", some "enter")) fd ["self", "frame"] (SpM (gm K) 2 f58) ∧ FunD K d58.name d58.qual d58.params d58.body d58.scope (d58.dvs K) (d58.kws K) (He.fAd K ("Copying", some "enter")) fd := by
  obtain ⟨fd, F⟩ := B.c.def_ 58 (d := d58) rfl
  exact ⟨fd, fn_okM (ps := ["self", "frame"]) F sc58 rfl rfl (fun cdv A outer s H hr => b58 B cdv A outer s H hr), F⟩
theorem r58 (B : Bd K hh mg) : FnR P w K mg base CX0 6 (He.fAd K ("Copying", some "enter")) (SpM (gm K) 2 f58) := by
  obtain ⟨fd, F, D⟩ := o58 (P := P) (w := w) (base := base) B
  exact fnM_all F (FunD.bindsN (ps := ["self", "frame"]) D fun _ _ _ _ _ _ us hl => match us, hl with | [_, _], _ => rfl)
/-! ### Copying.carry_out -/
theorem sc56 : FnScope ["self", "frame", "word", "rest"] ["self", "frame", "word", "rest"] (defScope (inClass (top 45) 21)) := ⟨rfl, rfl, rfl, by decide +kernel, rfl, by decide +kernel, by decide +kernel⟩
def m56 : MS := (mSeqT (mIfS (mTest (mBin (fIn2 g0 false) (mVar 2) (mTup (mCons (mC (.str "deep")) (mCons (mC (.str "give")) mNil))))) (mSeqT (mDrop (mMeth 8 "read" f57 4 (mVar 0) (mCons (mVar 1) (mCons (mBin (fIx g0) (mVar 3) (mC (.int 0))) (mCons (mMeth 8 "field_of" f53 3 (mVar 0) (mCons (mFld g0 "of_cell" (mVar 1)) (mCons (mBin (fIx g0) (mVar 3) (mC (.int 0))) mNil))) mNil))))) mRetN) mNext) (mSeqT (mAugF g0 "at" (mVar 1) (mC (.int 1))) (mIfS (mTest (mBin (fEq3 g0 false) (mVar 2) (mC (.str "enter")))) (mDrop (mMeth 8 "enter" f58 2 (mVar 0) (mCons (mVar 1) mNil))) (mIfS (mTest (mBin (fEq3 g0 false) (mVar 2) (mC (.str "keep")))) (mSeqT (mDrop (mMeth 7 "enter_for" f50 3 (mFld g0 "own_memo" (mVar 0)) (mCons (mFld g0 "of_cell" (mVar 1)) (mCons (mFld g0 "of_cell" (mVar 1)) mNil)))) (mDrop (mMeth 8 "close" f51 3 (mVar 0) (mCons (mTup (mCons (mC (.str "keep")) (mCons (mFld g0 "of_cell" (mVar 1)) mNil))) (mCons (mFld g0 "of_cell" (mVar 1)) mNil))))) (mSeqT (mDrop (mMt fAppend (mFld g0 "written" (mVar 0)) (mCons (mTup (mCons (mVar 2) (mCons (mFld g0 "of_cell" (mVar 1)) (mCons (mBin (fIx g0) (mVar 3) (mC (.int 0))) mNil)))) mNil))) (mIfS (mTest (mBin (fEq3 g0 false) (mVar 2) (mC (.str "fail")))) mDeadS mNext))))))
theorem b56 (B : Bd K hh mg) (cdv : Value) (A : Around) (outer : List Env) (s : Shared) (H : Hp) (hr : Room 7 (A.deeper (envOfC "Copying.carry_out" (defScope (inClass (top 45) 21)) s.heap.objs.size (He.fAd K ("Copying", some "carry_out")) cdv))) : SSs (gm K) W0 (cxOf CX0 P w K mg base ["self", "frame", "word", "rest"] "Copying.carry_out" (defScope (inClass (top 45) 21)) (He.fAd K ("Copying", some "carry_out")) cdv A outer s H E0).nox (defBody (inClass (top 45) 21)) m56 := by
  have G : GOk K (gm K) g0 := gok B
  exact (sss_consT (ss_if (st_cmp2 (o_in2 G (hu66 hr)) (se_var 2) (se_tup (sa_cons se_str (sa_cons se_str sa_nil)))) (sss_consT (ss_expr (se_meth (c := 8) (He.cls_ok (B.c.fact 57 rfl)) (He.meth_ok (B.c.fact 78 rfl)) (r57 B) (hr.mono (by decide)) (se_var 0) (sa_cons (se_var 1) (sa_cons (se_ix2 (o_ix G (hu1 hr)) (se_var 3) se_int) (sa_cons (se_meth (c := 8) (He.cls_ok (B.c.fact 57 rfl)) (He.meth_ok (B.c.fact 76 rfl)) (r53 B) (hr.mono (by decide)) (se_var 0) (sa_cons (se_fld G (se_var 1)) (sa_cons (se_ix2 (o_ix G (hu1 hr)) (se_var 3) se_int) sa_nil))) sa_nil))))) (sss_one ss_retN)) sss_nil) (sss_consT (ss_augF G (se_var 1) se_int) (sss_one (ss_if (st_cmp2 (o_eq3 G (hu66 hr)) (se_var 2) se_str) (sss_one (ss_expr (se_meth (c := 8) (He.cls_ok (B.c.fact 57 rfl)) (He.meth_ok (B.c.fact 80 rfl)) (r58 B) (hr.mono (by decide)) (se_var 0) (sa_cons (se_var 1) sa_nil)))) (sss_one (ss_if (st_cmp2 (o_eq3 G (hu66 hr)) (se_var 2) se_str) (sss_consT (ss_expr (se_meth (c := 7) (He.cls_ok (B.c.fact 49 rfl)) (He.meth_ok (B.c.fact 70 rfl)) (r50 B) (hr.mono (by decide)) (se_fld G (se_var 0)) (sa_cons (se_fld G (se_var 1)) (sa_cons (se_fld G (se_var 1)) sa_nil)))) (sss_one (ss_expr (se_meth (c := 8) (He.cls_ok (B.c.fact 57 rfl)) (He.meth_ok (B.c.fact 71 rfl)) (r51 B) (hr.mono (by decide)) (se_var 0) (sa_cons (se_tup (sa_cons se_str (sa_cons (se_fld G (se_var 1)) sa_nil))) (sa_cons (se_fld G (se_var 1)) sa_nil)))))) (sss_consT (ss_expr (se_bm PySem.F.slot_list_append PySem.F.type_list_append mt2_append (se_fld G (se_var 0)) (sa_cons (se_tup (sa_cons (se_var 2) (sa_cons (se_fld G (se_var 1)) (sa_cons (se_ix2 (o_ix G (hu1 hr)) (se_var 3) se_int) sa_nil)))) sa_nil))) (sss_one (ss_if (st_cmp2 (o_eq3 G (hu66 hr)) (se_var 2) se_str) (sss_one s_dead) sss_nil)))))))))
theorem kp56 (B : Bd K hh mg) : PySem.W.keepIn K (.ref (He.fAd K ("Copying", some "carry_out"))) = true := by obtain ⟨fd, F⟩ := B.c.def_ 56 (d := d56) rfl; exact F.kp
def fS56 : MF := mfStar 3 (mDef 4 0 m56)
theorem rS56 (B : Bd K hh mg) : FnR P w K mg base CX0 8 (He.fAd K ("Copying", some "carry_out")) (SpMS (gm K) 3 fS56) := by
  obtain ⟨fd, F⟩ := B.c.def_ 56 (d := d56) rfl
  exact fnR_any fun n hn => fn_starM (ps := ["self", "frame", "word"]) (pv := "rest") F sc56 rfl rfl hn (fun _ _ _ _ _ _ us rest hl => match us, rest, hl with | [_, _, _], [], _ => rfl | [_, _, _], _ :: _, _ => rfl) (fun cdv A outer s H hr => b56 B cdv A outer s H hr)
/-! ### Memo.end_half -/
theorem sc61 : FnScope ["self", "copy"] ["self", "copy"] (defScope (inClass (top 40) 10)) := ⟨rfl, rfl, rfl, by decide +kernel, rfl, by decide +kernel, by decide +kernel⟩
def m61 : MS := (mDrop (mMt fRemove (mFld g0 "open_copies" (mBin (fIx g0) (mFld g0 "memos" (mFld g0 "heap" (mVar 0))) (mFld g0 "number" (mVar 0)))) (mCons (mVar 1) mNil)))
theorem b61 (B : Bd K hh mg) (cdv : Value) (A : Around) (outer : List Env) (s : Shared) (H : Hp) (hr : Room 0 (A.deeper (envOfC "Memo.end_half" (defScope (inClass (top 40) 10)) s.heap.objs.size (He.fAd K ("Memo", some "end_half")) cdv))) : SSs (gm K) W0 (cxOf CX0 P w K mg base ["self", "copy"] "Memo.end_half" (defScope (inClass (top 40) 10)) (He.fAd K ("Memo", some "end_half")) cdv A outer s H E0).nox (defBody (inClass (top 40) 10)) m61 := by
  have G : GOk K (gm K) g0 := gok B
  exact (sss_one (ss_expr (se_bm PySem.F.slot_list_remove PySem.F.type_list_remove mt2_remove (se_fld G (se_ix2 (o_ix G (hu1 hr)) (se_fld G (se_fld G (se_var 0))) (se_fld G (se_var 0)))) (sa_cons (se_var 1) sa_nil))))
theorem kp61 (B : Bd K hh mg) : PySem.W.keepIn K (.ref (He.fAd K ("Memo", some "end_half"))) = true := by obtain ⟨fd, F⟩ := B.c.def_ 61 (d := d61) rfl; exact F.kp
def f61 : MF := mDef 2 0 m61
theorem o61 (B : Bd K hh mg) : ∃ fd, FnOk P w K mg base CX0 1 (He.fAd K ("Memo", some "end_half")) fd ["self", "copy"] (SpM (gm K) 2 f61) ∧ FunD K d61.name d61.qual d61.params d61.body d61.scope (d61.dvs K) (d61.kws K) (He.fAd K ("Memo", some "end_half")) fd := by
  obtain ⟨fd, F⟩ := B.c.def_ 61 (d := d61) rfl
  exact ⟨fd, fn_okM (ps := ["self", "copy"]) F sc61 rfl rfl (fun cdv A outer s H hr => b61 B cdv A outer s H hr), F⟩
theorem r61 (B : Bd K hh mg) : FnR P w K mg base CX0 1 (He.fAd K ("Memo", some "end_half")) (SpM (gm K) 2 f61) := by
  obtain ⟨fd, F, D⟩ := o61 (P := P) (w := w) (base := base) B
  exact fnM_all F (FunD.bindsN (ps := ["self", "copy"]) D fun _ _ _ _ _ _ us hl => match us, hl with | [_, _], _ => rfl)
/-! ### Copying.end -/
theorem sc60 : FnScope ["self", "frame"] ["self", "frame"] (defScope (inClass (top 45) 13)) := ⟨rfl, rfl, rfl, by decide +kernel, rfl, by decide +kernel, by decide +kernel⟩
def m60 : MS := (mSeqT (mDrop (mMeth 7 "end_half" f61 2 (mFld g0 "own_memo" (mVar 0)) (mCons (mFld g0 "copy" (mVar 1)) mNil))) (mDrop (mMeth 8 "close" f51 3 (mVar 0) (mCons (mTup (mCons (mC (.str "end")) (mCons (mFld g0 "of_cell" (mVar 1)) mNil))) (mCons (mFld g0 "copy" (mVar 1)) mNil)))))
theorem b60 (B : Bd K hh mg) (cdv : Value) (A : Around) (outer : List Env) (s : Shared) (H : Hp) (hr : Room 7 (A.deeper (envOfC "Copying.end" (defScope (inClass (top 45) 13)) s.heap.objs.size (He.fAd K ("Copying", some "end")) cdv))) : SSs (gm K) W0 (cxOf CX0 P w K mg base ["self", "frame"] "Copying.end" (defScope (inClass (top 45) 13)) (He.fAd K ("Copying", some "end")) cdv A outer s H E0).nox (defBody (inClass (top 45) 13)) m60 := by
  have G : GOk K (gm K) g0 := gok B
  exact (sss_consT (ss_expr (se_meth (c := 7) (He.cls_ok (B.c.fact 49 rfl)) (He.meth_ok (B.c.fact 82 rfl)) (r61 B) (hr.mono (by decide)) (se_fld G (se_var 0)) (sa_cons (se_fld G (se_var 1)) sa_nil))) (sss_one (ss_expr (se_meth (c := 8) (He.cls_ok (B.c.fact 57 rfl)) (He.meth_ok (B.c.fact 71 rfl)) (r51 B) (hr.mono (by decide)) (se_var 0) (sa_cons (se_tup (sa_cons se_str (sa_cons (se_fld G (se_var 1)) sa_nil))) (sa_cons (se_fld G (se_var 1)) sa_nil))))))
theorem kp60 (B : Bd K hh mg) : PySem.W.keepIn K (.ref (He.fAd K ("Copying", some "end"))) = true := by obtain ⟨fd, F⟩ := B.c.def_ 60 (d := d60) rfl; exact F.kp
def f60 : MF := mDef 2 0 m60
theorem o60 (B : Bd K hh mg) : ∃ fd, FnOk P w K mg base CX0 8 (He.fAd K ("Copying", some "end")) fd ["self", "frame"] (SpM (gm K) 2 f60) ∧ FunD K d60.name d60.qual d60.params d60.body d60.scope (d60.dvs K) (d60.kws K) (He.fAd K ("Copying", some "end")) fd := by
  obtain ⟨fd, F⟩ := B.c.def_ 60 (d := d60) rfl
  exact ⟨fd, fn_okM (ps := ["self", "frame"]) F sc60 rfl rfl (fun cdv A outer s H hr => b60 B cdv A outer s H hr), F⟩
theorem r60 (B : Bd K hh mg) : FnR P w K mg base CX0 8 (He.fAd K ("Copying", some "end")) (SpM (gm K) 2 f60) := by
  obtain ⟨fd, F, D⟩ := o60 (P := P) (w := w) (base := base) B
  exact fnM_all F (FunD.bindsN (ps := ["self", "frame"]) D fun _ _ _ _ _ _ us hl => match us, hl with | [_, _], _ => rfl)
/-! ### Copying.end_builder -/
theorem sc62 : FnScope ["self", "frame", "cell", "copy", "field", "value"] ["self", "frame"] (defScope (inClass (top 45) 22)) := ⟨rfl, rfl, rfl, by decide +kernel, rfl, by decide +kernel, by decide +kernel⟩
def m62 : MS := (mSeqT (mAsg (mFld g0 "of_cell" (mVar 1)) (mgName 2)) (mSeqT (mAsg (mMeth 1 "new_cell" fd21_3 3 (mFld g0 "heap" (mVar 0)) (mCons (mC (.str "object")) (mCons (mFld g0 "design" (mBin (fIx g0) (mFld g0 "cells" (mFld g0 "heap" (mVar 0))) (mVar 2))) mNil))) (mgName 3)) (mSeqT (mFor g0 300 (miDict .items (mFld g0 "kept_back" (mVar 1))) (mgTup g0 2 (mgCons (mgName 4) (mgCons (mgName 5) mgNil))) (mDrop (mCall f40 4 (mCons (mFld g0 "heap" (mVar 0)) (mCons (mVar 3) (mCons (mVar 4) (mCons (mVar 5) mNil))))))) (mSeqT (mDrop (mMeth 7 "enter_for" f50 3 (mFld g0 "own_memo" (mVar 0)) (mCons (mVar 2) (mCons (mVar 3) mNil)))) (mDrop (mMeth 8 "close" f51 3 (mVar 0) (mCons (mTup (mCons (mC (.str "make")) (mCons (mVar 2) (mCons (mVar 3) mNil)))) (mCons (mVar 3) mNil))))))))
theorem b62 (B : Bd K hh mg) (cdv : Value) (A : Around) (outer : List Env) (s : Shared) (H : Hp) (hr : Room 7 (A.deeper (envOfC "Copying.end_builder" (defScope (inClass (top 45) 22)) s.heap.objs.size (He.fAd K ("Copying", some "end_builder")) cdv))) : SSs (gm K) W0 (cxOf CX0 P w K mg base ["self", "frame", "cell", "copy", "field", "value"] "Copying.end_builder" (defScope (inClass (top 45) 22)) (He.fAd K ("Copying", some "end_builder")) cdv A outer s H E0).nox (defBody (inClass (top 45) 22)) m62 := by
  have G : GOk K (gm K) g0 := gok B
  exact (sss_consT (ss_set sc62.nd (se_fld G (se_var 1))) (sss_consT (ss_set sc62.nd (se_meth (c := 1) (He.cls_ok (B.c.fact 30 rfl)) (He.meth_ok (B.c.fact 40 rfl)) (rd21_3 B) (hr.mono (by decide)) (se_fld G (se_var 0)) (sa_cons se_str (sa_cons (se_fld G (se_ix2 (o_ix G (hu1 hr)) (se_fld G (se_fld G (se_var 0))) (se_var 2))) sa_nil)))) (sss_consT (ss_for 300 PassesOwn.never rfl (si_items (se_fld G (se_var 1))) (sg_tup G rfl (sgs_cons (sg_name sc62.nd) (sgs_cons (sg_name sc62.nd) sgs_nil))) (sss_one (ss_expr (se_call (r40 B) (hr.mono (by decide)) (He.glo_ok B.X B.G (B.c.fact 62 rfl)) (kp40 B) (sa_cons (se_fld G (se_var 0)) (sa_cons (se_var 3) (sa_cons (se_var 4) (sa_cons (se_var 5) sa_nil)))))))) (sss_consT (ss_expr (se_meth (c := 7) (He.cls_ok (B.c.fact 49 rfl)) (He.meth_ok (B.c.fact 70 rfl)) (r50 B) (hr.mono (by decide)) (se_fld G (se_var 0)) (sa_cons (se_var 2) (sa_cons (se_var 3) sa_nil)))) (sss_one (ss_expr (se_meth (c := 8) (He.cls_ok (B.c.fact 57 rfl)) (He.meth_ok (B.c.fact 71 rfl)) (r51 B) (hr.mono (by decide)) (se_var 0) (sa_cons (se_tup (sa_cons se_str (sa_cons (se_var 2) (sa_cons (se_var 3) sa_nil)))) (sa_cons (se_var 3) sa_nil)))))))))
theorem kp62 (B : Bd K hh mg) : PySem.W.keepIn K (.ref (He.fAd K ("Copying", some "end_builder"))) = true := by obtain ⟨fd, F⟩ := B.c.def_ 62 (d := d62) rfl; exact F.kp
def f62 : MF := mDef 2 4 m62
theorem o62 (B : Bd K hh mg) : ∃ fd, FnOk P w K mg base CX0 8 (He.fAd K ("Copying", some "end_builder")) fd ["self", "frame"] (SpM (gm K) 2 f62) ∧ FunD K d62.name d62.qual d62.params d62.body d62.scope (d62.dvs K) (d62.kws K) (He.fAd K ("Copying", some "end_builder")) fd := by
  obtain ⟨fd, F⟩ := B.c.def_ 62 (d := d62) rfl
  exact ⟨fd, fn_okM (ps := ["self", "frame"]) F sc62 rfl rfl (fun cdv A outer s H hr => b62 B cdv A outer s H hr), F⟩
theorem r62 (B : Bd K hh mg) : FnR P w K mg base CX0 8 (He.fAd K ("Copying", some "end_builder")) (SpM (gm K) 2 f62) := by
  obtain ⟨fd, F, D⟩ := o62 (P := P) (w := w) (base := base) B
  exact fnM_all F (FunD.bindsN (ps := ["self", "frame"]) D fun _ _ _ _ _ _ us hl => match us, hl with | [_, _], _ => rfl)
/-! ### Copying.go_on_hook -/
theorem sc48 : FnScope ["self", "frame", "shape", "value", "word", "field", "atoms", "step"] ["self", "frame", "shape"] (defScope (inClass (top 45) 18)) := ⟨rfl, rfl, rfl, by decide +kernel, rfl, by decide +kernel, by decide +kernel⟩
def m48 : MS := (mSeqT (mIfS (mAnd (mTest (mBin (fEq3 g0 false) (mProp 0 f49 (mVar 2)) (mC (.str "giver")))) (mTest (mBin (fEq3 g0 true) (mFld g0 "gathered" (mVar 1)) (mLst mNil)))) (mSeqT (mAsg (mBin (fIx g0) (mFld g0 "gathered" (mVar 1)) (mC (.int (-1)))) (mgName 3)) (mSeqT (mDrop (mMeth 7 "enter_for" f50 3 (mFld g0 "own_memo" (mVar 0)) (mCons (mFld g0 "of_cell" (mVar 1)) (mCons (mVar 3) mNil)))) (mSeqT (mDrop (mMeth 8 "close" f51 3 (mVar 0) (mCons (mTup (mCons (mC (.str "give")) (mCons (mFld g0 "of_cell" (mVar 1)) (mCons (mVar 3) mNil)))) (mCons (mVar 3) mNil)))) mRetN))) mNext) (mSeqT (mWhile 300 (mAnd (mTest (mBin fLt (mFld g0 "at" (mVar 1)) (mCb (fLen g0) (mCons (mFld g0 "ahead" (mVar 1)) mNil)))) (mTest (mBin (fIn2 g0 false) (mBin (fIx g0) (mBin (fIx g0) (mFld g0 "ahead" (mVar 1)) (mFld g0 "at" (mVar 1))) (mC (.int 0))) (mTup (mCons (mC (.str "same")) (mCons (mC (.str "put")) mNil)))))) (mSeqT (mAsg (mBin (fIx g0) (mFld g0 "ahead" (mVar 1)) (mFld g0 "at" (mVar 1))) (mgStar g0 3 2 (mgCons (mgName 4) (mgCons (mgName 5) (mgCons (mgName 6) mgNil))))) (mSeqT (mAugF g0 "at" (mVar 1) (mC (.int 1))) (mDrop (mMeth 8 "set_field" f52 4 (mVar 0) (mCons (mVar 1) (mCons (mVar 5) (mCons (mIf (mTest (mBin (fEq3 g0 false) (mVar 4) (mC (.str "put")))) (mBin (fIx g0) (mVar 6) (mC (.int 0))) (mMeth 8 "field_of" f53 3 (mVar 0) (mCons (mFld g0 "of_cell" (mVar 1)) (mCons (mVar 5) mNil)))) mNil)))))))) (mIfS (mTest (mBin fLt (mFld g0 "at" (mVar 1)) (mCb (fLen g0) (mCons (mFld g0 "ahead" (mVar 1)) mNil)))) (mSeqT (mAsg (mBin (fIx g0) (mFld g0 "ahead" (mVar 1)) (mFld g0 "at" (mVar 1))) (mgName 7)) (mDrop (mMethS g0 8 "carry_out" fS56 3 (mVar 0) (mVar 1) (mVar 7)))) (mIfS (mTest (mBin (fIsN true) (mFld g0 "copy" (mVar 1)) (mC .non))) (mDrop (mMeth 8 "end" f60 2 (mVar 0) (mCons (mVar 1) mNil))) (mDrop (mMeth 8 "end_builder" f62 2 (mVar 0) (mCons (mVar 1) mNil)))))))
theorem b48 (B : Bd K hh mg) (cdv : Value) (A : Around) (outer : List Env) (s : Shared) (H : Hp) (hr : Room 8 (A.deeper (envOfC "Copying.go_on_hook" (defScope (inClass (top 45) 18)) s.heap.objs.size (He.fAd K ("Copying", some "go_on_hook")) cdv))) : SSs (gm K) W0 (cxOf CX0 P w K mg base ["self", "frame", "shape", "value", "word", "field", "atoms", "step"] "Copying.go_on_hook" (defScope (inClass (top 45) 18)) (He.fAd K ("Copying", some "go_on_hook")) cdv A outer s H E0).nox (defBody (inClass (top 45) 18)) m48 := by
  have G : GOk K (gm K) g0 := gok B
  exact (sss_consT (ss_if (SW.st (sw_and (st_cmp2 (o_eq3 G (hu66 hr)) (se_prop2 (c := 0) (He.cls_ok (B.c.fact 0 rfl)) (prop_Shape_form B) (p49 B) (hr.mono (by decide)) (se_var 2)) se_str) (sw_and1 (st_cmp2 (o_ne3 G (hu66 hr)) (se_fld G (se_var 1)) (se_lst sa_nil))))) (sss_consT (ss_set sc48.nd (se_ix2 (o_ix G (hu1 hr)) (se_fld G (se_var 1)) se_negc)) (sss_consT (ss_expr (se_meth (c := 7) (He.cls_ok (B.c.fact 49 rfl)) (He.meth_ok (B.c.fact 70 rfl)) (r50 B) (hr.mono (by decide)) (se_fld G (se_var 0)) (sa_cons (se_fld G (se_var 1)) (sa_cons (se_var 3) sa_nil)))) (sss_consT (ss_expr (se_meth (c := 8) (He.cls_ok (B.c.fact 57 rfl)) (He.meth_ok (B.c.fact 71 rfl)) (r51 B) (hr.mono (by decide)) (se_var 0) (sa_cons (se_tup (sa_cons se_str (sa_cons (se_fld G (se_var 1)) (sa_cons (se_var 3) sa_nil)))) (sa_cons (se_var 3) sa_nil)))) (sss_one ss_retN)))) sss_nil) (sss_consT (ss_while 300 PassesOwn.never (SW.st (sw_and (st_cmp2 o_lt (se_fld G (se_var 1)) (se_callB (id := "len") (cb_len G) (He.free_ok B.X B.G (B.c.fact 4 rfl)) rfl (sa_cons (se_fld G (se_var 1)) sa_nil))) (sw_and1 (st_cmp2 (o_in2 G (hu66 hr)) (se_ix2 (o_ix G (hu1 hr)) (se_ix2 (o_ix G (hu1 hr)) (se_fld G (se_var 1)) (se_fld G (se_var 1))) se_int) (se_tup (sa_cons se_str (sa_cons se_str sa_nil))))))) (sss_consT (ss_asg (se_ix2 (o_ix G (hu1 hr)) (se_fld G (se_var 1)) (se_fld G (se_var 1))) (sg_star (n := 3) (i := 2) G rfl (sgs_cons (sg_name sc48.nd) (sgs_cons (sg_name sc48.nd) (sgs_star (sg_name sc48.nd) sgs_nil))))) (sss_consT (ss_augF G (se_var 1) se_int) (sss_one (ss_expr (se_meth (c := 8) (He.cls_ok (B.c.fact 57 rfl)) (He.meth_ok (B.c.fact 77 rfl)) (r52 B) (hr.mono (by decide)) (se_var 0) (sa_cons (se_var 1) (sa_cons (se_var 5) (sa_cons (se_if (st_cmp2 (o_eq3 G (hu66 hr)) (se_var 4) se_str) (se_ix2 (o_ix G (hu1 hr)) (se_var 6) se_int) (se_meth (c := 8) (He.cls_ok (B.c.fact 57 rfl)) (He.meth_ok (B.c.fact 76 rfl)) (r53 B) (hr.mono (by decide)) (se_var 0) (sa_cons (se_fld G (se_var 1)) (sa_cons (se_var 5) sa_nil)))) sa_nil))))))))) (sss_one (ss_if (st_cmp2 o_lt (se_fld G (se_var 1)) (se_callB (id := "len") (cb_len G) (He.free_ok B.X B.G (B.c.fact 4 rfl)) rfl (sa_cons (se_fld G (se_var 1)) sa_nil))) (sss_consT (ss_set sc48.nd (se_ix2 (o_ix G (hu1 hr)) (se_fld G (se_var 1)) (se_fld G (se_var 1)))) (sss_one (ss_expr (se_methS (c := 8) G (He.cls_ok (B.c.fact 57 rfl)) (bmB_ok (bm_Copying_carry_out B) (He.meth_ok (B.c.fact 81 rfl))) (rS56 B) (hr.mono (by decide)) (se_var 0) (se_var 1) (se_var 7))))) (sss_one (ss_if (st_cmp2 o_notN (se_fld G (se_var 1)) se_non) (sss_one (ss_expr (se_meth (c := 8) (He.cls_ok (B.c.fact 57 rfl)) (He.meth_ok (B.c.fact 83 rfl)) (r60 B) (hr.mono (by decide)) (se_var 0) (sa_cons (se_var 1) sa_nil)))) (sss_one (ss_expr (se_meth (c := 8) (He.cls_ok (B.c.fact 57 rfl)) (He.meth_ok (B.c.fact 84 rfl)) (r62 B) (hr.mono (by decide)) (se_var 0) (sa_cons (se_var 1) sa_nil))))))))))
theorem kp48 (B : Bd K hh mg) : PySem.W.keepIn K (.ref (He.fAd K ("Copying", some "go_on_hook"))) = true := by obtain ⟨fd, F⟩ := B.c.def_ 48 (d := d48) rfl; exact F.kp
def f48 : MF := mDef 3 5 m48
theorem o48 (B : Bd K hh mg) : ∃ fd, FnOk P w K mg base CX0 9 (He.fAd K ("Copying", some "go_on_hook")) fd ["self", "frame", "shape"] (SpM (gm K) 3 f48) ∧ FunD K d48.name d48.qual d48.params d48.body d48.scope (d48.dvs K) (d48.kws K) (He.fAd K ("Copying", some "go_on_hook")) fd := by
  obtain ⟨fd, F⟩ := B.c.def_ 48 (d := d48) rfl
  exact ⟨fd, fn_okM (ps := ["self", "frame", "shape"]) F sc48 rfl rfl (fun cdv A outer s H hr => b48 B cdv A outer s H hr), F⟩
theorem r48 (B : Bd K hh mg) : FnR P w K mg base CX0 9 (He.fAd K ("Copying", some "go_on_hook")) (SpM (gm K) 3 f48) := by
  obtain ⟨fd, F, D⟩ := o48 (P := P) (w := w) (base := base) B
  exact fnM_all F (FunD.bindsN (ps := ["self", "frame", "shape"]) D fun _ _ _ _ _ _ us hl => match us, hl with | [_, _, _], _ => rfl)
/-! ### Copying.end_fixed -/
theorem sc64 : FnScope ["self", "frame", "values", "cell", "copy"] ["self", "frame", "values"] (defScope (inClass (top 45) 17)) := ⟨rfl, rfl, rfl, by decide +kernel, rfl, by decide +kernel, by decide +kernel⟩
def m64 : MS := (mSeqT (mAsg (mFld g0 "of_cell" (mVar 1)) (mgName 3)) (mIfS (mTest (mBin (fOwn2 7 f36 fun b => bif false then !b else b) (mVar 3) (mFld g0 "own_memo" (mVar 0)))) (mDrop (mMeth 8 "close" f51 3 (mVar 0) (mCons (mTup (mCons (mC (.str "found")) (mCons (mVar 3) (mCons (mBin (fSelf2 7 f37) (mFld g0 "own_memo" (mVar 0)) (mVar 3)) mNil)))) (mCons (mBin (fSelf2 7 f37) (mFld g0 "own_memo" (mVar 0)) (mVar 3)) mNil)))) (mIfS (mTest (mBin (fEq3 g0 false) (mFld g0 "gathered" (mVar 1)) (mVar 2))) (mSeqT (mDrop (mMeth 7 "enter_for" f50 3 (mFld g0 "own_memo" (mVar 0)) (mCons (mVar 3) (mCons (mVar 3) mNil)))) (mDrop (mMeth 8 "close" f51 3 (mVar 0) (mCons (mTup (mCons (mC (.str "keep")) (mCons (mVar 3) mNil))) (mCons (mVar 3) mNil))))) (mSeqT (mAsg (mMeth 1 "new_cell" f21 4 (mFld g0 "heap" (mVar 0)) (mCons (mMeth 1 "kind" f41 2 (mFld g0 "heap" (mVar 0)) (mCons (mVar 3) mNil)) (mCons (mC .non) (mCons (mFld g0 "gathered" (mVar 1)) mNil)))) (mgName 4)) (mSeqT (mDrop (mMeth 7 "enter_for" f50 3 (mFld g0 "own_memo" (mVar 0)) (mCons (mVar 3) (mCons (mVar 4) mNil)))) (mDrop (mMeth 8 "close" f51 3 (mVar 0) (mCons (mTup (mCons (mC (.str "make")) (mCons (mVar 3) (mCons (mVar 4) mNil)))) (mCons (mVar 4) mNil)))))))))
theorem b64 (B : Bd K hh mg) (cdv : Value) (A : Around) (outer : List Env) (s : Shared) (H : Hp) (hr : Room 7 (A.deeper (envOfC "Copying.end_fixed" (defScope (inClass (top 45) 17)) s.heap.objs.size (He.fAd K ("Copying", some "end_fixed")) cdv))) : SSs (gm K) W0 (cxOf CX0 P w K mg base ["self", "frame", "values", "cell", "copy"] "Copying.end_fixed" (defScope (inClass (top 45) 17)) (He.fAd K ("Copying", some "end_fixed")) cdv A outer s H E0).nox (defBody (inClass (top 45) 17)) m64 := by
  have G : GOk K (gm K) g0 := gok B
  exact (sss_consT (ss_set sc64.nd (se_fld G (se_var 1))) (sss_one (ss_if (st_cmp2 (o_inOwn (c := 7) (He.meth_ok (B.c.fact 55 rfl)).at_ (He.meth_ok (B.c.fact 55 rfl)).fn (r36 B) (hr.mono (by decide))) (se_var 3) (se_fld G (se_var 0))) (sss_one (ss_expr (se_meth (c := 8) (He.cls_ok (B.c.fact 57 rfl)) (He.meth_ok (B.c.fact 71 rfl)) (r51 B) (hr.mono (by decide)) (se_var 0) (sa_cons (se_tup (sa_cons se_str (sa_cons (se_var 3) (sa_cons (se_ix2 (o_ixOwn (c := 7) (He.meth_ok (B.c.fact 56 rfl)).at_ (fnin_Memo__getitem__ B) (He.meth_ok (B.c.fact 56 rfl)).fn (r37 B) (hr.mono (by decide))) (se_fld G (se_var 0)) (se_var 3)) sa_nil)))) (sa_cons (se_ix2 (o_ixOwn (c := 7) (He.meth_ok (B.c.fact 56 rfl)).at_ (fnin_Memo__getitem__ B) (He.meth_ok (B.c.fact 56 rfl)).fn (r37 B) (hr.mono (by decide))) (se_fld G (se_var 0)) (se_var 3)) sa_nil))))) (sss_one (ss_if (st_cmp2 (o_eq3 G (hu66 hr)) (se_fld G (se_var 1)) (se_var 2)) (sss_consT (ss_expr (se_meth (c := 7) (He.cls_ok (B.c.fact 49 rfl)) (He.meth_ok (B.c.fact 70 rfl)) (r50 B) (hr.mono (by decide)) (se_fld G (se_var 0)) (sa_cons (se_var 3) (sa_cons (se_var 3) sa_nil)))) (sss_one (ss_expr (se_meth (c := 8) (He.cls_ok (B.c.fact 57 rfl)) (He.meth_ok (B.c.fact 71 rfl)) (r51 B) (hr.mono (by decide)) (se_var 0) (sa_cons (se_tup (sa_cons se_str (sa_cons (se_var 3) sa_nil))) (sa_cons (se_var 3) sa_nil)))))) (sss_consT (ss_set sc64.nd (se_meth (c := 1) (He.cls_ok (B.c.fact 30 rfl)) (He.meth_ok (B.c.fact 40 rfl)) (r21 B) (hr.mono (by decide)) (se_fld G (se_var 0)) (sa_cons (se_meth (c := 1) (He.cls_ok (B.c.fact 30 rfl)) (He.meth_ok (B.c.fact 60 rfl)) (r41 B) (hr.mono (by decide)) (se_fld G (se_var 0)) (sa_cons (se_var 3) sa_nil)) (sa_cons se_non (sa_cons (se_fld G (se_var 1)) sa_nil))))) (sss_consT (ss_expr (se_meth (c := 7) (He.cls_ok (B.c.fact 49 rfl)) (He.meth_ok (B.c.fact 70 rfl)) (r50 B) (hr.mono (by decide)) (se_fld G (se_var 0)) (sa_cons (se_var 3) (sa_cons (se_var 4) sa_nil)))) (sss_one (ss_expr (se_meth (c := 8) (He.cls_ok (B.c.fact 57 rfl)) (He.meth_ok (B.c.fact 71 rfl)) (r51 B) (hr.mono (by decide)) (se_var 0) (sa_cons (se_tup (sa_cons se_str (sa_cons (se_var 3) (sa_cons (se_var 4) sa_nil)))) (sa_cons (se_var 4) sa_nil))))))))))))
theorem kp64 (B : Bd K hh mg) : PySem.W.keepIn K (.ref (He.fAd K ("Copying", some "end_fixed"))) = true := by obtain ⟨fd, F⟩ := B.c.def_ 64 (d := d64) rfl; exact F.kp
def f64 : MF := mDef 3 2 m64
theorem o64 (B : Bd K hh mg) : ∃ fd, FnOk P w K mg base CX0 8 (He.fAd K ("Copying", some "end_fixed")) fd ["self", "frame", "values"] (SpM (gm K) 3 f64) ∧ FunD K d64.name d64.qual d64.params d64.body d64.scope (d64.dvs K) (d64.kws K) (He.fAd K ("Copying", some "end_fixed")) fd := by
  obtain ⟨fd, F⟩ := B.c.def_ 64 (d := d64) rfl
  exact ⟨fd, fn_okM (ps := ["self", "frame", "values"]) F sc64 rfl rfl (fun cdv A outer s H hr => b64 B cdv A outer s H hr), F⟩
theorem r64 (B : Bd K hh mg) : FnR P w K mg base CX0 8 (He.fAd K ("Copying", some "end_fixed")) (SpM (gm K) 3 f64) := by
  obtain ⟨fd, F, D⟩ := o64 (P := P) (w := w) (base := base) B
  exact fnM_all F (FunD.bindsN (ps := ["self", "frame", "values"]) D fun _ _ _ _ _ _ us hl => match us, hl with | [_, _, _], _ => rfl)
/-! ### Copying.go_on_values -/
theorem sc63 : FnScope ["self", "frame", "parts", "step", "value"] ["self", "frame", "parts"] (defScope (inClass (top 45) 15)) := ⟨rfl, rfl, rfl, by decide +kernel, rfl, by decide +kernel, by decide +kernel⟩
def m63 : MS := (mIfS (mTest (mBin fLt (mFld g0 "at" (mVar 1)) (mCb (fLen g0) (mCons (mVar 2) mNil)))) (mSeqT (mAsg (mBin (fIx g0) (mVar 2) (mFld g0 "at" (mVar 1))) (mgTup g0 2 (mgCons (mgName 3) (mgCons (mgName 4) mgNil)))) (mDrop (mMeth 8 "read" f57 4 (mVar 0) (mCons (mVar 1) (mCons (mVar 3) (mCons (mVar 4) mNil)))))) (mIfS (mTest (mBin (fIsN true) (mFld g0 "copy" (mVar 1)) (mC .non))) (mDrop (mMeth 8 "end" f60 2 (mVar 0) (mCons (mVar 1) mNil))) (mDrop (mMeth 8 "end_fixed" f64 3 (mVar 0) (mCons (mVar 1) (mCons (mLc g0 300 [3, 4] (miAny g0 (mVar 2)) (mgTup g0 2 (mgCons (mgName 3) (mgCons (mgName 4) mgNil))) mYes (mVar 4)) mNil))))))
theorem b63 (B : Bd K hh mg) (cdv : Value) (A : Around) (outer : List Env) (s : Shared) (H : Hp) (hr : Room 8 (A.deeper (envOfC "Copying.go_on_values" (defScope (inClass (top 45) 15)) s.heap.objs.size (He.fAd K ("Copying", some "go_on_values")) cdv))) : SSs (gm K) W0 (cxOf CX0 P w K mg base ["self", "frame", "parts", "step", "value"] "Copying.go_on_values" (defScope (inClass (top 45) 15)) (He.fAd K ("Copying", some "go_on_values")) cdv A outer s H E0).nox (defBody (inClass (top 45) 15)) m63 := by
  have G : GOk K (gm K) g0 := gok B
  exact (sss_one (ss_if (st_cmp2 o_lt (se_fld G (se_var 1)) (se_callB (id := "len") (cb_len G) (He.free_ok B.X B.G (B.c.fact 4 rfl)) rfl (sa_cons (se_var 2) sa_nil))) (sss_consT (ss_asg (se_ix2 (o_ix G (hu1 hr)) (se_var 2) (se_fld G (se_var 1))) (sg_tup G rfl (sgs_cons (sg_name sc63.nd) (sgs_cons (sg_name sc63.nd) sgs_nil)))) (sss_one (ss_expr (se_meth (c := 8) (He.cls_ok (B.c.fact 57 rfl)) (He.meth_ok (B.c.fact 78 rfl)) (r57 B) (hr.mono (by decide)) (se_var 0) (sa_cons (se_var 1) (sa_cons (se_var 3) (sa_cons (se_var 4) sa_nil))))))) (sss_one (ss_if (st_cmp2 o_notN (se_fld G (se_var 1)) se_non) (sss_one (ss_expr (se_meth (c := 8) (He.cls_ok (B.c.fact 57 rfl)) (He.meth_ok (B.c.fact 83 rfl)) (r60 B) (hr.mono (by decide)) (se_var 0) (sa_cons (se_var 1) sa_nil)))) (sss_one (ss_expr (se_meth (c := 8) (He.cls_ok (B.c.fact 57 rfl)) (He.meth_ok (B.c.fact 86 rfl)) (r64 B) (hr.mono (by decide)) (se_var 0) (sa_cons (se_var 1) (sa_cons (se_lc (own := [("step", 3), ("value", 4)]) 300 rfl sc63.nd (si_any G (se_var 2)) (show BlkOk ["self", "frame", "parts", "step", "value"] (defScope (inClass (top 45) 15)) _ [("step", 3), ("value", 4)] from ⟨rfl, by decide +kernel, by decide +kernel, by decide +kernel, by decide +kernel⟩) (fun _ _ _ _ _ => (sg_tup G rfl (sgs_cons (sg_name sc63.nd) (sgs_cons (sg_name sc63.nd) sgs_nil)))) (fun _ _ _ _ _ => pts_nilM) (fun _ _ _ _ _ => (se_var 4))) sa_nil)))))))))
theorem kp63 (B : Bd K hh mg) : PySem.W.keepIn K (.ref (He.fAd K ("Copying", some "go_on_values"))) = true := by obtain ⟨fd, F⟩ := B.c.def_ 63 (d := d63) rfl; exact F.kp
def f63 : MF := mDef 3 2 m63
theorem o63 (B : Bd K hh mg) : ∃ fd, FnOk P w K mg base CX0 9 (He.fAd K ("Copying", some "go_on_values")) fd ["self", "frame", "parts"] (SpM (gm K) 3 f63) ∧ FunD K d63.name d63.qual d63.params d63.body d63.scope (d63.dvs K) (d63.kws K) (He.fAd K ("Copying", some "go_on_values")) fd := by
  obtain ⟨fd, F⟩ := B.c.def_ 63 (d := d63) rfl
  exact ⟨fd, fn_okM (ps := ["self", "frame", "parts"]) F sc63 rfl rfl (fun cdv A outer s H hr => b63 B cdv A outer s H hr), F⟩
theorem r63 (B : Bd K hh mg) : FnR P w K mg base CX0 9 (He.fAd K ("Copying", some "go_on_values")) (SpM (gm K) 3 f63) := by
  obtain ⟨fd, F, D⟩ := o63 (P := P) (w := w) (base := base) B
  exact fnM_all F (FunD.bindsN (ps := ["self", "frame", "parts"]) D fun _ _ _ _ _ _ us hl => match us, hl with | [_, _, _], _ => rfl)
/-! ### Copying.go_on_fields -/
theorem sc65 : FnScope ["self", "frame", "fields", "found"] ["self", "frame", "fields"] (defScope (inClass (top 45) 16)) := ⟨rfl, rfl, rfl, by decide +kernel, rfl, by decide +kernel, by decide +kernel⟩
def m65 : MS := (mSeqT (mAsg (mCb (fDict g0) (mCons (mMeth 1 "parts" f54 2 (mFld g0 "heap" (mVar 0)) (mCons (mFld g0 "of_cell" (mVar 1)) mNil)) mNil)) (mgName 3)) (mSeqT (mWhile 300 (mAnd (mTest (mBin fLt (mFld g0 "at" (mVar 1)) (mCb (fLen g0) (mCons (mVar 2) mNil)))) (mTest (mBin (fIn2 g0 true) (mBin (fIx g0) (mVar 2) (mFld g0 "at" (mVar 1))) (mVar 3)))) (mAugF g0 "at" (mVar 1) (mC (.int 1)))) (mIfS (mTest (mBin fLt (mFld g0 "at" (mVar 1)) (mCb (fLen g0) (mCons (mVar 2) mNil)))) (mDrop (mMeth 8 "read" f57 4 (mVar 0) (mCons (mVar 1) (mCons (mBin (fIx g0) (mVar 2) (mFld g0 "at" (mVar 1))) (mCons (mBin (fIx g0) (mVar 3) (mBin (fIx g0) (mVar 2) (mFld g0 "at" (mVar 1)))) mNil))))) (mDrop (mMeth 8 "end" f60 2 (mVar 0) (mCons (mVar 1) mNil))))))
theorem b65 (B : Bd K hh mg) (cdv : Value) (A : Around) (outer : List Env) (s : Shared) (H : Hp) (hr : Room 8 (A.deeper (envOfC "Copying.go_on_fields" (defScope (inClass (top 45) 16)) s.heap.objs.size (He.fAd K ("Copying", some "go_on_fields")) cdv))) : SSs (gm K) W0 (cxOf CX0 P w K mg base ["self", "frame", "fields", "found"] "Copying.go_on_fields" (defScope (inClass (top 45) 16)) (He.fAd K ("Copying", some "go_on_fields")) cdv A outer s H E0).nox (defBody (inClass (top 45) 16)) m65 := by
  have G : GOk K (gm K) g0 := gok B
  exact (sss_consT (ss_set sc65.nd (se_callTy (T := "dict") (cb_dict G rfl) (He.free_ok B.X B.G (B.c.fact 75 rfl)) rfl (sa_cons (se_meth (c := 1) (He.cls_ok (B.c.fact 30 rfl)) (He.meth_ok (B.c.fact 74 rfl)) (r54 B) (hr.mono (by decide)) (se_fld G (se_var 0)) (sa_cons (se_fld G (se_var 1)) sa_nil)) sa_nil))) (sss_consT (ss_while 300 PassesOwn.never (SW.st (sw_and (st_cmp2 o_lt (se_fld G (se_var 1)) (se_callB (id := "len") (cb_len G) (He.free_ok B.X B.G (B.c.fact 4 rfl)) rfl (sa_cons (se_var 2) sa_nil))) (sw_and1 (st_cmp2 (o_nin2 G (hu66 hr)) (se_ix2 (o_ix G (hu1 hr)) (se_var 2) (se_fld G (se_var 1))) (se_var 3))))) (sss_one (ss_augF G (se_var 1) se_int))) (sss_one (ss_if (st_cmp2 o_lt (se_fld G (se_var 1)) (se_callB (id := "len") (cb_len G) (He.free_ok B.X B.G (B.c.fact 4 rfl)) rfl (sa_cons (se_var 2) sa_nil))) (sss_one (ss_expr (se_meth (c := 8) (He.cls_ok (B.c.fact 57 rfl)) (He.meth_ok (B.c.fact 78 rfl)) (r57 B) (hr.mono (by decide)) (se_var 0) (sa_cons (se_var 1) (sa_cons (se_ix2 (o_ix G (hu1 hr)) (se_var 2) (se_fld G (se_var 1))) (sa_cons (se_ix2 (o_ix G (hu1 hr)) (se_var 3) (se_ix2 (o_ix G (hu1 hr)) (se_var 2) (se_fld G (se_var 1)))) sa_nil)))))) (sss_one (ss_expr (se_meth (c := 8) (He.cls_ok (B.c.fact 57 rfl)) (He.meth_ok (B.c.fact 83 rfl)) (r60 B) (hr.mono (by decide)) (se_var 0) (sa_cons (se_var 1) sa_nil))))))))
theorem kp65 (B : Bd K hh mg) : PySem.W.keepIn K (.ref (He.fAd K ("Copying", some "go_on_fields"))) = true := by obtain ⟨fd, F⟩ := B.c.def_ 65 (d := d65) rfl; exact F.kp
def f65 : MF := mDef 3 1 m65
theorem o65 (B : Bd K hh mg) : ∃ fd, FnOk P w K mg base CX0 9 (He.fAd K ("Copying", some "go_on_fields")) fd ["self", "frame", "fields"] (SpM (gm K) 3 f65) ∧ FunD K d65.name d65.qual d65.params d65.body d65.scope (d65.dvs K) (d65.kws K) (He.fAd K ("Copying", some "go_on_fields")) fd := by
  obtain ⟨fd, F⟩ := B.c.def_ 65 (d := d65) rfl
  exact ⟨fd, fn_okM (ps := ["self", "frame", "fields"]) F sc65 rfl rfl (fun cdv A outer s H hr => b65 B cdv A outer s H hr), F⟩
theorem r65 (B : Bd K hh mg) : FnR P w K mg base CX0 9 (He.fAd K ("Copying", some "go_on_fields")) (SpM (gm K) 3 f65) := by
  obtain ⟨fd, F, D⟩ := o65 (P := P) (w := w) (base := base) B
  exact fnM_all F (FunD.bindsN (ps := ["self", "frame", "fields"]) D fun _ _ _ _ _ _ us hl => match us, hl with | [_, _, _], _ => rfl)
/-! ### Copying.go_on -/
theorem sc46 : FnScope ["self", "frame", "kind", "shape"] ["self", "frame"] (defScope (inClass (top 45) 14)) := ⟨rfl, rfl, rfl, by decide +kernel, rfl, by decide +kernel, by decide +kernel⟩
def m46 : MS := (mSeqT (mPar [2, 3] (mCons (mMeth 1 "kind" f41 2 (mFld g0 "heap" (mVar 0)) (mCons (mFld g0 "of_cell" (mVar 1)) mNil)) (mCons (mFld g0 "design" (mBin (fIx g0) (mFld g0 "cells" (mFld g0 "heap" (mVar 0))) (mFld g0 "of_cell" (mVar 1)))) mNil))) (mIfS (mAnd (mTest (mBin (fIsN true) (mVar 3) (mC .non))) (mTest (mBin (fIsN true) (mProp 0 f47 (mVar 3)) (mC .non)))) (mDrop (mMeth 8 "go_on_hook" f48 3 (mVar 0) (mCons (mVar 1) (mCons (mVar 3) mNil)))) (mIfS (mTest (mBin (fEq3 g0 false) (mVar 2) (mC (.str "set")))) (mDrop (mMeth 8 "go_on_values" f63 3 (mVar 0) (mCons (mVar 1) (mCons (mListEnum g0 (mFld g0 "ahead" (mVar 1))) mNil)))) (mIfS (mAnd (mTest (mBin (fEq3 g0 false) (mVar 2) (mC (.str "dict")))) (mTest (mBin (fEq3 g0 true) (mCb (fLen g0) (mCons (mMeth 1 "parts" f54 2 (mFld g0 "heap" (mVar 0)) (mCons (mFld g0 "of_cell" (mVar 1)) mNil)) mNil)) (mCb (fLen g0) (mCons (mFld g0 "ahead" (mVar 1)) mNil))))) mDeadS (mIfS (mTest (mBin (fEq3 g0 false) (mVar 2) (mC (.str "object")))) (mDrop (mMeth 8 "go_on_fields" f65 3 (mVar 0) (mCons (mVar 1) (mCons (mProp 0 f16 (mVar 3)) mNil)))) (mDrop (mMeth 8 "go_on_values" f63 3 (mVar 0) (mCons (mVar 1) (mCons (mMeth 1 "parts" f54 2 (mFld g0 "heap" (mVar 0)) (mCons (mFld g0 "of_cell" (mVar 1)) mNil)) mNil)))))))))
theorem b46 (B : Bd K hh mg) (cdv : Value) (A : Around) (outer : List Env) (s : Shared) (H : Hp) (hr : Room 9 (A.deeper (envOfC "Copying.go_on" (defScope (inClass (top 45) 14)) s.heap.objs.size (He.fAd K ("Copying", some "go_on")) cdv))) : SSs (gm K) W0 (cxOf CX0 P w K mg base ["self", "frame", "kind", "shape"] "Copying.go_on" (defScope (inClass (top 45) 14)) (He.fAd K ("Copying", some "go_on")) cdv A outer s H E0).nox (defBody (inClass (top 45) 14)) m46 := by
  have G : GOk K (gm K) g0 := gok B
  exact (sss_consT (ss_par rfl sc46.nd (sa_cons (se_meth (c := 1) (He.cls_ok (B.c.fact 30 rfl)) (He.meth_ok (B.c.fact 60 rfl)) (r41 B) (hr.mono (by decide)) (se_fld G (se_var 0)) (sa_cons (se_fld G (se_var 1)) sa_nil)) (sa_cons (se_fld G (se_ix2 (o_ix G (hu1 hr)) (se_fld G (se_fld G (se_var 0))) (se_fld G (se_var 1)))) sa_nil))) (sss_one (ss_if (SW.st (sw_and (st_cmp2 o_notN (se_var 3) se_non) (sw_and1 (st_cmp2 o_notN (se_prop2 (c := 0) (He.cls_ok (B.c.fact 0 rfl)) (prop_Shape_deep_hook B) (p47 B) (hr.mono (by decide)) (se_var 3)) se_non)))) (sss_one (ss_expr (se_meth (c := 8) (He.cls_ok (B.c.fact 57 rfl)) (He.meth_ok (B.c.fact 85 rfl)) (r48 B) (hr.mono (by decide)) (se_var 0) (sa_cons (se_var 1) (sa_cons (se_var 3) sa_nil))))) (sss_one (ss_if (st_cmp2 (o_eq3 G (hu66 hr)) (se_var 2) se_str) (sss_one (ss_expr (se_meth (c := 8) (He.cls_ok (B.c.fact 57 rfl)) (He.meth_ok (B.c.fact 87 rfl)) (r63 B) (hr.mono (by decide)) (se_var 0) (sa_cons (se_var 1) (sa_cons (se_listEnum G rfl (se_fld G (se_var 1)) (He.free_ok B.X B.G (B.c.fact 37 rfl)) (He.free_ok B.X B.G (B.c.fact 72 rfl))) sa_nil))))) (sss_one (ss_if (SW.st (sw_and (st_cmp2 (o_eq3 G (hu66 hr)) (se_var 2) se_str) (sw_and1 (st_cmp2 (o_ne3 G (hu66 hr)) (se_callB (id := "len") (cb_len G) (He.free_ok B.X B.G (B.c.fact 4 rfl)) rfl (sa_cons (se_meth (c := 1) (He.cls_ok (B.c.fact 30 rfl)) (He.meth_ok (B.c.fact 74 rfl)) (r54 B) (hr.mono (by decide)) (se_fld G (se_var 0)) (sa_cons (se_fld G (se_var 1)) sa_nil)) sa_nil)) (se_callB (id := "len") (cb_len G) (He.free_ok B.X B.G (B.c.fact 4 rfl)) rfl (sa_cons (se_fld G (se_var 1)) sa_nil)))))) (sss_one s_dead) (sss_one (ss_if (st_cmp2 (o_eq3 G (hu66 hr)) (se_var 2) se_str) (sss_one (ss_expr (se_meth (c := 8) (He.cls_ok (B.c.fact 57 rfl)) (He.meth_ok (B.c.fact 88 rfl)) (r65 B) (hr.mono (by decide)) (se_var 0) (sa_cons (se_var 1) (sa_cons (se_prop2 (c := 0) (He.cls_ok (B.c.fact 0 rfl)) (prop_Shape_fields B) (p16 B) (hr.mono (by decide)) (se_var 3)) sa_nil))))) (sss_one (ss_expr (se_meth (c := 8) (He.cls_ok (B.c.fact 57 rfl)) (He.meth_ok (B.c.fact 87 rfl)) (r63 B) (hr.mono (by decide)) (se_var 0) (sa_cons (se_var 1) (sa_cons (se_meth (c := 1) (He.cls_ok (B.c.fact 30 rfl)) (He.meth_ok (B.c.fact 74 rfl)) (r54 B) (hr.mono (by decide)) (se_fld G (se_var 0)) (sa_cons (se_fld G (se_var 1)) sa_nil)) sa_nil))))))))))))))
theorem kp46 (B : Bd K hh mg) : PySem.W.keepIn K (.ref (He.fAd K ("Copying", some "go_on"))) = true := by obtain ⟨fd, F⟩ := B.c.def_ 46 (d := d46) rfl; exact F.kp
def f46 : MF := mDef 2 2 m46
theorem o46 (B : Bd K hh mg) : ∃ fd, FnOk P w K mg base CX0 10 (He.fAd K ("Copying", some "go_on")) fd ["self", "frame"] (SpM (gm K) 2 f46) ∧ FunD K d46.name d46.qual d46.params d46.body d46.scope (d46.dvs K) (d46.kws K) (He.fAd K ("Copying", some "go_on")) fd := by
  obtain ⟨fd, F⟩ := B.c.def_ 46 (d := d46) rfl
  exact ⟨fd, fn_okM (ps := ["self", "frame"]) F sc46 rfl rfl (fun cdv A outer s H hr => b46 B cdv A outer s H hr), F⟩
theorem r46 (B : Bd K hh mg) : FnR P w K mg base CX0 10 (He.fAd K ("Copying", some "go_on")) (SpM (gm K) 2 f46) := by
  obtain ⟨fd, F, D⟩ := o46 (P := P) (w := w) (base := base) B
  exact fnM_all F (FunD.bindsN (ps := ["self", "frame"]) D fun _ _ _ _ _ _ us hl => match us, hl with | [_, _], _ => rfl)
/-! ### Copying.begin -/
theorem sc35 : FnScope ["self", "cell", "size", "frame", "kind", "shape", "step", "value"] ["self", "cell"] (defScope (inClass (top 45) 8)) := ⟨rfl, rfl, rfl, by decide +kernel, rfl, by decide +kernel, by decide +kernel⟩
def m35 : MS := (mSeqT (mSetF g0 "coming" (mVar 0) (mC .non)) (mSeqT (mIfS (mTest (mBin (fOwn2 7 f36 fun b => bif false then !b else b) (mVar 1) (mFld g0 "own_memo" (mVar 0)))) (mSeqT (mDrop (mMt fAppend (mFld g0 "written" (mVar 0)) (mCons (mTup (mCons (mC (.str "known")) (mCons (mVar 1) (mCons (mBin (fSelf2 7 f37) (mFld g0 "own_memo" (mVar 0)) (mVar 1)) mNil)))) mNil))) (mSeqT (mDrop (mMeth 8 "deliver" f38 2 (mVar 0) (mCons (mBin (fSelf2 7 f37) (mFld g0 "own_memo" (mVar 0)) (mVar 1)) mNil))) mRetN)) mNext) (mSeqT (mAsg (mCb (MV.f1 (fLenOwn 7 f44)) (mCons (mFld g0 "own_memo" (mVar 0)) mNil)) (mgName 2)) (mSeqT (mIfS (mTest (mCb (MV.f1 (fBls g0 anyB)) (mCons (mLc g0 300 [3] (miAny g0 (mFld g0 "stack" (mVar 0))) (mgName 3) mYes (mAndV (mBin (fEq3 g0 false) (mFld g0 "of_cell" (mVar 3)) (mVar 1)) (mBin (fEq3 g0 false) (mFld g0 "size" (mVar 3)) (mVar 2)))) mNil))) mDeadS mNext) (mSeqT (mAsg (mMake 9 f45 3 (mCons (mVar 1) (mCons (mVar 2) mNil))) (mgName 3)) (mSeqT (mDrop (mMt fAppend (mFld g0 "stack" (mVar 0)) (mCons (mVar 3) mNil))) (mSeqT (mPar [4, 5] (mCons (mMeth 1 "kind" f41 2 (mFld g0 "heap" (mVar 0)) (mCons (mVar 1) mNil)) (mCons (mFld g0 "design" (mBin (fIx g0) (mFld g0 "cells" (mFld g0 "heap" (mVar 0))) (mVar 1))) mNil))) (mIfS (mTest (mBin (fIn2 g0 false) (mVar 4) (mC (.glo 10)))) (mDrop (mMeth 8 "go_on" f46 2 (mVar 0) (mCons (mVar 3) mNil))) (mIfS (mAnd (mTest (mBin (fIsN true) (mVar 5) (mC .non))) (mTest (mBin (fIsN true) (mProp 0 f47 (mVar 5)) (mC .non)))) (mSeqT (mSetF g0 "ahead" (mVar 3) (mCb (fList g0) (mCons (mProp 0 f47 (mVar 5)) mNil))) (mDrop (mMt fAppend (mFld g0 "written" (mVar 0)) (mCons (mTup (mCons (mC (.str "hook")) (mCons (mVar 1) mNil))) mNil)))) (mSeqT (mSetF g0 "ahead" (mVar 3) (mLc g0 300 [6, 7] (miSeq g0 (mMeth 1 "parts" f54 2 (mFld g0 "heap" (mVar 0)) (mCons (mVar 1) mNil))) (mgTup g0 2 (mgCons (mgName 6) (mgCons (mgName 7) mgNil))) mYes (mVar 7))) (mDrop (mMeth 8 "enter" f58 2 (mVar 0) (mCons (mVar 3) mNil)))))))))))))
theorem b35 (B : Bd K hh mg) (cdv : Value) (A : Around) (outer : List Env) (s : Shared) (H : Hp) (hr : Room 10 (A.deeper (envOfC "Copying.begin" (defScope (inClass (top 45) 8)) s.heap.objs.size (He.fAd K ("Copying", some "begin")) cdv))) : SSs (gm K) W0 (cxOf CX0 P w K mg base ["self", "cell", "size", "frame", "kind", "shape", "step", "value"] "Copying.begin" (defScope (inClass (top 45) 8)) (He.fAd K ("Copying", some "begin")) cdv A outer s H E0).nox (defBody (inClass (top 45) 8)) m35 := by
  have G : GOk K (gm K) g0 := gok B
  exact (sss_consT (ss_setF G (se_var 0) se_non) (sss_consT (ss_if (st_cmp2 (o_inOwn (c := 7) (He.meth_ok (B.c.fact 55 rfl)).at_ (He.meth_ok (B.c.fact 55 rfl)).fn (r36 B) (hr.mono (by decide))) (se_var 1) (se_fld G (se_var 0))) (sss_consT (ss_expr (se_bm PySem.F.slot_list_append PySem.F.type_list_append mt2_append (se_fld G (se_var 0)) (sa_cons (se_tup (sa_cons se_str (sa_cons (se_var 1) (sa_cons (se_ix2 (o_ixOwn (c := 7) (He.meth_ok (B.c.fact 56 rfl)).at_ (fnin_Memo__getitem__ B) (He.meth_ok (B.c.fact 56 rfl)).fn (r37 B) (hr.mono (by decide))) (se_fld G (se_var 0)) (se_var 1)) sa_nil)))) sa_nil))) (sss_consT (ss_expr (se_meth (c := 8) (He.cls_ok (B.c.fact 57 rfl)) (He.meth_ok (B.c.fact 63 rfl)) (r38 B) (hr.mono (by decide)) (se_var 0) (sa_cons (se_ix2 (o_ixOwn (c := 7) (He.meth_ok (B.c.fact 56 rfl)).at_ (fnin_Memo__getitem__ B) (He.meth_ok (B.c.fact 56 rfl)).fn (r37 B) (hr.mono (by decide))) (se_fld G (se_var 0)) (se_var 1)) sa_nil))) (sss_one ss_retN))) sss_nil) (sss_consT (ss_set sc35.nd (se_callB (id := "len") (cb_lenOwn (c := 7) (He.meth_ok (B.c.fact 64 rfl)).at_ (He.meth_ok (B.c.fact 64 rfl)).fn (r44 B) (hr.mono (by decide))) (He.free_ok B.X B.G (B.c.fact 4 rfl)) rfl (sa_cons (se_fld G (se_var 0)) sa_nil))) (sss_consT (ss_if (st_val (se_callB (id := "any") (cb_any G rfl) (He.free_ok B.X B.G (B.c.fact 65 rfl)) rfl (sa_cons (se_lc (own := [("frame", 3)]) 300 rfl sc35.nd (si_any G (se_fld G (se_var 0))) (show BlkOk ["self", "cell", "size", "frame", "kind", "shape", "step", "value"] (defScope (inClass (top 45) 8)) _ [("frame", 3)] from ⟨rfl, by decide +kernel, by decide +kernel, by decide +kernel, by decide +kernel⟩) (fun _ _ _ _ _ => (sg_name sc35.nd)) (fun _ _ _ _ _ => pts_nilM) (fun _ _ _ _ _ => (se_and (se_cmp2 (o_eq3 G (hu66 hr)) (se_fld G (se_var 3)) (se_var 1)) (se_one (se_cmp2 (o_eq3 G (hu66 hr)) (se_fld G (se_var 3)) (se_var 2)))))) sa_nil))) (sss_one s_dead) sss_nil) (sss_consT (ss_set sc35.nd (se_make (c := 9) (He.mkr_ok (B.c.fact 66 rfl)) (r45 B) (hr.mono (by decide)) (He.glo_ok B.X B.G (B.c.fact 67 rfl)) (sa_cons (se_var 1) (sa_cons (se_var 2) sa_nil)))) (sss_consT (ss_expr (se_bm PySem.F.slot_list_append PySem.F.type_list_append mt2_append (se_fld G (se_var 0)) (sa_cons (se_var 3) sa_nil))) (sss_consT (ss_par rfl sc35.nd (sa_cons (se_meth (c := 1) (He.cls_ok (B.c.fact 30 rfl)) (He.meth_ok (B.c.fact 60 rfl)) (r41 B) (hr.mono (by decide)) (se_fld G (se_var 0)) (sa_cons (se_var 1) sa_nil)) (sa_cons (se_fld G (se_ix2 (o_ix G (hu1 hr)) (se_fld G (se_fld G (se_var 0))) (se_var 1))) sa_nil))) (sss_one (ss_if (st_cmp2 (o_in2 G (hu66 hr)) (se_var 4) (se_glo (k := 10) (He.glo_ok B.X B.G (B.c.fact 68 rfl)))) (sss_one (ss_expr (se_meth (c := 8) (He.cls_ok (B.c.fact 57 rfl)) (He.meth_ok (B.c.fact 89 rfl)) (r46 B) (hr.mono (by decide)) (se_var 0) (sa_cons (se_var 3) sa_nil)))) (sss_one (ss_if (SW.st (sw_and (st_cmp2 o_notN (se_var 5) se_non) (sw_and1 (st_cmp2 o_notN (se_prop2 (c := 0) (He.cls_ok (B.c.fact 0 rfl)) (prop_Shape_deep_hook B) (p47 B) (hr.mono (by decide)) (se_var 5)) se_non)))) (sss_consT (ss_setF G (se_var 3) (se_callTy (T := "list") (cb_list G rfl) (He.free_ok B.X B.G (B.c.fact 37 rfl)) rfl (sa_cons (se_prop2 (c := 0) (He.cls_ok (B.c.fact 0 rfl)) (prop_Shape_deep_hook B) (p47 B) (hr.mono (by decide)) (se_var 5)) sa_nil))) (sss_one (ss_expr (se_bm PySem.F.slot_list_append PySem.F.type_list_append mt2_append (se_fld G (se_var 0)) (sa_cons (se_tup (sa_cons se_str (sa_cons (se_var 1) sa_nil))) sa_nil))))) (sss_consT (ss_setF G (se_var 3) (se_lc (own := [("step", 6), ("value", 7)]) 300 rfl sc35.nd (si_seq G (se_meth (c := 1) (He.cls_ok (B.c.fact 30 rfl)) (He.meth_ok (B.c.fact 74 rfl)) (r54 B) (hr.mono (by decide)) (se_fld G (se_var 0)) (sa_cons (se_var 1) sa_nil))) (show BlkOk ["self", "cell", "size", "frame", "kind", "shape", "step", "value"] (defScope (inClass (top 45) 8)) _ [("step", 6), ("value", 7)] from ⟨rfl, by decide +kernel, by decide +kernel, by decide +kernel, by decide +kernel⟩) (fun _ _ _ _ _ => (sg_tup G rfl (sgs_cons (sg_name sc35.nd) (sgs_cons (sg_name sc35.nd) sgs_nil)))) (fun _ _ _ _ _ => pts_nilM) (fun _ _ _ _ _ => (se_var 7)))) (sss_one (ss_expr (se_meth (c := 8) (He.cls_ok (B.c.fact 57 rfl)) (He.meth_ok (B.c.fact 80 rfl)) (r58 B) (hr.mono (by decide)) (se_var 0) (sa_cons (se_var 3) sa_nil))))))))))))))))
theorem kp35 (B : Bd K hh mg) : PySem.W.keepIn K (.ref (He.fAd K ("Copying", some "begin"))) = true := by obtain ⟨fd, F⟩ := B.c.def_ 35 (d := d35) rfl; exact F.kp
def f35 : MF := mDef 2 6 m35
theorem o35 (B : Bd K hh mg) : ∃ fd, FnOk P w K mg base CX0 11 (He.fAd K ("Copying", some "begin")) fd ["self", "cell"] (SpM (gm K) 2 f35) ∧ FunD K d35.name d35.qual d35.params d35.body d35.scope (d35.dvs K) (d35.kws K) (He.fAd K ("Copying", some "begin")) fd := by
  obtain ⟨fd, F⟩ := B.c.def_ 35 (d := d35) rfl
  exact ⟨fd, fn_okM (ps := ["self", "cell"]) F sc35 rfl rfl (fun cdv A outer s H hr => b35 B cdv A outer s H hr), F⟩
theorem r35 (B : Bd K hh mg) : FnR P w K mg base CX0 11 (He.fAd K ("Copying", some "begin")) (SpM (gm K) 2 f35) := by
  obtain ⟨fd, F, D⟩ := o35 (P := P) (w := w) (base := base) B
  exact fnM_all F (FunD.bindsN (ps := ["self", "cell"]) D fun _ _ _ _ _ _ us hl => match us, hl with | [_, _], _ => rfl)
/-! ### Copying.step -/
theorem sc34 : FnScope ["self"] ["self"] (defScope (inClass (top 45) 5)) := ⟨rfl, rfl, rfl, by decide +kernel, rfl, by decide +kernel, by decide +kernel⟩
def m34 : MS := (mSeqT (mIfS (mTest (mFld g0 "ended" (mVar 0))) (mRet (mC .non)) mNext) (mSeqT (mIfS (mTest (mBin (fIsN true) (mFld g0 "coming" (mVar 0)) (mC .non))) (mDrop (mMeth 8 "begin" f35 2 (mVar 0) (mCons (mFld g0 "coming" (mVar 0)) mNil))) (mDrop (mMeth 8 "go_on" f46 2 (mVar 0) (mCons (mBin (fIx g0) (mFld g0 "stack" (mVar 0)) (mC (.int (-1)))) mNil)))) (mRet (mBin (fIx g0) (mFld g0 "written" (mVar 0)) (mC (.int (-1)))))))
theorem b34 (B : Bd K hh mg) (cdv : Value) (A : Around) (outer : List Env) (s : Shared) (H : Hp) (hr : Room 11 (A.deeper (envOfC "Copying.step" (defScope (inClass (top 45) 5)) s.heap.objs.size (He.fAd K ("Copying", some "step")) cdv))) : SSs (gm K) W0 (cxOf CX0 P w K mg base ["self"] "Copying.step" (defScope (inClass (top 45) 5)) (He.fAd K ("Copying", some "step")) cdv A outer s H E0).nox (defBody (inClass (top 45) 5)) m34 := by
  have G : GOk K (gm K) g0 := gok B
  exact (sss_consT (ss_if (st_val (se_fld G (se_var 0))) (sss_one (ss_ret se_non)) sss_nil) (sss_consT (ss_try0 (fun _ _ h => h) (sss_one (ss_if (st_cmp2 o_notN (se_fld G (se_var 0)) se_non) (sss_one (ss_expr (se_meth (c := 8) (He.cls_ok (B.c.fact 57 rfl)) (He.meth_ok (B.c.fact 90 rfl)) (r35 B) (hr.mono (by decide)) (se_var 0) (sa_cons (se_fld G (se_var 0)) sa_nil)))) (sss_one (ss_expr (se_meth (c := 8) (He.cls_ok (B.c.fact 57 rfl)) (He.meth_ok (B.c.fact 89 rfl)) (r46 B) (hr.mono (by decide)) (se_var 0) (sa_cons (se_ix2 (o_ix G (hu1 hr)) (se_fld G (se_var 0)) se_negc) sa_nil))))))) (sss_one (ss_ret (se_ix2 (o_ix G (hu1 hr)) (se_fld G (se_var 0)) se_negc)))))
theorem kp34 (B : Bd K hh mg) : PySem.W.keepIn K (.ref (He.fAd K ("Copying", some "step"))) = true := by obtain ⟨fd, F⟩ := B.c.def_ 34 (d := d34) rfl; exact F.kp
def f34 : MF := mDef 1 0 m34
theorem o34 (B : Bd K hh mg) : ∃ fd, FnOk P w K mg base CX0 12 (He.fAd K ("Copying", some "step")) fd ["self"] (SpM (gm K) 1 f34) ∧ FunD K d34.name d34.qual d34.params d34.body d34.scope (d34.dvs K) (d34.kws K) (He.fAd K ("Copying", some "step")) fd := by
  obtain ⟨fd, F⟩ := B.c.def_ 34 (d := d34) rfl
  exact ⟨fd, fn_okM (ps := ["self"]) F sc34 rfl rfl (fun cdv A outer s H hr => b34 B cdv A outer s H hr), F⟩
theorem r34 (B : Bd K hh mg) : FnR P w K mg base CX0 12 (He.fAd K ("Copying", some "step")) (SpM (gm K) 1 f34) := by
  obtain ⟨fd, F, D⟩ := o34 (P := P) (w := w) (base := base) B
  exact fnM_all F (FunD.bindsN (ps := ["self"]) D fun _ _ _ _ _ _ us hl => match us, hl with | [_], _ => rfl)
/-! ### Copying.finish -/
theorem sc33 : FnScope ["self"] ["self"] (defScope (inClass (top 45) 7)) := ⟨rfl, rfl, rfl, by decide +kernel, rfl, by decide +kernel, by decide +kernel⟩
def m33 : MS := (mSeqT (mWhile 300 (mNot (mTest (mFld g0 "ended" (mVar 0)))) (mDrop (mMeth 8 "step" f34 1 (mVar 0) mNil))) (mRet (mFld g0 "found" (mVar 0))))
theorem b33 (B : Bd K hh mg) (cdv : Value) (A : Around) (outer : List Env) (s : Shared) (H : Hp) (hr : Room 12 (A.deeper (envOfC "Copying.finish" (defScope (inClass (top 45) 7)) s.heap.objs.size (He.fAd K ("Copying", some "finish")) cdv))) : SSs (gm K) W0 (cxOf CX0 P w K mg base ["self"] "Copying.finish" (defScope (inClass (top 45) 7)) (He.fAd K ("Copying", some "finish")) cdv A outer s H E0).nox (defBody (inClass (top 45) 7)) m33 := by
  have G : GOk K (gm K) g0 := gok B
  exact (sss_consT (ss_while 300 PassesOwn.never (st_not (st_val (se_fld G (se_var 0)))) (sss_one (ss_expr (se_meth0 (c := 8) (He.cls_ok (B.c.fact 57 rfl)) (He.meth_ok (B.c.fact 91 rfl)) (r34 B) (hr.mono (by decide)) (se_var 0))))) (sss_one (ss_ret (se_fld G (se_var 0)))))
theorem kp33 (B : Bd K hh mg) : PySem.W.keepIn K (.ref (He.fAd K ("Copying", some "finish"))) = true := by obtain ⟨fd, F⟩ := B.c.def_ 33 (d := d33) rfl; exact F.kp
def f33 : MF := mDef 1 0 m33
theorem o33 (B : Bd K hh mg) : ∃ fd, FnOk P w K mg base CX0 13 (He.fAd K ("Copying", some "finish")) fd ["self"] (SpM (gm K) 1 f33) ∧ FunD K d33.name d33.qual d33.params d33.body d33.scope (d33.dvs K) (d33.kws K) (He.fAd K ("Copying", some "finish")) fd := by
  obtain ⟨fd, F⟩ := B.c.def_ 33 (d := d33) rfl
  exact ⟨fd, fn_okM (ps := ["self"]) F sc33 rfl rfl (fun cdv A outer s H hr => b33 B cdv A outer s H hr), F⟩
theorem r33 (B : Bd K hh mg) : FnR P w K mg base CX0 13 (He.fAd K ("Copying", some "finish")) (SpM (gm K) 1 f33) := by
  obtain ⟨fd, F, D⟩ := o33 (P := P) (w := w) (base := base) B
  exact fnM_all F (FunD.bindsN (ps := ["self"]) D fun _ _ _ _ _ _ us hl => match us, hl with | [_], _ => rfl)
/-! ### Copying.trace -/
theorem sc67 : FnScope ["self"] ["self"] (defScope (inClass (top 45) 4)) := ⟨rfl, rfl, rfl, by decide +kernel, rfl, by decide +kernel, by decide +kernel⟩
def m67 : MS := (mRet (mCb (fList g0) (mCons (mFld g0 "written" (mVar 0)) mNil)))
theorem b67 (B : Bd K hh mg) (cdv : Value) (A : Around) (outer : List Env) (s : Shared) (H : Hp) (hr : Room 0 (A.deeper (envOfC "Copying.trace" (defScope (inClass (top 45) 4)) s.heap.objs.size (He.fAd K ("Copying", some "trace")) cdv))) : SSs (gm K) W0 (cxOf CX0 P w K mg base ["self"] "Copying.trace" (defScope (inClass (top 45) 4)) (He.fAd K ("Copying", some "trace")) cdv A outer s H E0).nox (defBody (inClass (top 45) 4)) m67 := by
  have G : GOk K (gm K) g0 := gok B
  exact (sss_one (ss_ret (se_callTy (T := "list") (cb_list G rfl) (He.free_ok B.X B.G (B.c.fact 37 rfl)) rfl (sa_cons (se_fld G (se_var 0)) sa_nil))))
theorem kp67 (B : Bd K hh mg) : PySem.W.keepIn K (.ref (He.fAd K ("Copying", some "trace"))) = true := by obtain ⟨fd, F⟩ := B.c.def_ 67 (d := d67) rfl; exact F.kp
def f67 : MF := mDef 1 0 m67
theorem o67 (B : Bd K hh mg) : ∃ fd, FnOk P w K mg base CX0 1 (He.fAd K ("Copying", some "trace")) fd ["self"] (SpM (gm K) 1 f67) ∧ FunD K d67.name d67.qual d67.params d67.body d67.scope (d67.dvs K) (d67.kws K) (He.fAd K ("Copying", some "trace")) fd := by
  obtain ⟨fd, F⟩ := B.c.def_ 67 (d := d67) rfl
  exact ⟨fd, fn_okM (ps := ["self"]) F sc67 rfl rfl (fun cdv A outer s H hr => b67 B cdv A outer s H hr), F⟩
theorem r67 (B : Bd K hh mg) : FnR P w K mg base CX0 1 (He.fAd K ("Copying", some "trace")) (SpM (gm K) 1 f67) := by
  obtain ⟨fd, F, D⟩ := o67 (P := P) (w := w) (base := base) B
  exact fnM_all F (FunD.bindsN (ps := ["self"]) D fun _ _ _ _ _ _ us hl => match us, hl with | [_], _ => rfl)
/-! ### _law_hooks -/
theorem sc66 : FnScope ["_law_copying", "_law_entry"] ["_law_copying"] (defScope (top 86)) := ⟨rfl, rfl, rfl, by decide +kernel, rfl, by decide +kernel, by decide +kernel⟩
def m66 : MS := (mRet (mLc g0 300 [1] (miSeq g0 (mMeth 8 "trace" f67 1 (mVar 0) mNil)) (mgName 1) (mTest (mBin (fEq3 g0 false) (mBin (fIx g0) (mVar 1) (mC (.int 0))) (mC (.str "hook")))) (mBin (fIx g0) (mVar 1) (mC (.int 1)))))
theorem b66 (B : Bd K hh mg) (cdv : Value) (A : Around) (outer : List Env) (s : Shared) (H : Hp) (hr : Room 1 (A.deeper (envOfC "_law_hooks" (defScope (top 86)) s.heap.objs.size (He.fAd K ("_law_hooks", none)) cdv))) : SSs (gm K) W0 (cxOf CX0 P w K mg base ["_law_copying", "_law_entry"] "_law_hooks" (defScope (top 86)) (He.fAd K ("_law_hooks", none)) cdv A outer s H E0).nox (defBody (top 86)) m66 := by
  have G : GOk K (gm K) g0 := gok B
  exact (sss_one (ss_ret (se_lc (own := [("_law_entry", 1)]) 300 rfl sc66.nd (si_seq G (se_meth0 (c := 8) (He.cls_ok (B.c.fact 57 rfl)) (He.meth_ok (B.c.fact 93 rfl)) (r67 B) (hr.mono (by decide)) (se_var 0))) (show BlkOk ["_law_copying", "_law_entry"] (defScope (top 86)) _ [("_law_entry", 1)] from ⟨rfl, by decide +kernel, by decide +kernel, by decide +kernel, by decide +kernel⟩) (fun _ _ _ _ _ => (sg_name sc66.nd)) (fun _ _ _ _ _ => ST.pts1 (st_cmp2 (o_eq3 G (hu66 hr)) (se_ix2 (o_ix G (hu1 hr)) (se_var 1) se_int) se_str)) (fun _ _ _ _ _ => (se_ix2 (o_ix G (hu1 hr)) (se_var 1) se_int)))))
theorem kp66 (B : Bd K hh mg) : PySem.W.keepIn K (.ref (He.fAd K ("_law_hooks", none))) = true := by obtain ⟨fd, F⟩ := B.c.def_ 66 (d := d66) rfl; exact F.kp
def f66 : MF := mDef 1 1 m66
theorem o66 (B : Bd K hh mg) : ∃ fd, FnOk P w K mg base CX0 2 (He.fAd K ("_law_hooks", none)) fd ["_law_copying"] (SpM (gm K) 1 f66) ∧ FunD K d66.name d66.qual d66.params d66.body d66.scope (d66.dvs K) (d66.kws K) (He.fAd K ("_law_hooks", none)) fd := by
  obtain ⟨fd, F⟩ := B.c.def_ 66 (d := d66) rfl
  exact ⟨fd, fn_okM (ps := ["_law_copying"]) F sc66 rfl rfl (fun cdv A outer s H hr => b66 B cdv A outer s H hr), F⟩
theorem r66 (B : Bd K hh mg) : FnR P w K mg base CX0 2 (He.fAd K ("_law_hooks", none)) (SpM (gm K) 1 f66) := by
  obtain ⟨fd, F, D⟩ := o66 (P := P) (w := w) (base := base) B
  exact fnM_all F (FunD.bindsN (ps := ["_law_copying"]) D fun _ _ _ _ _ _ us hl => match us, hl with | [_], _ => rfl)
/-! ### check_value -/
theorem sc70 : FnScope ["heap", "value"] ["heap", "value"] (defScope (top 59)) := ⟨rfl, rfl, rfl, by decide +kernel, rfl, by decide +kernel, by decide +kernel⟩
def m70 : MS := (mIfS (mNot (mTest (mMeth 1 "is_value" f18 2 (mVar 0) (mCons (mVar 1) mNil)))) mDeadS mNext)
theorem b70 (B : Bd K hh mg) (cdv : Value) (A : Around) (outer : List Env) (s : Shared) (H : Hp) (hr : Room 3 (A.deeper (envOfC "check_value" (defScope (top 59)) s.heap.objs.size (He.fAd K ("check_value", none)) cdv))) : SSs (gm K) W0 (cxOf CX0 P w K mg base ["heap", "value"] "check_value" (defScope (top 59)) (He.fAd K ("check_value", none)) cdv A outer s H E0).nox (defBody (top 59)) m70 := by
  have G : GOk K (gm K) g0 := gok B
  exact (sss_one (ss_if (st_not (st_val (se_meth (c := 1) (He.cls_ok (B.c.fact 30 rfl)) (He.meth_ok (B.c.fact 32 rfl)) (r18 B) (hr.mono (by decide)) (se_var 0) (sa_cons (se_var 1) sa_nil)))) (sss_one s_dead) sss_nil))
theorem kp70 (B : Bd K hh mg) : PySem.W.keepIn K (.ref (He.fAd K ("check_value", none))) = true := by obtain ⟨fd, F⟩ := B.c.def_ 70 (d := d70) rfl; exact F.kp
def f70 : MF := mDef 2 0 m70
theorem o70 (B : Bd K hh mg) : ∃ fd, FnOk P w K mg base CX0 4 (He.fAd K ("check_value", none)) fd ["heap", "value"] (SpM (gm K) 2 f70) ∧ FunD K d70.name d70.qual d70.params d70.body d70.scope (d70.dvs K) (d70.kws K) (He.fAd K ("check_value", none)) fd := by
  obtain ⟨fd, F⟩ := B.c.def_ 70 (d := d70) rfl
  exact ⟨fd, fn_okM (ps := ["heap", "value"]) F sc70 rfl rfl (fun cdv A outer s H hr => b70 B cdv A outer s H hr), F⟩
theorem r70 (B : Bd K hh mg) : FnR P w K mg base CX0 4 (He.fAd K ("check_value", none)) (SpM (gm K) 2 f70) := by
  obtain ⟨fd, F, D⟩ := o70 (P := P) (w := w) (base := base) B
  exact fnM_all F (FunD.bindsN (ps := ["heap", "value"]) D fun _ _ _ _ _ _ us hl => match us, hl with | [_, _], _ => rfl)
/-! ### View.__init__ -/
theorem sc71 : FnScope ["self", "heap", "entries"] ["self", "heap", "entries"] (defScope (inClass (top 52) 0)) := ⟨rfl, rfl, rfl, by decide +kernel, rfl, by decide +kernel, by decide +kernel⟩
def m71 : MS := (mSeqT (mSetF g0 "heap" (mVar 0) (mVar 1)) (mSetF g0 "known" (mVar 0) (mCb (fDict g0) (mCons (mVar 2) mNil))))
theorem b71 (B : Bd K hh mg) (cdv : Value) (A : Around) (outer : List Env) (s : Shared) (H : Hp) (hr : Room 0 (A.deeper (envOfC "View.__init__" (defScope (inClass (top 52) 0)) s.heap.objs.size (He.fAd K ("View", some "__init__")) cdv))) : SSs (gm K) W0 (cxOf CX0 P w K mg base ["self", "heap", "entries"] "View.__init__" (defScope (inClass (top 52) 0)) (He.fAd K ("View", some "__init__")) cdv A outer s H E0).nox (defBody (inClass (top 52) 0)) m71 := by
  have G : GOk K (gm K) g0 := gok B
  exact (sss_consT (ss_setF G (se_var 0) (se_var 1)) (sss_one (ss_setF G (se_var 0) (se_callTy (T := "dict") (cb_dict G rfl) (He.free_ok B.X B.G (B.c.fact 75 rfl)) rfl (sa_cons (se_var 2) sa_nil)))))
theorem kp71 (B : Bd K hh mg) : PySem.W.keepIn K (.ref (He.fAd K ("View", some "__init__"))) = true := by obtain ⟨fd, F⟩ := B.c.def_ 71 (d := d71) rfl; exact F.kp
def f71 : MF := mDef 3 0 m71
theorem o71 (B : Bd K hh mg) : ∃ fd, FnOk P w K mg base CX0 1 (He.fAd K ("View", some "__init__")) fd ["self", "heap", "entries"] (SpM (gm K) 3 f71) ∧ FunD K d71.name d71.qual d71.params d71.body d71.scope (d71.dvs K) (d71.kws K) (He.fAd K ("View", some "__init__")) fd := by
  obtain ⟨fd, F⟩ := B.c.def_ 71 (d := d71) rfl
  exact ⟨fd, fn_okM (ps := ["self", "heap", "entries"]) F sc71 rfl rfl (fun cdv A outer s H hr => b71 B cdv A outer s H hr), F⟩
theorem r71 (B : Bd K hh mg) : FnR P w K mg base CX0 1 (He.fAd K ("View", some "__init__")) (SpM (gm K) 3 f71) := by
  obtain ⟨fd, F, D⟩ := o71 (P := P) (w := w) (base := base) B
  exact fnM_all F (FunD.bindsN (ps := ["self", "heap", "entries"]) D fun _ _ _ _ _ _ us hl => match us, hl with | [_, _, _], _ => rfl)
/-! ### cyclic_part -/
theorem sc73 : FnScope ["edges", "sources", "cell", "targets", "target", "many", "ended", "gone", "source", "one"] ["edges"] (defScope (top 62)) := ⟨rfl, rfl, rfl, by decide +kernel, rfl, by decide +kernel, by decide +kernel⟩
def m73 : MS := (mSeqT (mAsg (mDc g0 300 [2] (miAny g0 (mVar 0)) (mgName 2) mYes (mVar 2) (mLst mNil)) (mgName 1)) (mSeqT (mFor g0 300 (miDict .items (mVar 0)) (mgTup g0 2 (mgCons (mgName 2) (mgCons (mgName 3) mgNil))) (mFor g0 300 (miAny g0 (mVar 3)) (mgName 4) (mDrop (mMt fAppend (mBin (fIx g0) (mVar 1) (mVar 4)) (mCons (mVar 2) mNil))))) (mSeqT (mAsg (mDc g0 300 [2, 3] (miDict .items (mVar 0)) (mgTup g0 2 (mgCons (mgName 2) (mgCons (mgName 3) mgNil))) mYes (mVar 2) (mCb (fLen g0) (mCons (mVar 3) mNil))) (mgName 5)) (mSeqT (mAsg (mLc g0 300 [2] (miAny g0 (mVar 0)) (mgName 2) (mTest (mBin (fEq3 g0 false) (mBin (fIx g0) (mVar 5) (mVar 2)) (mC (.int 0)))) (mVar 2)) (mgName 6)) (mSeqT (mAsg mDict0 (mgName 7)) (mSeqT (mWhile 300 (mTest (mBin (fEq3 g0 true) (mVar 6) (mLst mNil))) (mSeqT (mAsg (mMt fPop (mVar 6) mNil) (mgName 2)) (mSeqT (mAsg (mC (.bl true)) (mgSub (mVar 7) (mVar 2))) (mFor g0 300 (miSeq g0 (mBin (fIx g0) (mVar 1) (mVar 2))) (mgName 8) (mSeqT (mAugD (fun i j => i - j) (mVar 5) (mVar 8) (mC (.int 1))) (mIfS (mTest (mBin (fEq3 g0 false) (mBin (fIx g0) (mVar 5) (mVar 8)) (mC (.int 0)))) (mDrop (mMt fAppend (mVar 6) (mCons (mVar 8) mNil))) mNext)))))) (mRet (mDc g0 300 [2, 3] (miDict .items (mVar 0)) (mgTup g0 2 (mgCons (mgName 2) (mgCons (mgName 3) mgNil))) (mTest (mBin (fIn2 g0 true) (mVar 2) (mVar 7))) (mVar 2) (mLc g0 300 [9] (miAny g0 (mVar 3)) (mgName 9) (mTest (mBin (fIn2 g0 true) (mVar 9) (mVar 7))) (mVar 9))))))))))
theorem b73 (B : Bd K hh mg) (cdv : Value) (A : Around) (outer : List Env) (s : Shared) (H : Hp) (hr : Room 0 (A.deeper (envOfC "cyclic_part" (defScope (top 62)) s.heap.objs.size (He.fAd K ("cyclic_part", none)) cdv))) : SSs (gm K) W0 (cxOf CX0 P w K mg base ["edges", "sources", "cell", "targets", "target", "many", "ended", "gone", "source", "one"] "cyclic_part" (defScope (top 62)) (He.fAd K ("cyclic_part", none)) cdv A outer s H E0).nox (defBody (top 62)) m73 := by
  have G : GOk K (gm K) g0 := gok B
  exact (sss_consT (ss_setDc (own := [("cell", 2)]) 300 rfl sc73.nd (si_any G (se_var 0)) (show BlkOk ["edges", "sources", "cell", "targets", "target", "many", "ended", "gone", "source", "one"] (defScope (top 62)) _ [("cell", 2)] from ⟨rfl, by decide +kernel, by decide +kernel, by decide +kernel, by decide +kernel⟩) (fun _ _ _ _ _ => (sg_name sc73.nd)) (fun _ _ _ _ _ => pts_nilM) (fun _ _ _ _ _ => (se_var 2)) (fun _ _ _ _ _ => (se_lst sa_nil))) (sss_consT (ss_for 300 PassesOwn.never rfl (si_items (se_var 0)) (sg_tup G rfl (sgs_cons (sg_name sc73.nd) (sgs_cons (sg_name sc73.nd) sgs_nil))) (sss_one (ss_for 300 PassesOwn.never rfl (si_any G (se_var 3)) (sg_name sc73.nd) (sss_one (ss_expr (se_bm PySem.F.slot_list_append PySem.F.type_list_append mt2_append (se_ix2 (o_ix G (hu1 hr)) (se_var 1) (se_var 4)) (sa_cons (se_var 2) sa_nil))))))) (sss_consT (ss_set sc73.nd (se_dc (own := [("cell", 2), ("targets", 3)]) 300 rfl sc73.nd (si_items (se_var 0)) (show BlkOk ["edges", "sources", "cell", "targets", "target", "many", "ended", "gone", "source", "one"] (defScope (top 62)) _ [("cell", 2), ("targets", 3)] from ⟨rfl, by decide +kernel, by decide +kernel, by decide +kernel, by decide +kernel⟩) (fun _ _ _ _ _ => (sg_tup G rfl (sgs_cons (sg_name sc73.nd) (sgs_cons (sg_name sc73.nd) sgs_nil)))) (fun _ _ _ _ _ => pts_nilM) (fun _ _ _ _ _ => (se_var 2)) (fun _ _ _ _ _ => (se_callB (id := "len") (cb_len G) (He.free_ok B.X B.G (B.c.fact 4 rfl)) rfl (sa_cons (se_var 3) sa_nil)))) (hs := sw_falseD rfl)) (sss_consT (ss_setLc (own := [("cell", 2)]) 300 rfl sc73.nd (si_any G (se_var 0)) (show BlkOk ["edges", "sources", "cell", "targets", "target", "many", "ended", "gone", "source", "one"] (defScope (top 62)) _ [("cell", 2)] from ⟨rfl, by decide +kernel, by decide +kernel, by decide +kernel, by decide +kernel⟩) (fun _ _ _ _ _ => (sg_name sc73.nd)) (fun _ _ _ _ _ => ST.pts1 (st_cmp2 (o_eq3 G (hu66 hr)) (se_ix2 (o_ix G (hu1 hr)) (se_var 5) (se_var 2)) se_int)) (fun _ _ _ _ _ => (se_var 2))) (sss_consT (ss_set sc73.nd se_dict0) (sss_consT (ss_while 300 PassesOwn.never (st_cmp2 (o_ne3 G (hu66 hr)) (se_var 6) (se_lst sa_nil)) (sss_consT (ss_set sc73.nd (se_bm0 PySem.F.slot_list_pop PySem.F.type_list_pop mt2_pop (se_var 6))) (sss_consT (ss_asg se_bl (sg_sub (W := W0) (hu1 hr) (se_var 7) (se_var 2))) (sss_one (ss_for 300 PassesOwn.never rfl (si_seq G (se_ix2 (o_ix G (hu1 hr)) (se_var 1) (se_var 2))) (sg_name sc73.nd) (sss_consT (ss_augD (hu1 hr) in_sub rd_sub (se_var 5) (se_var 8) se_int) (sss_one (ss_if (st_cmp2 (o_eq3 G (hu66 hr)) (se_ix2 (o_ix G (hu1 hr)) (se_var 5) (se_var 8)) se_int) (sss_one (ss_expr (se_bm PySem.F.slot_list_append PySem.F.type_list_append mt2_append (se_var 6) (sa_cons (se_var 8) sa_nil)))) sss_nil)))))))) (sss_one (ss_ret (se_dc (own := [("cell", 2), ("targets", 3)]) 300 rfl sc73.nd (si_items (se_var 0)) (show BlkOk ["edges", "sources", "cell", "targets", "target", "many", "ended", "gone", "source", "one"] (defScope (top 62)) _ [("cell", 2), ("targets", 3)] from ⟨rfl, by decide +kernel, by decide +kernel, by decide +kernel, by decide +kernel⟩) (fun _ _ _ _ _ => (sg_tup G rfl (sgs_cons (sg_name sc73.nd) (sgs_cons (sg_name sc73.nd) sgs_nil)))) (fun _ _ _ _ _ => ST.pts1 (st_cmp2 (o_nin2 G (hu66 hr)) (se_var 2) (se_var 7))) (fun _ _ _ _ _ => (se_var 2)) (fun _ _ _ _ _ => (se_lc (own := [("one", 9)]) 300 rfl sc73.nd (si_any G (se_var 3)) (blkB_ok (by kernel_rfl)) (fun _ _ _ _ _ => (sg_name sc73.nd)) (fun _ _ _ _ _ => ST.pts1 (st_cmp2 (o_nin2 G (hu66 hr)) (se_var 9) (se_var 7))) (fun _ _ _ _ _ => (se_var 9)))))))))))))
theorem kp73 (B : Bd K hh mg) : PySem.W.keepIn K (.ref (He.fAd K ("cyclic_part", none))) = true := by obtain ⟨fd, F⟩ := B.c.def_ 73 (d := d73) rfl; exact F.kp
def f73 : MF := mDef 1 9 m73
theorem o73 (B : Bd K hh mg) : ∃ fd, FnOk P w K mg base CX0 1 (He.fAd K ("cyclic_part", none)) fd ["edges"] (SpM (gm K) 1 f73) ∧ FunD K d73.name d73.qual d73.params d73.body d73.scope (d73.dvs K) (d73.kws K) (He.fAd K ("cyclic_part", none)) fd := by
  obtain ⟨fd, F⟩ := B.c.def_ 73 (d := d73) rfl
  exact ⟨fd, fn_okM (ps := ["edges"]) F sc73 rfl rfl (fun cdv A outer s H hr => b73 B cdv A outer s H hr), F⟩
theorem r73 (B : Bd K hh mg) : FnR P w K mg base CX0 1 (He.fAd K ("cyclic_part", none)) (SpM (gm K) 1 f73) := by
  obtain ⟨fd, F, D⟩ := o73 (P := P) (w := w) (base := base) B
  exact fnM_all F (FunD.bindsN (ps := ["edges"]) D fun _ _ _ _ _ _ us hl => match us, hl with | [_], _ => rfl)
/-! ### form_of -/
theorem sc76 : FnScope ["heap", "cell", "shape"] ["heap", "cell"] (defScope (top 55)) := ⟨rfl, rfl, rfl, by decide +kernel, rfl, by decide +kernel, by decide +kernel⟩
def m76 : MS := (mSeqT (mAsg (mFld g0 "design" (mBin (fIx g0) (mFld g0 "cells" (mVar 0)) (mVar 1))) (mgName 2)) (mRet (mIf (mTest (mBin (fIsN false) (mVar 2) (mC .non))) (mC (.str "")) (mProp 0 f49 (mVar 2)))))
theorem b76 (B : Bd K hh mg) (cdv : Value) (A : Around) (outer : List Env) (s : Shared) (H : Hp) (hr : Room 7 (A.deeper (envOfC "form_of" (defScope (top 55)) s.heap.objs.size (He.fAd K ("form_of_ahead", none)) cdv))) : SSs (gm K) W0 (cxOf CX0 P w K mg base ["heap", "cell", "shape"] "form_of" (defScope (top 55)) (He.fAd K ("form_of_ahead", none)) cdv A outer s H E0).nox (defBody (top 55)) m76 := by
  have G : GOk K (gm K) g0 := gok B
  exact (sss_consT (ss_set sc76.nd (se_fld G (se_ix2 (o_ix G (hu1 hr)) (se_fld G (se_var 0)) (se_var 1)))) (sss_one (ss_ret (se_if (st_cmp2 o_isN (se_var 2) se_non) se_str (se_prop2 (c := 0) (He.cls_ok (B.c.fact 0 rfl)) (prop_Shape_form B) (p49 B) (hr.mono (by decide)) (se_var 2))))))
theorem kp76 (B : Bd K hh mg) : PySem.W.keepIn K (.ref (He.fAd K ("form_of_ahead", none))) = true := by obtain ⟨fd, F⟩ := B.c.def_ 76 (d := d76) rfl; exact F.kp
def f76 : MF := mDef 2 1 m76
theorem o76 (B : Bd K hh mg) : ∃ fd, FnOk P w K mg base CX0 8 (He.fAd K ("form_of_ahead", none)) fd ["heap", "cell"] (SpM (gm K) 2 f76) ∧ FunD K d76.name d76.qual d76.params d76.body d76.scope (d76.dvs K) (d76.kws K) (He.fAd K ("form_of_ahead", none)) fd := by
  obtain ⟨fd, F⟩ := B.c.def_ 76 (d := d76) rfl
  exact ⟨fd, fn_okM (ps := ["heap", "cell"]) F sc76 rfl rfl (fun cdv A outer s H hr => b76 B cdv A outer s H hr), F⟩
theorem r76 (B : Bd K hh mg) : FnR P w K mg base CX0 8 (He.fAd K ("form_of_ahead", none)) (SpM (gm K) 2 f76) := by
  obtain ⟨fd, F, D⟩ := o76 (P := P) (w := w) (base := base) B
  exact fnM_all F (FunD.bindsN (ps := ["heap", "cell"]) D fun _ _ _ _ _ _ us hl => match us, hl with | [_, _], _ => rfl)
/-! ### hook_of -/
theorem sc78 : FnScope ["heap", "cell", "shape"] ["heap", "cell"] (defScope (top 54)) := ⟨rfl, rfl, rfl, by decide +kernel, rfl, by decide +kernel, by decide +kernel⟩
def m78 : MS := (mSeqT (mAsg (mFld g0 "design" (mBin (fIx g0) (mFld g0 "cells" (mVar 0)) (mVar 1))) (mgName 2)) (mRet (mIf (mTest (mBin (fIsN false) (mVar 2) (mC .non))) (mC .non) (mProp 0 f47 (mVar 2)))))
theorem b78 (B : Bd K hh mg) (cdv : Value) (A : Around) (outer : List Env) (s : Shared) (H : Hp) (hr : Room 2 (A.deeper (envOfC "hook_of" (defScope (top 54)) s.heap.objs.size (He.fAd K ("hook_of", none)) cdv))) : SSs (gm K) W0 (cxOf CX0 P w K mg base ["heap", "cell", "shape"] "hook_of" (defScope (top 54)) (He.fAd K ("hook_of", none)) cdv A outer s H E0).nox (defBody (top 54)) m78 := by
  have G : GOk K (gm K) g0 := gok B
  exact (sss_consT (ss_set sc78.nd (se_fld G (se_ix2 (o_ix G (hu1 hr)) (se_fld G (se_var 0)) (se_var 1)))) (sss_one (ss_ret (se_if (st_cmp2 o_isN (se_var 2) se_non) se_non (se_prop2 (c := 0) (He.cls_ok (B.c.fact 0 rfl)) (prop_Shape_deep_hook B) (p47 B) (hr.mono (by decide)) (se_var 2))))))
theorem kp78 (B : Bd K hh mg) : PySem.W.keepIn K (.ref (He.fAd K ("hook_of", none))) = true := by obtain ⟨fd, F⟩ := B.c.def_ 78 (d := d78) rfl; exact F.kp
def f78 : MF := mDef 2 1 m78
theorem o78 (B : Bd K hh mg) : ∃ fd, FnOk P w K mg base CX0 3 (He.fAd K ("hook_of", none)) fd ["heap", "cell"] (SpM (gm K) 2 f78) ∧ FunD K d78.name d78.qual d78.params d78.body d78.scope (d78.dvs K) (d78.kws K) (He.fAd K ("hook_of", none)) fd := by
  obtain ⟨fd, F⟩ := B.c.def_ 78 (d := d78) rfl
  exact ⟨fd, fn_okM (ps := ["heap", "cell"]) F sc78 rfl rfl (fun cdv A outer s H hr => b78 B cdv A outer s H hr), F⟩
theorem r78 (B : Bd K hh mg) : FnR P w K mg base CX0 3 (He.fAd K ("hook_of", none)) (SpM (gm K) 2 f78) := by
  obtain ⟨fd, F, D⟩ := o78 (P := P) (w := w) (base := base) B
  exact fnM_all F (FunD.bindsN (ps := ["heap", "cell"]) D fun _ _ _ _ _ _ us hl => match us, hl with | [_, _], _ => rfl)
/-! ### field_value -/
theorem sc79 : FnScope ["heap", "cell", "field"] ["heap", "cell", "field"] (defScope (top 53)) := ⟨rfl, rfl, rfl, by decide +kernel, rfl, by decide +kernel, by decide +kernel⟩
def m79 : MS := (mRet (mGet1 (mCb (fDict g0) (mCons (mMeth 1 "parts" f54 2 (mVar 0) (mCons (mVar 1) mNil)) mNil)) (mVar 2)))
theorem b79 (B : Bd K hh mg) (cdv : Value) (A : Around) (outer : List Env) (s : Shared) (H : Hp) (hr : Room 4 (A.deeper (envOfC "field_value" (defScope (top 53)) s.heap.objs.size (He.fAd K ("field_value", none)) cdv))) : SSs (gm K) W0 (cxOf CX0 P w K mg base ["heap", "cell", "field"] "field_value" (defScope (top 53)) (He.fAd K ("field_value", none)) cdv A outer s H E0).nox (defBody (top 53)) m79 := by
  have G : GOk K (gm K) g0 := gok B
  exact (sss_one (ss_ret (se_get1 (hu1 hr) (se_callTy (T := "dict") (cb_dict G rfl) (He.free_ok B.X B.G (B.c.fact 75 rfl)) rfl (sa_cons (se_meth (c := 1) (He.cls_ok (B.c.fact 30 rfl)) (He.meth_ok (B.c.fact 74 rfl)) (r54 B) (hr.mono (by decide)) (se_var 0) (sa_cons (se_var 1) sa_nil)) sa_nil)) (se_var 2))))
theorem kp79 (B : Bd K hh mg) : PySem.W.keepIn K (.ref (He.fAd K ("field_value", none))) = true := by obtain ⟨fd, F⟩ := B.c.def_ 79 (d := d79) rfl; exact F.kp
def f79 : MF := mDef 3 0 m79
theorem o79 (B : Bd K hh mg) : ∃ fd, FnOk P w K mg base CX0 5 (He.fAd K ("field_value", none)) fd ["heap", "cell", "field"] (SpM (gm K) 3 f79) ∧ FunD K d79.name d79.qual d79.params d79.body d79.scope (d79.dvs K) (d79.kws K) (He.fAd K ("field_value", none)) fd := by
  obtain ⟨fd, F⟩ := B.c.def_ 79 (d := d79) rfl
  exact ⟨fd, fn_okM (ps := ["heap", "cell", "field"]) F sc79 rfl rfl (fun cdv A outer s H hr => b79 B cdv A outer s H hr), F⟩
theorem r79 (B : Bd K hh mg) : FnR P w K mg base CX0 5 (He.fAd K ("field_value", none)) (SpM (gm K) 3 f79) := by
  obtain ⟨fd, F, D⟩ := o79 (P := P) (w := w) (base := base) B
  exact fnM_all F (FunD.bindsN (ps := ["heap", "cell", "field"]) D fun _ _ _ _ _ _ us hl => match us, hl with | [_, _, _], _ => rfl)
/-! ### deep_parts -/
theorem sc77 : FnScope ["heap", "cell", "hook", "step"] ["heap", "cell"] (defScope (top 57)) := ⟨rfl, rfl, rfl, by decide +kernel, rfl, by decide +kernel, by decide +kernel⟩
def m77 : MS := (mSeqT (mIfS (mTest (mBin (fOwn2 1 f31 fun b => bif true then !b else b) (mVar 1) (mVar 0))) mDeadS mNext) (mSeqT (mAsg (mCall f78 2 (mCons (mVar 0) (mCons (mVar 1) mNil))) (mgName 2)) (mSeqT (mIfS (mTest (mBin (fIsN false) (mVar 2) (mC .non))) (mRet (mMeth 1 "parts" f54 2 (mVar 0) (mCons (mVar 1) mNil))) mNext) (mRet (mLc g0 300 [3] (miAny g0 (mVar 2)) (mgName 3) (mTest (mBin (fIn2 g0 false) (mBin (fIx g0) (mVar 3) (mC (.int 0))) (mTup (mCons (mC (.str "deep")) (mCons (mC (.str "give")) mNil))))) (mTup (mCons (mBin (fIx g0) (mVar 3) (mC (.int 1))) (mCons (mCall f79 3 (mCons (mVar 0) (mCons (mVar 1) (mCons (mBin (fIx g0) (mVar 3) (mC (.int 1))) mNil)))) mNil))))))))
theorem b77 (B : Bd K hh mg) (cdv : Value) (A : Around) (outer : List Env) (s : Shared) (H : Hp) (hr : Room 5 (A.deeper (envOfC "deep_parts" (defScope (top 57)) s.heap.objs.size (He.fAd K ("deep_parts", none)) cdv))) : SSs (gm K) W0 (cxOf CX0 P w K mg base ["heap", "cell", "hook", "step"] "deep_parts" (defScope (top 57)) (He.fAd K ("deep_parts", none)) cdv A outer s H E0).nox (defBody (top 57)) m77 := by
  have G : GOk K (gm K) g0 := gok B
  exact (sss_consT (ss_if (st_cmp2 (o_ninOwn (c := 1) (He.meth_ok (B.c.fact 51 rfl)).at_ (He.meth_ok (B.c.fact 51 rfl)).fn (r31 B) (hr.mono (by decide))) (se_var 1) (se_var 0)) (sss_one s_dead) sss_nil) (sss_consT (ss_set sc77.nd (se_call (r78 B) (hr.mono (by decide)) (He.glo_ok B.X B.G (B.c.fact 99 rfl)) (kp78 B) (sa_cons (se_var 0) (sa_cons (se_var 1) sa_nil)))) (sss_consT (ss_if (st_cmp2 o_isN (se_var 2) se_non) (sss_one (ss_ret (se_meth (c := 1) (He.cls_ok (B.c.fact 30 rfl)) (He.meth_ok (B.c.fact 74 rfl)) (r54 B) (hr.mono (by decide)) (se_var 0) (sa_cons (se_var 1) sa_nil)))) sss_nil) (sss_one (ss_ret (se_lc (own := [("step", 3)]) 300 rfl sc77.nd (si_any G (se_var 2)) (show BlkOk ["heap", "cell", "hook", "step"] (defScope (top 57)) _ [("step", 3)] from ⟨rfl, by decide +kernel, by decide +kernel, by decide +kernel, by decide +kernel⟩) (fun _ _ _ _ _ => (sg_name sc77.nd)) (fun _ _ _ _ _ => ST.pts1 (st_cmp2 (o_in2 G (hu66 hr)) (se_ix2 (o_ix G (hu1 hr)) (se_var 3) se_int) (se_tup (sa_cons se_str (sa_cons se_str sa_nil))))) (fun _ _ _ _ _ => (se_tup (sa_cons (se_ix2 (o_ix G (hu1 hr)) (se_var 3) se_int) (sa_cons (se_call (r79 B) (hr.mono (by decide)) (He.glo_ok B.X B.G (B.c.fact 100 rfl)) (kp79 B) (sa_cons (se_var 0) (sa_cons (se_var 1) (sa_cons (se_ix2 (o_ix G (hu1 hr)) (se_var 3) se_int) sa_nil)))) sa_nil))))))))))
theorem kp77 (B : Bd K hh mg) : PySem.W.keepIn K (.ref (He.fAd K ("deep_parts", none))) = true := by obtain ⟨fd, F⟩ := B.c.def_ 77 (d := d77) rfl; exact F.kp
def f77 : MF := mDef 2 2 m77
theorem o77 (B : Bd K hh mg) : ∃ fd, FnOk P w K mg base CX0 6 (He.fAd K ("deep_parts", none)) fd ["heap", "cell"] (SpM (gm K) 2 f77) ∧ FunD K d77.name d77.qual d77.params d77.body d77.scope (d77.dvs K) (d77.kws K) (He.fAd K ("deep_parts", none)) fd := by
  obtain ⟨fd, F⟩ := B.c.def_ 77 (d := d77) rfl
  exact ⟨fd, fn_okM (ps := ["heap", "cell"]) F sc77 rfl rfl (fun cdv A outer s H hr => b77 B cdv A outer s H hr), F⟩
theorem r77 (B : Bd K hh mg) : FnR P w K mg base CX0 6 (He.fAd K ("deep_parts", none)) (SpM (gm K) 2 f77) := by
  obtain ⟨fd, F, D⟩ := o77 (P := P) (w := w) (base := base) B
  exact fnM_all F (FunD.bindsN (ps := ["heap", "cell"]) D fun _ _ _ _ _ _ us hl => match us, hl with | [_, _], _ => rfl)
/-! ### late_steps -/
theorem sc81 : FnScope ["hook", "found", "word", "rest"] ["hook"] (defScope (top 37)) := ⟨rfl, rfl, rfl, by decide +kernel, rfl, by decide +kernel, by decide +kernel⟩
def m81 : MS := (mSeqT (mAsg (mLst mNil) (mgName 1)) (mSeqT (mFor g0 300 (miAny g0 (mVar 0)) (mgStar g0 2 1 (mgCons (mgName 2) (mgCons (mgName 3) mgNil))) (mSeqT (mIfS (mTest (mBin (fEq3 g0 false) (mVar 2) (mC (.str "enter")))) mBreak mNext) (mIfS (mTest (mBin (fEq3 g0 false) (mVar 2) (mC (.str "deep")))) (mDrop (mMt fExtend (mVar 1) (mCons (mVar 3) mNil))) mNext))) (mRet (mVar 1))))
theorem b81 (B : Bd K hh mg) (cdv : Value) (A : Around) (outer : List Env) (s : Shared) (H : Hp) (hr : Room 0 (A.deeper (envOfC "late_steps" (defScope (top 37)) s.heap.objs.size (He.fAd K ("late_steps", none)) cdv))) : SSs (gm K) W0 (cxOf CX0 P w K mg base ["hook", "found", "word", "rest"] "late_steps" (defScope (top 37)) (He.fAd K ("late_steps", none)) cdv A outer s H E0).nox (defBody (top 37)) m81 := by
  have G : GOk K (gm K) g0 := gok B
  exact (sss_consT (ss_set sc81.nd (se_lst sa_nil)) (sss_consT (ss_for 300 PassesOwn.never rfl (si_any G (se_var 0)) (sg_star (n := 2) (i := 1) G rfl (sgs_cons (sg_name sc81.nd) (sgs_star (sg_name sc81.nd) sgs_nil))) (sss_consT (ss_if (st_cmp2 (o_eq3 G (hu66 hr)) (se_var 2) se_str) (sss_one ss_break) sss_nil) (sss_one (ss_if (st_cmp2 (o_eq3 G (hu66 hr)) (se_var 2) se_str) (sss_one (ss_expr (se_bm PySem.F.slot_list_extend PySem.F.type_list_extend mt2_extend (se_var 1) (sa_cons (se_var 3) sa_nil)))) sss_nil)))) (sss_one (ss_ret (se_var 1)))))
theorem kp81 (B : Bd K hh mg) : PySem.W.keepIn K (.ref (He.fAd K ("late_steps", none))) = true := by obtain ⟨fd, F⟩ := B.c.def_ 81 (d := d81) rfl; exact F.kp
def f81 : MF := mDef 1 3 m81
theorem o81 (B : Bd K hh mg) : ∃ fd, FnOk P w K mg base CX0 1 (He.fAd K ("late_steps", none)) fd ["hook"] (SpM (gm K) 1 f81) ∧ FunD K d81.name d81.qual d81.params d81.body d81.scope (d81.dvs K) (d81.kws K) (He.fAd K ("late_steps", none)) fd := by
  obtain ⟨fd, F⟩ := B.c.def_ 81 (d := d81) rfl
  exact ⟨fd, fn_okM (ps := ["hook"]) F sc81 rfl rfl (fun cdv A outer s H hr => b81 B cdv A outer s H hr), F⟩
theorem r81 (B : Bd K hh mg) : FnR P w K mg base CX0 1 (He.fAd K ("late_steps", none)) (SpM (gm K) 1 f81) := by
  obtain ⟨fd, F, D⟩ := o81 (P := P) (w := w) (base := base) B
  exact fnM_all F (FunD.bindsN (ps := ["hook"]) D fun _ _ _ _ _ _ us hl => match us, hl with | [_], _ => rfl)
/-! ### Shape.late_fields -/
theorem sc80 : FnScope ["self"] ["self"] (defScope (inClass (top 38) 8)) := ⟨rfl, rfl, rfl, by decide +kernel, rfl, by decide +kernel, by decide +kernel⟩
def m80 : MS := (mRet (mIf (mTest (mBin (fEq3 g0 false) (mProp 0 f49 (mVar 0)) (mC (.str "builder")))) (mCb (MV.f1 (fTupS g0)) (mCons (mCall f81 1 (mCons (mFld g0 "deep_steps" (mVar 0)) mNil)) mNil)) (mTup mNil)))
theorem b80 (B : Bd K hh mg) (cdv : Value) (A : Around) (outer : List Env) (s : Shared) (H : Hp) (hr : Room 7 (A.deeper (envOfC "Shape.late_fields" (defScope (inClass (top 38) 8)) s.heap.objs.size (gP K "Shape" "late_fields") cdv))) : SSs (gm K) W0 (cxOf CX0 P w K mg base ["self"] "Shape.late_fields" (defScope (inClass (top 38) 8)) (gP K "Shape" "late_fields") cdv A outer s H E0).nox (defBody (inClass (top 38) 8)) m80 := by
  have G : GOk K (gm K) g0 := gok B
  exact (sss_one (ss_ret (se_if (st_cmp2 (o_eq3 G (hu66 hr)) (se_prop2 (c := 0) (He.cls_ok (B.c.fact 0 rfl)) (prop_Shape_form B) (p49 B) (hr.mono (by decide)) (se_var 0)) (se_gstr (He.str_ok B.X B.G (B.c.fact 19 rfl)))) (se_callTy (T := "tuple") (cb_tup G) (He.free_ok B.X B.G (B.c.fact 10 rfl)) rfl (sa_cons (se_call (r81 B) (hr.mono (by decide)) (He.glo_ok B.X B.G (B.c.fact 102 rfl)) (kp81 B) (sa_cons (se_fld G (se_var 0)) sa_nil)) sa_nil)) (se_tup sa_nil))))
theorem kp80 (B : Bd K hh mg) : PySem.W.keepIn K (.ref (gP K "Shape" "late_fields")) = true := by obtain ⟨fd, F⟩ := B.c.def_ 80 (d := d80) rfl; exact F.kp
def f80 : MF := mDef 1 0 m80
theorem o80 (B : Bd K hh mg) : ∃ fd, FnOk P w K mg base CX0 8 (gP K "Shape" "late_fields") fd ["self"] (SpM (gm K) 1 f80) ∧ FunD K d80.name d80.qual d80.params d80.body d80.scope (d80.dvs K) (d80.kws K) (gP K "Shape" "late_fields") fd := by
  obtain ⟨fd, F⟩ := B.c.def_ 80 (d := d80) rfl
  exact ⟨fd, fn_okM (ps := ["self"]) F sc80 rfl rfl (fun cdv A outer s H hr => b80 B cdv A outer s H hr), F⟩
theorem r80 (B : Bd K hh mg) : FnR P w K mg base CX0 8 (gP K "Shape" "late_fields") (SpM (gm K) 1 f80) := by
  obtain ⟨fd, F, D⟩ := o80 (P := P) (w := w) (base := base) B
  exact fnM_all F (FunD.bindsN (ps := ["self"]) D fun _ _ _ _ _ _ us hl => match us, hl with | [_], _ => rfl)
theorem p80 (B : Bd K hh mg) : ∃ fd, FnOk P w K mg base CX0 8 (gP K "Shape" "late_fields") fd ["self"] (SpM (gm K) 1 f80) ∧ L2.Binds K fd ["self"] [] := by
  obtain ⟨fd, F, D⟩ := o80 (P := P) (w := w) (base := base) B
  exact ⟨fd, F, FunD.bindsN (ps := ["self"]) D fun _ _ _ _ _ _ us hl => match us, hl with | [_], _ => rfl⟩
/-! ### late_parts -/
theorem sc75 : FnScope ["heap", "cell", "field"] ["heap", "cell"] (defScope (top 58)) := ⟨rfl, rfl, rfl, by decide +kernel, rfl, by decide +kernel, by decide +kernel⟩
def m75 : MS := (mSeqT (mIfS (mOrT (mTest (mBin (fIn2 g0 false) (mMeth 1 "kind" f41 2 (mVar 0) (mCons (mVar 1) mNil)) (mC (.glo 10)))) (mTest (mBin (fEq3 g0 false) (mCall f76 2 (mCons (mVar 0) (mCons (mVar 1) mNil))) (mC (.str "giver"))))) (mRet (mCall f77 2 (mCons (mVar 0) (mCons (mVar 1) mNil)))) mNext) (mSeqT (mIfS (mTest (mBin (fEq3 g0 true) (mCall f76 2 (mCons (mVar 0) (mCons (mVar 1) mNil))) (mC (.str "builder")))) (mRet (mLst mNil)) mNext) (mRet (mLc g0 300 [2] (miAny g0 (mProp 0 f80 (mFld g0 "design" (mBin (fIx g0) (mFld g0 "cells" (mVar 0)) (mVar 1))))) (mgName 2) mYes (mTup (mCons (mVar 2) (mCons (mCall f79 3 (mCons (mVar 0) (mCons (mVar 1) (mCons (mVar 2) mNil)))) mNil)))))))
theorem b75 (B : Bd K hh mg) (cdv : Value) (A : Around) (outer : List Env) (s : Shared) (H : Hp) (hr : Room 9 (A.deeper (envOfC "late_parts" (defScope (top 58)) s.heap.objs.size (He.fAd K ("late_parts", none)) cdv))) : SSs (gm K) W0 (cxOf CX0 P w K mg base ["heap", "cell", "field"] "late_parts" (defScope (top 58)) (He.fAd K ("late_parts", none)) cdv A outer s H E0).nox (defBody (top 58)) m75 := by
  have G : GOk K (gm K) g0 := gok B
  exact (sss_consT (ss_if (SW.st (sw_or (st_cmp2 (o_in2 G (hu66 hr)) (se_meth (c := 1) (He.cls_ok (B.c.fact 30 rfl)) (He.meth_ok (B.c.fact 60 rfl)) (r41 B) (hr.mono (by decide)) (se_var 0) (sa_cons (se_var 1) sa_nil)) (se_glo (k := 10) (He.glo_ok B.X B.G (B.c.fact 68 rfl)))) (sw_or1 (st_cmp2 (o_eq3 G (hu66 hr)) (se_call (r76 B) (hr.mono (by decide)) (He.glo_ok B.X B.G (B.c.fact 98 rfl)) (kp76 B) (sa_cons (se_var 0) (sa_cons (se_var 1) sa_nil))) se_str)))) (sss_one (ss_ret (se_call (r77 B) (hr.mono (by decide)) (He.glo_ok B.X B.G (B.c.fact 101 rfl)) (kp77 B) (sa_cons (se_var 0) (sa_cons (se_var 1) sa_nil))))) sss_nil) (sss_consT (ss_if (st_cmp2 (o_ne3 G (hu66 hr)) (se_call (r76 B) (hr.mono (by decide)) (He.glo_ok B.X B.G (B.c.fact 98 rfl)) (kp76 B) (sa_cons (se_var 0) (sa_cons (se_var 1) sa_nil))) se_str) (sss_one (ss_ret (se_lst sa_nil))) sss_nil) (sss_one (ss_ret (se_lc (own := [("field", 2)]) 300 rfl sc75.nd (si_any G (se_prop2 (c := 0) (He.cls_ok (B.c.fact 0 rfl)) (prop_Shape_late_fields B) (p80 B) (hr.mono (by decide)) (se_fld G (se_ix2 (o_ix G (hu1 hr)) (se_fld G (se_var 0)) (se_var 1))))) (show BlkOk ["heap", "cell", "field"] (defScope (top 58)) _ [("field", 2)] from ⟨rfl, by decide +kernel, by decide +kernel, by decide +kernel, by decide +kernel⟩) (fun _ _ _ _ _ => (sg_name sc75.nd)) (fun _ _ _ _ _ => pts_nilM) (fun _ _ _ _ _ => (se_tup (sa_cons (se_var 2) (sa_cons (se_call (r79 B) (hr.mono (by decide)) (He.glo_ok B.X B.G (B.c.fact 100 rfl)) (kp79 B) (sa_cons (se_var 0) (sa_cons (se_var 1) (sa_cons (se_var 2) sa_nil)))) sa_nil)))))))))
theorem kp75 (B : Bd K hh mg) : PySem.W.keepIn K (.ref (He.fAd K ("late_parts", none))) = true := by obtain ⟨fd, F⟩ := B.c.def_ 75 (d := d75) rfl; exact F.kp
def f75 : MF := mDef 2 1 m75
theorem o75 (B : Bd K hh mg) : ∃ fd, FnOk P w K mg base CX0 10 (He.fAd K ("late_parts", none)) fd ["heap", "cell"] (SpM (gm K) 2 f75) ∧ FunD K d75.name d75.qual d75.params d75.body d75.scope (d75.dvs K) (d75.kws K) (He.fAd K ("late_parts", none)) fd := by
  obtain ⟨fd, F⟩ := B.c.def_ 75 (d := d75) rfl
  exact ⟨fd, fn_okM (ps := ["heap", "cell"]) F sc75 rfl rfl (fun cdv A outer s H hr => b75 B cdv A outer s H hr), F⟩
theorem r75 (B : Bd K hh mg) : FnR P w K mg base CX0 10 (He.fAd K ("late_parts", none)) (SpM (gm K) 2 f75) := by
  obtain ⟨fd, F, D⟩ := o75 (P := P) (w := w) (base := base) B
  exact fnM_all F (FunD.bindsN (ps := ["heap", "cell"]) D fun _ _ _ _ _ _ us hl => match us, hl with | [_, _], _ => rfl)
/-! ### View.is_open -/
theorem sc82 : FnScope ["self", "value"] ["self", "value"] (defScope (inClass (top 52) 1)) := ⟨rfl, rfl, rfl, by decide +kernel, rfl, by decide +kernel, by decide +kernel⟩
def m82 : MS := (mRet (mAndV (mBin (fOwn2 1 f31 fun b => bif false then !b else b) (mVar 1) (mFld g0 "heap" (mVar 0))) (mBin (fIn2 g0 true) (mVar 1) (mFld g0 "known" (mVar 0)))))
theorem b82 (B : Bd K hh mg) (cdv : Value) (A : Around) (outer : List Env) (s : Shared) (H : Hp) (hr : Room 3 (A.deeper (envOfC "View.is_open" (defScope (inClass (top 52) 1)) s.heap.objs.size (He.fAd K ("View", some "is_open")) cdv))) : SSs (gm K) W0 (cxOf CX0 P w K mg base ["self", "value"] "View.is_open" (defScope (inClass (top 52) 1)) (He.fAd K ("View", some "is_open")) cdv A outer s H E0).nox (defBody (inClass (top 52) 1)) m82 := by
  have G : GOk K (gm K) g0 := gok B
  exact (sss_one (ss_ret (se_and (se_cmp2 (o_inOwn (c := 1) (He.meth_ok (B.c.fact 51 rfl)).at_ (He.meth_ok (B.c.fact 51 rfl)).fn (r31 B) (hr.mono (by decide))) (se_var 1) (se_fld G (se_var 0))) (se_one (se_cmp2 (o_nin2 G (hu66 hr)) (se_var 1) (se_fld G (se_var 0)))))))
theorem kp82 (B : Bd K hh mg) : PySem.W.keepIn K (.ref (He.fAd K ("View", some "is_open"))) = true := by obtain ⟨fd, F⟩ := B.c.def_ 82 (d := d82) rfl; exact F.kp
def f82 : MF := mDef 2 0 m82
theorem o82 (B : Bd K hh mg) : ∃ fd, FnOk P w K mg base CX0 4 (He.fAd K ("View", some "is_open")) fd ["self", "value"] (SpM (gm K) 2 f82) ∧ FunD K d82.name d82.qual d82.params d82.body d82.scope (d82.dvs K) (d82.kws K) (He.fAd K ("View", some "is_open")) fd := by
  obtain ⟨fd, F⟩ := B.c.def_ 82 (d := d82) rfl
  exact ⟨fd, fn_okM (ps := ["self", "value"]) F sc82 rfl rfl (fun cdv A outer s H hr => b82 B cdv A outer s H hr), F⟩
theorem r82 (B : Bd K hh mg) : FnR P w K mg base CX0 4 (He.fAd K ("View", some "is_open")) (SpM (gm K) 2 f82) := by
  obtain ⟨fd, F, D⟩ := o82 (P := P) (w := w) (base := base) B
  exact fnM_all F (FunD.bindsN (ps := ["self", "value"]) D fun _ _ _ _ _ _ us hl => match us, hl with | [_, _], _ => rfl)
/-! ### late_edges -/
theorem sc74 : FnScope ["view", "cells", "found", "cell", "step", "part"] ["view", "cells"] (defScope (top 61)) := ⟨rfl, rfl, rfl, by decide +kernel, rfl, by decide +kernel, by decide +kernel⟩
def m74 : MS := (mSeqT (mAsg mDict0 (mgName 2)) (mSeqT (mFor g0 300 (miAny g0 (mVar 1)) (mgName 3) (mAsg (mLc g0 300 [4, 5] (miSeq g0 (mCall f75 2 (mCons (mFld g0 "heap" (mVar 0)) (mCons (mVar 3) mNil)))) (mgTup g0 2 (mgCons (mgName 4) (mgCons (mgName 5) mgNil))) (mTest (mMeth 11 "is_open" f82 2 (mVar 0) (mCons (mVar 5) mNil))) (mVar 5)) (mgSub (mVar 2) (mVar 3)))) (mRet (mVar 2))))
theorem b74 (B : Bd K hh mg) (cdv : Value) (A : Around) (outer : List Env) (s : Shared) (H : Hp) (hr : Room 10 (A.deeper (envOfC "late_edges" (defScope (top 61)) s.heap.objs.size (He.fAd K ("late_edges", none)) cdv))) : SSs (gm K) W0 (cxOf CX0 P w K mg base ["view", "cells", "found", "cell", "step", "part"] "late_edges" (defScope (top 61)) (He.fAd K ("late_edges", none)) cdv A outer s H E0).nox (defBody (top 61)) m74 := by
  have G : GOk K (gm K) g0 := gok B
  exact (sss_consT (ss_set sc74.nd se_dict0) (sss_consT (ss_for 300 PassesOwn.never rfl (si_any G (se_var 1)) (sg_name sc74.nd) (sss_one (ss_asg (se_lc (own := [("step", 4), ("part", 5)]) 300 rfl sc74.nd (si_seq G (se_call (r75 B) (hr.mono (by decide)) (He.glo_ok B.X B.G (B.c.fact 103 rfl)) (kp75 B) (sa_cons (se_fld G (se_var 0)) (sa_cons (se_var 3) sa_nil)))) (show BlkOk ["view", "cells", "found", "cell", "step", "part"] (defScope (top 61)) _ [("step", 4), ("part", 5)] from ⟨rfl, by decide +kernel, by decide +kernel, by decide +kernel, by decide +kernel⟩) (fun _ _ _ _ _ => (sg_tup G rfl (sgs_cons (sg_name sc74.nd) (sgs_cons (sg_name sc74.nd) sgs_nil)))) (fun _ _ _ _ _ => ST.pts1 (st_val (se_meth (c := 11) (He.cls_ok (B.c.fact 104 rfl)) (He.meth_ok (B.c.fact 105 rfl)) (r82 B) (hr.mono (by decide)) (se_var 0) (sa_cons (se_var 5) sa_nil)))) (fun _ _ _ _ _ => (se_var 5))) (sg_sub (W := W0) (hu1 hr) (se_var 2) (se_var 3))))) (sss_one (ss_ret (se_var 2)))))
theorem kp74 (B : Bd K hh mg) : PySem.W.keepIn K (.ref (He.fAd K ("late_edges", none))) = true := by obtain ⟨fd, F⟩ := B.c.def_ 74 (d := d74) rfl; exact F.kp
def f74 : MF := mDef 2 4 m74
theorem o74 (B : Bd K hh mg) : ∃ fd, FnOk P w K mg base CX0 11 (He.fAd K ("late_edges", none)) fd ["view", "cells"] (SpM (gm K) 2 f74) ∧ FunD K d74.name d74.qual d74.params d74.body d74.scope (d74.dvs K) (d74.kws K) (He.fAd K ("late_edges", none)) fd := by
  obtain ⟨fd, F⟩ := B.c.def_ 74 (d := d74) rfl
  exact ⟨fd, fn_okM (ps := ["view", "cells"]) F sc74 rfl rfl (fun cdv A outer s H hr => b74 B cdv A outer s H hr), F⟩
theorem r74 (B : Bd K hh mg) : FnR P w K mg base CX0 11 (He.fAd K ("late_edges", none)) (SpM (gm K) 2 f74) := by
  obtain ⟨fd, F, D⟩ := o74 (P := P) (w := w) (base := base) B
  exact fnM_all F (FunD.bindsN (ps := ["view", "cells"]) D fun _ _ _ _ _ _ us hl => match us, hl with | [_, _], _ => rfl)
/-! ### reached_cells -/
theorem sc83 : FnScope ["view", "value", "waiting", "found", "cell", "step", "part"] ["view", "value"] (defScope (top 60)) := ⟨rfl, rfl, rfl, by decide +kernel, rfl, by decide +kernel, by decide +kernel⟩
def m83 : MS := (mSeqT (mAsg (mIf (mTest (mMeth 11 "is_open" f82 2 (mVar 0) (mCons (mVar 1) mNil))) (mLst (mCons (mVar 1) mNil)) (mLst mNil)) (mgName 2)) (mSeqT (mAsg (mDc g0 300 [4] (miAny g0 (mVar 2)) (mgName 4) mYes (mVar 4) (mC (.bl true))) (mgName 3)) (mSeqT (mWhile 300 (mTest (mBin (fEq3 g0 true) (mVar 2) (mLst mNil))) (mFor g0 300 (miSeq g0 (mCall f77 2 (mCons (mFld g0 "heap" (mVar 0)) (mCons (mMt fPop (mVar 2) mNil) mNil)))) (mgTup g0 2 (mgCons (mgName 5) (mgCons (mgName 6) mgNil))) (mIfS (mAnd (mTest (mMeth 11 "is_open" f82 2 (mVar 0) (mCons (mVar 6) mNil))) (mTest (mBin (fIn2 g0 true) (mVar 6) (mVar 3)))) (mSeqT (mAsg (mC (.bl true)) (mgSub (mVar 3) (mVar 6))) (mDrop (mMt fAppend (mVar 2) (mCons (mVar 6) mNil)))) mNext))) (mRet (mCb (fSort g0) (mCons (mVar 3) mNil))))))
theorem b83 (B : Bd K hh mg) (cdv : Value) (A : Around) (outer : List Env) (s : Shared) (H : Hp) (hr : Room 6 (A.deeper (envOfC "reached_cells" (defScope (top 60)) s.heap.objs.size (He.fAd K ("reached_cells", none)) cdv))) : SSs (gm K) W0 (cxOf CX0 P w K mg base ["view", "value", "waiting", "found", "cell", "step", "part"] "reached_cells" (defScope (top 60)) (He.fAd K ("reached_cells", none)) cdv A outer s H E0).nox (defBody (top 60)) m83 := by
  have G : GOk K (gm K) g0 := gok B
  exact (sss_consT (ss_set sc83.nd (se_if (st_val (se_meth (c := 11) (He.cls_ok (B.c.fact 104 rfl)) (He.meth_ok (B.c.fact 105 rfl)) (r82 B) (hr.mono (by decide)) (se_var 0) (sa_cons (se_var 1) sa_nil))) (se_lst (sa_cons (se_var 1) sa_nil)) (se_lst sa_nil))) (sss_consT (ss_setDc (own := [("cell", 4)]) 300 rfl sc83.nd (si_any G (se_var 2)) (show BlkOk ["view", "value", "waiting", "found", "cell", "step", "part"] (defScope (top 60)) _ [("cell", 4)] from ⟨rfl, by decide +kernel, by decide +kernel, by decide +kernel, by decide +kernel⟩) (fun _ _ _ _ _ => (sg_name sc83.nd)) (fun _ _ _ _ _ => pts_nilM) (fun _ _ _ _ _ => (se_var 4)) (fun _ _ _ _ _ => se_bl)) (sss_consT (ss_while 300 PassesOwn.never (st_cmp2 (o_ne3 G (hu66 hr)) (se_var 2) (se_lst sa_nil)) (sss_one (ss_for 300 PassesOwn.never rfl (si_seq G (se_call (r77 B) (hr.mono (by decide)) (He.glo_ok B.X B.G (B.c.fact 101 rfl)) (kp77 B) (sa_cons (se_fld G (se_var 0)) (sa_cons (se_bm0 PySem.F.slot_list_pop PySem.F.type_list_pop mt2_pop (se_var 2)) sa_nil)))) (sg_tup G rfl (sgs_cons (sg_name sc83.nd) (sgs_cons (sg_name sc83.nd) sgs_nil))) (sss_one (ss_if (SW.st (sw_and (st_val (se_meth (c := 11) (He.cls_ok (B.c.fact 104 rfl)) (He.meth_ok (B.c.fact 105 rfl)) (r82 B) (hr.mono (by decide)) (se_var 0) (sa_cons (se_var 6) sa_nil))) (sw_and1 (st_cmp2 (o_nin2 G (hu66 hr)) (se_var 6) (se_var 3))))) (sss_consT (ss_asg se_bl (sg_sub (W := W0) (hu1 hr) (se_var 3) (se_var 6))) (sss_one (ss_expr (se_bm PySem.F.slot_list_append PySem.F.type_list_append mt2_append (se_var 2) (sa_cons (se_var 6) sa_nil))))) sss_nil))))) (sss_one (ss_ret (se_callB (id := "sorted") (cb_sort G rfl) (He.free_ok B.X B.G (B.c.fact 106 rfl)) rfl (sa_cons (se_var 3) sa_nil)))))))
theorem kp83 (B : Bd K hh mg) : PySem.W.keepIn K (.ref (He.fAd K ("reached_cells", none))) = true := by obtain ⟨fd, F⟩ := B.c.def_ 83 (d := d83) rfl; exact F.kp
def f83 : MF := mDef 2 5 m83
theorem o83 (B : Bd K hh mg) : ∃ fd, FnOk P w K mg base CX0 7 (He.fAd K ("reached_cells", none)) fd ["view", "value"] (SpM (gm K) 2 f83) ∧ FunD K d83.name d83.qual d83.params d83.body d83.scope (d83.dvs K) (d83.kws K) (He.fAd K ("reached_cells", none)) fd := by
  obtain ⟨fd, F⟩ := B.c.def_ 83 (d := d83) rfl
  exact ⟨fd, fn_okM (ps := ["view", "value"]) F sc83 rfl rfl (fun cdv A outer s H hr => b83 B cdv A outer s H hr), F⟩
theorem r83 (B : Bd K hh mg) : FnR P w K mg base CX0 7 (He.fAd K ("reached_cells", none)) (SpM (gm K) 2 f83) := by
  obtain ⟨fd, F, D⟩ := o83 (P := P) (w := w) (base := base) B
  exact fnM_all F (FunD.bindsN (ps := ["view", "value"]) D fun _ _ _ _ _ _ us hl => match us, hl with | [_, _], _ => rfl)
/-! ### cycle_from -/
theorem sc84 : FnScope ["edges", "start", "ways", "waiting", "later", "cell", "way", "target"] ["edges", "start"] (defScope (top 63)) := ⟨rfl, rfl, rfl, by decide +kernel, rfl, by decide +kernel, by decide +kernel⟩
def m84 : MS := (mSeqT (mAsg mDict0 (mgName 2)) (mSeqT (mAsg (mLst (mCons (mTup (mCons (mVar 1) (mCons (mLst (mCons (mVar 1) mNil)) mNil))) mNil)) (mgName 3)) (mSeqT (mWhile 300 (mTest (mBin (fEq3 g0 true) (mVar 3) (mLst mNil))) (mSeqT (mAsg (mLst mNil) (mgName 4)) (mSeqT (mFor g0 300 (miAny g0 (mVar 3)) (mgTup g0 2 (mgCons (mgName 5) (mgCons (mgName 6) mgNil))) (mFor g0 300 (miSeq g0 (mBin (fIx g0) (mVar 0) (mVar 5))) (mgName 7) (mSeqT (mIfS (mTest (mBin (fEq3 g0 false) (mVar 7) (mVar 1))) (mRet (mVar 6)) mNext) (mIfS (mTest (mBin (fIn2 g0 true) (mVar 7) (mVar 2))) (mSeqT (mAsg (mC (.bl true)) (mgSub (mVar 2) (mVar 7))) (mDrop (mMt fAppend (mVar 4) (mCons (mTup (mCons (mVar 7) (mCons (mLst (mStar g0 (mVar 6) (mCons (mVar 7) mNil))) mNil))) mNil)))) mNext)))) (mAsg (mVar 4) (mgName 3))))) (mRet (mLst mNil)))))
theorem b84 (B : Bd K hh mg) (cdv : Value) (A : Around) (outer : List Env) (s : Shared) (H : Hp) (hr : Room 0 (A.deeper (envOfC "cycle_from" (defScope (top 63)) s.heap.objs.size (He.fAd K ("cycle_from", none)) cdv))) : SSs (gm K) W0 (cxOf CX0 P w K mg base ["edges", "start", "ways", "waiting", "later", "cell", "way", "target"] "cycle_from" (defScope (top 63)) (He.fAd K ("cycle_from", none)) cdv A outer s H E0).nox (defBody (top 63)) m84 := by
  have G : GOk K (gm K) g0 := gok B
  exact (sss_consT (ss_set sc84.nd se_dict0) (sss_consT (ss_set sc84.nd (se_lst (sa_cons (se_tup (sa_cons (se_var 1) (sa_cons (se_lst (sa_cons (se_var 1) sa_nil)) sa_nil))) sa_nil))) (sss_consT (ss_while 300 PassesOwn.never (st_cmp2 (o_ne3 G (hu66 hr)) (se_var 3) (se_lst sa_nil)) (sss_consT (ss_set sc84.nd (se_lst sa_nil)) (sss_consT (ss_for 300 PassesOwn.never rfl (si_any G (se_var 3)) (sg_tup G rfl (sgs_cons (sg_name sc84.nd) (sgs_cons (sg_name sc84.nd) sgs_nil))) (sss_one (ss_for 300 PassesOwn.never rfl (si_seq G (se_ix2 (o_ix G (hu1 hr)) (se_var 0) (se_var 5))) (sg_name sc84.nd) (sss_consT (ss_if (st_cmp2 (o_eq3 G (hu66 hr)) (se_var 7) (se_var 1)) (sss_one (ss_ret (se_var 6))) sss_nil) (sss_one (ss_if (st_cmp2 (o_nin2 G (hu66 hr)) (se_var 7) (se_var 2)) (sss_consT (ss_asg se_bl (sg_sub (W := W0) (hu1 hr) (se_var 2) (se_var 7))) (sss_one (ss_expr (se_bm PySem.F.slot_list_append PySem.F.type_list_append mt2_append (se_var 4) (sa_cons (se_tup (sa_cons (se_var 7) (sa_cons (se_lst (sa_star G (se_var 6) (sa_cons (se_var 7) sa_nil))) sa_nil))) sa_nil))))) sss_nil)))))) (sss_one (ss_set sc84.nd (se_var 4)))))) (sss_one (ss_ret (se_lst sa_nil))))))
theorem kp84 (B : Bd K hh mg) : PySem.W.keepIn K (.ref (He.fAd K ("cycle_from", none))) = true := by obtain ⟨fd, F⟩ := B.c.def_ 84 (d := d84) rfl; exact F.kp
def f84 : MF := mDef 2 6 m84
theorem o84 (B : Bd K hh mg) : ∃ fd, FnOk P w K mg base CX0 1 (He.fAd K ("cycle_from", none)) fd ["edges", "start"] (SpM (gm K) 2 f84) ∧ FunD K d84.name d84.qual d84.params d84.body d84.scope (d84.dvs K) (d84.kws K) (He.fAd K ("cycle_from", none)) fd := by
  obtain ⟨fd, F⟩ := B.c.def_ 84 (d := d84) rfl
  exact ⟨fd, fn_okM (ps := ["edges", "start"]) F sc84 rfl rfl (fun cdv A outer s H hr => b84 B cdv A outer s H hr), F⟩
theorem r84 (B : Bd K hh mg) : FnR P w K mg base CX0 1 (He.fAd K ("cycle_from", none)) (SpM (gm K) 2 f84) := by
  obtain ⟨fd, F, D⟩ := o84 (P := P) (w := w) (base := base) B
  exact fnM_all F (FunD.bindsN (ps := ["edges", "start"]) D fun _ _ _ _ _ _ us hl => match us, hl with | [_, _], _ => rfl)
/-! ### cycles_in -/
theorem sc72 : FnScope ["view", "value", "edges", "cycle", "cell"] ["view", "value"] (defScope (top 64)) := ⟨rfl, rfl, rfl, by decide +kernel, rfl, by decide +kernel, by decide +kernel⟩
def m72 : MS := (mSeqT (mAsg (mCall f73 1 (mCons (mCall f74 2 (mCons (mVar 0) (mCons (mCall f83 2 (mCons (mVar 0) (mCons (mVar 1) mNil))) mNil))) mNil)) (mgName 2)) (mRet (mLc g0 300 [3] (miSeq g0 (mLc g0 300 [4] (miAny g0 (mVar 2)) (mgName 4) mYes (mCall f84 2 (mCons (mVar 2) (mCons (mVar 4) mNil))))) (mgName 3) (mTest (mBin (fEq3 g0 true) (mVar 3) (mLst mNil))) (mVar 3))))
theorem b72 (B : Bd K hh mg) (cdv : Value) (A : Around) (outer : List Env) (s : Shared) (H : Hp) (hr : Room 11 (A.deeper (envOfC "cycles_in" (defScope (top 64)) s.heap.objs.size (He.fAd K ("cycles_in", none)) cdv))) : SSs (gm K) W0 (cxOf CX0 P w K mg base ["view", "value", "edges", "cycle", "cell"] "cycles_in" (defScope (top 64)) (He.fAd K ("cycles_in", none)) cdv A outer s H E0).nox (defBody (top 64)) m72 := by
  have G : GOk K (gm K) g0 := gok B
  exact (sss_consT (ss_set sc72.nd (se_call (r73 B) (hr.mono (by decide)) (He.glo_ok B.X B.G (B.c.fact 109 rfl)) (kp73 B) (sa_cons (se_call (r74 B) (hr.mono (by decide)) (He.glo_ok B.X B.G (B.c.fact 108 rfl)) (kp74 B) (sa_cons (se_var 0) (sa_cons (se_call (r83 B) (hr.mono (by decide)) (He.glo_ok B.X B.G (B.c.fact 107 rfl)) (kp83 B) (sa_cons (se_var 0) (sa_cons (se_var 1) sa_nil))) sa_nil))) sa_nil))) (sss_one (ss_ret (se_lc (own := [("cycle", 3)]) 300 rfl sc72.nd (si_seq G (se_lc (own := [("cell", 4)]) 300 rfl sc72.nd (si_any G (se_var 2)) (show BlkOk ["view", "value", "edges", "cycle", "cell"] (defScope (top 64)) _ [("cell", 4)] from ⟨rfl, by decide +kernel, by decide +kernel, by decide +kernel, by decide +kernel⟩) (fun _ _ _ _ _ => (sg_name sc72.nd)) (fun _ _ _ _ _ => pts_nilM) (fun _ _ _ _ _ => (se_call (r84 B) (hr.mono (by decide)) (He.glo_ok B.X B.G (B.c.fact 110 rfl)) (kp84 B) (sa_cons (se_var 2) (sa_cons (se_var 4) sa_nil)))))) (show BlkOk ["view", "value", "edges", "cycle", "cell"] (defScope (top 64)) _ [("cycle", 3)] from ⟨rfl, by decide +kernel, by decide +kernel, by decide +kernel, by decide +kernel⟩) (fun _ _ _ _ _ => (sg_name sc72.nd)) (fun _ _ _ _ _ => ST.pts1 (st_cmp2 (o_ne3 G (hu66 hr)) (se_var 3) (se_lst sa_nil))) (fun _ _ _ _ _ => (se_var 3))))))
theorem kp72 (B : Bd K hh mg) : PySem.W.keepIn K (.ref (He.fAd K ("cycles_in", none))) = true := by obtain ⟨fd, F⟩ := B.c.def_ 72 (d := d72) rfl; exact F.kp
def f72 : MF := mDef 2 3 m72
theorem o72 (B : Bd K hh mg) : ∃ fd, FnOk P w K mg base CX0 12 (He.fAd K ("cycles_in", none)) fd ["view", "value"] (SpM (gm K) 2 f72) ∧ FunD K d72.name d72.qual d72.params d72.body d72.scope (d72.dvs K) (d72.kws K) (He.fAd K ("cycles_in", none)) fd := by
  obtain ⟨fd, F⟩ := B.c.def_ 72 (d := d72) rfl
  exact ⟨fd, fn_okM (ps := ["view", "value"]) F sc72 rfl rfl (fun cdv A outer s H hr => b72 B cdv A outer s H hr), F⟩
theorem r72 (B : Bd K hh mg) : FnR P w K mg base CX0 12 (He.fAd K ("cycles_in", none)) (SpM (gm K) 2 f72) := by
  obtain ⟨fd, F, D⟩ := o72 (P := P) (w := w) (base := base) B
  exact fnM_all F (FunD.bindsN (ps := ["view", "value"]) D fun _ _ _ _ _ _ us hl => match us, hl with | [_, _], _ => rfl)
/-! ### ruled -/
theorem sc69 : FnScope ["heap", "value", "entries", "view", "found", "cycle"] ["heap", "value", "entries"] (defScope (top 65)) := ⟨rfl, rfl, rfl, by decide +kernel, rfl, by decide +kernel, by decide +kernel⟩
def m69 : MS := (mSeqT (mDrop (mCall f70 2 (mCons (mVar 0) (mCons (mVar 1) mNil)))) (mSeqT (mAsg (mMake 11 f71 3 (mCons (mVar 0) (mCons (mVar 2) mNil))) (mgName 3)) (mSeqT (mAsg (mCall f72 2 (mCons (mVar 3) (mCons (mVar 1) mNil))) (mgName 4)) (mSeqT (mIfS (mTest (mBin (fEq3 g0 true) (mVar 4) (mLst mNil))) mDeadS mNext) (mRet (mVar 3))))))
theorem b69 (B : Bd K hh mg) (cdv : Value) (A : Around) (outer : List Env) (s : Shared) (H : Hp) (hr : Room 12 (A.deeper (envOfC "ruled" (defScope (top 65)) s.heap.objs.size (He.fAd K ("ruled", none)) cdv))) : SSs (gm K) W0 (cxOf CX0 P w K mg base ["heap", "value", "entries", "view", "found", "cycle"] "ruled" (defScope (top 65)) (He.fAd K ("ruled", none)) cdv A outer s H E0).nox (defBody (top 65)) m69 := by
  have G : GOk K (gm K) g0 := gok B
  exact (sss_consT (ss_expr (se_call (r70 B) (hr.mono (by decide)) (He.glo_ok B.X B.G (B.c.fact 95 rfl)) (kp70 B) (sa_cons (se_var 0) (sa_cons (se_var 1) sa_nil)))) (sss_consT (ss_set sc69.nd (se_make (c := 11) (He.mkr_ok (B.c.fact 96 rfl)) (r71 B) (hr.mono (by decide)) (He.glo_ok B.X B.G (B.c.fact 97 rfl)) (sa_cons (se_var 0) (sa_cons (se_var 2) sa_nil)))) (sss_consT (ss_set sc69.nd (se_call (r72 B) (hr.mono (by decide)) (He.glo_ok B.X B.G (B.c.fact 111 rfl)) (kp72 B) (sa_cons (se_var 3) (sa_cons (se_var 1) sa_nil)))) (sss_consT (ss_if (st_cmp2 (o_ne3 G (hu66 hr)) (se_var 4) (se_lst sa_nil)) (sss_one s_dead) sss_nil) (sss_one (ss_ret (se_var 3)))))))
theorem kp69 (B : Bd K hh mg) : PySem.W.keepIn K (.ref (He.fAd K ("ruled", none))) = true := by obtain ⟨fd, F⟩ := B.c.def_ 69 (d := d69) rfl; exact F.kp
def f69 : MF := mDef 3 3 m69
theorem o69 (B : Bd K hh mg) : ∃ fd, FnOk P w K mg base CX0 13 (He.fAd K ("ruled", none)) fd ["heap", "value", "entries"] (SpM (gm K) 3 f69) ∧ FunD K d69.name d69.qual d69.params d69.body d69.scope (d69.dvs K) (d69.kws K) (He.fAd K ("ruled", none)) fd := by
  obtain ⟨fd, F⟩ := B.c.def_ 69 (d := d69) rfl
  exact ⟨fd, fn_okM (ps := ["heap", "value", "entries"]) F sc69 rfl rfl (fun cdv A outer s H hr => b69 B cdv A outer s H hr), F⟩
theorem r69 (B : Bd K hh mg) : FnR P w K mg base CX0 13 (He.fAd K ("ruled", none)) (SpM (gm K) 3 f69) := by
  obtain ⟨fd, F, D⟩ := o69 (P := P) (w := w) (base := base) B
  exact fnM_all F (FunD.bindsN (ps := ["heap", "value", "entries"]) D fun _ _ _ _ _ _ us hl => match us, hl with | [_, _, _], _ => rfl)
/-! ### Memo.entries -/
theorem sc86 : FnScope ["self"] ["self"] (defScope (inClass (top 40) 11)) := ⟨rfl, rfl, rfl, by decide +kernel, rfl, by decide +kernel, by decide +kernel⟩
def m86 : MS := (mRet (mListItems (mFld g0 "entered" (mBin (fIx g0) (mFld g0 "memos" (mFld g0 "heap" (mVar 0))) (mFld g0 "number" (mVar 0))))))
theorem b86 (B : Bd K hh mg) (cdv : Value) (A : Around) (outer : List Env) (s : Shared) (H : Hp) (hr : Room 0 (A.deeper (envOfC "Memo.entries" (defScope (inClass (top 40) 11)) s.heap.objs.size (He.fAd K ("Memo", some "entries")) cdv))) : SSs (gm K) W0 (cxOf CX0 P w K mg base ["self"] "Memo.entries" (defScope (inClass (top 40) 11)) (He.fAd K ("Memo", some "entries")) cdv A outer s H E0).nox (defBody (inClass (top 40) 11)) m86 := by
  have G : GOk K (gm K) g0 := gok B
  exact (sss_one (ss_ret (se_listItems rfl (se_fld G (se_ix2 (o_ix G (hu1 hr)) (se_fld G (se_fld G (se_var 0))) (se_fld G (se_var 0)))) (He.free_ok B.X B.G (B.c.fact 37 rfl)))))
theorem kp86 (B : Bd K hh mg) : PySem.W.keepIn K (.ref (He.fAd K ("Memo", some "entries"))) = true := by obtain ⟨fd, F⟩ := B.c.def_ 86 (d := d86) rfl; exact F.kp
def f86 : MF := mDef 1 0 m86
theorem o86 (B : Bd K hh mg) : ∃ fd, FnOk P w K mg base CX0 1 (He.fAd K ("Memo", some "entries")) fd ["self"] (SpM (gm K) 1 f86) ∧ FunD K d86.name d86.qual d86.params d86.body d86.scope (d86.dvs K) (d86.kws K) (He.fAd K ("Memo", some "entries")) fd := by
  obtain ⟨fd, F⟩ := B.c.def_ 86 (d := d86) rfl
  exact ⟨fd, fn_okM (ps := ["self"]) F sc86 rfl rfl (fun cdv A outer s H hr => b86 B cdv A outer s H hr), F⟩
theorem r86 (B : Bd K hh mg) : FnR P w K mg base CX0 1 (He.fAd K ("Memo", some "entries")) (SpM (gm K) 1 f86) := by
  obtain ⟨fd, F, D⟩ := o86 (P := P) (w := w) (base := base) B
  exact fnM_all F (FunD.bindsN (ps := ["self"]) D fun _ _ _ _ _ _ us hl => match us, hl with | [_], _ => rfl)
/-! ### entries_of -/
theorem sc85 : FnScope ["memo"] ["memo"] (defScope (top 51)) := ⟨rfl, rfl, rfl, by decide +kernel, rfl, by decide +kernel, by decide +kernel⟩
def m85 : MS := (mRet (mIf (mTest (mBin (fIsN false) (mVar 0) (mC .non))) mDict0 (mCb (fDict g0) (mCons (mMeth 7 "entries" f86 1 (mVar 0) mNil) mNil))))
theorem b85 (B : Bd K hh mg) (cdv : Value) (A : Around) (outer : List Env) (s : Shared) (H : Hp) (hr : Room 1 (A.deeper (envOfC "entries_of" (defScope (top 51)) s.heap.objs.size (He.fAd K ("entries_of", none)) cdv))) : SSs (gm K) W0 (cxOf CX0 P w K mg base ["memo"] "entries_of" (defScope (top 51)) (He.fAd K ("entries_of", none)) cdv A outer s H E0).nox (defBody (top 51)) m85 := by
  have G : GOk K (gm K) g0 := gok B
  exact (sss_one (ss_ret (se_if (st_cmp2 o_isN (se_var 0) se_non) se_dict0 (se_callTy (T := "dict") (cb_dict G rfl) (He.free_ok B.X B.G (B.c.fact 75 rfl)) rfl (sa_cons (se_meth0 (c := 7) (He.cls_ok (B.c.fact 49 rfl)) (He.meth_ok (B.c.fact 112 rfl)) (r86 B) (hr.mono (by decide)) (se_var 0)) sa_nil)))))
theorem kp85 (B : Bd K hh mg) : PySem.W.keepIn K (.ref (He.fAd K ("entries_of", none))) = true := by obtain ⟨fd, F⟩ := B.c.def_ 85 (d := d85) rfl; exact F.kp
def f85 : MF := mDef 1 0 m85
theorem o85 (B : Bd K hh mg) : ∃ fd, FnOk P w K mg base CX0 2 (He.fAd K ("entries_of", none)) fd ["memo"] (SpM (gm K) 1 f85) ∧ FunD K d85.name d85.qual d85.params d85.body d85.scope (d85.dvs K) (d85.kws K) (He.fAd K ("entries_of", none)) fd := by
  obtain ⟨fd, F⟩ := B.c.def_ 85 (d := d85) rfl
  exact ⟨fd, fn_okM (ps := ["memo"]) F sc85 rfl rfl (fun cdv A outer s H hr => b85 B cdv A outer s H hr), F⟩
theorem r85 (B : Bd K hh mg) : FnR P w K mg base CX0 2 (He.fAd K ("entries_of", none)) (SpM (gm K) 1 f85) := by
  obtain ⟨fd, F, D⟩ := o85 (P := P) (w := w) (base := base) B
  exact fnM_all F (FunD.bindsN (ps := ["memo"]) D fun _ _ _ _ _ _ us hl => match us, hl with | [_], _ => rfl)
/-! ### Images.__init__ -/
theorem sc87 : FnScope ["self", "view"] ["self", "view"] (defScope (inClass (top 66) 0)) := ⟨rfl, rfl, rfl, by decide +kernel, rfl, by decide +kernel, by decide +kernel⟩
def m87 : MS := (mSeqT (mSetF g0 "view" (mVar 0) (mVar 1)) (mSetF g0 "known" (mVar 0) mDict0))
theorem b87 (B : Bd K hh mg) (cdv : Value) (A : Around) (outer : List Env) (s : Shared) (H : Hp) (hr : Room 0 (A.deeper (envOfC "Images.__init__" (defScope (inClass (top 66) 0)) s.heap.objs.size (He.fAd K ("Images", some "__init__")) cdv))) : SSs (gm K) W0 (cxOf CX0 P w K mg base ["self", "view"] "Images.__init__" (defScope (inClass (top 66) 0)) (He.fAd K ("Images", some "__init__")) cdv A outer s H E0).nox (defBody (inClass (top 66) 0)) m87 := by
  have G : GOk K (gm K) g0 := gok B
  exact (sss_consT (ss_setF G (se_var 0) (se_var 1)) (sss_one (ss_setF G (se_var 0) se_dict0)))
theorem kp87 (B : Bd K hh mg) : PySem.W.keepIn K (.ref (He.fAd K ("Images", some "__init__"))) = true := by obtain ⟨fd, F⟩ := B.c.def_ 87 (d := d87) rfl; exact F.kp
def f87 : MF := mDef 2 0 m87
theorem o87 (B : Bd K hh mg) : ∃ fd, FnOk P w K mg base CX0 1 (He.fAd K ("Images", some "__init__")) fd ["self", "view"] (SpM (gm K) 2 f87) ∧ FunD K d87.name d87.qual d87.params d87.body d87.scope (d87.dvs K) (d87.kws K) (He.fAd K ("Images", some "__init__")) fd := by
  obtain ⟨fd, F⟩ := B.c.def_ 87 (d := d87) rfl
  exact ⟨fd, fn_okM (ps := ["self", "view"]) F sc87 rfl rfl (fun cdv A outer s H hr => b87 B cdv A outer s H hr), F⟩
theorem r87 (B : Bd K hh mg) : FnR P w K mg base CX0 1 (He.fAd K ("Images", some "__init__")) (SpM (gm K) 2 f87) := by
  obtain ⟨fd, F, D⟩ := o87 (P := P) (w := w) (base := base) B
  exact fnM_all F (FunD.bindsN (ps := ["self", "view"]) D fun _ _ _ _ _ _ us hl => match us, hl with | [_, _], _ => rfl)
/-! ### source_of -/
theorem sc88 : FnScope ["view", "value"] ["view", "value"] (defScope (top 67)) := ⟨rfl, rfl, rfl, by decide +kernel, rfl, by decide +kernel, by decide +kernel⟩
def m88 : MS := (mSeqT (mWhile 300 (mAnd (mTest (mMeth 11 "is_open" f82 2 (mVar 0) (mCons (mVar 1) mNil))) (mTest (mBin (fEq3 g0 false) (mCall f76 2 (mCons (mFld g0 "heap" (mVar 0)) (mCons (mVar 1) mNil))) (mC (.str "giver"))))) (mAsg (mBin (fIx g0) (mBin (fIx g0) (mCall f77 2 (mCons (mFld g0 "heap" (mVar 0)) (mCons (mVar 1) mNil))) (mC (.int 0))) (mC (.int 1))) (mgName 1))) (mRet (mVar 1)))
theorem b88 (B : Bd K hh mg) (cdv : Value) (A : Around) (outer : List Env) (s : Shared) (H : Hp) (hr : Room 8 (A.deeper (envOfC "source_of" (defScope (top 67)) s.heap.objs.size (He.fAd K ("source_of", none)) cdv))) : SSs (gm K) W0 (cxOf CX0 P w K mg base ["view", "value"] "source_of" (defScope (top 67)) (He.fAd K ("source_of", none)) cdv A outer s H E0).nox (defBody (top 67)) m88 := by
  have G : GOk K (gm K) g0 := gok B
  exact (sss_consT (ss_while 300 PassesOwn.never (SW.st (sw_and (st_val (se_meth (c := 11) (He.cls_ok (B.c.fact 104 rfl)) (He.meth_ok (B.c.fact 105 rfl)) (r82 B) (hr.mono (by decide)) (se_var 0) (sa_cons (se_var 1) sa_nil))) (sw_and1 (st_cmp2 (o_eq3 G (hu66 hr)) (se_call (r76 B) (hr.mono (by decide)) (He.glo_ok B.X B.G (B.c.fact 98 rfl)) (kp76 B) (sa_cons (se_fld G (se_var 0)) (sa_cons (se_var 1) sa_nil))) se_str)))) (sss_one (ss_set sc88.nd (se_ix2 (o_ix G (hu1 hr)) (se_ix2 (o_ix G (hu1 hr)) (se_call (r77 B) (hr.mono (by decide)) (He.glo_ok B.X B.G (B.c.fact 101 rfl)) (kp77 B) (sa_cons (se_fld G (se_var 0)) (sa_cons (se_var 1) sa_nil))) se_int) se_int)))) (sss_one (ss_ret (se_var 1))))
theorem kp88 (B : Bd K hh mg) : PySem.W.keepIn K (.ref (He.fAd K ("source_of", none))) = true := by obtain ⟨fd, F⟩ := B.c.def_ 88 (d := d88) rfl; exact F.kp
def f88 : MF := mDef 2 0 m88
theorem o88 (B : Bd K hh mg) : ∃ fd, FnOk P w K mg base CX0 9 (He.fAd K ("source_of", none)) fd ["view", "value"] (SpM (gm K) 2 f88) ∧ FunD K d88.name d88.qual d88.params d88.body d88.scope (d88.dvs K) (d88.kws K) (He.fAd K ("source_of", none)) fd := by
  obtain ⟨fd, F⟩ := B.c.def_ 88 (d := d88) rfl
  exact ⟨fd, fn_okM (ps := ["view", "value"]) F sc88 rfl rfl (fun cdv A outer s H hr => b88 B cdv A outer s H hr), F⟩
theorem r88 (B : Bd K hh mg) : FnR P w K mg base CX0 9 (He.fAd K ("source_of", none)) (SpM (gm K) 2 f88) := by
  obtain ⟨fd, F, D⟩ := o88 (P := P) (w := w) (base := base) B
  exact fnM_all F (FunD.bindsN (ps := ["view", "value"]) D fun _ _ _ _ _ _ us hl => match us, hl with | [_, _], _ => rfl)
/-! ### Images.simple -/
theorem sc90 : FnScope ["self", "value", "heap"] ["self", "value"] (defScope (inClass (top 66) 1)) := ⟨rfl, rfl, rfl, by decide +kernel, rfl, by decide +kernel, by decide +kernel⟩
def m90 : MS := (mSeqT (mAsg (mFld g0 "heap" (mFld g0 "view" (mVar 0))) (mgName 2)) (mSeqT (mIfS (mNot (mTest (mMeth 11 "is_open" f82 2 (mFld g0 "view" (mVar 0)) (mCons (mVar 1) mNil)))) (mRet (mTup (mCons (mC (.str "old")) (mCons (mIf (mTest (mBin (fOwn2 1 f31 fun b => bif false then !b else b) (mVar 1) (mVar 2))) (mBin (fIx g0) (mFld g0 "known" (mFld g0 "view" (mVar 0))) (mVar 1)) (mVar 1)) mNil)))) mNext) (mSeqT (mIfS (mTest (mBin (fIn2 g0 false) (mVar 1) (mFld g0 "known" (mVar 0)))) (mRet (mBin (fIx g0) (mFld g0 "known" (mVar 0)) (mVar 1))) mNext) (mSeqT (mIfS (mTest (mBin (fEq3 g0 false) (mCall f76 2 (mCons (mVar 2) (mCons (mVar 1) mNil))) (mC (.str "keeper")))) (mRet (mTup (mCons (mC (.str "old")) (mCons (mVar 1) mNil)))) mNext) (mRet (mIf (mOrT (mTest (mBin (fIn2 g0 false) (mMeth 1 "kind" f41 2 (mVar 2) (mCons (mVar 1) mNil)) (mC (.glo 10)))) (mTest (mBin (fEq3 g0 false) (mCall f76 2 (mCons (mVar 2) (mCons (mVar 1) mNil))) (mC (.str "giver"))))) (mC .non) (mTup (mCons (mC (.str "new")) (mCons (mVar 1) mNil)))))))))
theorem b90 (B : Bd K hh mg) (cdv : Value) (A : Around) (outer : List Env) (s : Shared) (H : Hp) (hr : Room 8 (A.deeper (envOfC "Images.simple" (defScope (inClass (top 66) 1)) s.heap.objs.size (He.fAd K ("Images", some "simple")) cdv))) : SSs (gm K) W0 (cxOf CX0 P w K mg base ["self", "value", "heap"] "Images.simple" (defScope (inClass (top 66) 1)) (He.fAd K ("Images", some "simple")) cdv A outer s H E0).nox (defBody (inClass (top 66) 1)) m90 := by
  have G : GOk K (gm K) g0 := gok B
  exact (sss_consT (ss_set sc90.nd (se_fld G (se_fld G (se_var 0)))) (sss_consT (ss_if (st_not (st_val (se_meth (c := 11) (He.cls_ok (B.c.fact 104 rfl)) (He.meth_ok (B.c.fact 105 rfl)) (r82 B) (hr.mono (by decide)) (se_fld G (se_var 0)) (sa_cons (se_var 1) sa_nil)))) (sss_one (ss_ret (se_tup (sa_cons se_str (sa_cons (se_if (st_cmp2 (o_inOwn (c := 1) (He.meth_ok (B.c.fact 51 rfl)).at_ (He.meth_ok (B.c.fact 51 rfl)).fn (r31 B) (hr.mono (by decide))) (se_var 1) (se_var 2)) (se_ix2 (o_ix G (hu1 hr)) (se_fld G (se_fld G (se_var 0))) (se_var 1)) (se_var 1)) sa_nil))))) sss_nil) (sss_consT (ss_if (st_cmp2 (o_in2 G (hu66 hr)) (se_var 1) (se_fld G (se_var 0))) (sss_one (ss_ret (se_ix2 (o_ix G (hu1 hr)) (se_fld G (se_var 0)) (se_var 1)))) sss_nil) (sss_consT (ss_if (st_cmp2 (o_eq3 G (hu66 hr)) (se_call (r76 B) (hr.mono (by decide)) (He.glo_ok B.X B.G (B.c.fact 98 rfl)) (kp76 B) (sa_cons (se_var 2) (sa_cons (se_var 1) sa_nil))) se_str) (sss_one (ss_ret (se_tup (sa_cons se_str (sa_cons (se_var 1) sa_nil))))) sss_nil) (sss_one (ss_ret (se_if (SW.st (sw_or (st_cmp2 (o_in2 G (hu66 hr)) (se_meth (c := 1) (He.cls_ok (B.c.fact 30 rfl)) (He.meth_ok (B.c.fact 60 rfl)) (r41 B) (hr.mono (by decide)) (se_var 2) (sa_cons (se_var 1) sa_nil)) (se_glo (k := 10) (He.glo_ok B.X B.G (B.c.fact 68 rfl)))) (sw_or1 (st_cmp2 (o_eq3 G (hu66 hr)) (se_call (r76 B) (hr.mono (by decide)) (He.glo_ok B.X B.G (B.c.fact 98 rfl)) (kp76 B) (sa_cons (se_var 2) (sa_cons (se_var 1) sa_nil))) se_str)))) se_non (se_tup (sa_cons se_str (sa_cons (se_var 1) sa_nil))))))))))
theorem kp90 (B : Bd K hh mg) : PySem.W.keepIn K (.ref (He.fAd K ("Images", some "simple"))) = true := by obtain ⟨fd, F⟩ := B.c.def_ 90 (d := d90) rfl; exact F.kp
def f90 : MF := mDef 2 1 m90
theorem o90 (B : Bd K hh mg) : ∃ fd, FnOk P w K mg base CX0 9 (He.fAd K ("Images", some "simple")) fd ["self", "value"] (SpM (gm K) 2 f90) ∧ FunD K d90.name d90.qual d90.params d90.body d90.scope (d90.dvs K) (d90.kws K) (He.fAd K ("Images", some "simple")) fd := by
  obtain ⟨fd, F⟩ := B.c.def_ 90 (d := d90) rfl
  exact ⟨fd, fn_okM (ps := ["self", "value"]) F sc90 rfl rfl (fun cdv A outer s H hr => b90 B cdv A outer s H hr), F⟩
theorem r90 (B : Bd K hh mg) : FnR P w K mg base CX0 9 (He.fAd K ("Images", some "simple")) (SpM (gm K) 2 f90) := by
  obtain ⟨fd, F, D⟩ := o90 (P := P) (w := w) (base := base) B
  exact fnM_all F (FunD.bindsN (ps := ["self", "value"]) D fun _ _ _ _ _ _ us hl => match us, hl with | [_, _], _ => rfl)
/-! ### Images.composed -/
theorem sc91 : FnScope ["self", "cell", "parts", "images", "part", "is_kept", "image"] ["self", "cell", "parts"] (defScope (inClass (top 66) 3)) := ⟨rfl, rfl, rfl, by decide +kernel, rfl, by decide +kernel, by decide +kernel⟩
def m91 : MS := (mSeqT (mAsg (mLc g0 300 [4] (miAny g0 (mVar 2)) (mgName 4) mYes (mMeth 12 "simple" f90 2 (mVar 0) (mCons (mVar 4) mNil))) (mgName 3)) (mSeqT (mIfS (mTest (mBin (fIn2 g0 true) (mMeth 1 "kind" f41 2 (mFld g0 "heap" (mFld g0 "view" (mVar 0))) (mCons (mVar 1) mNil)) (mC (.glo 10)))) (mRet (mBin (fIx g0) (mVar 3) (mC (.int 0)))) mNext) (mSeqT (mAsg (mCb (MV.f1 (fBls g0 allT)) (mCons (mLc g0 300 [6, 4] (miZs g0 (mCons (mVar 3) (mCons (mVar 2) mNil)) (mCons (mC (.bl true)) mNil)) (mgTup g0 2 (mgCons (mgName 6) (mgCons (mgName 4) mgNil))) mYes (mBin (fEq3 g0 false) (mVar 6) (mTup (mCons (mC (.str "old")) (mCons (mVar 4) mNil))))) mNil)) (mgName 5)) (mRet (mIf (mTest (mVar 5)) (mTup (mCons (mC (.str "old")) (mCons (mVar 1) mNil))) (mTup (mCons (mC (.str "new")) (mCons (mVar 1) mNil))))))))
theorem b91 (B : Bd K hh mg) (cdv : Value) (A : Around) (outer : List Env) (s : Shared) (H : Hp) (hr : Room 9 (A.deeper (envOfC "Images.composed" (defScope (inClass (top 66) 3)) s.heap.objs.size (He.fAd K ("Images", some "composed")) cdv))) : SSs (gm K) W0 (cxOf CX0 P w K mg base ["self", "cell", "parts", "images", "part", "is_kept", "image"] "Images.composed" (defScope (inClass (top 66) 3)) (He.fAd K ("Images", some "composed")) cdv A outer s H E0).nox (defBody (inClass (top 66) 3)) m91 := by
  have G : GOk K (gm K) g0 := gok B
  exact (sss_consT (ss_setLc (own := [("part", 4)]) 300 rfl sc91.nd (si_any G (se_var 2)) (show BlkOk ["self", "cell", "parts", "images", "part", "is_kept", "image"] (defScope (inClass (top 66) 3)) _ [("part", 4)] from ⟨rfl, by decide +kernel, by decide +kernel, by decide +kernel, by decide +kernel⟩) (fun _ _ _ _ _ => (sg_name sc91.nd)) (fun _ _ _ _ _ => pts_nilM) (fun _ _ _ _ _ => (se_meth (c := 12) (He.cls_ok (B.c.fact 118 rfl)) (He.meth_ok (B.c.fact 119 rfl)) (r90 B) (hr.mono (by decide)) (se_var 0) (sa_cons (se_var 4) sa_nil)))) (sss_consT (ss_if (st_cmp2 (o_nin2 G (hu66 hr)) (se_meth (c := 1) (He.cls_ok (B.c.fact 30 rfl)) (He.meth_ok (B.c.fact 60 rfl)) (r41 B) (hr.mono (by decide)) (se_fld G (se_fld G (se_var 0))) (sa_cons (se_var 1) sa_nil)) (se_glo (k := 10) (He.glo_ok B.X B.G (B.c.fact 68 rfl)))) (sss_one (ss_ret (se_ix2 (o_ix G (hu1 hr)) (se_var 3) se_int))) sss_nil) (sss_consT (ss_set sc91.nd (se_callB (id := "all") (cb_all G rfl) (He.free_ok B.X B.G (B.c.fact 3 rfl)) rfl (sa_cons (se_lc (own := [("image", 6), ("part", 4)]) 300 rfl sc91.nd (si_zs G (He.free_ok B.X B.G (B.c.fact 120 rfl)) (sa_cons (se_var 3) (sa_cons (se_var 2) sa_nil)) (sk_cons se_bl sk_nil)) (show BlkOk ["self", "cell", "parts", "images", "part", "is_kept", "image"] (defScope (inClass (top 66) 3)) _ [("image", 6), ("part", 4)] from ⟨rfl, by decide +kernel, by decide +kernel, by decide +kernel, by decide +kernel⟩) (fun _ _ _ _ _ => (sg_tup G rfl (sgs_cons (sg_name sc91.nd) (sgs_cons (sg_name sc91.nd) sgs_nil)))) (fun _ _ _ _ _ => pts_nilM) (fun _ _ _ _ _ => (se_cmp2 (o_eq3 G (hu66 hr)) (se_var 6) (se_tup (sa_cons se_str (sa_cons (se_var 4) sa_nil)))))) sa_nil))) (sss_one (ss_ret (se_if (st_val (se_var 5)) (se_tup (sa_cons se_str (sa_cons (se_var 1) sa_nil))) (se_tup (sa_cons se_str (sa_cons (se_var 1) sa_nil)))))))))
theorem kp91 (B : Bd K hh mg) : PySem.W.keepIn K (.ref (He.fAd K ("Images", some "composed"))) = true := by obtain ⟨fd, F⟩ := B.c.def_ 91 (d := d91) rfl; exact F.kp
def f91 : MF := mDef 3 4 m91
theorem o91 (B : Bd K hh mg) : ∃ fd, FnOk P w K mg base CX0 10 (He.fAd K ("Images", some "composed")) fd ["self", "cell", "parts"] (SpM (gm K) 3 f91) ∧ FunD K d91.name d91.qual d91.params d91.body d91.scope (d91.dvs K) (d91.kws K) (He.fAd K ("Images", some "composed")) fd := by
  obtain ⟨fd, F⟩ := B.c.def_ 91 (d := d91) rfl
  exact ⟨fd, fn_okM (ps := ["self", "cell", "parts"]) F sc91 rfl rfl (fun cdv A outer s H hr => b91 B cdv A outer s H hr), F⟩
theorem r91 (B : Bd K hh mg) : FnR P w K mg base CX0 10 (He.fAd K ("Images", some "composed")) (SpM (gm K) 3 f91) := by
  obtain ⟨fd, F, D⟩ := o91 (P := P) (w := w) (base := base) B
  exact fnM_all F (FunD.bindsN (ps := ["self", "cell", "parts"]) D fun _ _ _ _ _ _ us hl => match us, hl with | [_, _, _], _ => rfl)
/-! ### Images.of -/
theorem sc89 : FnScope ["self", "value", "waiting", "last", "parts", "missing", "part", "step"] ["self", "value"] (defScope (inClass (top 66) 2)) := ⟨rfl, rfl, rfl, by decide +kernel, rfl, by decide +kernel, by decide +kernel⟩
def m89 : MS := (mSeqT (mAsg (mLst (mCons (mVar 1) mNil)) (mgName 2)) (mSeqT (mWhile 300 (mTest (mBin (fEq3 g0 true) (mVar 2) (mLst mNil))) (mSeqT (mAsg (mBin (fIx g0) (mVar 2) (mC (.int (-1)))) (mgName 3)) (mSeqT (mAsg (mIf (mTest (mBin (fIsN false) (mMeth 12 "simple" f90 2 (mVar 0) (mCons (mVar 3) mNil)) (mC .non))) (mLc g0 300 [7, 6] (miSeq g0 (mCall f77 2 (mCons (mFld g0 "heap" (mFld g0 "view" (mVar 0))) (mCons (mVar 3) mNil)))) (mgTup g0 2 (mgCons (mgName 7) (mgCons (mgName 6) mgNil))) mYes (mVar 6)) (mLst mNil)) (mgName 4)) (mSeqT (mAsg (mLc g0 300 [6] (miAny g0 (mVar 4)) (mgName 6) (mTest (mBin (fIsN false) (mMeth 12 "simple" f90 2 (mVar 0) (mCons (mVar 6) mNil)) (mC .non))) (mVar 6)) (mgName 5)) (mIfS (mTest (mBin (fEq3 g0 true) (mVar 5) (mLst mNil))) (mDrop (mMt fAppend (mVar 2) (mCons (mBin (fIx g0) (mVar 5) (mC (.int 0))) mNil))) (mSeqT (mDrop (mMt fPop (mVar 2) mNil)) (mIfS (mTest (mBin (fIsN false) (mMeth 12 "simple" f90 2 (mVar 0) (mCons (mVar 3) mNil)) (mC .non))) (mAsg (mMeth 12 "composed" f91 3 (mVar 0) (mCons (mVar 3) (mCons (mVar 4) mNil))) (mgSub (mFld g0 "known" (mVar 0)) (mVar 3))) mNext))))))) (mRet (mMeth 12 "simple" f90 2 (mVar 0) (mCons (mVar 1) mNil)))))
theorem b89 (B : Bd K hh mg) (cdv : Value) (A : Around) (outer : List Env) (s : Shared) (H : Hp) (hr : Room 10 (A.deeper (envOfC "Images.of" (defScope (inClass (top 66) 2)) s.heap.objs.size (He.fAd K ("Images", some "of")) cdv))) : SSs (gm K) W0 (cxOf CX0 P w K mg base ["self", "value", "waiting", "last", "parts", "missing", "part", "step"] "Images.of" (defScope (inClass (top 66) 2)) (He.fAd K ("Images", some "of")) cdv A outer s H E0).nox (defBody (inClass (top 66) 2)) m89 := by
  have G : GOk K (gm K) g0 := gok B
  exact (sss_consT (ss_set sc89.nd (se_lst (sa_cons (se_var 1) sa_nil))) (sss_consT (ss_while 300 PassesOwn.never (st_cmp2 (o_ne3 G (hu66 hr)) (se_var 2) (se_lst sa_nil)) (sss_consT (ss_set sc89.nd (se_ix2 (o_ix G (hu1 hr)) (se_var 2) se_negc)) (sss_consT (ss_set sc89.nd (se_if (st_cmp2 o_isN (se_meth (c := 12) (He.cls_ok (B.c.fact 118 rfl)) (He.meth_ok (B.c.fact 119 rfl)) (r90 B) (hr.mono (by decide)) (se_var 0) (sa_cons (se_var 3) sa_nil)) se_non) (se_lc (own := [("step", 7), ("part", 6)]) 300 rfl sc89.nd (si_seq G (se_call (r77 B) (hr.mono (by decide)) (He.glo_ok B.X B.G (B.c.fact 101 rfl)) (kp77 B) (sa_cons (se_fld G (se_fld G (se_var 0))) (sa_cons (se_var 3) sa_nil)))) (show BlkOk ["self", "value", "waiting", "last", "parts", "missing", "part", "step"] (defScope (inClass (top 66) 2)) _ [("step", 7), ("part", 6)] from ⟨rfl, by decide +kernel, by decide +kernel, by decide +kernel, by decide +kernel⟩) (fun _ _ _ _ _ => (sg_tup G rfl (sgs_cons (sg_name sc89.nd) (sgs_cons (sg_name sc89.nd) sgs_nil)))) (fun _ _ _ _ _ => pts_nilM) (fun _ _ _ _ _ => (se_var 6))) (se_lst sa_nil))) (sss_consT (ss_setLc (own := [("part", 6)]) 300 rfl sc89.nd (si_any G (se_var 4)) (show BlkOk ["self", "value", "waiting", "last", "parts", "missing", "part", "step"] (defScope (inClass (top 66) 2)) _ [("part", 6)] from ⟨rfl, by decide +kernel, by decide +kernel, by decide +kernel, by decide +kernel⟩) (fun _ _ _ _ _ => (sg_name sc89.nd)) (fun _ _ _ _ _ => ST.pts1 (st_cmp2 o_isN (se_meth (c := 12) (He.cls_ok (B.c.fact 118 rfl)) (He.meth_ok (B.c.fact 119 rfl)) (r90 B) (hr.mono (by decide)) (se_var 0) (sa_cons (se_var 6) sa_nil)) se_non)) (fun _ _ _ _ _ => (se_var 6))) (sss_one (ss_if (st_cmp2 (o_ne3 G (hu66 hr)) (se_var 5) (se_lst sa_nil)) (sss_one (ss_expr (se_bm PySem.F.slot_list_append PySem.F.type_list_append mt2_append (se_var 2) (sa_cons (se_ix2 (o_ix G (hu1 hr)) (se_var 5) se_int) sa_nil)))) (sss_consT (ss_expr (se_bm0 PySem.F.slot_list_pop PySem.F.type_list_pop mt2_pop (se_var 2))) (sss_one (ss_if (st_cmp2 o_isN (se_meth (c := 12) (He.cls_ok (B.c.fact 118 rfl)) (He.meth_ok (B.c.fact 119 rfl)) (r90 B) (hr.mono (by decide)) (se_var 0) (sa_cons (se_var 3) sa_nil)) se_non) (sss_one (ss_asg (se_meth (c := 12) (He.cls_ok (B.c.fact 118 rfl)) (He.meth_ok (B.c.fact 121 rfl)) (r91 B) (hr.mono (by decide)) (se_var 0) (sa_cons (se_var 3) (sa_cons (se_var 4) sa_nil))) (sg_sub (W := W0) (hu1 hr) (se_fld G (se_var 0)) (se_var 3)))) sss_nil))))))))) (sss_one (ss_ret (se_meth (c := 12) (He.cls_ok (B.c.fact 118 rfl)) (He.meth_ok (B.c.fact 119 rfl)) (r90 B) (hr.mono (by decide)) (se_var 0) (sa_cons (se_var 1) sa_nil))))))
theorem kp89 (B : Bd K hh mg) : PySem.W.keepIn K (.ref (He.fAd K ("Images", some "of"))) = true := by obtain ⟨fd, F⟩ := B.c.def_ 89 (d := d89) rfl; exact F.kp
def f89 : MF := mDef 2 6 m89
theorem o89 (B : Bd K hh mg) : ∃ fd, FnOk P w K mg base CX0 11 (He.fAd K ("Images", some "of")) fd ["self", "value"] (SpM (gm K) 2 f89) ∧ FunD K d89.name d89.qual d89.params d89.body d89.scope (d89.dvs K) (d89.kws K) (He.fAd K ("Images", some "of")) fd := by
  obtain ⟨fd, F⟩ := B.c.def_ 89 (d := d89) rfl
  exact ⟨fd, fn_okM (ps := ["self", "value"]) F sc89 rfl rfl (fun cdv A outer s H hr => b89 B cdv A outer s H hr), F⟩
theorem r89 (B : Bd K hh mg) : FnR P w K mg base CX0 11 (He.fAd K ("Images", some "of")) (SpM (gm K) 2 f89) := by
  obtain ⟨fd, F, D⟩ := o89 (P := P) (w := w) (base := base) B
  exact fnM_all F (FunD.bindsN (ps := ["self", "value"]) D fun _ _ _ _ _ _ us hl => match us, hl with | [_, _], _ => rfl)
/-! ### foretold -/
theorem sc68 : FnScope ["heap", "value", "memo", "view", "images", "found", "cell"] ["heap", "value", "memo"] (defScope (top 68)) := ⟨rfl, rfl, rfl, by decide +kernel, rfl, by decide +kernel, by decide +kernel⟩
def m68 : MS := (mSeqT (mAsg (mCall f69 3 (mCons (mVar 0) (mCons (mVar 1) (mCons (mCall f85 1 (mCons (mVar 2) mNil)) mNil)))) (mgName 3)) (mSeqT (mPar [4, 5] (mCons (mMake 12 f87 2 (mCons (mVar 3) mNil)) (mCons mDict0 mNil))) (mSeqT (mFor g0 300 (miSeq g0 (mCall f83 2 (mCons (mVar 3) (mCons (mVar 1) mNil)))) (mgName 6) (mIfS (mTest (mBin (fEq3 g0 false) (mCall f76 2 (mCons (mVar 0) (mCons (mVar 6) mNil))) (mC (.str "giver")))) (mAsg (mTup (mCons (mC (.str "as")) (mCons (mCall f88 2 (mCons (mVar 3) (mCons (mVar 6) mNil))) mNil))) (mgSub (mVar 5) (mVar 6))) (mAsg (mIf (mTest (mBin (fEq3 g0 false) (mBin (fIx g0) (mMeth 12 "of" f89 2 (mVar 4) (mCons (mVar 6) mNil)) (mC (.int 0))) (mC (.str "new")))) (mTup (mCons (mC (.str "new")) mNil)) (mTup (mCons (mC (.str "kept")) mNil))) (mgSub (mVar 5) (mVar 6))))) (mRet (mVar 5)))))
theorem b68 (B : Bd K hh mg) (cdv : Value) (A : Around) (outer : List Env) (s : Shared) (H : Hp) (hr : Room 13 (A.deeper (envOfC "foretold" (defScope (top 68)) s.heap.objs.size (He.fAd K ("foretold", none)) cdv))) : SSs (gm K) W0 (cxOf CX0 P w K mg base ["heap", "value", "memo", "view", "images", "found", "cell"] "foretold" (defScope (top 68)) (He.fAd K ("foretold", none)) cdv A outer s H E0).nox (defBody (top 68)) m68 := by
  have G : GOk K (gm K) g0 := gok B
  exact (sss_consT (ss_set sc68.nd (se_call (r69 B) (hr.mono (by decide)) (He.glo_ok B.X B.G (B.c.fact 114 rfl)) (kp69 B) (sa_cons (se_var 0) (sa_cons (se_var 1) (sa_cons (se_call (r85 B) (hr.mono (by decide)) (He.glo_ok B.X B.G (B.c.fact 113 rfl)) (kp85 B) (sa_cons (se_var 2) sa_nil)) sa_nil))))) (sss_consT (ss_par rfl sc68.nd (sa_cons (se_make (c := 12) (He.mkr_ok (B.c.fact 115 rfl)) (r87 B) (hr.mono (by decide)) (He.glo_ok B.X B.G (B.c.fact 116 rfl)) (sa_cons (se_var 3) sa_nil)) (sa_cons se_dict0 sa_nil))) (sss_consT (ss_for 300 PassesOwn.never rfl (si_seq G (se_call (r83 B) (hr.mono (by decide)) (He.glo_ok B.X B.G (B.c.fact 107 rfl)) (kp83 B) (sa_cons (se_var 3) (sa_cons (se_var 1) sa_nil)))) (sg_name sc68.nd) (sss_one (ss_if (st_cmp2 (o_eq3 G (hu66 hr)) (se_call (r76 B) (hr.mono (by decide)) (He.glo_ok B.X B.G (B.c.fact 98 rfl)) (kp76 B) (sa_cons (se_var 0) (sa_cons (se_var 6) sa_nil))) se_str) (sss_one (ss_asg (se_tup (sa_cons se_str (sa_cons (se_call (r88 B) (hr.mono (by decide)) (He.glo_ok B.X B.G (B.c.fact 117 rfl)) (kp88 B) (sa_cons (se_var 3) (sa_cons (se_var 6) sa_nil))) sa_nil))) (sg_sub (W := W0) (hu1 hr) (se_var 5) (se_var 6)))) (sss_one (ss_asg (se_if (st_cmp2 (o_eq3 G (hu66 hr)) (se_ix2 (o_ix G (hu1 hr)) (se_meth (c := 12) (He.cls_ok (B.c.fact 118 rfl)) (He.meth_ok (B.c.fact 122 rfl)) (r89 B) (hr.mono (by decide)) (se_var 4) (sa_cons (se_var 6) sa_nil)) se_int) se_str) (se_tup (sa_cons se_str sa_nil)) (se_tup (sa_cons se_str sa_nil))) (sg_sub (W := W0) (hu1 hr) (se_var 5) (se_var 6))))))) (sss_one (ss_ret (se_var 5))))))
theorem kp68 (B : Bd K hh mg) : PySem.W.keepIn K (.ref (He.fAd K ("foretold", none))) = true := by obtain ⟨fd, F⟩ := B.c.def_ 68 (d := d68) rfl; exact F.kp
def f68 : MF := mDef 3 4 m68
theorem o68 (B : Bd K hh mg) : ∃ fd, FnOk P w K mg base CX0 14 (He.fAd K ("foretold", none)) fd ["heap", "value", "memo"] (SpM (gm K) 3 f68) ∧ FunD K d68.name d68.qual d68.params d68.body d68.scope (d68.dvs K) (d68.kws K) (He.fAd K ("foretold", none)) fd := by
  obtain ⟨fd, F⟩ := B.c.def_ 68 (d := d68) rfl
  exact ⟨fd, fn_okM (ps := ["heap", "value", "memo"]) F sc68 rfl rfl (fun cdv A outer s H hr => b68 B cdv A outer s H hr), F⟩
def fd68_2 : MF := mfD f68 [.non]
theorem rd68_2 (B : Bd K hh mg) : FnR P w K mg base CX0 14 (He.fAd K ("foretold", none)) (SpM (gm K) 2 fd68_2) := by
  obtain ⟨fd, F, D⟩ := o68 (P := P) (w := w) (base := base) B
  obtain ⟨ds, hd, hb⟩ := FunD.binds0 (ps := ["heap", "value", "memo"]) D 2 (by exact List.cons_ne_nil _ _) rfl fun _ _ _ _ _ _ us ks hl hi => match us, ks, hl, hi with | [_, _], [_], _, _ => ⟨_, _, _, _, _, _, rfl, rfl, rfl⟩
  exact fnM_of F hb hd (.cons rfl .nil) rfl
/-! ### linked -/
theorem sc93 : FnScope ["heap", "value", "waiting", "found", "cell", "step", "part"] ["heap", "value"] (defScope (top 83)) := ⟨rfl, rfl, rfl, by decide +kernel, rfl, by decide +kernel, by decide +kernel⟩
def m93 : MS := (mSeqT (mAsg (mIf (mTest (mBin (fOwn2 1 f31 fun b => bif false then !b else b) (mVar 1) (mVar 0))) (mLst (mCons (mVar 1) mNil)) (mLst mNil)) (mgName 2)) (mSeqT (mAsg (mDc g0 300 [4] (miAny g0 (mVar 2)) (mgName 4) mYes (mVar 4) (mC (.bl true))) (mgName 3)) (mSeqT (mWhile 300 (mTest (mBin (fEq3 g0 true) (mVar 2) (mLst mNil))) (mFor g0 300 (miSeq g0 (mMeth 1 "parts" f54 2 (mVar 0) (mCons (mMt fPop (mVar 2) mNil) mNil))) (mgTup g0 2 (mgCons (mgName 5) (mgCons (mgName 6) mgNil))) (mIfS (mAnd (mTest (mBin (fOwn2 1 f31 fun b => bif false then !b else b) (mVar 6) (mVar 0))) (mTest (mBin (fIn2 g0 true) (mVar 6) (mVar 3)))) (mSeqT (mAsg (mC (.bl true)) (mgSub (mVar 3) (mVar 6))) (mDrop (mMt fAppend (mVar 2) (mCons (mVar 6) mNil)))) mNext))) (mRet (mCb (fSort g0) (mCons (mVar 3) mNil))))))
theorem b93 (B : Bd K hh mg) (cdv : Value) (A : Around) (outer : List Env) (s : Shared) (H : Hp) (hr : Room 4 (A.deeper (envOfC "linked" (defScope (top 83)) s.heap.objs.size (He.fAd K ("linked", none)) cdv))) : SSs (gm K) W0 (cxOf CX0 P w K mg base ["heap", "value", "waiting", "found", "cell", "step", "part"] "linked" (defScope (top 83)) (He.fAd K ("linked", none)) cdv A outer s H E0).nox (defBody (top 83)) m93 := by
  have G : GOk K (gm K) g0 := gok B
  exact (sss_consT (ss_set sc93.nd (se_if (st_cmp2 (o_inOwn (c := 1) (He.meth_ok (B.c.fact 51 rfl)).at_ (He.meth_ok (B.c.fact 51 rfl)).fn (r31 B) (hr.mono (by decide))) (se_var 1) (se_var 0)) (se_lst (sa_cons (se_var 1) sa_nil)) (se_lst sa_nil))) (sss_consT (ss_setDc (own := [("cell", 4)]) 300 rfl sc93.nd (si_any G (se_var 2)) (show BlkOk ["heap", "value", "waiting", "found", "cell", "step", "part"] (defScope (top 83)) _ [("cell", 4)] from ⟨rfl, by decide +kernel, by decide +kernel, by decide +kernel, by decide +kernel⟩) (fun _ _ _ _ _ => (sg_name sc93.nd)) (fun _ _ _ _ _ => pts_nilM) (fun _ _ _ _ _ => (se_var 4)) (fun _ _ _ _ _ => se_bl)) (sss_consT (ss_while 300 PassesOwn.never (st_cmp2 (o_ne3 G (hu66 hr)) (se_var 2) (se_lst sa_nil)) (sss_one (ss_for 300 PassesOwn.never rfl (si_seq G (se_meth (c := 1) (He.cls_ok (B.c.fact 30 rfl)) (He.meth_ok (B.c.fact 74 rfl)) (r54 B) (hr.mono (by decide)) (se_var 0) (sa_cons (se_bm0 PySem.F.slot_list_pop PySem.F.type_list_pop mt2_pop (se_var 2)) sa_nil))) (sg_tup G rfl (sgs_cons (sg_name sc93.nd) (sgs_cons (sg_name sc93.nd) sgs_nil))) (sss_one (ss_if (SW.st (sw_and (st_cmp2 (o_inOwn (c := 1) (He.meth_ok (B.c.fact 51 rfl)).at_ (He.meth_ok (B.c.fact 51 rfl)).fn (r31 B) (hr.mono (by decide))) (se_var 6) (se_var 0)) (sw_and1 (st_cmp2 (o_nin2 G (hu66 hr)) (se_var 6) (se_var 3))))) (sss_consT (ss_asg se_bl (sg_sub (W := W0) (hu1 hr) (se_var 3) (se_var 6))) (sss_one (ss_expr (se_bm PySem.F.slot_list_append PySem.F.type_list_append mt2_append (se_var 2) (sa_cons (se_var 6) sa_nil))))) sss_nil))))) (sss_one (ss_ret (se_callB (id := "sorted") (cb_sort G rfl) (He.free_ok B.X B.G (B.c.fact 106 rfl)) rfl (sa_cons (se_var 3) sa_nil)))))))
theorem kp93 (B : Bd K hh mg) : PySem.W.keepIn K (.ref (He.fAd K ("linked", none))) = true := by obtain ⟨fd, F⟩ := B.c.def_ 93 (d := d93) rfl; exact F.kp
def f93 : MF := mDef 2 5 m93
theorem o93 (B : Bd K hh mg) : ∃ fd, FnOk P w K mg base CX0 5 (He.fAd K ("linked", none)) fd ["heap", "value"] (SpM (gm K) 2 f93) ∧ FunD K d93.name d93.qual d93.params d93.body d93.scope (d93.dvs K) (d93.kws K) (He.fAd K ("linked", none)) fd := by
  obtain ⟨fd, F⟩ := B.c.def_ 93 (d := d93) rfl
  exact ⟨fd, fn_okM (ps := ["heap", "value"]) F sc93 rfl rfl (fun cdv A outer s H hr => b93 B cdv A outer s H hr), F⟩
theorem r93 (B : Bd K hh mg) : FnR P w K mg base CX0 5 (He.fAd K ("linked", none)) (SpM (gm K) 2 f93) := by
  obtain ⟨fd, F, D⟩ := o93 (P := P) (w := w) (base := base) B
  exact fnM_all F (FunD.bindsN (ps := ["heap", "value"]) D fun _ _ _ _ _ _ us hl => match us, hl with | [_, _], _ => rfl)
/-! ### is_changeable -/
theorem sc94 : FnScope ["heap", "cell"] ["heap", "cell"] (defScope (top 82)) := ⟨rfl, rfl, rfl, by decide +kernel, rfl, by decide +kernel, by decide +kernel⟩
def m94 : MS := (mRet (mBin (fIn2 g0 true) (mMeth 1 "kind" f41 2 (mVar 0) (mCons (mVar 1) mNil)) (mC (.glo 10))))
theorem b94 (B : Bd K hh mg) (cdv : Value) (A : Around) (outer : List Env) (s : Shared) (H : Hp) (hr : Room 4 (A.deeper (envOfC "is_changeable" (defScope (top 82)) s.heap.objs.size (He.fAd K ("is_changeable", none)) cdv))) : SSs (gm K) W0 (cxOf CX0 P w K mg base ["heap", "cell"] "is_changeable" (defScope (top 82)) (He.fAd K ("is_changeable", none)) cdv A outer s H E0).nox (defBody (top 82)) m94 := by
  have G : GOk K (gm K) g0 := gok B
  exact (sss_one (ss_ret (se_cmp2 (o_nin2 G (hu66 hr)) (se_meth (c := 1) (He.cls_ok (B.c.fact 30 rfl)) (He.meth_ok (B.c.fact 60 rfl)) (r41 B) (hr.mono (by decide)) (se_var 0) (sa_cons (se_var 1) sa_nil)) (se_glo (k := 10) (He.glo_ok B.X B.G (B.c.fact 68 rfl))))))
theorem kp94 (B : Bd K hh mg) : PySem.W.keepIn K (.ref (He.fAd K ("is_changeable", none))) = true := by obtain ⟨fd, F⟩ := B.c.def_ 94 (d := d94) rfl; exact F.kp
def f94 : MF := mDef 2 0 m94
theorem o94 (B : Bd K hh mg) : ∃ fd, FnOk P w K mg base CX0 5 (He.fAd K ("is_changeable", none)) fd ["heap", "cell"] (SpM (gm K) 2 f94) ∧ FunD K d94.name d94.qual d94.params d94.body d94.scope (d94.dvs K) (d94.kws K) (He.fAd K ("is_changeable", none)) fd := by
  obtain ⟨fd, F⟩ := B.c.def_ 94 (d := d94) rfl
  exact ⟨fd, fn_okM (ps := ["heap", "cell"]) F sc94 rfl rfl (fun cdv A outer s H hr => b94 B cdv A outer s H hr), F⟩
theorem r94 (B : Bd K hh mg) : FnR P w K mg base CX0 5 (He.fAd K ("is_changeable", none)) (SpM (gm K) 2 f94) := by
  obtain ⟨fd, F, D⟩ := o94 (P := P) (w := w) (base := base) B
  exact fnM_all F (FunD.bindsN (ps := ["heap", "cell"]) D fun _ _ _ _ _ _ us hl => match us, hl with | [_, _], _ => rfl)
/-! ### leaks -/
theorem sc92 : FnScope ["heap", "value", "before", "cell"] ["heap", "value", "before"] (defScope (top 84)) := ⟨rfl, rfl, rfl, by decide +kernel, rfl, by decide +kernel, by decide +kernel⟩
def m92 : MS := (mSeqT (mDrop (mCall f70 2 (mCons (mVar 0) (mCons (mVar 1) mNil)))) (mRet (mLc g0 300 [3] (miSeq g0 (mCall f93 2 (mCons (mVar 0) (mCons (mVar 1) mNil)))) (mgName 3) (mAnd (mTest (mBin fLt (mVar 3) (mVar 2))) (mTest (mCall f94 2 (mCons (mVar 0) (mCons (mVar 3) mNil))))) (mVar 3))))
theorem b92 (B : Bd K hh mg) (cdv : Value) (A : Around) (outer : List Env) (s : Shared) (H : Hp) (hr : Room 5 (A.deeper (envOfC "leaks" (defScope (top 84)) s.heap.objs.size (He.fAd K ("leaks", none)) cdv))) : SSs (gm K) W0 (cxOf CX0 P w K mg base ["heap", "value", "before", "cell"] "leaks" (defScope (top 84)) (He.fAd K ("leaks", none)) cdv A outer s H E0).nox (defBody (top 84)) m92 := by
  have G : GOk K (gm K) g0 := gok B
  exact (sss_consT (ss_expr (se_call (r70 B) (hr.mono (by decide)) (He.glo_ok B.X B.G (B.c.fact 95 rfl)) (kp70 B) (sa_cons (se_var 0) (sa_cons (se_var 1) sa_nil)))) (sss_one (ss_ret (se_lc (own := [("cell", 3)]) 300 rfl sc92.nd (si_seq G (se_call (r93 B) (hr.mono (by decide)) (He.glo_ok B.X B.G (B.c.fact 124 rfl)) (kp93 B) (sa_cons (se_var 0) (sa_cons (se_var 1) sa_nil)))) (show BlkOk ["heap", "value", "before", "cell"] (defScope (top 84)) _ [("cell", 3)] from ⟨rfl, by decide +kernel, by decide +kernel, by decide +kernel, by decide +kernel⟩) (fun _ _ _ _ _ => (sg_name sc92.nd)) (fun _ _ _ _ _ => ST.pts1 (SW.st (sw_and (st_cmp2 o_lt (se_var 3) (se_var 2)) (sw_and1 (st_val (se_call (r94 B) (hr.mono (by decide)) (He.glo_ok B.X B.G (B.c.fact 125 rfl)) (kp94 B) (sa_cons (se_var 0) (sa_cons (se_var 3) sa_nil)))))))) (fun _ _ _ _ _ => (se_var 3))))))
theorem kp92 (B : Bd K hh mg) : PySem.W.keepIn K (.ref (He.fAd K ("leaks", none))) = true := by obtain ⟨fd, F⟩ := B.c.def_ 92 (d := d92) rfl; exact F.kp
def f92 : MF := mDef 3 1 m92
theorem o92 (B : Bd K hh mg) : ∃ fd, FnOk P w K mg base CX0 6 (He.fAd K ("leaks", none)) fd ["heap", "value", "before"] (SpM (gm K) 3 f92) ∧ FunD K d92.name d92.qual d92.params d92.body d92.scope (d92.dvs K) (d92.kws K) (He.fAd K ("leaks", none)) fd := by
  obtain ⟨fd, F⟩ := B.c.def_ 92 (d := d92) rfl
  exact ⟨fd, fn_okM (ps := ["heap", "value", "before"]) F sc92 rfl rfl (fun cdv A outer s H hr => b92 B cdv A outer s H hr), F⟩
theorem r92 (B : Bd K hh mg) : FnR P w K mg base CX0 6 (He.fAd K ("leaks", none)) (SpM (gm K) 3 f92) := by
  obtain ⟨fd, F, D⟩ := o92 (P := P) (w := w) (base := base) B
  exact fnM_all F (FunD.bindsN (ps := ["heap", "value", "before"]) D fun _ _ _ _ _ _ us hl => match us, hl with | [_, _, _], _ => rfl)
/-! ### _law_keepers_right -/
theorem sc1 : FnScope ["_law_heap", "_law_thing", "_law_pair", "_law_whole", "_law_copying", "_law_result"] [] (defScope (top 90)) := ⟨rfl, rfl, rfl, by decide +kernel, rfl, by decide +kernel, by decide +kernel⟩
def m1 : MS := (mSeqT (mAsg (mMake 1 fs2_2 2 (mCons (mMakeMK 0 fk4_3_deep 2 1 (mCons (mC (.str "x")) (mCons (mTup (mCons (mC (.str "f")) mNil)) mNil)) (mCons (mTup (mCons (mTup (mCons (mC (.str "note")) (mCons (mC (.str "n")) mNil))) (mCons (mTup (mCons (mC (.str "keep")) mNil)) mNil))) mNil)) mNil)) (mgName 0)) (mSeqT (mAsg (mMethK 1 "make_object" fk15_2_f 2 1 (mVar 0) (mCons (mC (.str "x")) mNil) (mCons (mC (.str "w")) mNil)) (mgName 1)) (mSeqT (mAsg (mMeth 1 "make" f25 3 (mVar 0) (mCons (mC (.str "tuple")) (mCons (mLst (mCons (mVar 1) (mCons (mVar 1) mNil))) mNil))) (mgName 2)) (mSeqT (mAsg (mMeth 1 "make" f25 3 (mVar 0) (mCons (mC (.str "list")) (mCons (mLst (mCons (mVar 2) (mCons (mVar 1) (mCons (mVar 2) mNil)))) mNil))) (mgName 3)) (mSeqT (mAsg (mMake 8 fd26_3 3 (mCons (mVar 0) (mCons (mVar 3) mNil))) (mgName 4)) (mSeqT (mAsg (mMeth 8 "finish" f33 1 (mVar 4) mNil) (mgName 5)) (mSeqT (mIfS (mOrT (mTest (mBin (fEq3 g0 true) (mMeth 1 "parts" f54 2 (mVar 0) (mCons (mVar 5) mNil)) (mMeth 1 "parts" f54 2 (mVar 0) (mCons (mVar 3) mNil)))) (mOrT (mTest (mBin (fEq3 g0 true) (mCall f66 1 (mCons (mVar 4) mNil)) (mLst (mCons (mC (.int 0)) mNil)))) (mTest (mBin (fEq3 g0 false) (mVar 5) (mVar 3))))) (mRet (mC (.bl false))) mNext) (mRet (mAndV (mBin (fEq3 g0 false) (mCall f92 3 (mCons (mVar 0) (mCons (mVar 5) (mCons (mC (.int 3)) mNil)))) (mLst (mCons (mC (.int 0)) mNil))) (mBin (fEq3 g0 false) (mCall fd68_2 2 (mCons (mVar 0) (mCons (mVar 3) mNil))) (mDisp (mpCons (mC (.int 0)) (mTup (mCons (mC (.str "kept")) mNil)) (mpCons (mC (.int 1)) (mTup (mCons (mC (.str "kept")) mNil)) (mpCons (mC (.int 2)) (mTup (mCons (mC (.str "new")) mNil)) mpNil))))))))))))))
theorem b1 (B : Bd K hh mg) (cdv : Value) (A : Around) (outer : List Env) (s : Shared) (H : Hp) (hr : Room 14 (A.deeper (envOfC "_law_keepers_right" (defScope (top 90)) s.heap.objs.size (He.fAd K ("_law_keepers_right", none)) cdv))) : SSs (gm K) W0 (cxOf CX0 P w K mg base ["_law_heap", "_law_thing", "_law_pair", "_law_whole", "_law_copying", "_law_result"] "_law_keepers_right" (defScope (top 90)) (He.fAd K ("_law_keepers_right", none)) cdv A outer s H E0).nox (defBody (top 90)) m1 := by
  have G : GOk K (gm K) g0 := gok B
  exact (sss_consT (ss_set sc1.nd (se_make (c := 1) (He.mkr_ok (B.c.fact 1 rfl)) (rs2_2 B) (hr.mono (by decide)) (He.glo_ok B.X B.G (B.c.fact 26 rfl)) (sa_cons (se_makeMK (c := 0) (n := 2) (ks := ["deep"]) (He.mkr_ok (B.c.fact 24 rfl)) (rk4_3_deep B) (hr.mono (by decide)) (He.glo_ok B.X B.G (B.c.fact 25 rfl)) (sa_cons se_str (sa_cons (se_tup (sa_cons se_str sa_nil)) sa_nil)) (sk_cons (se_tup (sa_cons (se_tup (sa_cons se_str (sa_cons se_str sa_nil))) (sa_cons (se_tup (sa_cons se_str sa_nil)) sa_nil))) sk_nil)) sa_nil))) (sss_consT (ss_set sc1.nd (se_methK (c := 1) (n := 2) (ks := ["f"]) (He.cls_ok (B.c.fact 30 rfl)) (He.meth_ok (B.c.fact 42 rfl)) (rk15_2_f B) (hr.mono (by decide)) (se_var 0) (sa_cons se_str sa_nil) (sk_cons se_str sk_nil))) (sss_consT (ss_set sc1.nd (se_meth (c := 1) (He.cls_ok (B.c.fact 30 rfl)) (He.meth_ok (B.c.fact 43 rfl)) (r25 B) (hr.mono (by decide)) (se_var 0) (sa_cons se_str (sa_cons (se_lst (sa_cons (se_var 1) (sa_cons (se_var 1) sa_nil))) sa_nil)))) (sss_consT (ss_set sc1.nd (se_meth (c := 1) (He.cls_ok (B.c.fact 30 rfl)) (He.meth_ok (B.c.fact 43 rfl)) (r25 B) (hr.mono (by decide)) (se_var 0) (sa_cons se_str (sa_cons (se_lst (sa_cons (se_var 2) (sa_cons (se_var 1) (sa_cons (se_var 2) sa_nil)))) sa_nil)))) (sss_consT (ss_set sc1.nd (se_make (c := 8) (He.mkr_ok (B.c.fact 53 rfl)) (rd26_3 B) (hr.mono (by decide)) (He.glo_ok B.X B.G (B.c.fact 54 rfl)) (sa_cons (se_var 0) (sa_cons (se_var 3) sa_nil)))) (sss_consT (ss_set sc1.nd (se_meth0 (c := 8) (He.cls_ok (B.c.fact 57 rfl)) (He.meth_ok (B.c.fact 92 rfl)) (r33 B) (hr.mono (by decide)) (se_var 4))) (sss_consT (ss_if (SW.st (sw_or (st_cmp2 (o_ne3 G (hu66 hr)) (se_meth (c := 1) (He.cls_ok (B.c.fact 30 rfl)) (He.meth_ok (B.c.fact 74 rfl)) (r54 B) (hr.mono (by decide)) (se_var 0) (sa_cons (se_var 5) sa_nil)) (se_meth (c := 1) (He.cls_ok (B.c.fact 30 rfl)) (He.meth_ok (B.c.fact 74 rfl)) (r54 B) (hr.mono (by decide)) (se_var 0) (sa_cons (se_var 3) sa_nil))) (sw_or (st_cmp2 (o_ne3 G (hu66 hr)) (se_call (r66 B) (hr.mono (by decide)) (He.glo_ok B.X B.G (B.c.fact 94 rfl)) (kp66 B) (sa_cons (se_var 4) sa_nil)) (se_lst (sa_cons se_int sa_nil))) (sw_or1 (st_cmp2 (o_eq3 G (hu66 hr)) (se_var 5) (se_var 3)))))) (sss_one (ss_ret se_bl)) sss_nil) (sss_one (ss_ret (se_and (se_cmp2 (o_eq3 G (hu66 hr)) (se_call (r92 B) (hr.mono (by decide)) (He.glo_ok B.X B.G (B.c.fact 126 rfl)) (kp92 B) (sa_cons (se_var 0) (sa_cons (se_var 5) (sa_cons se_int sa_nil)))) (se_lst (sa_cons se_int sa_nil))) (se_one (se_cmp2 (o_eq3 G (hu66 hr)) (se_call (rd68_2 B) (hr.mono (by decide)) (He.glo_ok B.X B.G (B.c.fact 123 rfl)) (kp68 B) (sa_cons (se_var 0) (sa_cons (se_var 3) sa_nil))) (se_disp (sp_cons se_int (se_tup (sa_cons se_str sa_nil)) (sp_cons se_int (se_tup (sa_cons se_str sa_nil)) (sp_cons se_int (se_tup (sa_cons se_str sa_nil)) sp_nil))))))))))))))))
theorem kp1 (B : Bd K hh mg) : PySem.W.keepIn K (.ref (He.fAd K ("_law_keepers_right", none))) = true := by obtain ⟨fd, F⟩ := B.c.def_ 1 (d := d1) rfl; exact F.kp
def f1 : MF := mDef 0 6 m1
theorem o1 (B : Bd K hh mg) : ∃ fd, FnOk P w K mg base CX0 15 (He.fAd K ("_law_keepers_right", none)) fd [] (SpM (gm K) 0 f1) ∧ FunD K d1.name d1.qual d1.params d1.body d1.scope (d1.dvs K) (d1.kws K) (He.fAd K ("_law_keepers_right", none)) fd := by
  obtain ⟨fd, F⟩ := B.c.def_ 1 (d := d1) rfl
  exact ⟨fd, fn_okM (ps := []) F sc1 rfl rfl (fun cdv A outer s H hr => b1 B cdv A outer s H hr), F⟩
theorem r1 (B : Bd K hh mg) : FnR P w K mg base CX0 15 (He.fAd K ("_law_keepers_right", none)) (SpM (gm K) 0 f1) := by
  obtain ⟨fd, F, D⟩ := o1 (P := P) (w := w) (base := base) B
  exact fnM_all F (FunD.bindsN (ps := []) D fun _ _ _ _ _ _ us hl => match us, hl with | [], _ => rfl)
theorem t1 : f1 [] vs0 (noX kT) = true := by decide +kernel
def fk15_2 : MFK := fun us ws st => mDef 3 4 m15 (us ++ [.ref st.n]) (st.new (.dct false (kkv [] ws)))
theorem rk15_2 (B : Bd K hh mg) : FnMK P w K mg base (gm K) 5 (He.fAd K ("Heap", some "make_object")) 2 [] fk15_2 := by
  obtain ⟨fd, F⟩ := B.c.def_ 15 (d := d15) rfl
  exact fn_kwM (ps := ["self", "shape"]) (pd := "fields") (ks := []) F sc15 rfl rfl (by decide) (by decide) (fun _ _ _ _ _ _ us ws hl hw => match us, ws, hl, hw with | [_, _], [], _, _ => rfl) (fun cdv A outer s H hr => b15 B cdv A outer s H hr)
def fk15_2n : MF := fun us st => fk15_2 us [] st
theorem rk15_2n (B : Bd K hh mg) : FnR P w K mg base CX0 5 (He.fAd K ("Heap", some "make_object")) (SpM (gm K) 2 fk15_2n) := fnMK_nil (rk15_2 B)
/-! ### Heap.need_changeable -/
theorem sc97 : FnScope ["self", "cell", "kinds", "found"] ["self", "cell", "kinds"] (defScope (inClass (top 80) 18)) := ⟨rfl, rfl, rfl, by decide +kernel, rfl, by decide +kernel, by decide +kernel⟩
def m97 : MS := (mSeqT (mAsg (mMeth 1 "cell_of" f42 2 (mVar 0) (mCons (mVar 1) mNil)) (mgName 3)) (mSeqT (mIfS (mTest (mBin (fIn2 g0 true) (mFld g0 "family" (mVar 3)) (mVar 2))) mDeadS mNext) (mRet (mVar 3))))
theorem b97 (B : Bd K hh mg) (cdv : Value) (A : Around) (outer : List Env) (s : Shared) (H : Hp) (hr : Room 3 (A.deeper (envOfC "Heap.need_changeable" (defScope (inClass (top 80) 18)) s.heap.objs.size (He.fAd K ("Heap", some "need_changeable")) cdv))) : SSs (gm K) W0 (cxOf CX0 P w K mg base ["self", "cell", "kinds", "found"] "Heap.need_changeable" (defScope (inClass (top 80) 18)) (He.fAd K ("Heap", some "need_changeable")) cdv A outer s H E0).nox (defBody (inClass (top 80) 18)) m97 := by
  have G : GOk K (gm K) g0 := gok B
  exact (sss_consT (ss_set sc97.nd (se_meth (c := 1) (He.cls_ok (B.c.fact 30 rfl)) (He.meth_ok (B.c.fact 59 rfl)) (r42 B) (hr.mono (by decide)) (se_var 0) (sa_cons (se_var 1) sa_nil))) (sss_consT (ss_if (st_cmp2 (o_nin2 G (hu66 hr)) (se_fld G (se_var 3)) (se_var 2)) (sss_one s_dead) sss_nil) (sss_one (ss_ret (se_var 3)))))
theorem kp97 (B : Bd K hh mg) : PySem.W.keepIn K (.ref (He.fAd K ("Heap", some "need_changeable"))) = true := by obtain ⟨fd, F⟩ := B.c.def_ 97 (d := d97) rfl; exact F.kp
def f97 : MF := mDef 3 1 m97
theorem o97 (B : Bd K hh mg) : ∃ fd, FnOk P w K mg base CX0 4 (He.fAd K ("Heap", some "need_changeable")) fd ["self", "cell", "kinds"] (SpM (gm K) 3 f97) ∧ FunD K d97.name d97.qual d97.params d97.body d97.scope (d97.dvs K) (d97.kws K) (He.fAd K ("Heap", some "need_changeable")) fd := by
  obtain ⟨fd, F⟩ := B.c.def_ 97 (d := d97) rfl
  exact ⟨fd, fn_okM (ps := ["self", "cell", "kinds"]) F sc97 rfl rfl (fun cdv A outer s H hr => b97 B cdv A outer s H hr), F⟩
theorem r97 (B : Bd K hh mg) : FnR P w K mg base CX0 4 (He.fAd K ("Heap", some "need_changeable")) (SpM (gm K) 3 f97) := by
  obtain ⟨fd, F, D⟩ := o97 (P := P) (w := w) (base := base) B
  exact fnM_all F (FunD.bindsN (ps := ["self", "cell", "kinds"]) D fun _ _ _ _ _ _ us hl => match us, hl with | [_, _, _], _ => rfl)
/-! ### Heap.can_put -/
theorem sc98 : FnScope ["self", "cell", "step", "found"] ["self", "cell", "step"] (defScope (inClass (top 80) 19)) := ⟨rfl, rfl, rfl, by decide +kernel, rfl, by decide +kernel, by decide +kernel⟩
def m98 : MS := (mSeqT (mAsg (mBin (fIx g0) (mFld g0 "cells" (mVar 0)) (mVar 1)) (mgName 3)) (mSeqT (mIfS (mTest (mBin (fEq3 g0 false) (mFld g0 "family" (mVar 3)) (mC (.str "list")))) (mRet (mAndV (mCall f20 1 (mCons (mVar 2) mNil)) (mChain fLe fLe (mC (.int 0)) (mVar 2) (mCb (fLen g0) (mCons (mFld g0 "held" (mVar 3)) mNil))))) mNext) (mSeqT (mIfS (mTest (mBin (fEq3 g0 false) (mFld g0 "family" (mVar 3)) (mC (.str "dict")))) (mRet (mCall f6 1 (mCons (mVar 2) mNil))) mNext) (mRet (mAndV (mIsi isStr (mVar 2)) (mBin (fIn2 g0 false) (mVar 2) (mProp 0 f16 (mFld g0 "design" (mVar 3)))))))))
theorem b98 (B : Bd K hh mg) (cdv : Value) (A : Around) (outer : List Env) (s : Shared) (H : Hp) (hr : Room 2 (A.deeper (envOfC "Heap.can_put" (defScope (inClass (top 80) 19)) s.heap.objs.size (He.fAd K ("Heap", some "can_put")) cdv))) : SSs (gm K) W0 (cxOf CX0 P w K mg base ["self", "cell", "step", "found"] "Heap.can_put" (defScope (inClass (top 80) 19)) (He.fAd K ("Heap", some "can_put")) cdv A outer s H E0).nox (defBody (inClass (top 80) 19)) m98 := by
  have G : GOk K (gm K) g0 := gok B
  exact (sss_consT (ss_set sc98.nd (se_ix2 (o_ix G (hu1 hr)) (se_fld G (se_var 0)) (se_var 1))) (sss_consT (ss_if (st_cmp2 (o_eq3 G (hu66 hr)) (se_fld G (se_var 3)) se_str) (sss_one (ss_ret (se_and (se_call (r20 B) (hr.mono (by decide)) (He.glo_ok B.X B.G (B.c.fact 29 rfl)) (kp20 B) (sa_cons (se_var 2) sa_nil)) (se_one (se_chain2 o_le o_le se_int (se_var 2) (se_callB (id := "len") (cb_len G) (He.free_ok B.X B.G (B.c.fact 4 rfl)) rfl (sa_cons (se_fld G (se_var 3)) sa_nil))))))) sss_nil) (sss_consT (ss_if (st_cmp2 (o_eq3 G (hu66 hr)) (se_fld G (se_var 3)) se_str) (sss_one (ss_ret (se_call (r6 B) (hr.mono (by decide)) (He.glo_ok B.X B.G (B.c.fact 8 rfl)) (kp6 B) (sa_cons (se_var 2) sa_nil)))) sss_nil) (sss_one (ss_ret (se_and (se_isi (isStr_ok K) (se_var 2) (He.free_ok B.X B.G (B.c.fact 6 rfl)) (He.free_ok B.X B.G (B.c.fact 7 rfl)) rfl) (se_one (se_cmp2 (o_in2 G (hu66 hr)) (se_var 2) (se_prop2 (c := 0) (He.cls_ok (B.c.fact 0 rfl)) (prop_Shape_fields B) (p16 B) (hr.mono (by decide)) (se_fld G (se_var 3)))))))))))
theorem kp98 (B : Bd K hh mg) : PySem.W.keepIn K (.ref (He.fAd K ("Heap", some "can_put"))) = true := by obtain ⟨fd, F⟩ := B.c.def_ 98 (d := d98) rfl; exact F.kp
def f98 : MF := mDef 3 1 m98
theorem o98 (B : Bd K hh mg) : ∃ fd, FnOk P w K mg base CX0 3 (He.fAd K ("Heap", some "can_put")) fd ["self", "cell", "step"] (SpM (gm K) 3 f98) ∧ FunD K d98.name d98.qual d98.params d98.body d98.scope (d98.dvs K) (d98.kws K) (He.fAd K ("Heap", some "can_put")) fd := by
  obtain ⟨fd, F⟩ := B.c.def_ 98 (d := d98) rfl
  exact ⟨fd, fn_okM (ps := ["self", "cell", "step"]) F sc98 rfl rfl (fun cdv A outer s H hr => b98 B cdv A outer s H hr), F⟩
theorem r98 (B : Bd K hh mg) : FnR P w K mg base CX0 3 (He.fAd K ("Heap", some "can_put")) (SpM (gm K) 3 f98) := by
  obtain ⟨fd, F, D⟩ := o98 (P := P) (w := w) (base := base) B
  exact fnM_all F (FunD.bindsN (ps := ["self", "cell", "step"]) D fun _ _ _ _ _ _ us hl => match us, hl with | [_, _, _], _ => rfl)
/-! ### Heap.put -/
theorem sc96 : FnScope ["self", "cell", "step", "value", "found"] ["self", "cell", "step", "value"] (defScope (inClass (top 80) 20)) := ⟨rfl, rfl, rfl, by decide +kernel, rfl, by decide +kernel, by decide +kernel⟩
def m96 : MS := (mSeqT (mAsg (mMeth 1 "need_changeable" f97 3 (mVar 0) (mCons (mVar 1) (mCons (mTup (mCons (mC (.str "list")) (mCons (mC (.str "dict")) (mCons (mC (.str "object")) mNil)))) mNil))) (mgName 4)) (mSeqT (mIfS (mNot (mTest (mMeth 1 "can_put" f98 3 (mVar 0) (mCons (mVar 1) (mCons (mVar 2) mNil))))) mDeadS mNext) (mSeqT (mDrop (mMeth 1 "need_value" f17 2 (mVar 0) (mCons (mVar 3) mNil))) (mIfS (mAnd (mTest (mBin (fEq3 g0 false) (mFld g0 "family" (mVar 4)) (mC (.str "list")))) (mTest (mBin (fEq3 g0 false) (mVar 2) (mCb (fLen g0) (mCons (mFld g0 "held" (mVar 4)) mNil))))) (mDrop (mMt fAppend (mFld g0 "held" (mVar 4)) (mCons (mVar 3) mNil))) (mAsg (mVar 3) (mgSub (mFld g0 "held" (mVar 4)) (mVar 2)))))))
theorem b96 (B : Bd K hh mg) (cdv : Value) (A : Around) (outer : List Env) (s : Shared) (H : Hp) (hr : Room 4 (A.deeper (envOfC "Heap.put" (defScope (inClass (top 80) 20)) s.heap.objs.size (He.fAd K ("Heap", some "put")) cdv))) : SSs (gm K) W0 (cxOf CX0 P w K mg base ["self", "cell", "step", "value", "found"] "Heap.put" (defScope (inClass (top 80) 20)) (He.fAd K ("Heap", some "put")) cdv A outer s H E0).nox (defBody (inClass (top 80) 20)) m96 := by
  have G : GOk K (gm K) g0 := gok B
  exact (sss_consT (ss_set sc96.nd (se_meth (c := 1) (He.cls_ok (B.c.fact 30 rfl)) (He.meth_ok (B.c.fact 128 rfl)) (r97 B) (hr.mono (by decide)) (se_var 0) (sa_cons (se_var 1) (sa_cons (se_tup (sa_cons se_str (sa_cons se_str (sa_cons se_str sa_nil)))) sa_nil)))) (sss_consT (ss_if (st_not (st_val (se_meth (c := 1) (He.cls_ok (B.c.fact 30 rfl)) (He.meth_ok (B.c.fact 129 rfl)) (r98 B) (hr.mono (by decide)) (se_var 0) (sa_cons (se_var 1) (sa_cons (se_var 2) sa_nil))))) (sss_one s_dead) sss_nil) (sss_consT (ss_expr (se_meth (c := 1) (He.cls_ok (B.c.fact 30 rfl)) (He.meth_ok (B.c.fact 33 rfl)) (r17 B) (hr.mono (by decide)) (se_var 0) (sa_cons (se_var 3) sa_nil))) (sss_one (ss_if (SW.st (sw_and (st_cmp2 (o_eq3 G (hu66 hr)) (se_fld G (se_var 4)) se_str) (sw_and1 (st_cmp2 (o_eq3 G (hu66 hr)) (se_var 2) (se_callB (id := "len") (cb_len G) (He.free_ok B.X B.G (B.c.fact 4 rfl)) rfl (sa_cons (se_fld G (se_var 4)) sa_nil)))))) (sss_one (ss_expr (se_bm PySem.F.slot_list_append PySem.F.type_list_append mt2_append (se_fld G (se_var 4)) (sa_cons (se_var 3) sa_nil)))) (sss_one (ss_asg (se_var 3) (sg_sub (W := W0) (hu1 hr) (se_fld G (se_var 4)) (se_var 2)))))))))
theorem kp96 (B : Bd K hh mg) : PySem.W.keepIn K (.ref (He.fAd K ("Heap", some "put"))) = true := by obtain ⟨fd, F⟩ := B.c.def_ 96 (d := d96) rfl; exact F.kp
def f96 : MF := mDef 4 1 m96
theorem o96 (B : Bd K hh mg) : ∃ fd, FnOk P w K mg base CX0 5 (He.fAd K ("Heap", some "put")) fd ["self", "cell", "step", "value"] (SpM (gm K) 4 f96) ∧ FunD K d96.name d96.qual d96.params d96.body d96.scope (d96.dvs K) (d96.kws K) (He.fAd K ("Heap", some "put")) fd := by
  obtain ⟨fd, F⟩ := B.c.def_ 96 (d := d96) rfl
  exact ⟨fd, fn_okM (ps := ["self", "cell", "step", "value"]) F sc96 rfl rfl (fun cdv A outer s H hr => b96 B cdv A outer s H hr), F⟩
theorem r96 (B : Bd K hh mg) : FnR P w K mg base CX0 5 (He.fAd K ("Heap", some "put")) (SpM (gm K) 4 f96) := by
  obtain ⟨fd, F, D⟩ := o96 (P := P) (w := w) (base := base) B
  exact fnM_all F (FunD.bindsN (ps := ["self", "cell", "step", "value"]) D fun _ _ _ _ _ _ us hl => match us, hl with | [_, _, _, _], _ => rfl)
/-! ### Tracer.__init__ -/
theorem sc100 : FnScope ["self", "view"] ["self", "view"] (defScope (inClass (top 69) 0)) := ⟨rfl, rfl, rfl, by decide +kernel, rfl, by decide +kernel, by decide +kernel⟩
def m100 : MS := (mSeqT (mSetF g0 "view" (mVar 0) (mVar 1)) (mSeqT (mSetF g0 "images" (mVar 0) (mMake 12 f87 2 (mCons (mVar 1) mNil))) (mSeqT (mSetF g0 "entered" (mVar 0) mDict0) (mSeqT (mSetF g0 "calls" (mVar 0) mDict0) (mSetF g0 "copies" (mVar 0) mDict0)))))
theorem b100 (B : Bd K hh mg) (cdv : Value) (A : Around) (outer : List Env) (s : Shared) (H : Hp) (hr : Room 2 (A.deeper (envOfC "Tracer.__init__" (defScope (inClass (top 69) 0)) s.heap.objs.size (He.fAd K ("Tracer", some "__init__")) cdv))) : SSs (gm K) W0 (cxOf CX0 P w K mg base ["self", "view"] "Tracer.__init__" (defScope (inClass (top 69) 0)) (He.fAd K ("Tracer", some "__init__")) cdv A outer s H E0).nox (defBody (inClass (top 69) 0)) m100 := by
  have G : GOk K (gm K) g0 := gok B
  exact (sss_consT (ss_setF G (se_var 0) (se_var 1)) (sss_consT (ss_setF G (se_var 0) (se_make (c := 12) (He.mkr_ok (B.c.fact 115 rfl)) (r87 B) (hr.mono (by decide)) (He.glo_ok B.X B.G (B.c.fact 116 rfl)) (sa_cons (se_var 1) sa_nil))) (sss_consT (ss_setF G (se_var 0) se_dict0) (sss_consT (ss_setF G (se_var 0) se_dict0) (sss_one (ss_setF G (se_var 0) se_dict0))))))
theorem kp100 (B : Bd K hh mg) : PySem.W.keepIn K (.ref (He.fAd K ("Tracer", some "__init__"))) = true := by obtain ⟨fd, F⟩ := B.c.def_ 100 (d := d100) rfl; exact F.kp
def f100 : MF := mDef 2 0 m100
theorem o100 (B : Bd K hh mg) : ∃ fd, FnOk P w K mg base CX0 3 (He.fAd K ("Tracer", some "__init__")) fd ["self", "view"] (SpM (gm K) 2 f100) ∧ FunD K d100.name d100.qual d100.params d100.body d100.scope (d100.dvs K) (d100.kws K) (He.fAd K ("Tracer", some "__init__")) fd := by
  obtain ⟨fd, F⟩ := B.c.def_ 100 (d := d100) rfl
  exact ⟨fd, fn_okM (ps := ["self", "view"]) F sc100 rfl rfl (fun cdv A outer s H hr => b100 B cdv A outer s H hr), F⟩
theorem r100 (B : Bd K hh mg) : FnR P w K mg base CX0 3 (He.fAd K ("Tracer", some "__init__")) (SpM (gm K) 2 f100) := by
  obtain ⟨fd, F, D⟩ := o100 (P := P) (w := w) (base := base) B
  exact fnM_all F (FunD.bindsN (ps := ["self", "view"]) D fun _ _ _ _ _ _ us hl => match us, hl with | [_, _], _ => rfl)
/-! ### Tracer.deeds -/
theorem sc102 : FnScope ["self", "cell", "heap", "parts", "step", "part", "hook", "found"] ["self", "cell"] (defScope (inClass (top 69) 1)) := ⟨rfl, rfl, rfl, by decide +kernel, rfl, by decide +kernel, by decide +kernel⟩
def m102 : MS := (mSeqT (mAsg (mFld g0 "heap" (mFld g0 "view" (mVar 0))) (mgName 2)) (mSeqT (mAsg (mLc g0 300 [4, 5] (miSeq g0 (mCall f77 2 (mCons (mVar 2) (mCons (mVar 1) mNil)))) (mgTup g0 2 (mgCons (mgName 4) (mgCons (mgName 5) mgNil))) mYes (mTup (mCons (mC (.str "copy")) (mCons (mVar 5) mNil)))) (mgName 3)) (mSeqT (mAsg (mCall f78 2 (mCons (mVar 2) (mCons (mVar 1) mNil))) (mgName 6)) (mSeqT (mIfS (mTest (mBin (fIsN false) (mVar 6) (mC .non))) (mRet (mIf (mTest (mBin (fIn2 g0 false) (mMeth 1 "kind" f41 2 (mVar 2) (mCons (mVar 1) mNil)) (mC (.glo 10)))) (mLst (mStar g0 (mVar 3) (mCons (mC (.glo 14)) mNil))) (mLst (mCons (mC (.glo 15)) (mStar g0 (mVar 3) mNil))))) mNext) (mSeqT (mIfS (mTest (mBin (fEq3 g0 true) (mCall f76 2 (mCons (mVar 2) (mCons (mVar 1) mNil))) (mC (.str "builder")))) (mRet (mLst (mCons (mC (.glo 16)) (mStar g0 (mVar 3) (mCons (mC (.glo 14)) mNil))))) mNext) (mSeqT (mAsg (mLst (mCons (mC (.glo 16)) mNil)) (mgName 7)) (mSeqT (mFor g0 300 (miAny g0 (mVar 6)) (mgName 4) (mIfS (mTest (mBin (fEq3 g0 false) (mVar 4) (mC (.glo 15)))) (mDrop (mMt fAppend (mVar 7) (mCons (mC (.glo 15)) mNil))) (mIfS (mTest (mBin (fEq3 g0 false) (mBin (fIx g0) (mVar 4) (mC (.int 0))) (mC (.str "deep")))) (mDrop (mMt fAppend (mVar 7) (mCons (mTup (mCons (mC (.str "copy")) (mCons (mCall f79 3 (mCons (mVar 2) (mCons (mVar 1) (mCons (mBin (fIx g0) (mVar 4) (mC (.int 1))) mNil)))) mNil))) mNil))) mNext))) (mRet (mIf (mTest (mBin (fIn2 g0 false) (mC (.glo 15)) (mVar 7))) (mVar 7) (mLst (mStar g0 (mVar 7) (mCons (mC (.glo 15)) mNil))))))))))))
theorem b102 (B : Bd K hh mg) (cdv : Value) (A : Around) (outer : List Env) (s : Shared) (H : Hp) (hr : Room 8 (A.deeper (envOfC "Tracer.deeds" (defScope (inClass (top 69) 1)) s.heap.objs.size (He.fAd K ("Tracer", some "deeds")) cdv))) : SSs (gm K) W0 (cxOf CX0 P w K mg base ["self", "cell", "heap", "parts", "step", "part", "hook", "found"] "Tracer.deeds" (defScope (inClass (top 69) 1)) (He.fAd K ("Tracer", some "deeds")) cdv A outer s H E0).nox (defBody (inClass (top 69) 1)) m102 := by
  have G : GOk K (gm K) g0 := gok B
  exact (sss_consT (ss_set sc102.nd (se_fld G (se_fld G (se_var 0)))) (sss_consT (ss_setLc (own := [("step", 4), ("part", 5)]) 300 rfl sc102.nd (si_seq G (se_call (r77 B) (hr.mono (by decide)) (He.glo_ok B.X B.G (B.c.fact 101 rfl)) (kp77 B) (sa_cons (se_var 2) (sa_cons (se_var 1) sa_nil)))) (show BlkOk ["self", "cell", "heap", "parts", "step", "part", "hook", "found"] (defScope (inClass (top 69) 1)) _ [("step", 4), ("part", 5)] from ⟨rfl, by decide +kernel, by decide +kernel, by decide +kernel, by decide +kernel⟩) (fun _ _ _ _ _ => (sg_tup G rfl (sgs_cons (sg_name sc102.nd) (sgs_cons (sg_name sc102.nd) sgs_nil)))) (fun _ _ _ _ _ => pts_nilM) (fun _ _ _ _ _ => (se_tup (sa_cons se_str (sa_cons (se_var 5) sa_nil))))) (sss_consT (ss_set sc102.nd (se_call (r78 B) (hr.mono (by decide)) (He.glo_ok B.X B.G (B.c.fact 99 rfl)) (kp78 B) (sa_cons (se_var 2) (sa_cons (se_var 1) sa_nil)))) (sss_consT (ss_if (st_cmp2 o_isN (se_var 6) se_non) (sss_one (ss_ret (se_if (st_cmp2 (o_in2 G (hu66 hr)) (se_meth (c := 1) (He.cls_ok (B.c.fact 30 rfl)) (He.meth_ok (B.c.fact 60 rfl)) (r41 B) (hr.mono (by decide)) (se_var 2) (sa_cons (se_var 1) sa_nil)) (se_glo (k := 10) (He.glo_ok B.X B.G (B.c.fact 68 rfl)))) (se_lst (sa_star G (se_var 3) (sa_cons (se_glo (k := 14) (He.glo_ok B.X B.G (B.c.fact 133 rfl))) sa_nil))) (se_lst (sa_cons (se_glo (k := 15) (He.glo_ok B.X B.G (B.c.fact 134 rfl))) (sa_star G (se_var 3) sa_nil)))))) sss_nil) (sss_consT (ss_if (st_cmp2 (o_ne3 G (hu66 hr)) (se_call (r76 B) (hr.mono (by decide)) (He.glo_ok B.X B.G (B.c.fact 98 rfl)) (kp76 B) (sa_cons (se_var 2) (sa_cons (se_var 1) sa_nil))) se_str) (sss_one (ss_ret (se_lst (sa_cons (se_glo (k := 16) (He.glo_ok B.X B.G (B.c.fact 135 rfl))) (sa_star G (se_var 3) (sa_cons (se_glo (k := 14) (He.glo_ok B.X B.G (B.c.fact 133 rfl))) sa_nil)))))) sss_nil) (sss_consT (ss_set sc102.nd (se_lst (sa_cons (se_glo (k := 16) (He.glo_ok B.X B.G (B.c.fact 135 rfl))) sa_nil))) (sss_consT (ss_for 300 PassesOwn.never rfl (si_any G (se_var 6)) (sg_name sc102.nd) (sss_one (ss_if (st_cmp2 (o_eq3 G (hu66 hr)) (se_var 4) (se_glo (k := 15) (He.glo_ok B.X B.G (B.c.fact 134 rfl)))) (sss_one (ss_expr (se_bm PySem.F.slot_list_append PySem.F.type_list_append mt2_append (se_var 7) (sa_cons (se_glo (k := 15) (He.glo_ok B.X B.G (B.c.fact 134 rfl))) sa_nil)))) (sss_one (ss_if (st_cmp2 (o_eq3 G (hu66 hr)) (se_ix2 (o_ix G (hu1 hr)) (se_var 4) se_int) se_str) (sss_one (ss_expr (se_bm PySem.F.slot_list_append PySem.F.type_list_append mt2_append (se_var 7) (sa_cons (se_tup (sa_cons se_str (sa_cons (se_call (r79 B) (hr.mono (by decide)) (He.glo_ok B.X B.G (B.c.fact 100 rfl)) (kp79 B) (sa_cons (se_var 2) (sa_cons (se_var 1) (sa_cons (se_ix2 (o_ix G (hu1 hr)) (se_var 4) se_int) sa_nil)))) sa_nil))) sa_nil)))) sss_nil))))) (sss_one (ss_ret (se_if (st_cmp2 (o_in2 G (hu66 hr)) (se_glo (k := 15) (He.glo_ok B.X B.G (B.c.fact 134 rfl))) (se_var 7)) (se_var 7) (se_lst (sa_star G (se_var 7) (sa_cons (se_glo (k := 15) (He.glo_ok B.X B.G (B.c.fact 134 rfl))) sa_nil)))))))))))))
theorem kp102 (B : Bd K hh mg) : PySem.W.keepIn K (.ref (He.fAd K ("Tracer", some "deeds"))) = true := by obtain ⟨fd, F⟩ := B.c.def_ 102 (d := d102) rfl; exact F.kp
def f102 : MF := mDef 2 6 m102
theorem o102 (B : Bd K hh mg) : ∃ fd, FnOk P w K mg base CX0 9 (He.fAd K ("Tracer", some "deeds")) fd ["self", "cell"] (SpM (gm K) 2 f102) ∧ FunD K d102.name d102.qual d102.params d102.body d102.scope (d102.dvs K) (d102.kws K) (He.fAd K ("Tracer", some "deeds")) fd := by
  obtain ⟨fd, F⟩ := B.c.def_ 102 (d := d102) rfl
  exact ⟨fd, fn_okM (ps := ["self", "cell"]) F sc102 rfl rfl (fun cdv A outer s H hr => b102 B cdv A outer s H hr), F⟩
theorem r102 (B : Bd K hh mg) : FnR P w K mg base CX0 9 (He.fAd K ("Tracer", some "deeds")) (SpM (gm K) 2 f102) := by
  obtain ⟨fd, F, D⟩ := o102 (P := P) (w := w) (base := base) B
  exact fnM_all F (FunD.bindsN (ps := ["self", "cell"]) D fun _ _ _ _ _ _ us hl => match us, hl with | [_, _], _ => rfl)
/-! ### Tracer.do -/
theorem sc103 : FnScope ["self", "cell", "deed", "is_new"] ["self", "cell", "deed"] (defScope (inClass (top 69) 2)) := ⟨rfl, rfl, rfl, by decide +kernel, rfl, by decide +kernel, by decide +kernel⟩
def m103 : MS := (mSeqT (mIfS (mTest (mBin (fEq3 g0 false) (mVar 2) (mC (.glo 16)))) (mAsg (mBin fAdd (mGet2 (mFld g0 "calls" (mVar 0)) (mVar 1) (mC (.int 0))) (mC (.int 1))) (mgSub (mFld g0 "calls" (mVar 0)) (mVar 1))) (mIfS (mOrT (mTest (mBin (fEq3 g0 false) (mVar 2) (mC (.glo 15)))) (mAnd (mTest (mBin (fEq3 g0 false) (mVar 2) (mC (.glo 14)))) (mTest (mBin (fIn2 g0 true) (mVar 1) (mFld g0 "entered" (mVar 0)))))) (mSeqT (mAsg (mC (.bl true)) (mgSub (mFld g0 "entered" (mVar 0)) (mVar 1))) (mSeqT (mAsg (mOrV (mBin (fEq3 g0 false) (mVar 2) (mC (.glo 15))) (mBin (fEq3 g0 false) (mMeth 12 "of" f89 2 (mFld g0 "images" (mVar 0)) (mCons (mVar 1) mNil)) (mTup (mCons (mC (.str "new")) (mCons (mVar 1) mNil))))) (mgName 3)) (mAsg (mBin fAdd (mGet2 (mFld g0 "copies" (mVar 0)) (mVar 1) (mC (.int 0))) (mCb (MV.f1 fInt) (mCons (mVar 3) mNil))) (mgSub (mFld g0 "copies" (mVar 0)) (mVar 1))))) mNext)) (mRet (mIf (mTest (mBin (fEq3 g0 false) (mBin (fIx g0) (mVar 2) (mC (.int 0))) (mC (.str "copy")))) (mBin (fIx g0) (mVar 2) (mC (.int 1))) (mC .non))))
theorem b103 (B : Bd K hh mg) (cdv : Value) (A : Around) (outer : List Env) (s : Shared) (H : Hp) (hr : Room 11 (A.deeper (envOfC "Tracer.do" (defScope (inClass (top 69) 2)) s.heap.objs.size (He.fAd K ("Tracer", some "do")) cdv))) : SSs (gm K) W0 (cxOf CX0 P w K mg base ["self", "cell", "deed", "is_new"] "Tracer.do" (defScope (inClass (top 69) 2)) (He.fAd K ("Tracer", some "do")) cdv A outer s H E0).nox (defBody (inClass (top 69) 2)) m103 := by
  have G : GOk K (gm K) g0 := gok B
  exact (sss_consT (ss_if (st_cmp2 (o_eq3 G (hu66 hr)) (se_var 2) (se_glo (k := 16) (He.glo_ok B.X B.G (B.c.fact 135 rfl)))) (sss_one (ss_asg (se_bin2 o_add (se_get2 (hu1 hr) (se_fld G (se_var 0)) (se_var 1) se_int) se_int) (sg_sub (W := W0) (hu1 hr) (se_fld G (se_var 0)) (se_var 1)))) (sss_one (ss_if (SW.st (sw_or (st_cmp2 (o_eq3 G (hu66 hr)) (se_var 2) (se_glo (k := 15) (He.glo_ok B.X B.G (B.c.fact 134 rfl)))) (sw_or1 (SW.st (sw_and (st_cmp2 (o_eq3 G (hu66 hr)) (se_var 2) (se_glo (k := 14) (He.glo_ok B.X B.G (B.c.fact 133 rfl)))) (sw_and1 (st_cmp2 (o_nin2 G (hu66 hr)) (se_var 1) (se_fld G (se_var 0))))))))) (sss_consT (ss_asg se_bl (sg_sub (W := W0) (hu1 hr) (se_fld G (se_var 0)) (se_var 1))) (sss_consT (ss_set sc103.nd (se_orV (se_cmp2 (o_eq3 G (hu66 hr)) (se_var 2) (se_glo (k := 15) (He.glo_ok B.X B.G (B.c.fact 134 rfl)))) (se_one (se_cmp2 (o_eq3 G (hu66 hr)) (se_meth (c := 12) (He.cls_ok (B.c.fact 118 rfl)) (He.meth_ok (B.c.fact 122 rfl)) (r89 B) (hr.mono (by decide)) (se_fld G (se_var 0)) (sa_cons (se_var 1) sa_nil)) (se_tup (sa_cons se_str (sa_cons (se_var 1) sa_nil))))))) (sss_one (ss_asg (se_bin2 o_add (se_get2 (hu1 hr) (se_fld G (se_var 0)) (se_var 1) se_int) (se_callTy (T := "int") cb_int (He.free_ok B.X B.G (B.c.fact 28 rfl)) rfl (sa_cons (se_var 3) sa_nil))) (sg_sub (W := W0) (hu1 hr) (se_fld G (se_var 0)) (se_var 1)))))) sss_nil))) (sss_one (ss_ret (se_if (st_cmp2 (o_eq3 G (hu66 hr)) (se_ix2 (o_ix G (hu1 hr)) (se_var 2) se_int) se_str) (se_ix2 (o_ix G (hu1 hr)) (se_var 2) se_int) se_non))))
theorem kp103 (B : Bd K hh mg) : PySem.W.keepIn K (.ref (He.fAd K ("Tracer", some "do"))) = true := by obtain ⟨fd, F⟩ := B.c.def_ 103 (d := d103) rfl; exact F.kp
def f103 : MF := mDef 3 1 m103
theorem o103 (B : Bd K hh mg) : ∃ fd, FnOk P w K mg base CX0 12 (He.fAd K ("Tracer", some "do")) fd ["self", "cell", "deed"] (SpM (gm K) 3 f103) ∧ FunD K d103.name d103.qual d103.params d103.body d103.scope (d103.dvs K) (d103.kws K) (He.fAd K ("Tracer", some "do")) fd := by
  obtain ⟨fd, F⟩ := B.c.def_ 103 (d := d103) rfl
  exact ⟨fd, fn_okM (ps := ["self", "cell", "deed"]) F sc103 rfl rfl (fun cdv A outer s H hr => b103 B cdv A outer s H hr), F⟩
theorem r103 (B : Bd K hh mg) : FnR P w K mg base CX0 12 (He.fAd K ("Tracer", some "do")) (SpM (gm K) 3 f103) := by
  obtain ⟨fd, F, D⟩ := o103 (P := P) (w := w) (base := base) B
  exact fnM_all F (FunD.bindsN (ps := ["self", "cell", "deed"]) D fun _ _ _ _ _ _ us hl => match us, hl with | [_, _, _], _ => rfl)
/-! ### Tracer.run -/
theorem sc101 : FnScope ["self", "value", "stack", "cell", "deeds", "at", "part"] ["self", "value"] (defScope (inClass (top 69) 3)) := ⟨rfl, rfl, rfl, by decide +kernel, rfl, by decide +kernel, by decide +kernel⟩
def m101 : MS := (mSeqT (mAsg (mIf (mTest (mMeth 11 "is_open" f82 2 (mFld g0 "view" (mVar 0)) (mCons (mVar 1) mNil))) (mLst (mCons (mTup (mCons (mVar 1) (mCons (mMeth 13 "deeds" f102 2 (mVar 0) (mCons (mVar 1) mNil)) (mCons (mC (.int 0)) mNil)))) mNil)) (mLst mNil)) (mgName 2)) (mWhile 300 (mTest (mBin (fEq3 g0 true) (mVar 2) (mLst mNil))) (mSeqT (mAsg (mMt fPop (mVar 2) mNil) (mgTup g0 3 (mgCons (mgName 3) (mgCons (mgName 4) (mgCons (mgName 5) mgNil))))) (mIfS (mTest (mBin fLt (mVar 5) (mCb (fLen g0) (mCons (mVar 4) mNil)))) (mSeqT (mDrop (mMt fAppend (mVar 2) (mCons (mTup (mCons (mVar 3) (mCons (mVar 4) (mCons (mBin fAdd (mVar 5) (mC (.int 1))) mNil)))) mNil))) (mSeqT (mAsg (mMeth 13 "do" f103 3 (mVar 0) (mCons (mVar 3) (mCons (mBin (fIx g0) (mVar 4) (mVar 5)) mNil))) (mgName 6)) (mIfS (mAnd (mTest (mMeth 11 "is_open" f82 2 (mFld g0 "view" (mVar 0)) (mCons (mVar 6) mNil))) (mTest (mBin (fIn2 g0 true) (mVar 6) (mFld g0 "entered" (mVar 0))))) (mDrop (mMt fAppend (mVar 2) (mCons (mTup (mCons (mVar 6) (mCons (mMeth 13 "deeds" f102 2 (mVar 0) (mCons (mVar 6) mNil)) (mCons (mC (.int 0)) mNil)))) mNil))) mNext))) mNext))))
theorem b101 (B : Bd K hh mg) (cdv : Value) (A : Around) (outer : List Env) (s : Shared) (H : Hp) (hr : Room 12 (A.deeper (envOfC "Tracer.run" (defScope (inClass (top 69) 3)) s.heap.objs.size (He.fAd K ("Tracer", some "run")) cdv))) : SSs (gm K) W0 (cxOf CX0 P w K mg base ["self", "value", "stack", "cell", "deeds", "at", "part"] "Tracer.run" (defScope (inClass (top 69) 3)) (He.fAd K ("Tracer", some "run")) cdv A outer s H E0).nox (defBody (inClass (top 69) 3)) m101 := by
  have G : GOk K (gm K) g0 := gok B
  exact (sss_consT (ss_set sc101.nd (se_if (st_val (se_meth (c := 11) (He.cls_ok (B.c.fact 104 rfl)) (He.meth_ok (B.c.fact 105 rfl)) (r82 B) (hr.mono (by decide)) (se_fld G (se_var 0)) (sa_cons (se_var 1) sa_nil))) (se_lst (sa_cons (se_tup (sa_cons (se_var 1) (sa_cons (se_meth (c := 13) (He.cls_ok (B.c.fact 136 rfl)) (He.meth_ok (B.c.fact 137 rfl)) (r102 B) (hr.mono (by decide)) (se_var 0) (sa_cons (se_var 1) sa_nil)) (sa_cons se_int sa_nil)))) sa_nil)) (se_lst sa_nil))) (sss_one (ss_while 300 PassesOwn.never (st_cmp2 (o_ne3 G (hu66 hr)) (se_var 2) (se_lst sa_nil)) (sss_consT (ss_asg (se_bm0 PySem.F.slot_list_pop PySem.F.type_list_pop mt2_pop (se_var 2)) (sg_tup G rfl (sgs_cons (sg_name sc101.nd) (sgs_cons (sg_name sc101.nd) (sgs_cons (sg_name sc101.nd) sgs_nil))))) (sss_one (ss_if (st_cmp2 o_lt (se_var 5) (se_callB (id := "len") (cb_len G) (He.free_ok B.X B.G (B.c.fact 4 rfl)) rfl (sa_cons (se_var 4) sa_nil))) (sss_consT (ss_expr (se_bm PySem.F.slot_list_append PySem.F.type_list_append mt2_append (se_var 2) (sa_cons (se_tup (sa_cons (se_var 3) (sa_cons (se_var 4) (sa_cons (se_bin2 o_add (se_var 5) se_int) sa_nil)))) sa_nil))) (sss_consT (ss_set sc101.nd (se_meth (c := 13) (He.cls_ok (B.c.fact 136 rfl)) (He.meth_ok (B.c.fact 138 rfl)) (r103 B) (hr.mono (by decide)) (se_var 0) (sa_cons (se_var 3) (sa_cons (se_ix2 (o_ix G (hu1 hr)) (se_var 4) (se_var 5)) sa_nil)))) (sss_one (ss_if (SW.st (sw_and (st_val (se_meth (c := 11) (He.cls_ok (B.c.fact 104 rfl)) (He.meth_ok (B.c.fact 105 rfl)) (r82 B) (hr.mono (by decide)) (se_fld G (se_var 0)) (sa_cons (se_var 6) sa_nil))) (sw_and1 (st_cmp2 (o_nin2 G (hu66 hr)) (se_var 6) (se_fld G (se_var 0)))))) (sss_one (ss_expr (se_bm PySem.F.slot_list_append PySem.F.type_list_append mt2_append (se_var 2) (sa_cons (se_tup (sa_cons (se_var 6) (sa_cons (se_meth (c := 13) (He.cls_ok (B.c.fact 136 rfl)) (He.meth_ok (B.c.fact 137 rfl)) (r102 B) (hr.mono (by decide)) (se_var 0) (sa_cons (se_var 6) sa_nil)) (sa_cons se_int sa_nil)))) sa_nil)))) sss_nil)))) sss_nil))))))
theorem kp101 (B : Bd K hh mg) : PySem.W.keepIn K (.ref (He.fAd K ("Tracer", some "run"))) = true := by obtain ⟨fd, F⟩ := B.c.def_ 101 (d := d101) rfl; exact F.kp
def f101 : MF := mDef 2 5 m101
theorem o101 (B : Bd K hh mg) : ∃ fd, FnOk P w K mg base CX0 13 (He.fAd K ("Tracer", some "run")) fd ["self", "value"] (SpM (gm K) 2 f101) ∧ FunD K d101.name d101.qual d101.params d101.body d101.scope (d101.dvs K) (d101.kws K) (He.fAd K ("Tracer", some "run")) fd := by
  obtain ⟨fd, F⟩ := B.c.def_ 101 (d := d101) rfl
  exact ⟨fd, fn_okM (ps := ["self", "value"]) F sc101 rfl rfl (fun cdv A outer s H hr => b101 B cdv A outer s H hr), F⟩
theorem r101 (B : Bd K hh mg) : FnR P w K mg base CX0 13 (He.fAd K ("Tracer", some "run")) (SpM (gm K) 2 f101) := by
  obtain ⟨fd, F, D⟩ := o101 (P := P) (w := w) (base := base) B
  exact fnM_all F (FunD.bindsN (ps := ["self", "value"]) D fun _ _ _ _ _ _ us hl => match us, hl with | [_, _], _ => rfl)
/-! ### counts -/
theorem sc99 : FnScope ["heap", "value", "memo", "view", "tracer", "cell"] ["heap", "value", "memo"] (defScope (top 70)) := ⟨rfl, rfl, rfl, by decide +kernel, rfl, by decide +kernel, by decide +kernel⟩
def m99 : MS := (mSeqT (mAsg (mCall f69 3 (mCons (mVar 0) (mCons (mVar 1) (mCons (mCall f85 1 (mCons (mVar 2) mNil)) mNil)))) (mgName 3)) (mSeqT (mAsg (mMake 13 f100 2 (mCons (mVar 3) mNil)) (mgName 4)) (mSeqT (mDrop (mMeth 13 "run" f101 2 (mVar 4) (mCons (mVar 1) mNil))) (mRet (mDc g0 300 [5] (miSeq g0 (mCall f83 2 (mCons (mVar 3) (mCons (mVar 1) mNil)))) (mgName 5) mYes (mVar 5) (mTup (mCons (mGet2 (mFld g0 "calls" (mVar 4)) (mVar 5) (mC (.int 0))) (mCons (mGet2 (mFld g0 "copies" (mVar 4)) (mVar 5) (mC (.int 0))) mNil))))))))
theorem b99 (B : Bd K hh mg) (cdv : Value) (A : Around) (outer : List Env) (s : Shared) (H : Hp) (hr : Room 13 (A.deeper (envOfC "counts" (defScope (top 70)) s.heap.objs.size (He.fAd K ("counts", none)) cdv))) : SSs (gm K) W0 (cxOf CX0 P w K mg base ["heap", "value", "memo", "view", "tracer", "cell"] "counts" (defScope (top 70)) (He.fAd K ("counts", none)) cdv A outer s H E0).nox (defBody (top 70)) m99 := by
  have G : GOk K (gm K) g0 := gok B
  exact (sss_consT (ss_set sc99.nd (se_call (r69 B) (hr.mono (by decide)) (He.glo_ok B.X B.G (B.c.fact 114 rfl)) (kp69 B) (sa_cons (se_var 0) (sa_cons (se_var 1) (sa_cons (se_call (r85 B) (hr.mono (by decide)) (He.glo_ok B.X B.G (B.c.fact 113 rfl)) (kp85 B) (sa_cons (se_var 2) sa_nil)) sa_nil))))) (sss_consT (ss_set sc99.nd (se_make (c := 13) (He.mkr_ok (B.c.fact 131 rfl)) (r100 B) (hr.mono (by decide)) (He.glo_ok B.X B.G (B.c.fact 132 rfl)) (sa_cons (se_var 3) sa_nil))) (sss_consT (ss_expr (se_meth (c := 13) (He.cls_ok (B.c.fact 136 rfl)) (He.meth_ok (B.c.fact 139 rfl)) (r101 B) (hr.mono (by decide)) (se_var 4) (sa_cons (se_var 1) sa_nil))) (sss_one (ss_ret (se_dc (own := [("cell", 5)]) 300 rfl sc99.nd (si_seq G (se_call (r83 B) (hr.mono (by decide)) (He.glo_ok B.X B.G (B.c.fact 107 rfl)) (kp83 B) (sa_cons (se_var 3) (sa_cons (se_var 1) sa_nil)))) (show BlkOk ["heap", "value", "memo", "view", "tracer", "cell"] (defScope (top 70)) _ [("cell", 5)] from ⟨rfl, by decide +kernel, by decide +kernel, by decide +kernel, by decide +kernel⟩) (fun _ _ _ _ _ => (sg_name sc99.nd)) (fun _ _ _ _ _ => pts_nilM) (fun _ _ _ _ _ => (se_var 5)) (fun _ _ _ _ _ => (se_tup (sa_cons (se_get2 (hu1 hr) (se_fld G (se_var 4)) (se_var 5) se_int) (sa_cons (se_get2 (hu1 hr) (se_fld G (se_var 4)) (se_var 5) se_int) sa_nil))))))))))
theorem kp99 (B : Bd K hh mg) : PySem.W.keepIn K (.ref (He.fAd K ("counts", none))) = true := by obtain ⟨fd, F⟩ := B.c.def_ 99 (d := d99) rfl; exact F.kp
def f99 : MF := mDef 3 3 m99
theorem o99 (B : Bd K hh mg) : ∃ fd, FnOk P w K mg base CX0 14 (He.fAd K ("counts", none)) fd ["heap", "value", "memo"] (SpM (gm K) 3 f99) ∧ FunD K d99.name d99.qual d99.params d99.body d99.scope (d99.dvs K) (d99.kws K) (He.fAd K ("counts", none)) fd := by
  obtain ⟨fd, F⟩ := B.c.def_ 99 (d := d99) rfl
  exact ⟨fd, fn_okM (ps := ["heap", "value", "memo"]) F sc99 rfl rfl (fun cdv A outer s H hr => b99 B cdv A outer s H hr), F⟩
def fd99_2 : MF := mfD f99 [.non]
theorem rd99_2 (B : Bd K hh mg) : FnR P w K mg base CX0 14 (He.fAd K ("counts", none)) (SpM (gm K) 2 fd99_2) := by
  obtain ⟨fd, F, D⟩ := o99 (P := P) (w := w) (base := base) B
  obtain ⟨ds, hd, hb⟩ := FunD.binds0 (ps := ["heap", "value", "memo"]) D 2 (by exact List.cons_ne_nil _ _) rfl fun _ _ _ _ _ _ us ks hl hi => match us, ks, hl, hi with | [_, _], [_], _, _ => ⟨_, _, _, _, _, _, rfl, rfl, rfl⟩
  exact fnM_of F hb hd (.cons rfl .nil) rfl
def fk26_3_memo : MFK := fun us ws st => f26 ((fun (us mv ws : List U) => us ++ nth1 0 ws) us [] ws) st
theorem rk26_3_memo (B : Bd K hh mg) : FnMK P w K mg base (gm K) 6 (He.fAd K ("Copying", some "__init__")) 3 ["memo"] fk26_3_memo := by
  obtain ⟨fd, F, D⟩ := o26 (P := P) (w := w) (base := base) B
  obtain ⟨mv, hb⟩ := FunD.kbinds0 (ps := ["self", "heap", "value", "memo"]) D 3 ["memo"] [] (fun us mv ws => us ++ nth1 0 ws) (by exact List.cons_ne_nil _ _) (fun _ h => nomatch h) (fun a b c => papp a (nth1_rel 0 c)) fun _ _ _ _ _ _ us mv ws hl hm hw => match us, mv, ws, hl, hm, hw with | [_, _, _], [], [_], _, _, _ => rfl
  exact fnMK_of (gU := fun us ws => (fun (us mv ws : List U) => us ++ nth1 0 ws) us [] ws) F hb (fun a c => papp a (nth1_rel 0 c)) (fun vs zs hl hz => match vs, zs, hl, hz with | [_, _, _], [_], _, _ => rfl)
/-! ### deep -/
theorem sc104 : FnScope ["heap", "value", "memo"] ["heap", "value", "memo"] (defScope (top 46)) := ⟨rfl, rfl, rfl, by decide +kernel, rfl, by decide +kernel, by decide +kernel⟩
def m104 : MS := (mRet (mMeth 8 "finish" f33 1 (mMakeMK 8 fk26_3_memo 2 1 (mCons (mVar 0) (mCons (mVar 1) mNil)) (mCons (mVar 2) mNil)) mNil))
theorem b104 (B : Bd K hh mg) (cdv : Value) (A : Around) (outer : List Env) (s : Shared) (H : Hp) (hr : Room 13 (A.deeper (envOfC "deep" (defScope (top 46)) s.heap.objs.size (He.fAd K ("deep", none)) cdv))) : SSs (gm K) W0 (cxOf CX0 P w K mg base ["heap", "value", "memo"] "deep" (defScope (top 46)) (He.fAd K ("deep", none)) cdv A outer s H E0).nox (defBody (top 46)) m104 := by
  have G : GOk K (gm K) g0 := gok B
  exact (sss_one (ss_ret (se_meth0 (c := 8) (He.cls_ok (B.c.fact 57 rfl)) (He.meth_ok (B.c.fact 92 rfl)) (r33 B) (hr.mono (by decide)) (se_makeMK (c := 8) (n := 2) (ks := ["memo"]) (He.mkr_ok (B.c.fact 53 rfl)) (rk26_3_memo B) (hr.mono (by decide)) (He.glo_ok B.X B.G (B.c.fact 54 rfl)) (sa_cons (se_var 0) (sa_cons (se_var 1) sa_nil)) (sk_cons (se_var 2) sk_nil)))))
theorem kp104 (B : Bd K hh mg) : PySem.W.keepIn K (.ref (He.fAd K ("deep", none))) = true := by obtain ⟨fd, F⟩ := B.c.def_ 104 (d := d104) rfl; exact F.kp
def f104 : MF := mDef 3 0 m104
theorem o104 (B : Bd K hh mg) : ∃ fd, FnOk P w K mg base CX0 14 (He.fAd K ("deep", none)) fd ["heap", "value", "memo"] (SpM (gm K) 3 f104) ∧ FunD K d104.name d104.qual d104.params d104.body d104.scope (d104.dvs K) (d104.kws K) (He.fAd K ("deep", none)) fd := by
  obtain ⟨fd, F⟩ := B.c.def_ 104 (d := d104) rfl
  exact ⟨fd, fn_okM (ps := ["heap", "value", "memo"]) F sc104 rfl rfl (fun cdv A outer s H hr => b104 B cdv A outer s H hr), F⟩
def fd104_2 : MF := mfD f104 [.non]
theorem rd104_2 (B : Bd K hh mg) : FnR P w K mg base CX0 14 (He.fAd K ("deep", none)) (SpM (gm K) 2 fd104_2) := by
  obtain ⟨fd, F, D⟩ := o104 (P := P) (w := w) (base := base) B
  obtain ⟨ds, hd, hb⟩ := FunD.binds0 (ps := ["heap", "value", "memo"]) D 2 (by exact List.cons_ne_nil _ _) rfl fun _ _ _ _ _ _ us ks hl hi => match us, ks, hl, hi with | [_, _], [_], _, _ => ⟨_, _, _, _, _, _, rfl, rfl, rfl⟩
  exact fnM_of F hb hd (.cons rfl .nil) rfl
/-! ### _law_givers_right -/
theorem sc95 : FnScope ["_law_heap", "_law_one", "_law_two", "_law_bare", "_law_pair", "_law_copying", "_law_ring", "_law_result"] [] (defScope (top 89)) := ⟨rfl, rfl, rfl, by decide +kernel, rfl, by decide +kernel, by decide +kernel⟩
def m95 : MS := (mSeqT (mAsg (mMake 1 fs2_2 2 (mCons (mMakeMK 0 fk4_3_deep 2 1 (mCons (mC (.str "x")) (mCons (mTup (mCons (mC (.str "f")) mNil)) mNil)) (mCons (mTup (mCons (mTup (mCons (mC (.str "note")) (mCons (mC (.str "n")) mNil))) (mCons (mTup (mCons (mC (.str "give")) (mCons (mC (.str "f")) mNil))) mNil))) mNil)) mNil)) (mgName 0)) (mSeqT (mAsg (mMethK 1 "make_object" fk15_2_f 2 1 (mVar 0) (mCons (mC (.str "x")) mNil) (mCons (mC (.str "w")) mNil)) (mgName 1)) (mSeqT (mPar [2, 3] (mCons (mMethK 1 "make_object" fk15_2_f 2 1 (mVar 0) (mCons (mC (.str "x")) mNil) (mCons (mVar 1) mNil)) (mCons (mMeth 1 "make_object" fk15_2n 2 (mVar 0) (mCons (mC (.str "x")) mNil)) mNil))) (mSeqT (mAsg (mMeth 1 "make" f25 3 (mVar 0) (mCons (mC (.str "tuple")) (mCons (mLst (mCons (mVar 2) (mCons (mVar 3) (mCons (mVar 1) mNil)))) mNil))) (mgName 4)) (mSeqT (mAsg (mMake 8 fd26_3 3 (mCons (mVar 0) (mCons (mVar 4) mNil))) (mgName 5)) (mSeqT (mIfS (mOrT (mTest (mBin (fEq3 g0 true) (mMeth 1 "parts" f54 2 (mVar 0) (mCons (mMeth 8 "finish" f33 1 (mVar 5) mNil) mNil)) (mLst (mCons (mTup (mCons (mC (.int 0)) (mCons (mC (.str "w")) mNil))) (mCons (mTup (mCons (mC (.int 1)) (mCons (mC .non) mNil))) (mCons (mTup (mCons (mC (.int 2)) (mCons (mC (.str "w")) mNil))) mNil)))))) (mTest (mBin (fEq3 g0 true) (mCall f66 1 (mCons (mVar 5) mNil)) (mLst (mCons (mC (.int 1)) (mCons (mC (.int 0)) (mCons (mC (.int 2)) mNil))))))) (mRet (mC (.bl false))) mNext) (mSeqT (mAsg (mMeth 1 "make_object" fk15_2n 2 (mVar 0) (mCons (mC (.str "x")) mNil)) (mgName 6)) (mSeqT (mDrop (mMeth 1 "put" f96 4 (mVar 0) (mCons (mVar 6) (mCons (mC (.str "f")) (mCons (mMeth 1 "make" f25 3 (mVar 0) (mCons (mC (.str "list")) (mCons (mLst (mCons (mVar 6) mNil)) mNil))) mNil))))) (mSeqT (mIfS (mOrT (mTest (mBin (fEq3 g0 true) (mCall fd99_2 2 (mCons (mVar 0) (mCons (mVar 6) mNil))) (mDisp (mpCons (mC (.int 5)) (mTup (mCons (mC (.int 2)) (mCons (mC (.int 0)) mNil))) (mpCons (mC (.int 6)) (mTup (mCons (mC (.int 0)) (mCons (mC (.int 1)) mNil))) mpNil))))) (mTest (mBin (fEq3 g0 true) (mCall fd68_2 2 (mCons (mVar 0) (mCons (mVar 6) mNil))) (mDisp (mpCons (mC (.int 5)) (mTup (mCons (mC (.str "as")) (mCons (mC (.int 6)) mNil))) (mpCons (mC (.int 6)) (mTup (mCons (mC (.str "new")) mNil)) mpNil)))))) (mRet (mC (.bl false))) mNext) (mSeqT (mAsg (mCall fd104_2 2 (mCons (mVar 0) (mCons (mVar 6) mNil))) (mgName 7)) (mRet (mAndV (mBin (fEq3 g0 false) (mMeth 1 "kind" f41 2 (mVar 0) (mCons (mVar 7) mNil)) (mC (.str "list"))) (mBin (fEq3 g0 false) (mMeth 1 "parts" f54 2 (mVar 0) (mCons (mVar 7) mNil)) (mLst (mCons (mTup (mCons (mC (.int 0)) (mCons (mVar 7) mNil))) mNil)))))))))))))))
theorem b95 (B : Bd K hh mg) (cdv : Value) (A : Around) (outer : List Env) (s : Shared) (H : Hp) (hr : Room 14 (A.deeper (envOfC "_law_givers_right" (defScope (top 89)) s.heap.objs.size (He.fAd K ("_law_givers_right", none)) cdv))) : SSs (gm K) W0 (cxOf CX0 P w K mg base ["_law_heap", "_law_one", "_law_two", "_law_bare", "_law_pair", "_law_copying", "_law_ring", "_law_result"] "_law_givers_right" (defScope (top 89)) (He.fAd K ("_law_givers_right", none)) cdv A outer s H E0).nox (defBody (top 89)) m95 := by
  have G : GOk K (gm K) g0 := gok B
  exact (sss_consT (ss_set sc95.nd (se_make (c := 1) (He.mkr_ok (B.c.fact 1 rfl)) (rs2_2 B) (hr.mono (by decide)) (He.glo_ok B.X B.G (B.c.fact 26 rfl)) (sa_cons (se_makeMK (c := 0) (n := 2) (ks := ["deep"]) (He.mkr_ok (B.c.fact 24 rfl)) (rk4_3_deep B) (hr.mono (by decide)) (He.glo_ok B.X B.G (B.c.fact 25 rfl)) (sa_cons se_str (sa_cons (se_tup (sa_cons se_str sa_nil)) sa_nil)) (sk_cons (se_tup (sa_cons (se_tup (sa_cons se_str (sa_cons se_str sa_nil))) (sa_cons (se_tup (sa_cons se_str (sa_cons se_str sa_nil))) sa_nil))) sk_nil)) sa_nil))) (sss_consT (ss_set sc95.nd (se_methK (c := 1) (n := 2) (ks := ["f"]) (He.cls_ok (B.c.fact 30 rfl)) (He.meth_ok (B.c.fact 42 rfl)) (rk15_2_f B) (hr.mono (by decide)) (se_var 0) (sa_cons se_str sa_nil) (sk_cons se_str sk_nil))) (sss_consT (ss_par rfl sc95.nd (sa_cons (se_methK (c := 1) (n := 2) (ks := ["f"]) (He.cls_ok (B.c.fact 30 rfl)) (He.meth_ok (B.c.fact 42 rfl)) (rk15_2_f B) (hr.mono (by decide)) (se_var 0) (sa_cons se_str sa_nil) (sk_cons (se_var 1) sk_nil)) (sa_cons (se_meth (c := 1) (He.cls_ok (B.c.fact 30 rfl)) (He.meth_ok (B.c.fact 42 rfl)) (rk15_2n B) (hr.mono (by decide)) (se_var 0) (sa_cons se_str sa_nil)) sa_nil))) (sss_consT (ss_set sc95.nd (se_meth (c := 1) (He.cls_ok (B.c.fact 30 rfl)) (He.meth_ok (B.c.fact 43 rfl)) (r25 B) (hr.mono (by decide)) (se_var 0) (sa_cons se_str (sa_cons (se_lst (sa_cons (se_var 2) (sa_cons (se_var 3) (sa_cons (se_var 1) sa_nil)))) sa_nil)))) (sss_consT (ss_set sc95.nd (se_make (c := 8) (He.mkr_ok (B.c.fact 53 rfl)) (rd26_3 B) (hr.mono (by decide)) (He.glo_ok B.X B.G (B.c.fact 54 rfl)) (sa_cons (se_var 0) (sa_cons (se_var 4) sa_nil)))) (sss_consT (ss_if (SW.st (sw_or (st_cmp2 (o_ne3 G (hu66 hr)) (se_meth (c := 1) (He.cls_ok (B.c.fact 30 rfl)) (He.meth_ok (B.c.fact 74 rfl)) (r54 B) (hr.mono (by decide)) (se_var 0) (sa_cons (se_meth0 (c := 8) (He.cls_ok (B.c.fact 57 rfl)) (He.meth_ok (B.c.fact 92 rfl)) (r33 B) (hr.mono (by decide)) (se_var 5)) sa_nil)) (se_lst (sa_cons (se_tup (sa_cons se_int (sa_cons se_str sa_nil))) (sa_cons (se_tup (sa_cons se_int (sa_cons se_non sa_nil))) (sa_cons (se_tup (sa_cons se_int (sa_cons se_str sa_nil))) sa_nil))))) (sw_or1 (st_cmp2 (o_ne3 G (hu66 hr)) (se_call (r66 B) (hr.mono (by decide)) (He.glo_ok B.X B.G (B.c.fact 94 rfl)) (kp66 B) (sa_cons (se_var 5) sa_nil)) (se_lst (sa_cons se_int (sa_cons se_int (sa_cons se_int sa_nil)))))))) (sss_one (ss_ret se_bl)) sss_nil) (sss_consT (ss_set sc95.nd (se_meth (c := 1) (He.cls_ok (B.c.fact 30 rfl)) (He.meth_ok (B.c.fact 42 rfl)) (rk15_2n B) (hr.mono (by decide)) (se_var 0) (sa_cons se_str sa_nil))) (sss_consT (ss_expr (se_meth (c := 1) (He.cls_ok (B.c.fact 30 rfl)) (He.meth_ok (B.c.fact 130 rfl)) (r96 B) (hr.mono (by decide)) (se_var 0) (sa_cons (se_var 6) (sa_cons se_str (sa_cons (se_meth (c := 1) (He.cls_ok (B.c.fact 30 rfl)) (He.meth_ok (B.c.fact 43 rfl)) (r25 B) (hr.mono (by decide)) (se_var 0) (sa_cons se_str (sa_cons (se_lst (sa_cons (se_var 6) sa_nil)) sa_nil))) sa_nil))))) (sss_consT (ss_if (SW.st (sw_or (st_cmp2 (o_ne3 G (hu66 hr)) (se_call (rd99_2 B) (hr.mono (by decide)) (He.glo_ok B.X B.G (B.c.fact 140 rfl)) (kp99 B) (sa_cons (se_var 0) (sa_cons (se_var 6) sa_nil))) (se_disp (sp_cons se_int (se_tup (sa_cons se_int (sa_cons se_int sa_nil))) (sp_cons se_int (se_tup (sa_cons se_int (sa_cons se_int sa_nil))) sp_nil)))) (sw_or1 (st_cmp2 (o_ne3 G (hu66 hr)) (se_call (rd68_2 B) (hr.mono (by decide)) (He.glo_ok B.X B.G (B.c.fact 123 rfl)) (kp68 B) (sa_cons (se_var 0) (sa_cons (se_var 6) sa_nil))) (se_disp (sp_cons se_int (se_tup (sa_cons se_str (sa_cons se_int sa_nil))) (sp_cons se_int (se_tup (sa_cons se_str sa_nil)) sp_nil))))))) (sss_one (ss_ret se_bl)) sss_nil) (sss_consT (ss_set sc95.nd (se_call (rd104_2 B) (hr.mono (by decide)) (He.glo_ok B.X B.G (B.c.fact 141 rfl)) (kp104 B) (sa_cons (se_var 0) (sa_cons (se_var 6) sa_nil)))) (sss_one (ss_ret (se_and (se_cmp2 (o_eq3 G (hu66 hr)) (se_meth (c := 1) (He.cls_ok (B.c.fact 30 rfl)) (He.meth_ok (B.c.fact 60 rfl)) (r41 B) (hr.mono (by decide)) (se_var 0) (sa_cons (se_var 7) sa_nil)) se_str) (se_one (se_cmp2 (o_eq3 G (hu66 hr)) (se_meth (c := 1) (He.cls_ok (B.c.fact 30 rfl)) (He.meth_ok (B.c.fact 74 rfl)) (r54 B) (hr.mono (by decide)) (se_var 0) (sa_cons (se_var 7) sa_nil)) (se_lst (sa_cons (se_tup (sa_cons se_int (sa_cons (se_var 7) sa_nil))) sa_nil)))))))))))))))))
theorem kp95 (B : Bd K hh mg) : PySem.W.keepIn K (.ref (He.fAd K ("_law_givers_right", none))) = true := by obtain ⟨fd, F⟩ := B.c.def_ 95 (d := d95) rfl; exact F.kp
def f95 : MF := mDef 0 8 m95
theorem o95 (B : Bd K hh mg) : ∃ fd, FnOk P w K mg base CX0 15 (He.fAd K ("_law_givers_right", none)) fd [] (SpM (gm K) 0 f95) ∧ FunD K d95.name d95.qual d95.params d95.body d95.scope (d95.dvs K) (d95.kws K) (He.fAd K ("_law_givers_right", none)) fd := by
  obtain ⟨fd, F⟩ := B.c.def_ 95 (d := d95) rfl
  exact ⟨fd, fn_okM (ps := []) F sc95 rfl rfl (fun cdv A outer s H hr => b95 B cdv A outer s H hr), F⟩
theorem r95 (B : Bd K hh mg) : FnR P w K mg base CX0 15 (He.fAd K ("_law_givers_right", none)) (SpM (gm K) 0 f95) := by
  obtain ⟨fd, F, D⟩ := o95 (P := P) (w := w) (base := base) B
  exact fnM_all F (FunD.bindsN (ps := []) D fun _ _ _ _ _ _ us hl => match us, hl with | [], _ => rfl)
theorem t95 : f95 [] vs0 (noX kT) = true := by decide +kernel
/-! ### Heap.__len__ -/
theorem sc107 : FnScope ["self"] ["self"] (defScope (inClass (top 80) 1)) := ⟨rfl, rfl, rfl, by decide +kernel, rfl, by decide +kernel, by decide +kernel⟩
def m107 : MS := (mRet (mCb (fLen g0) (mCons (mFld g0 "cells" (mVar 0)) mNil)))
theorem b107 (B : Bd K hh mg) (cdv : Value) (A : Around) (outer : List Env) (s : Shared) (H : Hp) (hr : Room 0 (A.deeper (envOfC "Heap.__len__" (defScope (inClass (top 80) 1)) s.heap.objs.size (He.fAd K ("Heap", some "__len__")) cdv))) : SSs (gm K) W0 (cxOf CX0 P w K mg base ["self"] "Heap.__len__" (defScope (inClass (top 80) 1)) (He.fAd K ("Heap", some "__len__")) cdv A outer s H E0).nox (defBody (inClass (top 80) 1)) m107 := by
  have G : GOk K (gm K) g0 := gok B
  exact (sss_one (ss_ret (se_callB (id := "len") (cb_len G) (He.free_ok B.X B.G (B.c.fact 4 rfl)) rfl (sa_cons (se_fld G (se_var 0)) sa_nil))))
theorem kp107 (B : Bd K hh mg) : PySem.W.keepIn K (.ref (He.fAd K ("Heap", some "__len__"))) = true := by obtain ⟨fd, F⟩ := B.c.def_ 107 (d := d107) rfl; exact F.kp
def f107 : MF := mDef 1 0 m107
theorem o107 (B : Bd K hh mg) : ∃ fd, FnOk P w K mg base CX0 1 (He.fAd K ("Heap", some "__len__")) fd ["self"] (SpM (gm K) 1 f107) ∧ FunD K d107.name d107.qual d107.params d107.body d107.scope (d107.dvs K) (d107.kws K) (He.fAd K ("Heap", some "__len__")) fd := by
  obtain ⟨fd, F⟩ := B.c.def_ 107 (d := d107) rfl
  exact ⟨fd, fn_okM (ps := ["self"]) F sc107 rfl rfl (fun cdv A outer s H hr => b107 B cdv A outer s H hr), F⟩
theorem r107 (B : Bd K hh mg) : FnR P w K mg base CX0 1 (He.fAd K ("Heap", some "__len__")) (SpM (gm K) 1 f107) := by
  obtain ⟨fd, F, D⟩ := o107 (P := P) (w := w) (base := base) B
  exact fnM_all F (FunD.bindsN (ps := ["self"]) D fun _ _ _ _ _ _ us hl => match us, hl with | [_], _ => rfl)
/-! ### is_safe -/
theorem sc108 : FnScope ["heap", "cell", "calls", "copies"] ["heap", "cell"] (defScope (top 71)) := ⟨rfl, rfl, rfl, by decide +kernel, rfl, by decide +kernel, by decide +kernel⟩
def m108 : MS := (mSeqT (mIfS (mTest (mBin (fEq3 g0 true) (mCall f72 2 (mCons (mMake 11 f71 3 (mCons (mVar 0) (mCons mDict0 mNil))) (mCons (mVar 1) mNil))) (mLst mNil))) (mRet (mC (.bl false))) mNext) (mRet (mCb (MV.f1 (fBls g0 allT)) (mCons (mLc g0 300 [2, 3] (miDict .vals (mCall fd99_2 2 (mCons (mVar 0) (mCons (mVar 1) mNil)))) (mgTup g0 2 (mgCons (mgName 2) (mgCons (mgName 3) mgNil))) mYes (mBin fLt (mVar 3) (mC (.int 2)))) mNil))))
theorem b108 (B : Bd K hh mg) (cdv : Value) (A : Around) (outer : List Env) (s : Shared) (H : Hp) (hr : Room 14 (A.deeper (envOfC "is_safe" (defScope (top 71)) s.heap.objs.size (He.fAd K ("is_safe", none)) cdv))) : SSs (gm K) W0 (cxOf CX0 P w K mg base ["heap", "cell", "calls", "copies"] "is_safe" (defScope (top 71)) (He.fAd K ("is_safe", none)) cdv A outer s H E0).nox (defBody (top 71)) m108 := by
  have G : GOk K (gm K) g0 := gok B
  exact (sss_consT (ss_if (st_cmp2 (o_ne3 G (hu66 hr)) (se_call (r72 B) (hr.mono (by decide)) (He.glo_ok B.X B.G (B.c.fact 111 rfl)) (kp72 B) (sa_cons (se_make (c := 11) (He.mkr_ok (B.c.fact 96 rfl)) (r71 B) (hr.mono (by decide)) (He.glo_ok B.X B.G (B.c.fact 97 rfl)) (sa_cons (se_var 0) (sa_cons se_dict0 sa_nil))) (sa_cons (se_var 1) sa_nil))) (se_lst sa_nil)) (sss_one (ss_ret se_bl)) sss_nil) (sss_one (ss_ret (se_callB (id := "all") (cb_all G rfl) (He.free_ok B.X B.G (B.c.fact 3 rfl)) rfl (sa_cons (se_lc (own := [("calls", 2), ("copies", 3)]) 300 rfl sc108.nd (si_vals (se_call (rd99_2 B) (hr.mono (by decide)) (He.glo_ok B.X B.G (B.c.fact 140 rfl)) (kp99 B) (sa_cons (se_var 0) (sa_cons (se_var 1) sa_nil)))) (show BlkOk ["heap", "cell", "calls", "copies"] (defScope (top 71)) _ [("calls", 2), ("copies", 3)] from ⟨rfl, by decide +kernel, by decide +kernel, by decide +kernel, by decide +kernel⟩) (fun _ _ _ _ _ => (sg_tup G rfl (sgs_cons (sg_name sc108.nd) (sgs_cons (sg_name sc108.nd) sgs_nil)))) (fun _ _ _ _ _ => pts_nilM) (fun _ _ _ _ _ => (se_cmp2 o_lt (se_var 3) se_int))) sa_nil)))))
theorem kp108 (B : Bd K hh mg) : PySem.W.keepIn K (.ref (He.fAd K ("is_safe", none))) = true := by obtain ⟨fd, F⟩ := B.c.def_ 108 (d := d108) rfl; exact F.kp
def f108 : MF := mDef 2 2 m108
theorem o108 (B : Bd K hh mg) : ∃ fd, FnOk P w K mg base CX0 15 (He.fAd K ("is_safe", none)) fd ["heap", "cell"] (SpM (gm K) 2 f108) ∧ FunD K d108.name d108.qual d108.params d108.body d108.scope (d108.dvs K) (d108.kws K) (He.fAd K ("is_safe", none)) fd := by
  obtain ⟨fd, F⟩ := B.c.def_ 108 (d := d108) rfl
  exact ⟨fd, fn_okM (ps := ["heap", "cell"]) F sc108 rfl rfl (fun cdv A outer s H hr => b108 B cdv A outer s H hr), F⟩
theorem r108 (B : Bd K hh mg) : FnR P w K mg base CX0 15 (He.fAd K ("is_safe", none)) (SpM (gm K) 2 f108) := by
  obtain ⟨fd, F, D⟩ := o108 (P := P) (w := w) (base := base) B
  exact fnM_all F (FunD.bindsN (ps := ["heap", "cell"]) D fun _ _ _ _ _ _ us hl => match us, hl with | [_, _], _ => rfl)
/-! ### unsafe -/
theorem sc106 : FnScope ["heap", "cell"] ["heap"] (defScope (top 72)) := ⟨rfl, rfl, rfl, by decide +kernel, rfl, by decide +kernel, by decide +kernel⟩
def m106 : MS := (mRet (mLc g0 300 [1] (miRng1 (mCb (MV.f1 (fLenOwn 1 f107)) (mCons (mVar 0) mNil))) (mgName 1) (mNot (mTest (mCall f108 2 (mCons (mVar 0) (mCons (mVar 1) mNil))))) (mVar 1)))
theorem b106 (B : Bd K hh mg) (cdv : Value) (A : Around) (outer : List Env) (s : Shared) (H : Hp) (hr : Room 15 (A.deeper (envOfC "unsafe" (defScope (top 72)) s.heap.objs.size (He.fAd K ("unsafe", none)) cdv))) : SSs (gm K) W0 (cxOf CX0 P w K mg base ["heap", "cell"] "unsafe" (defScope (top 72)) (He.fAd K ("unsafe", none)) cdv A outer s H E0).nox (defBody (top 72)) m106 := by
  have G : GOk K (gm K) g0 := gok B
  exact (sss_one (ss_ret (se_lc (own := [("cell", 1)]) 300 rfl sc106.nd (si_rng1 (He.free_ok B.X B.G (B.c.fact 144 rfl)) (se_callB (id := "len") (cb_lenOwn (c := 1) (He.meth_ok (B.c.fact 143 rfl)).at_ (He.meth_ok (B.c.fact 143 rfl)).fn (r107 B) (hr.mono (by decide))) (He.free_ok B.X B.G (B.c.fact 4 rfl)) rfl (sa_cons (se_var 0) sa_nil))) (show BlkOk ["heap", "cell"] (defScope (top 72)) _ [("cell", 1)] from ⟨rfl, by decide +kernel, by decide +kernel, by decide +kernel, by decide +kernel⟩) (fun _ _ _ _ _ => (sg_name sc106.nd)) (fun _ _ _ _ _ => ST.pts1 (st_not (st_val (se_call (r108 B) (hr.mono (by decide)) (He.glo_ok B.X B.G (B.c.fact 145 rfl)) (kp108 B) (sa_cons (se_var 0) (sa_cons (se_var 1) sa_nil)))))) (fun _ _ _ _ _ => (se_var 1)))))
theorem kp106 (B : Bd K hh mg) : PySem.W.keepIn K (.ref (He.fAd K ("unsafe", none))) = true := by obtain ⟨fd, F⟩ := B.c.def_ 106 (d := d106) rfl; exact F.kp
def f106 : MF := mDef 1 1 m106
theorem o106 (B : Bd K hh mg) : ∃ fd, FnOk P w K mg base CX0 16 (He.fAd K ("unsafe", none)) fd ["heap"] (SpM (gm K) 1 f106) ∧ FunD K d106.name d106.qual d106.params d106.body d106.scope (d106.dvs K) (d106.kws K) (He.fAd K ("unsafe", none)) fd := by
  obtain ⟨fd, F⟩ := B.c.def_ 106 (d := d106) rfl
  exact ⟨fd, fn_okM (ps := ["heap"]) F sc106 rfl rfl (fun cdv A outer s H hr => b106 B cdv A outer s H hr), F⟩
theorem r106 (B : Bd K hh mg) : FnR P w K mg base CX0 16 (He.fAd K ("unsafe", none)) (SpM (gm K) 1 f106) := by
  obtain ⟨fd, F, D⟩ := o106 (P := P) (w := w) (base := base) B
  exact fnM_all F (FunD.bindsN (ps := ["heap"]) D fun _ _ _ _ _ _ us hl => match us, hl with | [_], _ => rfl)
/-! ### _law_between_right -/
theorem sc105 : FnScope ["_law_heap", "_law_thing", "_law_copying", "_law_due"] [] (defScope (top 88)) := ⟨rfl, rfl, rfl, by decide +kernel, rfl, by decide +kernel, by decide +kernel⟩
def m105 : MS := (mSeqT (mAsg (mMake 1 fs2_2 2 (mCons (mMakeMK 0 fk4_3_deep 2 1 (mCons (mC (.str "x")) (mCons (mTup (mCons (mC (.str "f")) (mCons (mC (.str "g")) mNil))) mNil)) (mCons (mTup (mCons (mTup (mCons (mC (.str "note")) (mCons (mC (.str "a")) mNil))) (mCons (mTup (mCons (mC (.str "deep")) (mCons (mC (.str "f")) mNil))) (mCons (mTup (mCons (mC (.str "enter")) mNil)) (mCons (mTup (mCons (mC (.str "deep")) (mCons (mC (.str "g")) mNil))) (mCons (mTup (mCons (mC (.str "note")) (mCons (mC (.str "b")) mNil))) mNil)))))) mNil)) mNil)) (mgName 0)) (mSeqT (mAsg (mMeth 1 "make_object" fk15_2n 2 (mVar 0) (mCons (mC (.str "x")) mNil)) (mgName 1)) (mSeqT (mDrop (mMeth 1 "put" f96 4 (mVar 0) (mCons (mVar 1) (mCons (mC (.str "g")) (mCons (mMeth 1 "make" f25 3 (mVar 0) (mCons (mC (.str "list")) (mCons (mLst (mCons (mVar 1) mNil)) mNil))) mNil))))) (mSeqT (mIfS (mOrT (mTest (mBin (fEq3 g0 true) (mCall f106 1 (mCons (mVar 0) mNil)) (mLst mNil))) (mTest (mBin (fEq3 g0 true) (mProp 0 f80 (mMakeMK 0 fk4_3_deep 2 1 (mCons (mC (.str "x")) (mCons (mTup (mCons (mC (.str "f")) mNil)) mNil)) (mCons (mTup (mCons (mTup (mCons (mC (.str "deep")) (mCons (mC (.str "f")) mNil))) (mCons (mTup (mCons (mC (.str "deep")) (mCons (mC (.str "f")) mNil))) mNil))) mNil))) (mTup (mCons (mC (.str "f")) (mCons (mC (.str "f")) mNil)))))) (mRet (mC (.bl false))) mNext) (mSeqT (mAsg (mMake 8 fd26_3 3 (mCons (mVar 0) (mCons (mVar 1) mNil))) (mgName 2)) (mSeqT (mIfS (mOrT (mTest (mBin (fEq3 g0 true) (mMeth 8 "finish" f33 1 (mVar 2) mNil) (mC (.int 2)))) (mOrT (mTest (mBin (fEq3 g0 true) (mMeth 1 "parts" f54 2 (mVar 0) (mCons (mC (.int 2)) mNil)) (mLst (mCons (mTup (mCons (mC (.str "f")) (mCons (mC .non) mNil))) (mCons (mTup (mCons (mC (.str "g")) (mCons (mC (.int 3)) mNil))) mNil))))) (mTest (mBin (fEq3 g0 true) (mMeth 1 "parts" f54 2 (mVar 0) (mCons (mC (.int 3)) mNil)) (mLst (mCons (mTup (mCons (mC (.int 0)) (mCons (mC (.int 2)) mNil))) mNil)))))) (mRet (mC (.bl false))) mNext) (mSeqT (mAsg (mLst (mCons (mTup (mCons (mC (.str "hook")) (mCons (mC (.int 0)) mNil))) (mCons (mTup (mCons (mC (.str "note")) (mCons (mC (.int 0)) (mCons (mC (.str "a")) mNil)))) (mCons (mTup (mCons (mC (.str "part")) (mCons (mC (.int 0)) (mCons (mC (.str "f")) (mCons (mC .non) mNil))))) (mCons (mTup (mCons (mC (.str "enter")) (mCons (mC (.int 0)) (mCons (mC (.int 2)) mNil)))) (mCons (mTup (mCons (mC (.str "part")) (mCons (mC (.int 0)) (mCons (mC (.str "g")) (mCons (mC (.int 1)) mNil))))) (mCons (mTup (mCons (mC (.str "enter")) (mCons (mC (.int 1)) (mCons (mC (.int 3)) mNil)))) mNil))))))) (mgName 3)) (mRet (mBin (fEq3 g0 false) (mMeth 8 "trace" f67 1 (mVar 2) mNil) (mBin fAdd (mVar 3) (mLst (mCons (mTup (mCons (mC (.str "part")) (mCons (mC (.int 1)) (mCons (mC (.int 0)) (mCons (mC (.int 0)) mNil))))) (mCons (mTup (mCons (mC (.str "known")) (mCons (mC (.int 0)) (mCons (mC (.int 2)) mNil)))) (mCons (mTup (mCons (mC (.str "end")) (mCons (mC (.int 1)) mNil))) (mCons (mTup (mCons (mC (.str "note")) (mCons (mC (.int 0)) (mCons (mC (.str "b")) mNil)))) (mCons (mTup (mCons (mC (.str "end")) (mCons (mC (.int 0)) mNil))) mNil))))))))))))))))
theorem b105 (B : Bd K hh mg) (cdv : Value) (A : Around) (outer : List Env) (s : Shared) (H : Hp) (hr : Room 16 (A.deeper (envOfC "_law_between_right" (defScope (top 88)) s.heap.objs.size (He.fAd K ("_law_between_right", none)) cdv))) : SSs (gm K) W0 (cxOf CX0 P w K mg base ["_law_heap", "_law_thing", "_law_copying", "_law_due"] "_law_between_right" (defScope (top 88)) (He.fAd K ("_law_between_right", none)) cdv A outer s H E0).nox (defBody (top 88)) m105 := by
  have G : GOk K (gm K) g0 := gok B
  exact (sss_consT (ss_set sc105.nd (se_make (c := 1) (He.mkr_ok (B.c.fact 1 rfl)) (rs2_2 B) (hr.mono (by decide)) (He.glo_ok B.X B.G (B.c.fact 26 rfl)) (sa_cons (se_makeMK (c := 0) (n := 2) (ks := ["deep"]) (He.mkr_ok (B.c.fact 24 rfl)) (rk4_3_deep B) (hr.mono (by decide)) (He.glo_ok B.X B.G (B.c.fact 25 rfl)) (sa_cons se_str (sa_cons (se_tup (sa_cons se_str (sa_cons se_str sa_nil))) sa_nil)) (sk_cons (se_tup (sa_cons (se_tup (sa_cons se_str (sa_cons se_str sa_nil))) (sa_cons (se_tup (sa_cons se_str (sa_cons se_str sa_nil))) (sa_cons (se_tup (sa_cons se_str sa_nil)) (sa_cons (se_tup (sa_cons se_str (sa_cons se_str sa_nil))) (sa_cons (se_tup (sa_cons se_str (sa_cons se_str sa_nil))) sa_nil)))))) sk_nil)) sa_nil))) (sss_consT (ss_set sc105.nd (se_meth (c := 1) (He.cls_ok (B.c.fact 30 rfl)) (He.meth_ok (B.c.fact 42 rfl)) (rk15_2n B) (hr.mono (by decide)) (se_var 0) (sa_cons se_str sa_nil))) (sss_consT (ss_expr (se_meth (c := 1) (He.cls_ok (B.c.fact 30 rfl)) (He.meth_ok (B.c.fact 130 rfl)) (r96 B) (hr.mono (by decide)) (se_var 0) (sa_cons (se_var 1) (sa_cons se_str (sa_cons (se_meth (c := 1) (He.cls_ok (B.c.fact 30 rfl)) (He.meth_ok (B.c.fact 43 rfl)) (r25 B) (hr.mono (by decide)) (se_var 0) (sa_cons se_str (sa_cons (se_lst (sa_cons (se_var 1) sa_nil)) sa_nil))) sa_nil))))) (sss_consT (ss_if (SW.st (sw_or (st_cmp2 (o_ne3 G (hu66 hr)) (se_call (r106 B) (hr.mono (by decide)) (He.glo_ok B.X B.G (B.c.fact 146 rfl)) (kp106 B) (sa_cons (se_var 0) sa_nil)) (se_lst sa_nil)) (sw_or1 (st_cmp2 (o_ne3 G (hu66 hr)) (se_prop2 (c := 0) (He.cls_ok (B.c.fact 0 rfl)) (prop_Shape_late_fields B) (p80 B) (hr.mono (by decide)) (se_makeMK (c := 0) (n := 2) (ks := ["deep"]) (He.mkr_ok (B.c.fact 24 rfl)) (rk4_3_deep B) (hr.mono (by decide)) (He.glo_ok B.X B.G (B.c.fact 25 rfl)) (sa_cons se_str (sa_cons (se_tup (sa_cons se_str sa_nil)) sa_nil)) (sk_cons (se_tup (sa_cons (se_tup (sa_cons se_str (sa_cons se_str sa_nil))) (sa_cons (se_tup (sa_cons se_str (sa_cons se_str sa_nil))) sa_nil))) sk_nil))) (se_tup (sa_cons se_str (sa_cons se_str sa_nil))))))) (sss_one (ss_ret se_bl)) sss_nil) (sss_consT (ss_set sc105.nd (se_make (c := 8) (He.mkr_ok (B.c.fact 53 rfl)) (rd26_3 B) (hr.mono (by decide)) (He.glo_ok B.X B.G (B.c.fact 54 rfl)) (sa_cons (se_var 0) (sa_cons (se_var 1) sa_nil)))) (sss_consT (ss_if (SW.st (sw_or (st_cmp2 (o_ne3 G (hu66 hr)) (se_meth0 (c := 8) (He.cls_ok (B.c.fact 57 rfl)) (He.meth_ok (B.c.fact 92 rfl)) (r33 B) (hr.mono (by decide)) (se_var 2)) se_int) (sw_or (st_cmp2 (o_ne3 G (hu66 hr)) (se_meth (c := 1) (He.cls_ok (B.c.fact 30 rfl)) (He.meth_ok (B.c.fact 74 rfl)) (r54 B) (hr.mono (by decide)) (se_var 0) (sa_cons se_int sa_nil)) (se_lst (sa_cons (se_tup (sa_cons se_str (sa_cons se_non sa_nil))) (sa_cons (se_tup (sa_cons se_str (sa_cons se_int sa_nil))) sa_nil)))) (sw_or1 (st_cmp2 (o_ne3 G (hu66 hr)) (se_meth (c := 1) (He.cls_ok (B.c.fact 30 rfl)) (He.meth_ok (B.c.fact 74 rfl)) (r54 B) (hr.mono (by decide)) (se_var 0) (sa_cons se_int sa_nil)) (se_lst (sa_cons (se_tup (sa_cons se_int (sa_cons se_int sa_nil))) sa_nil))))))) (sss_one (ss_ret se_bl)) sss_nil) (sss_consT (ss_set sc105.nd (se_lst (sa_cons (se_tup (sa_cons se_str (sa_cons se_int sa_nil))) (sa_cons (se_tup (sa_cons se_str (sa_cons se_int (sa_cons se_str sa_nil)))) (sa_cons (se_tup (sa_cons se_str (sa_cons se_int (sa_cons se_str (sa_cons se_non sa_nil))))) (sa_cons (se_tup (sa_cons se_str (sa_cons se_int (sa_cons se_int sa_nil)))) (sa_cons (se_tup (sa_cons se_str (sa_cons se_int (sa_cons se_str (sa_cons se_int sa_nil))))) (sa_cons (se_tup (sa_cons se_str (sa_cons se_int (sa_cons se_int sa_nil)))) sa_nil)))))))) (sss_one (ss_ret (se_cmp2 (o_eq3 G (hu66 hr)) (se_meth0 (c := 8) (He.cls_ok (B.c.fact 57 rfl)) (He.meth_ok (B.c.fact 93 rfl)) (r67 B) (hr.mono (by decide)) (se_var 2)) (se_bin2 o_add (se_var 3) (se_lst (sa_cons (se_tup (sa_cons se_str (sa_cons se_int (sa_cons se_int (sa_cons se_int sa_nil))))) (sa_cons (se_tup (sa_cons se_str (sa_cons se_int (sa_cons se_int sa_nil)))) (sa_cons (se_tup (sa_cons se_str (sa_cons se_int sa_nil))) (sa_cons (se_tup (sa_cons se_str (sa_cons se_int (sa_cons se_str sa_nil)))) (sa_cons (se_tup (sa_cons se_str (sa_cons se_int sa_nil))) sa_nil)))))))))))))))))
theorem kp105 (B : Bd K hh mg) : PySem.W.keepIn K (.ref (He.fAd K ("_law_between_right", none))) = true := by obtain ⟨fd, F⟩ := B.c.def_ 105 (d := d105) rfl; exact F.kp
def f105 : MF := mDef 0 4 m105
theorem o105 (B : Bd K hh mg) : ∃ fd, FnOk P w K mg base CX0 17 (He.fAd K ("_law_between_right", none)) fd [] (SpM (gm K) 0 f105) ∧ FunD K d105.name d105.qual d105.params d105.body d105.scope (d105.dvs K) (d105.kws K) (He.fAd K ("_law_between_right", none)) fd := by
  obtain ⟨fd, F⟩ := B.c.def_ 105 (d := d105) rfl
  exact ⟨fd, fn_okM (ps := []) F sc105 rfl rfl (fun cdv A outer s H hr => b105 B cdv A outer s H hr), F⟩
theorem r105 (B : Bd K hh mg) : FnR P w K mg base CX0 17 (He.fAd K ("_law_between_right", none)) (SpM (gm K) 0 f105) := by
  obtain ⟨fd, F, D⟩ := o105 (P := P) (w := w) (base := base) B
  exact fnM_all F (FunD.bindsN (ps := []) D fun _ _ _ _ _ _ us hl => match us, hl with | [], _ => rfl)
theorem t105 : f105 [] vs0 (noX kT) = true := by decide +kernel
/-! ### _law_three_right -/
theorem sc109 : FnScope ["_law_heap", "_law_thing", "_law_one", "_law_two", "_law_copying", "_law_result", "_law_entry", "_law_first", "_law_second", "_law_inner"] [] (defScope (top 87)) := ⟨rfl, rfl, rfl, by decide +kernel, rfl, by decide +kernel, by decide +kernel⟩
def m109 : MS := (mSeqT (mAsg (mMake 1 fs2_2 2 (mCons (mMakeMK 0 fk4_3_deep 2 1 (mCons (mC (.str "x")) (mCons (mTup (mCons (mC (.str "f")) (mCons (mC (.str "g")) mNil))) mNil)) (mCons (mTup (mCons (mTup (mCons (mC (.str "deep")) (mCons (mC (.str "f")) mNil))) (mCons (mTup (mCons (mC (.str "deep")) (mCons (mC (.str "g")) mNil))) mNil))) mNil)) mNil)) (mgName 0)) (mSeqT (mAsg (mMeth 1 "make_object" fk15_2n 2 (mVar 0) (mCons (mC (.str "x")) mNil)) (mgName 1)) (mSeqT (mPar [2, 3] (mCons (mMeth 1 "make" f25 3 (mVar 0) (mCons (mC (.str "list")) (mCons (mLst (mCons (mVar 1) mNil)) mNil))) (mCons (mMeth 1 "make" f25 3 (mVar 0) (mCons (mC (.str "list")) (mCons (mLst (mCons (mVar 1) mNil)) mNil))) mNil))) (mSeqT (mDrop (mMeth 1 "put" f96 4 (mVar 0) (mCons (mVar 1) (mCons (mC (.str "f")) (mCons (mVar 2) mNil))))) (mSeqT (mDrop (mMeth 1 "put" f96 4 (mVar 0) (mCons (mVar 1) (mCons (mC (.str "g")) (mCons (mVar 3) mNil))))) (mSeqT (mIfS (mTest (mBin (fEq3 g0 true) (mCall fd99_2 2 (mCons (mVar 0) (mCons (mVar 1) mNil))) (mDisp (mpCons (mC (.int 0)) (mTup (mCons (mC (.int 3)) (mCons (mC (.int 3)) mNil))) (mpCons (mC (.int 1)) (mTup (mCons (mC (.int 0)) (mCons (mC (.int 1)) mNil))) (mpCons (mC (.int 2)) (mTup (mCons (mC (.int 0)) (mCons (mC (.int 1)) mNil))) mpNil)))))) (mRet (mC (.bl false))) mNext) (mSeqT (mIfS (mTest (mBin (fEq3 g0 true) (mCall fd99_2 2 (mCons (mVar 0) (mCons (mVar 2) mNil))) (mDisp (mpCons (mC (.int 0)) (mTup (mCons (mC (.int 2)) (mCons (mC (.int 2)) mNil))) (mpCons (mC (.int 1)) (mTup (mCons (mC (.int 0)) (mCons (mC (.int 1)) mNil))) (mpCons (mC (.int 2)) (mTup (mCons (mC (.int 0)) (mCons (mC (.int 1)) mNil))) mpNil)))))) (mRet (mC (.bl false))) mNext) (mSeqT (mIfS (mTest (mBin (fEq3 g0 true) (mCall f106 1 (mCons (mVar 0) mNil)) (mLst (mCons (mC (.int 0)) (mCons (mC (.int 1)) (mCons (mC (.int 2)) mNil)))))) (mRet (mC (.bl false))) mNext) (mSeqT (mAsg (mMake 8 fd26_3 3 (mCons (mVar 0) (mCons (mVar 1) mNil))) (mgName 4)) (mSeqT (mAsg (mMeth 8 "finish" f33 1 (mVar 4) mNil) (mgName 5)) (mSeqT (mIfS (mOrT (mTest (mBin (fEq3 g0 true) (mCall f66 1 (mCons (mVar 4) mNil)) (mLst (mCons (mC (.int 0)) (mCons (mC (.int 0)) (mCons (mC (.int 0)) mNil)))))) (mTest (mBin (fEq3 g0 true) (mBin (fIx g0) (mLc g0 300 [6] (miSeq g0 (mMeth 8 "trace" f67 1 (mVar 4) mNil)) (mgName 6) mYes (mTup (mCons (mBin (fIx g0) (mVar 6) (mC (.int 0))) (mCons (mBin (fIx g0) (mVar 6) (mC (.int 1))) mNil)))) (mC (.int (-1)))) (mTup (mCons (mC (.str "make")) (mCons (mC (.int 0)) mNil)))))) (mRet (mC (.bl false))) mNext) (mSeqT (mPar [7, 8] (mCons (mBin (fIx g0) (mBin (fIx g0) (mMeth 1 "parts" f54 2 (mVar 0) (mCons (mVar 5) mNil)) (mC (.int 0))) (mC (.int 1))) (mCons (mBin (fIx g0) (mBin (fIx g0) (mMeth 1 "parts" f54 2 (mVar 0) (mCons (mVar 5) mNil)) (mC (.int 1))) (mC (.int 1))) mNil))) (mSeqT (mAsg (mLst (mCons (mBin (fIx g0) (mBin (fIx g0) (mMeth 1 "parts" f54 2 (mVar 0) (mCons (mVar 7) mNil)) (mC (.int 0))) (mC (.int 1))) (mCons (mBin (fIx g0) (mBin (fIx g0) (mMeth 1 "parts" f54 2 (mVar 0) (mCons (mVar 8) mNil)) (mC (.int 0))) (mC (.int 1))) mNil))) (mgName 9)) (mSeqT (mIfS (mOrT (mTest (mBin (fEq3 g0 true) (mLenSet g0 (mBin fAdd (mLst (mCons (mVar 5) mNil)) (mVar 9))) (mC (.int 3)))) (mTest (mBin (fEq3 g0 true) (mMeth 1 "parts" f54 2 (mVar 0) (mCons (mBin (fIx g0) (mVar 9) (mC (.int 0))) mNil)) (mMeth 1 "parts" f54 2 (mVar 0) (mCons (mVar 5) mNil))))) (mRet (mC (.bl false))) mNext) (mRet (mBin (fEq3 g0 false) (mMeth 1 "parts" f54 2 (mVar 0) (mCons (mBin (fIx g0) (mVar 9) (mC (.int 1))) mNil)) (mMeth 1 "parts" f54 2 (mVar 0) (mCons (mVar 5) mNil))))))))))))))))))
theorem b109 (B : Bd K hh mg) (cdv : Value) (A : Around) (outer : List Env) (s : Shared) (H : Hp) (hr : Room 16 (A.deeper (envOfC "_law_three_right" (defScope (top 87)) s.heap.objs.size (He.fAd K ("_law_three_right", none)) cdv))) : SSs (gm K) W0 (cxOf CX0 P w K mg base ["_law_heap", "_law_thing", "_law_one", "_law_two", "_law_copying", "_law_result", "_law_entry", "_law_first", "_law_second", "_law_inner"] "_law_three_right" (defScope (top 87)) (He.fAd K ("_law_three_right", none)) cdv A outer s H E0).nox (defBody (top 87)) m109 := by
  have G : GOk K (gm K) g0 := gok B
  exact (sss_consT (ss_set sc109.nd (se_make (c := 1) (He.mkr_ok (B.c.fact 1 rfl)) (rs2_2 B) (hr.mono (by decide)) (He.glo_ok B.X B.G (B.c.fact 26 rfl)) (sa_cons (se_makeMK (c := 0) (n := 2) (ks := ["deep"]) (He.mkr_ok (B.c.fact 24 rfl)) (rk4_3_deep B) (hr.mono (by decide)) (He.glo_ok B.X B.G (B.c.fact 25 rfl)) (sa_cons se_str (sa_cons (se_tup (sa_cons se_str (sa_cons se_str sa_nil))) sa_nil)) (sk_cons (se_tup (sa_cons (se_tup (sa_cons se_str (sa_cons se_str sa_nil))) (sa_cons (se_tup (sa_cons se_str (sa_cons se_str sa_nil))) sa_nil))) sk_nil)) sa_nil))) (sss_consT (ss_set sc109.nd (se_meth (c := 1) (He.cls_ok (B.c.fact 30 rfl)) (He.meth_ok (B.c.fact 42 rfl)) (rk15_2n B) (hr.mono (by decide)) (se_var 0) (sa_cons se_str sa_nil))) (sss_consT (ss_par rfl sc109.nd (sa_cons (se_meth (c := 1) (He.cls_ok (B.c.fact 30 rfl)) (He.meth_ok (B.c.fact 43 rfl)) (r25 B) (hr.mono (by decide)) (se_var 0) (sa_cons se_str (sa_cons (se_lst (sa_cons (se_var 1) sa_nil)) sa_nil))) (sa_cons (se_meth (c := 1) (He.cls_ok (B.c.fact 30 rfl)) (He.meth_ok (B.c.fact 43 rfl)) (r25 B) (hr.mono (by decide)) (se_var 0) (sa_cons se_str (sa_cons (se_lst (sa_cons (se_var 1) sa_nil)) sa_nil))) sa_nil))) (sss_consT (ss_expr (se_meth (c := 1) (He.cls_ok (B.c.fact 30 rfl)) (He.meth_ok (B.c.fact 130 rfl)) (r96 B) (hr.mono (by decide)) (se_var 0) (sa_cons (se_var 1) (sa_cons se_str (sa_cons (se_var 2) sa_nil))))) (sss_consT (ss_expr (se_meth (c := 1) (He.cls_ok (B.c.fact 30 rfl)) (He.meth_ok (B.c.fact 130 rfl)) (r96 B) (hr.mono (by decide)) (se_var 0) (sa_cons (se_var 1) (sa_cons se_str (sa_cons (se_var 3) sa_nil))))) (sss_consT (ss_if (st_cmp2 (o_ne3 G (hu66 hr)) (se_call (rd99_2 B) (hr.mono (by decide)) (He.glo_ok B.X B.G (B.c.fact 140 rfl)) (kp99 B) (sa_cons (se_var 0) (sa_cons (se_var 1) sa_nil))) (se_disp (sp_cons se_int (se_tup (sa_cons se_int (sa_cons se_int sa_nil))) (sp_cons se_int (se_tup (sa_cons se_int (sa_cons se_int sa_nil))) (sp_cons se_int (se_tup (sa_cons se_int (sa_cons se_int sa_nil))) sp_nil))))) (sss_one (ss_ret se_bl)) sss_nil) (sss_consT (ss_if (st_cmp2 (o_ne3 G (hu66 hr)) (se_call (rd99_2 B) (hr.mono (by decide)) (He.glo_ok B.X B.G (B.c.fact 140 rfl)) (kp99 B) (sa_cons (se_var 0) (sa_cons (se_var 2) sa_nil))) (se_disp (sp_cons se_int (se_tup (sa_cons se_int (sa_cons se_int sa_nil))) (sp_cons se_int (se_tup (sa_cons se_int (sa_cons se_int sa_nil))) (sp_cons se_int (se_tup (sa_cons se_int (sa_cons se_int sa_nil))) sp_nil))))) (sss_one (ss_ret se_bl)) sss_nil) (sss_consT (ss_if (st_cmp2 (o_ne3 G (hu66 hr)) (se_call (r106 B) (hr.mono (by decide)) (He.glo_ok B.X B.G (B.c.fact 146 rfl)) (kp106 B) (sa_cons (se_var 0) sa_nil)) (se_lst (sa_cons se_int (sa_cons se_int (sa_cons se_int sa_nil))))) (sss_one (ss_ret se_bl)) sss_nil) (sss_consT (ss_set sc109.nd (se_make (c := 8) (He.mkr_ok (B.c.fact 53 rfl)) (rd26_3 B) (hr.mono (by decide)) (He.glo_ok B.X B.G (B.c.fact 54 rfl)) (sa_cons (se_var 0) (sa_cons (se_var 1) sa_nil)))) (sss_consT (ss_set sc109.nd (se_meth0 (c := 8) (He.cls_ok (B.c.fact 57 rfl)) (He.meth_ok (B.c.fact 92 rfl)) (r33 B) (hr.mono (by decide)) (se_var 4))) (sss_consT (ss_if (SW.st (sw_or (st_cmp2 (o_ne3 G (hu66 hr)) (se_call (r66 B) (hr.mono (by decide)) (He.glo_ok B.X B.G (B.c.fact 94 rfl)) (kp66 B) (sa_cons (se_var 4) sa_nil)) (se_lst (sa_cons se_int (sa_cons se_int (sa_cons se_int sa_nil))))) (sw_or1 (st_cmp2 (o_ne3 G (hu66 hr)) (se_ix2 (o_ix G (hu1 hr)) (se_lc (own := [("_law_entry", 6)]) 300 rfl sc109.nd (si_seq G (se_meth0 (c := 8) (He.cls_ok (B.c.fact 57 rfl)) (He.meth_ok (B.c.fact 93 rfl)) (r67 B) (hr.mono (by decide)) (se_var 4))) (show BlkOk ["_law_heap", "_law_thing", "_law_one", "_law_two", "_law_copying", "_law_result", "_law_entry", "_law_first", "_law_second", "_law_inner"] (defScope (top 87)) _ [("_law_entry", 6)] from ⟨rfl, by decide +kernel, by decide +kernel, by decide +kernel, by decide +kernel⟩) (fun _ _ _ _ _ => (sg_name sc109.nd)) (fun _ _ _ _ _ => pts_nilM) (fun _ _ _ _ _ => (se_tup (sa_cons (se_ix2 (o_ix G (hu1 hr)) (se_var 6) se_int) (sa_cons (se_ix2 (o_ix G (hu1 hr)) (se_var 6) se_int) sa_nil))))) se_negc) (se_tup (sa_cons se_str (sa_cons se_int sa_nil))))))) (sss_one (ss_ret se_bl)) sss_nil) (sss_consT (ss_par rfl sc109.nd (sa_cons (se_ix2 (o_ix G (hu1 hr)) (se_ix2 (o_ix G (hu1 hr)) (se_meth (c := 1) (He.cls_ok (B.c.fact 30 rfl)) (He.meth_ok (B.c.fact 74 rfl)) (r54 B) (hr.mono (by decide)) (se_var 0) (sa_cons (se_var 5) sa_nil)) se_int) se_int) (sa_cons (se_ix2 (o_ix G (hu1 hr)) (se_ix2 (o_ix G (hu1 hr)) (se_meth (c := 1) (He.cls_ok (B.c.fact 30 rfl)) (He.meth_ok (B.c.fact 74 rfl)) (r54 B) (hr.mono (by decide)) (se_var 0) (sa_cons (se_var 5) sa_nil)) se_int) se_int) sa_nil))) (sss_consT (ss_set sc109.nd (se_lst (sa_cons (se_ix2 (o_ix G (hu1 hr)) (se_ix2 (o_ix G (hu1 hr)) (se_meth (c := 1) (He.cls_ok (B.c.fact 30 rfl)) (He.meth_ok (B.c.fact 74 rfl)) (r54 B) (hr.mono (by decide)) (se_var 0) (sa_cons (se_var 7) sa_nil)) se_int) se_int) (sa_cons (se_ix2 (o_ix G (hu1 hr)) (se_ix2 (o_ix G (hu1 hr)) (se_meth (c := 1) (He.cls_ok (B.c.fact 30 rfl)) (He.meth_ok (B.c.fact 74 rfl)) (r54 B) (hr.mono (by decide)) (se_var 0) (sa_cons (se_var 8) sa_nil)) se_int) se_int) sa_nil)))) (sss_consT (ss_if (SW.st (sw_or (st_cmp2 (o_ne3 G (hu66 hr)) (se_lenSet G rfl (se_bin2 o_add (se_lst (sa_cons (se_var 5) sa_nil)) (se_var 9)) (He.free_ok B.X B.G (B.c.fact 4 rfl)) (He.free_ok B.X B.G (B.c.fact 148 rfl))) se_int) (sw_or1 (st_cmp2 (o_ne3 G (hu66 hr)) (se_meth (c := 1) (He.cls_ok (B.c.fact 30 rfl)) (He.meth_ok (B.c.fact 74 rfl)) (r54 B) (hr.mono (by decide)) (se_var 0) (sa_cons (se_ix2 (o_ix G (hu1 hr)) (se_var 9) se_int) sa_nil)) (se_meth (c := 1) (He.cls_ok (B.c.fact 30 rfl)) (He.meth_ok (B.c.fact 74 rfl)) (r54 B) (hr.mono (by decide)) (se_var 0) (sa_cons (se_var 5) sa_nil)))))) (sss_one (ss_ret se_bl)) sss_nil) (sss_one (ss_ret (se_cmp2 (o_eq3 G (hu66 hr)) (se_meth (c := 1) (He.cls_ok (B.c.fact 30 rfl)) (He.meth_ok (B.c.fact 74 rfl)) (r54 B) (hr.mono (by decide)) (se_var 0) (sa_cons (se_ix2 (o_ix G (hu1 hr)) (se_var 9) se_int) sa_nil)) (se_meth (c := 1) (He.cls_ok (B.c.fact 30 rfl)) (He.meth_ok (B.c.fact 74 rfl)) (r54 B) (hr.mono (by decide)) (se_var 0) (sa_cons (se_var 5) sa_nil)))))))))))))))))))
theorem kp109 (B : Bd K hh mg) : PySem.W.keepIn K (.ref (He.fAd K ("_law_three_right", none))) = true := by obtain ⟨fd, F⟩ := B.c.def_ 109 (d := d109) rfl; exact F.kp
def f109 : MF := mDef 0 10 m109
theorem o109 (B : Bd K hh mg) : ∃ fd, FnOk P w K mg base CX0 17 (He.fAd K ("_law_three_right", none)) fd [] (SpM (gm K) 0 f109) ∧ FunD K d109.name d109.qual d109.params d109.body d109.scope (d109.dvs K) (d109.kws K) (He.fAd K ("_law_three_right", none)) fd := by
  obtain ⟨fd, F⟩ := B.c.def_ 109 (d := d109) rfl
  exact ⟨fd, fn_okM (ps := []) F sc109 rfl rfl (fun cdv A outer s H hr => b109 B cdv A outer s H hr), F⟩
theorem r109 (B : Bd K hh mg) : FnR P w K mg base CX0 17 (He.fAd K ("_law_three_right", none)) (SpM (gm K) 0 f109) := by
  obtain ⟨fd, F, D⟩ := o109 (P := P) (w := w) (base := base) B
  exact fnM_all F (FunD.bindsN (ps := []) D fun _ _ _ _ _ _ us hl => match us, hl with | [], _ => rfl)
theorem t109 : f109 [] vs0 (noX kT) = true := by decide +kernel
/-! ### law -/
theorem sc0 : FnScope ["_law_script"] ["_law_script"] (defScope (top 91)) := ⟨rfl, rfl, rfl, by decide +kernel, rfl, by decide +kernel, by decide +kernel⟩
def m0 : MS := (mRet (mAndV mCallC (mAndV mCallC (mAndV mCallC mCallC))))
theorem b0 (B : Bd K hh mg) (cdv : Value) (A : Around) (outer : List Env) (s : Shared) (H : Hp) (hr : Room 17 (A.deeper (envOfC "law" (defScope (top 91)) s.heap.objs.size (He.fAd K ("law", none)) cdv))) : SSs (gm K) W0 (cxOf CX0 P w K mg base ["_law_script"] "law" (defScope (top 91)) (He.fAd K ("law", none)) cdv A outer s H E0).nox (defBody (top 91)) m0 := by
  have G : GOk K (gm K) g0 := gok B
  exact (sss_one (ss_ret (se_and (se_callC t109 (r109 B) (hr.mono (by decide)) (He.glo_ok B.X B.G (B.c.fact 149 rfl)) (kp109 B)) (se_and (se_callC t105 (r105 B) (hr.mono (by decide)) (He.glo_ok B.X B.G (B.c.fact 147 rfl)) (kp105 B)) (se_and (se_callC t95 (r95 B) (hr.mono (by decide)) (He.glo_ok B.X B.G (B.c.fact 142 rfl)) (kp95 B)) (se_one (se_callC t1 (r1 B) (hr.mono (by decide)) (He.glo_ok B.X B.G (B.c.fact 127 rfl)) (kp1 B))))))))
theorem kp0 (B : Bd K hh mg) : PySem.W.keepIn K (.ref (He.fAd K ("law", none))) = true := by obtain ⟨fd, F⟩ := B.c.def_ 0 (d := d0) rfl; exact F.kp
def f0 : MF := mDef 1 0 m0
theorem o0 (B : Bd K hh mg) : ∃ fd, FnOk P w K mg base CX0 18 (He.fAd K ("law", none)) fd ["_law_script"] (SpM (gm K) 1 f0) ∧ FunD K d0.name d0.qual d0.params d0.body d0.scope (d0.dvs K) (d0.kws K) (He.fAd K ("law", none)) fd := by
  obtain ⟨fd, F⟩ := B.c.def_ 0 (d := d0) rfl
  exact ⟨fd, fn_okM (ps := ["_law_script"]) F sc0 rfl rfl (fun cdv A outer s H hr => b0 B cdv A outer s H hr), F⟩
theorem r0 (B : Bd K hh mg) : FnR P w K mg base CX0 18 (He.fAd K ("law", none)) (SpM (gm K) 1 f0) := by
  obtain ⟨fd, F, D⟩ := o0 (P := P) (w := w) (base := base) B
  exact fnM_all F (FunD.bindsN (ps := ["_law_script"]) D fun _ _ _ _ _ _ us hl => match us, hl with | [_], _ => rfl)
end
theorem law_all (ns : List Int) : f0 [.ref 0] (stS ns) (noX kT) = true := by kernel_rfl
end C70
open PySem PySem.W PySem.Calls PyProof.Rows
theorem PySem.Challenge.cw_copymemos_k70_hooks_by_hand_holds : PySem.Challenge.rw_copymemos_k70_hooks_by_hand.Holds := by
  w_on; o_law
  refine HandSHeadRun.head_any (r := OpenLaw.row PySem.Challenge.rw_copymemos_k70_hooks_by_hand) (q := view (OpenLaw.row PySem.Challenge.rw_copymemos_k70_hooks_by_hand).prog [91]) (H := C70.hk) (ob := C70.ob) (M := 60000) (loose := C70.loose) (d := HandSHeadRun.topDef (OpenLaw.row PySem.Challenge.rw_copymemos_k70_hooks_by_hand).prog 91) (kwd := []) C70.ob_eq
    (by kernel_rfl) (fun s => by kernel_rfl) C70.run (by kernel_rfl) (by kernel_rfl) (by kernel_rfl) (by rfl) (by first | assumption | decide +kernel) (by decide +kernel) ⟨rfl, rfl, rfl, rfl, rfl, by decide +kernel⟩ ?hw ?hc
  case hw => w_witness2
  case hc =>
    refine L2.walk_ofE (l := PySem.Challenge.rw_copymemos_k70_hooks_by_hand) (n := 63) (k := 18) (x := "_law_script") (CX := L2.CX0) rfl (by decide) (by kernel_rfl) ⟨rfl, by decide, by decide⟩ ?F (fun _ _ _ _ z => z)
    intro w mg fa h Y G hmg0
    obtain ⟨K, KX, c, ce⟩ := Y
    have hmg : mg ("law" : PySem.Str) = some (.ref fa) := by
      have e : (HandSHeadRun.topDef (OpenLaw.row PySem.Challenge.rw_copymemos_k70_hooks_by_hand).prog 91).name = ("law" : PySem.Str) := by kernel_rfl
      rw [← e]
      exact hmg0
    have B : C70.Bd K h mg := ⟨KX, G, c, ce⟩
    have e := hmg.symm.trans (He.glo_ok KX G (c.fact 150 (f := .glo "law") rfl))
    cases e
    obtain ⟨fd, F⟩ := c.def_ 0 (d := C70.d0) rfl
    have b := L2.FunD.bindsA (ps := ["_law_script"]) F fun _ _ _ _ _ _ us hl => match us, hl with | [_], _ => rfl
    exact ⟨K, fd, MV.SpM (C70.gm K) 1 C70.f0, KX, fun s v => b s [v] rfl, fun H a ns hl hO hS => MV.law_sp (C70.exOk14 B) hO hS (C70.law_all ns), fun base _ _ => MV.fn_okM (ps := ["_law_script"]) F C70.sc0 rfl rfl (fun cdv A outer s H hr => C70.b0 B cdv A outer s H hr)⟩


