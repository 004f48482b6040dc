import PyProof.Rows.All
import Wide.All
import OpenK.AllK
import Wide.FinOn
import HandS.ForMost
import HandS.Exc
import HandS.TryOnly
import HandS.ExcOwn
import HandS.WordsExc
import HandS.Defaults
import HandS.NoneIn
import HandS.Property
import HandS.Flow
import HandS.IsInst
import HandS.Style
import HandS.Small
import HandS.Star
import HandS.MethStar
import HandS.DictComp
import HandS.WordsDict
import HandS.SetFor
import HandS.Conv
import HandS.ListItems
import PyProof.EnumMake
import PyProof.EnumStmt
import HandS.MakeKw
import HandS.MakeKwOnly
import KE.KStateDown
import HandS.Ends
import HandS.More
import HandS.Words
import HandS.Head0
import HandS.Head1
import HandS.Head2
import HandS.HeadEnd
import HandS.HeadHook1
import HandS.HeadHook2
import PySem.Challenge.RW_copymemos_k69_tuples_in_cycles_by_hand
set_option Elab.async false
set_option linter.all false
set_option maxRecDepth 100000
set_option maxHeartbeats 0
/-! The virtual heap: values, objects, states; runs over them as functions to Bool by continuations; how a run there stands for a reading of the hand layer. -/
namespace MV
open PySem L2

/-- a value over the virtual heap: ref i, the i-th object made; glo k, an object of the text's own -/
inductive U where
  | non | bl (b : Bool) | int (i : Int) | str (x : Str) | ref (i : Nat) | glo (k : Nat) | ty (n : String)
inductive VO where
  | lst (xs : List U) | tup (xs : List U) | dct (lk : Bool) (kvs : List (Key × U)) | ins (c : Nat) (fs : List (Str × U))

/-! ### the heap: a tree by the bits of a place -/
inductive Tr where
  | nil | node (v : Option VO) (l r : Tr)
def Tr.getF : Nat → Tr → Nat → Option VO
  | 0, _, _ => none
  | _ + 1, .nil, _ => none
  | f + 1, .node v l r, i => match i with
    | 0 => v
    | j + 1 => match Nat.beq (j % 2) 0 with
      | true => l.getF f (j / 2)
      | false => r.getF f (j / 2)
def Tr.putF : Nat → Tr → Nat → VO → Tr
  | 0, t, _, _ => t
  | f + 1, .nil, i, o => match i with
    | 0 => .node (some o) .nil .nil
    | j + 1 => match Nat.beq (j % 2) 0 with
      | true => .node none (Tr.putF f .nil (j / 2) o) .nil
      | false => .node none .nil (Tr.putF f .nil (j / 2) o)
  | f + 1, .node v l r, i, o => match i with
    | 0 => .node (some o) l r
    | j + 1 => match Nat.beq (j % 2) 0 with
      | true => .node v (Tr.putF f l (j / 2) o) r
      | false => .node v l (Tr.putF f r (j / 2) o)
def Tr.get (t : Tr) (i : Nat) : Option VO := t.getF (i + 1) i
def Tr.put (t : Tr) (i : Nat) (o : VO) : Tr := t.putF (i + 1) i o
theorem getF_nil (f i : Nat) : Tr.getF f .nil i = none := by cases f <;> rfl
/-- more fuel than the place is enough -/
theorem getF_fuel : ∀ (f : Nat) (t : Tr) (i g : Nat), i < f → i < g → Tr.getF f t i = Tr.getF g t i
  | 0, _, _, _, h, _ => absurd h (Nat.not_lt_zero _)
  | f + 1, t, i, g, h, h' => by
    cases g with
    | zero => exact absurd h' (Nat.not_lt_zero _)
    | succ g =>
      cases t with
      | nil => rfl
      | node v l r =>
        cases i with
        | zero => rfl
        | succ j =>
          have a : j / 2 < f := by omega
          have b : j / 2 < g := by omega
          show (match Nat.beq (j % 2) 0 with | true => l.getF f (j / 2) | false => r.getF f (j / 2)) = (match Nat.beq (j % 2) 0 with | true => l.getF g (j / 2) | false => r.getF g (j / 2))
          rw [getF_fuel f l _ g a b, getF_fuel f r _ g a b]
theorem getF_putF : ∀ (f : Nat) (t : Tr) (i j : Nat) (o : VO), i < f → j < f → Tr.getF f (Tr.putF f t i o) j = if j = i then some o else Tr.getF f t j
  | 0, _, _, _, _, h, _ => absurd h (Nat.not_lt_zero _)
  | f + 1, t, i, j, o, h, h' => by
    have half : ∀ a b : Nat, Nat.beq (a % 2) 0 = Nat.beq (b % 2) 0 → (a / 2 = b / 2 ↔ a = b) := fun a b e => by
      have e' : (a % 2 = 0) ↔ (b % 2 = 0) := ⟨fun h => Nat.eq_of_beq_eq_true (by rw [← e, h] <;> rfl), fun h => Nat.eq_of_beq_eq_true (by rw [e, h] <;> rfl)⟩
      omega
    cases t with
    | nil =>
      cases i with
      | zero =>
        cases j with
        | zero => rfl
        | succ k =>
          show (match Nat.beq (k % 2) 0 with | true => Tr.getF f .nil (k / 2) | false => Tr.getF f .nil (k / 2)) = _
          rw [getF_nil]
          cases Nat.beq (k % 2) 0 <;> rfl
      | succ k =>
        cases j with
        | zero =>
          cases q : Nat.beq (k % 2) 0 <;> simp [Tr.putF, Tr.getF, q]
        | succ m =>
          have ih := getF_putF f .nil (k / 2) (m / 2) o (by omega) (by omega)
          rw [getF_nil] at ih
          cases q : Nat.beq (k % 2) 0 <;> cases q2 : Nat.beq (m % 2) 0
          · simp only [Tr.putF, Tr.getF, q, q2, ih, half m k (q2.trans q.symm), Nat.add_right_cancel_iff]
          · have ne : m + 1 ≠ k + 1 := by intro e; have : m = k := by omega
                                          subst this; rw [q] at q2; cases q2
            simp only [Tr.putF, Tr.getF, q, q2, getF_nil, if_neg ne]
          · have ne : m + 1 ≠ k + 1 := by intro e; have : m = k := by omega
                                          subst this; rw [q] at q2; cases q2
            simp only [Tr.putF, Tr.getF, q, q2, getF_nil, if_neg ne]
          · simp only [Tr.putF, Tr.getF, q, q2, ih, half m k (q2.trans q.symm), Nat.add_right_cancel_iff]
    | node v l r =>
      cases i with
      | zero =>
        cases j with
        | zero => rfl
        | succ k => rfl
      | succ k =>
        cases j with
        | zero =>
          cases q : Nat.beq (k % 2) 0 <;> simp [Tr.putF, Tr.getF, q]
        | succ m =>
          have ihl := getF_putF f l (k / 2) (m / 2) o (by omega) (by omega)
          have ihr := getF_putF f r (k / 2) (m / 2) o (by omega) (by omega)
          cases q : Nat.beq (k % 2) 0 <;> cases q2 : Nat.beq (m % 2) 0
          · simp only [Tr.putF, Tr.getF, q, q2, ihr, half m k (q2.trans q.symm), Nat.add_right_cancel_iff]
          · have ne : m + 1 ≠ k + 1 := by intro e; have : m = k := by omega
                                          subst this; rw [q] at q2; cases q2
            simp only [Tr.putF, Tr.getF, q, q2, if_neg ne]
          · have ne : m + 1 ≠ k + 1 := by intro e; have : m = k := by omega
                                          subst this; rw [q] at q2; cases q2
            simp only [Tr.putF, Tr.getF, q, q2, if_neg ne]
          · simp only [Tr.putF, Tr.getF, q, q2, ihl, half m k (q2.trans q.symm), Nat.add_right_cancel_iff]
theorem putF_fuel (o : VO) : ∀ (f : Nat) (t : Tr) (i g : Nat), i < f → i < g → Tr.putF f t i o = Tr.putF g t i o
  | 0, _, _, _, h, _ => absurd h (Nat.not_lt_zero _)
  | f + 1, t, i, g, h, h' => by
    cases g with
    | zero => exact absurd h' (Nat.not_lt_zero _)
    | succ g =>
      cases i with
      | zero => cases t <;> rfl
      | succ k =>
        have a : k / 2 < f := by omega
        have b : k / 2 < g := by omega
        cases t with
        | nil => simp only [Tr.putF, putF_fuel o f .nil (k / 2) g a b]
        | node v l r => simp only [Tr.putF, putF_fuel o f l (k / 2) g a b, putF_fuel o f r (k / 2) g a b]
theorem putF_get (t : Tr) (i j f : Nat) (o : VO) (hi : i < f) : (Tr.putF f t i o).get j = if j = i then some o else t.get j := by
  rw [putF_fuel o f t i (i + j + 1) hi (by omega)]
  unfold Tr.get
  rw [getF_fuel (j + 1) _ j (i + j + 1) (by omega) (by omega), getF_putF (i + j + 1) t i j o (by omega) (by omega), getF_fuel (i + j + 1) t j (j + 1) (by omega) (by omega)]
theorem Tr.get_put (t : Tr) (i j : Nat) (o : VO) : (t.put i o).get j = if j = i then some o else t.get j := putF_get t i j (i + 1) o (Nat.lt_succ_self i)

structure VS where
  t : Tr
  n : Nat
def VS.get (s : VS) (i : Nat) : Option VO := s.t.get i
def VS.put (s : VS) (i : Nat) (o : VO) : VS := ⟨s.t.put i o, s.n⟩
/-- a new object, at the place n -/
def VS.new (s : VS) (o : VO) : VS := ⟨s.t.put s.n o, s.n + 1⟩
theorem VS.get_put (s : VS) (i j : Nat) (o : VO) : (s.put i o).get j = if j = i then some o else s.get j := Tr.get_put _ _ _ _
theorem VS.get_new (s : VS) (j : Nat) (o : VO) : (s.new o).get j = if j = s.n then some o else s.get j := Tr.get_put _ _ _ _

/-! ### how it stands for the abstract heap -/
def RU (γ : Nat → Addr) (ρ : List Addr) : U → V → Prop
  | .non, v => v = .non
  | .bl b, v => v = .bl b
  | .int i, v => v = .int i
  | .str x, v => v = .str x
  | .ref i, v => ∃ a, ρ[i]? = some a ∧ v = .ref a
  | .glo k, v => v = .ref (γ k)
  | .ty n, v => v = .ty n
abbrev RL (γ : Nat → Addr) (ρ : List Addr) : List U → List V → Prop := Paired (RU γ ρ)
abbrev RF (γ : Nat → Addr) (ρ : List Addr) : List (Str × U) → List (Str × V) → Prop := Paired fun p q => p.1 = q.1 ∧ RU γ ρ p.2 q.2
abbrev RK (γ : Nat → Addr) (ρ : List Addr) : List (Key × U) → List (Key × V) → Prop := Paired fun p q => p.1 = q.1 ∧ RU γ ρ p.2 q.2
theorem RU.mono {γ : Nat → Addr} {ρ l : List Addr} : ∀ {u : U} {v : V}, RU γ ρ u v → RU γ (ρ ++ l) u v
  | .non, _, h => h
  | .bl _, _, h => h
  | .int _, _, h => h
  | .str _, _, h => h
  | .ref i, _, ⟨a, e, h⟩ => ⟨a, by rw [List.getElem?_append_left (List.getElem?_eq_some_iff.mp e).1]; exact e, h⟩
  | .glo _, _, h => h
  | .ty _, _, h => h
theorem pmap {α β : Type} {F G : α → β → Prop} (h : ∀ a b, F a b → G a b) : ∀ {xs : List α} {ys : List β}, Paired F xs ys → Paired G xs ys
  | _, _, .nil => .nil
  | _, _, .cons r t => .cons (h _ _ r) (pmap h t)
theorem pget {α β : Type} {F : α → β → Prop} : ∀ {xs : List α} {ys : List β} {i : Nat} {x : α}, Paired F xs ys → xs[i]? = some x → ∃ y, ys[i]? = some y ∧ F x y
  | _, _, _, _, .nil, e => by simp at e
  | _, _, 0, _, .cons r _, e => by simp at e; subst e; exact ⟨_, rfl, r⟩
  | _, _, i + 1, _, .cons _ t, e => by
    obtain ⟨y, h, r⟩ := pget (i := i) t (by simpa using e)
    exact ⟨y, by simpa using h, r⟩
theorem RL.mono {γ : Nat → Addr} {ρ l : List Addr} {us : List U} {vs : List V} (h : RL γ ρ us vs) : RL γ (ρ ++ l) us vs := pmap (fun _ _ r => RU.mono r) h
/-- what stands at a for the object o -/
def RO (γ : Nat → Addr) (ρ : List Addr) (H : Hp) (a : Addr) : VO → Prop
  | .lst xs => ∃ ys, H a = some (.lst ys) ∧ RL γ ρ xs ys
  | .tup xs => ∃ ys, H a = some (.tup ys) ∧ RL γ ρ xs ys
  | .dct lk kvs => ∃ ws, (bif lk then ∃ o, H a = some (.frz o (.dK ws)) else H a = some (.dK ws)) ∧ RK γ ρ kvs ws
  | .ins c fs => ∃ dx ws, H a = some (.ins (γ c) dx ws) ∧ RF γ ρ fs ws
theorem RO.mono {γ : Nat → Addr} {ρ l : List Addr} {H H' : Hp} {a : Addr} (e : H' a = H a) : ∀ {o : VO}, RO γ ρ H a o → RO γ (ρ ++ l) H' a o
  | .lst _, ⟨ys, h, r⟩ => ⟨ys, e.trans h, r.mono⟩
  | .tup _, ⟨ys, h, r⟩ => ⟨ys, e.trans h, r.mono⟩
  | .dct lk _, ⟨ws, h, r⟩ => ⟨ws, by rw [e]; exact h, pmap (fun _ _ q => ⟨q.1, q.2.mono⟩) r⟩
  | .ins _ _, ⟨dx, ws, h, r⟩ => ⟨dx, ws, e.trans h, pmap (fun _ _ q => ⟨q.1, q.2.mono⟩) r⟩
theorem RO.here {γ : Nat → Addr} {ρ : List Addr} {H H' : Hp} {a : Addr} (e : H' a = H a) {o : VO} (h : RO γ ρ H a o) : RO γ ρ H' a o := by
  have := RO.mono (l := []) e h
  rwa [List.append_nil] at this
theorem RO.some {γ : Nat → Addr} {ρ : List Addr} {H : Hp} {a : Addr} : ∀ {o : VO}, RO γ ρ H a o → ∃ u, H a = some u
  | .lst _, ⟨_, h, _⟩ => ⟨_, h⟩
  | .tup _, ⟨_, h, _⟩ => ⟨_, h⟩
  | .dct lk _, ⟨_, h, _⟩ => by
    cases lk with
    | true => obtain ⟨o, h⟩ := h; exact ⟨_, h⟩
    | false => exact ⟨_, h⟩
  | .ins _ _, ⟨_, _, h, _⟩ => ⟨_, h⟩
/-- the virtual heap st stands for H, the i-th object at ρ's i-th address -/
structure Rep (γ : Nat → Addr) (ρ : List Addr) (st : VS) (H : Hp) : Prop where
  len : ρ.length = st.n
  nd : ρ.Nodup
  all : ∀ a ∈ ρ, ∃ o, H a = some o
  obj : ∀ i o, st.get i = some o → ∃ a, ρ[i]? = some a ∧ RO γ ρ H a o
/-- what a run does: new objects, nothing else touched -/
structure Step (ρ : List Addr) (H : Hp) (ρ' : List Addr) (H' : Hp) : Prop where
  ext : ∃ l, ρ' = ρ ++ l
  new : ∀ a ∈ ρ', a ∉ ρ → H a = none
  fr : ∀ a o, a ∉ ρ → H a = some o → H' a = some o
  frz : ∀ a o u, H a = some (.frz o u) → H' a = some (.frz o u)
theorem Step.refl (ρ : List Addr) (H : Hp) : Step ρ H ρ H := ⟨⟨[], (List.append_nil _).symm⟩, fun _ h n => absurd h n, fun _ _ _ e => e, fun _ _ _ e => e⟩
theorem Step.trans {ρ ρ1 ρ2 : List Addr} {H H1 H2 : Hp} (a : Step ρ H ρ1 H1) (b : Step ρ1 H1 ρ2 H2) : Step ρ H ρ2 H2 := by
  obtain ⟨l, el⟩ := a.ext
  obtain ⟨m, em⟩ := b.ext
  refine ⟨⟨l ++ m, by rw [em, el, List.append_assoc]⟩, fun x h n => ?_, fun x o n e => ?_, fun x o u e => b.frz x o u (a.frz x o u e)⟩
  · by_cases q : x ∈ ρ1
    · exact a.new x q n
    · have z := b.new x h q
      cases e : H x with
      | none => rfl
      | some o => rw [a.fr x o n e] at z; cases z
  · refine b.fr x o (fun q => ?_) (a.fr x o n e)
    rw [a.new x q n] at e; cases e
theorem Step.ru {γ : Nat → Addr} {ρ ρ' : List Addr} {H H' : Hp} (s : Step ρ H ρ' H') {u : U} {v : V} (h : RU γ ρ u v) : RU γ ρ' u v := by
  obtain ⟨l, rfl⟩ := s.ext; exact h.mono
theorem Step.rl {γ : Nat → Addr} {ρ ρ' : List Addr} {H H' : Hp} (s : Step ρ H ρ' H') {u : List U} {v : List V} (h : RL γ ρ u v) : RL γ ρ' u v := by
  obtain ⟨l, rfl⟩ := s.ext; exact h.mono

section
variable {γ : Nat → Addr} {ρ : List Addr} {st : VS} {H : Hp}
/-- a new object -/
theorem Rep.new (R : Rep γ ρ st H) {p : Addr} {o : VO} {H' : Hp} (hp : H p = none) (hk : ∀ a u, H a = some u → H' a = some u) (ho : RO γ (ρ ++ [p]) H' p o) : Rep γ (ρ ++ [p]) (st.new o) H' ∧ Step ρ H (ρ ++ [p]) H' := by
  have np : p ∉ ρ := fun q => by obtain ⟨u, e⟩ := R.all p q; rw [hp] at e; cases e
  refine ⟨⟨by rw [List.length_append, R.len]; rfl, ?_, fun a ha => ?_, fun i u e => ?_⟩, ⟨[p], rfl⟩, fun a ha n => ?_, fun a u _ e => hk a u e, fun a o u e => hk a _ e⟩
  · rw [List.nodup_append]
    exact ⟨R.nd, List.nodup_cons.mpr ⟨List.not_mem_nil, List.nodup_nil⟩, fun a ha b hb e => by
      have := List.mem_singleton.mp hb; subst this; subst e; exact np ha⟩
  · rcases List.mem_append.mp ha with q | q
    · obtain ⟨u, e⟩ := R.all a q; exact ⟨u, hk a u e⟩
    · have := List.mem_singleton.mp q; subst this; exact ho.some
  · rw [VS.get_new] at e
    by_cases h : i = st.n
    · rw [if_pos h] at e
      cases e
      refine ⟨p, ?_, ho⟩
      rw [h, ← R.len, List.getElem?_append_right (Nat.le_refl _), Nat.sub_self]; rfl
    · rw [if_neg h] at e
      obtain ⟨a, ea, ra⟩ := R.obj i u e
      obtain ⟨x, ex⟩ := ra.some
      exact ⟨a, by rw [List.getElem?_append_left (List.getElem?_eq_some_iff.mp ea).1]; exact ea, ra.mono ((hk a x ex).trans ex.symm)⟩
  · rcases List.mem_append.mp ha with q | q
    · exact absurd q n
    · have := List.mem_singleton.mp q; subst this; exact hp
theorem new_upd {p : Addr} {o : HO} (hp : H p = none) : ∀ a u, H a = some u → upd H p o a = some u := fun a u e => by
  rw [upd_ne (ne_of_none e hp)]; exact e
/-- an object changed -/
theorem Rep.put (R : Rep γ ρ st H) {i : Nat} {a : Addr} {o : VO} {u : HO} (ea : ρ[i]? = some a) (nf : ∀ o x, H a ≠ some (.frz o x)) (ho : RO γ ρ (upd H a u) a o) : Rep γ ρ (st.put i o) (upd H a u) ∧ Step ρ H ρ (upd H a u) := by
  have ma : a ∈ ρ := List.mem_of_getElem? ea
  refine ⟨⟨R.len, R.nd, fun b hb => ?_, fun j x e => ?_⟩, ⟨[], (List.append_nil _).symm⟩, fun _ h n => absurd h n, fun b x n e => by rw [upd_ne (fun (z : b = a) => n (by rw [z]; exact ma))]; exact e, fun b o x e => by rw [upd_ne (fun (z : b = a) => nf o x (by rw [← z]; exact e))]; exact e⟩
  · by_cases q : b = a
    · subst q; exact ⟨u, upd_same⟩
    · obtain ⟨x, e⟩ := R.all b hb; exact ⟨x, by rw [upd_ne q]; exact e⟩
  · rw [VS.get_put] at e
    by_cases h : j = i
    · rw [if_pos h] at e; cases e
      exact ⟨a, by rw [h]; exact ea, ho⟩
    · rw [if_neg h] at e
      obtain ⟨b, eb, rb⟩ := R.obj j x e
      have nb : b ≠ a := fun z => by
        subst z
        obtain ⟨h1, e1⟩ := List.getElem?_eq_some_iff.mp eb
        obtain ⟨h2, e2⟩ := List.getElem?_eq_some_iff.mp ea
        exact h ((List.getElem_inj R.nd).mp (e1.trans e2.symm))
      exact ⟨b, eb, rb.here (upd_ne nb)⟩
/-- a locked object is unlocked, as it was at the start *-/
theorem Step.unlock {ρ ρ2 : List Addr} {H H2 : Hp} {a : Addr} {u : HO} (s : Step ρ H ρ2 H2) (ma : a ∈ ρ2) (nf : ∀ o x, H a ≠ some (.frz o x)) : Step ρ H ρ2 (upd H2 a u) := by
  refine ⟨s.ext, s.new, fun b x n e => ?_, fun b o x e => ?_⟩
  · rw [upd_ne (fun (z : b = a) => by rw [z] at n e; rw [s.new a ma n] at e; cases e)]; exact s.fr b x n e
  · rw [upd_ne (fun (z : b = a) => nf o x (by rw [← z]; exact e))]; exact s.frz b o x e
theorem Rep.unlock (R : Rep γ ρ st H) {i : Nat} {a : Addr} {o : VO} {u : HO} (ea : ρ[i]? = some a) (ho : RO γ ρ (upd H a u) a o) : Rep γ ρ (st.put i o) (upd H a u) := by
  have ma : a ∈ ρ := List.mem_of_getElem? ea
  refine ⟨R.len, R.nd, fun b hb => ?_, fun j x e => ?_⟩
  · by_cases q : b = a
    · subst q; exact ⟨u, upd_same⟩
    · obtain ⟨x, e⟩ := R.all b hb; exact ⟨x, by rw [upd_ne q]; exact e⟩
  · rw [VS.get_put] at e
    by_cases h : j = i
    · rw [if_pos h] at e; cases e
      exact ⟨a, by rw [h]; exact ea, ho⟩
    · rw [if_neg h] at e
      obtain ⟨b, eb, rb⟩ := R.obj j x e
      have nb : b ≠ a := fun z => by
        subst z
        obtain ⟨h1, e1⟩ := List.getElem?_eq_some_iff.mp eb
        obtain ⟨h2, e2⟩ := List.getElem?_eq_some_iff.mp ea
        exact h ((List.getElem_inj R.nd).mp (e1.trans e2.symm))
      exact ⟨b, eb, rb.here (upd_ne nb)⟩
theorem Rep.get (R : Rep γ ρ st H) {i : Nat} {o : VO} {v : V} (e : st.get i = some o) (r : RU γ ρ (.ref i) v) : ∃ a, v = .ref a ∧ ρ[i]? = some a ∧ RO γ ρ H a o := by
  obtain ⟨a, ea, ev⟩ := r
  obtain ⟨b, eb, rb⟩ := R.obj i o e
  rw [ea] at eb; cases eb
  exact ⟨a, ev, ea, rb⟩
end

/-! ### runs by continuations -/
/-- an exception of the text's own: its class, its fields -/
structure XV where
  c : Nat
  fs : List (Str × U)
inductive Rs (α : Type) where
  | ok (a : α) | ex (x : XV)
inductive Out where
  | nx | bk | ct | rt (u : U) | ex (x : XV)
abbrev Fr := List (Option U)
abbrev Go (α : Type) := (Rs α → VS → Bool) → Bool
abbrev ME := Fr → VS → Go U
abbrev MT := Fr → VS → Go Bool
abbrev MA := Fr → VS → Go (List U)
abbrev GoS := (Out → Fr → VS → Bool) → Bool
abbrev MS := Fr → VS → GoS
abbrev MF := List U → VS → Go U
def bnd {α β : Type} (m : Go α) (f : α → VS → Go β) : Go β := fun κ => m fun r st => match r with
  | .ok a => f a st κ
  | .ex x => κ (.ex x) st
def ret {α : Type} (a : α) (st : VS) : Go α := fun κ => κ (.ok a) st
def bad {α : Type} : Go α := fun _ => false

/-- the frame's slots -/
structure FrR (γ : Nat → Addr) (ρ : List Addr) (σ : Fr) (τ : St) : Prop where
  len : σ.length = τ.length
  at_ : ∀ (i : Nat) (u : U), σ[i]? = some (some u) → ∃ v, τ[i]? = some (some v) ∧ RU γ ρ u v
theorem FrR.step {γ : Nat → Addr} {ρ ρ' : List Addr} {H H' : Hp} (s : Step ρ H ρ' H') {σ : Fr} {τ : St} (h : FrR γ ρ σ τ) : FrR γ ρ' σ τ := ⟨h.len, fun i u e => by
  obtain ⟨v, e1, r⟩ := h.at_ i u e; exact ⟨v, e1, s.ru r⟩⟩
theorem FrR.set {γ : Nat → Addr} {ρ : List Addr} {σ : Fr} {τ : St} (h : FrR γ ρ σ τ) (i : Nat) {u : U} {v : V} (r : RU γ ρ u v) : FrR γ ρ (σ.set i (some u)) (τ.set i (some v)) := ⟨by rw [List.length_set, List.length_set]; exact h.len, fun j w e => by
  by_cases q : i = j
  · subst q
    by_cases l : i < σ.length
    · rw [List.getElem?_set_self l] at e
      cases e
      exact ⟨v, by rw [List.getElem?_set_self (by rw [← h.len]; exact l)], r⟩
    · rw [List.getElem?_eq_none (by rw [List.length_set]; omega)] at e; cases e
  · rw [List.getElem?_set_ne q] at e
    obtain ⟨x, e1, r1⟩ := h.at_ j w e
    exact ⟨x, by rw [List.getElem?_set_ne q]; exact e1, r1⟩⟩
/-- how an exception's value stands -/
def RX (γ : Nat → Addr) (ρ : List Addr) (x : XV) (cls : Value) (d : Option Addr) (H : Hp) : Prop :=
  cls = .ref (γ x.c) ∧ (x.fs = [] ∨ ∃ dd ws, d = some dd ∧ dd ∉ ρ ∧ H dd = some (.xd ws) ∧ RF γ ρ x.fs ws)

/-- what is wanted of a value, of an exception -/
def OkK (γ : Nat → Addr) {α β : Type} (Rv : List Addr → α → β → Prop) (ρ : List Addr) (H : Hp) (κ : Rs α → VS → Bool) (Q : β → Hp → Prop) : Prop :=
  ∀ ρ' st' H' u v, Step ρ H ρ' H' → Rep γ ρ' st' H' → Rv ρ' u v → κ (.ok u) st' = true → Q v H'
def ExK (γ : Nat → Addr) (W : WX) (τ : St) {α : Type} (ρ : List Addr) (H : Hp) (κ : Rs α → VS → Bool) : Prop :=
  ∀ ρ' st' H' x cls d, Step ρ H ρ' H' → Rep γ ρ' st' H' → RX γ ρ' x cls d H' → κ (.ex x) st' = true → W cls d τ H'
/-- the run m stands for the reading t -/
def SimAt (γ : Nat → Addr) (W : WX) (τ : St) {α β : Type} (Rv : List Addr → α → β → Prop) (ρ : List Addr) (H : Hp) (t : (β → Hp → Prop) → Prop) (m : Go α) : Prop :=
  ∀ (κ : Rs α → VS → Bool) (Q : β → Hp → Prop), m κ = true → OkK γ Rv ρ H κ Q → ExK γ W τ ρ H κ → t Q
section
variable {γ : Nat → Addr} {W : WX} {τ : St}
theorem OkK.step {α β : Type} {Rv : List Addr → α → β → Prop} {ρ ρ1 : List Addr} {H H1 : Hp} {κ : Rs α → VS → Bool} {Q : β → Hp → Prop} (h : OkK γ Rv ρ H κ Q) (s : Step ρ H ρ1 H1) : OkK γ Rv ρ1 H1 κ Q := fun ρ' st' H' u v s' => h ρ' st' H' u v (s.trans s')
theorem ExK.step {α : Type} {ρ ρ1 : List Addr} {H H1 : Hp} {κ : Rs α → VS → Bool} (h : ExK γ W τ ρ H κ) (s : Step ρ H ρ1 H1) : ExK γ W τ ρ1 H1 κ := fun ρ' st' H' x c d s' => h ρ' st' H' x c d (s.trans s')
theorem OkK.here {α β : Type} {Rv : List Addr → α → β → Prop} {ρ : List Addr} {H : Hp} {κ : Rs α → VS → Bool} {Q : β → Hp → Prop} (h : OkK γ Rv ρ H κ Q) {st : VS} {u : α} {v : β} (R : Rep γ ρ st H) (r : Rv ρ u v) (k : κ (.ok u) st = true) : Q v H := h ρ st H u v (Step.refl _ _) R r k
theorem SimAt.ret {α β : Type} {Rv : List Addr → α → β → Prop} {ρ : List Addr} {H : Hp} {st : VS} {u : α} {v : β} (R : Rep γ ρ st H) (r : Rv ρ u v) : SimAt γ W τ Rv ρ H (fun Q => Q v H) (ret u st) := fun κ Q hm ok _ => ok.here R r hm
theorem SimAt.bad {α β : Type} {Rv : List Addr → α → β → Prop} {ρ : List Addr} {H : Hp} {t : (β → Hp → Prop) → Prop} : SimAt γ W τ Rv ρ H t (bad : Go α) := fun _ _ hm => nomatch hm
/-- a new object -/
theorem OkK.alloc {ρ : List Addr} {H : Hp} {st : VS} {o : VO} {u : HO} {κ : Rs U → VS → Bool} {Q : VK} (ok : OkK γ (RU γ) ρ H κ Q) (R : Rep γ ρ st H) (hm : κ (.ok (.ref st.n)) (st.new o) = true) (ho : ∀ p, RO γ (ρ ++ [p]) (upd H p u) p o) : ∀ p, H p = none → Q (.ref p) (upd H p u) := fun p hp => by
  obtain ⟨R', S⟩ := R.new hp (new_upd hp) (ho p)
  have r : RU γ (ρ ++ [p]) (.ref st.n) (.ref p) := ⟨p, by rw [← R.len, List.getElem?_append_right (Nat.le_refl _), Nat.sub_self]; rfl, rfl⟩
  exact ok _ _ _ _ _ S R' r hm
end

section
variable (γ : Nat → Addr) (W : WX) (X : Cx)
def SE (e : Expr) (m : ME) : Prop := ∃ t, PE X e t ∧ ∀ ρ st H σ τ, Rep γ ρ st H → FrR γ ρ σ τ → SimAt γ W τ (RU γ) ρ H (t τ H) (m σ st)
def ST (e : Expr) (m : MT) : Prop := ∃ t, PT X e t ∧ ∀ ρ st H σ τ, Rep γ ρ st H → FrR γ ρ σ τ → SimAt γ W τ (fun _ a b => a = b) ρ H (t τ H) (m σ st)
def SW (e : Expr) (m : MT) : Prop := ∃ t, PW X e t ∧ ∀ ρ st H σ τ, Rep γ ρ st H → FrR γ ρ σ τ → SimAt γ W τ (fun _ a b => a = b) ρ H (t τ H) (m σ st)
def SA (es : List Expr) (m : MA) : Prop := ∃ t, PA X es t ∧ ∀ ρ st H σ τ, Rep γ ρ st H → FrR γ ρ σ τ → SimAt γ W τ (RL γ) ρ H (t τ H) (m σ st)
/-- what is wanted behind a statement -/
structure EndsOk (ρ : List Addr) (H : Hp) (κ : Out → Fr → VS → Bool) (D : Ends) : Prop where
  nx : ∀ ρ' st' H' σ' τ', Step ρ H ρ' H' → Rep γ ρ' st' H' → FrR γ ρ' σ' τ' → κ .nx σ' st' = true → D.nx τ' H'
  bk : ∀ ρ' st' H' σ' τ', Step ρ H ρ' H' → Rep γ ρ' st' H' → FrR γ ρ' σ' τ' → κ .bk σ' st' = true → D.bk τ' H'
  ct : ∀ ρ' st' H' σ' τ', Step ρ H ρ' H' → Rep γ ρ' st' H' → FrR γ ρ' σ' τ' → κ .ct σ' st' = true → D.ct τ' H'
  rt : ∀ ρ' st' H' σ' u v, Step ρ H ρ' H' → Rep γ ρ' st' H' → RU γ ρ' u v → κ (.rt u) σ' st' = true → D.rt v H'
  ex : ∀ ρ' st' H' σ' τ' x cls d, Step ρ H ρ' H' → Rep γ ρ' st' H' → FrR γ ρ' σ' τ' → RX γ ρ' x cls d H' → κ (.ex x) σ' st' = true → W cls d τ' H'
def SimS (ρ : List Addr) (H : Hp) (t : Ends → Prop) (m : GoS) : Prop := ∀ (κ : Out → Fr → VS → Bool) (D : Ends), m κ = true → EndsOk γ W ρ H κ D → t D
def SS (s : Stmt) (m : MS) : Prop := ∃ t, PS X s t ∧ ∀ ρ st H σ τ, Rep γ ρ st H → FrR γ ρ σ τ → SimS γ W ρ H (fun D => t D τ H) (m σ st)
def SSs (s : List Stmt) (m : MS) : Prop := ∃ t, PSs X s t ∧ ∀ ρ st H σ τ, Rep γ ρ st H → FrR γ ρ σ τ → SimS γ W ρ H (fun D => t D τ H) (m σ st)
end
theorem EndsOk.step {γ : Nat → Addr} {W : WX} {ρ ρ' : List Addr} {H H' : Hp} {κ : Out → Fr → VS → Bool} {D : Ends} (s : Step ρ H ρ' H') (h : EndsOk γ W ρ H κ D) : EndsOk γ W ρ' H' κ D :=
  ⟨fun _ _ _ _ _ a => h.nx _ _ _ _ _ (s.trans a), fun _ _ _ _ _ a => h.bk _ _ _ _ _ (s.trans a), fun _ _ _ _ _ a => h.ct _ _ _ _ _ (s.trans a), fun _ _ _ _ _ _ a => h.rt _ _ _ _ _ _ (s.trans a), fun _ _ _ _ _ _ _ _ a => h.ex _ _ _ _ _ _ _ _ (s.trans a)⟩
end MV

namespace MV
open PySem L2

/-! ### texts and keys compared -/
def nEq : List Nat → List Nat → Bool
  | [], [] => true
  | a :: r, b :: s => match Nat.beq a b with
    | true => nEq r s
    | false => false
  | _, _ => false
theorem nEq_iff : ∀ a b : List Nat, nEq a b = true ↔ a = b
  | [], [] => by simp [nEq]
  | [], _ :: _ => by simp [nEq]
  | _ :: _, [] => by simp [nEq]
  | a :: r, b :: s => by
    show (match Nat.beq a b with | true => nEq r s | false => false) = true ↔ _
    cases q : Nat.beq a b with
    | true =>
      have := Nat.eq_of_beq_eq_true q
      subst this
      simp [nEq_iff r s]
    | false =>
      have : a ≠ b := fun e => by subst e; rw [Nat.beq_refl] at q; cases q
      simp [this]
def sEq (a b : Str) : Bool := nEq a.cps.toList b.cps.toList
theorem sEq_iff {a b : Str} : sEq a b = true ↔ a = b := by
  unfold sEq
  rw [nEq_iff]
  constructor
  · intro h
    cases a with
    | mk a => cases b with
      | mk b => exact congrArg Str.mk (Array.toList_inj.mp h)
  · intro h; rw [h]
theorem sEq_self (a : Str) : sEq a a = true := sEq_iff.mpr rfl
def iEq : Int → Int → Bool
  | .ofNat a, .ofNat b => Nat.beq a b
  | .negSucc a, .negSucc b => Nat.beq a b
  | _, _ => false
theorem iEq_iff : ∀ {a b : Int}, iEq a b = true ↔ a = b
  | .ofNat a, .ofNat b => ⟨fun h => congrArg _ (Nat.eq_of_beq_eq_true h), fun h => by cases h; exact Nat.beq_refl a⟩
  | .negSucc a, .negSucc b => ⟨fun h => congrArg _ (Nat.eq_of_beq_eq_true h), fun h => by cases h; exact Nat.beq_refl a⟩
  | .ofNat _, .negSucc _ => ⟨(fun h => nomatch h), (fun h => nomatch h)⟩
  | .negSucc _, .ofNat _ => ⟨(fun h => nomatch h), (fun h => nomatch h)⟩
def kEq : Key → Key → Bool
  | .inl a, .inl b => iEq a b
  | .inr a, .inr b => sEq a b
  | _, _ => false
theorem kEq_iff : ∀ {a b : Key}, kEq a b = true ↔ a = b
  | .inl a, .inl b => ⟨fun h => congrArg _ (iEq_iff.mp h), fun h => iEq_iff.mpr (Sum.inl.inj h)⟩
  | .inr a, .inr b => ⟨fun h => congrArg _ (sEq_iff.mp h), fun h => sEq_iff.mpr (Sum.inr.inj h)⟩
  | .inl _, .inr _ => ⟨(fun h => nomatch h), (fun h => nomatch h)⟩
  | .inr _, .inl _ => ⟨(fun h => nomatch h), (fun h => nomatch h)⟩

/-! ### attributes and dicts as lists of pairs -/
def fGet (f : Str) : List (Str × U) → Option U
  | [] => none
  | (g, u) :: r => match sEq f g with
    | true => some u
    | false => fGet f r
def fPut (f : Str) (u : U) : List (Str × U) → List (Str × U)
  | [] => [(f, u)]
  | (g, x) :: r => match sEq g f with
    | true => (g, u) :: r
    | false => (g, x) :: fPut f u r
def kGet (k : Key) : List (Key × U) → Option U
  | [] => none
  | (g, u) :: r => match kEq g k with
    | true => some u
    | false => kGet k r
def kHas (k : Key) : List (Key × U) → Bool
  | [] => false
  | (g, _) :: r => match kEq g k with
    | true => true
    | false => kHas k r
def kRep (k : Key) (u : U) : List (Key × U) → List (Key × U)
  | [] => []
  | (g, x) :: r => match kEq g k with
    | true => (g, u) :: kRep k u r
    | false => (g, x) :: kRep k u r
def kPut (k : Key) (u : U) (l : List (Key × U)) : List (Key × U) := match kHas k l with
  | true => kRep k u l
  | false => l ++ [(k, u)]
section
variable {γ : Nat → Addr} {ρ : List Addr}
theorem RF.get {f : Str} : ∀ {fs : List (Str × U)} {ws : List (Str × V)}, RF γ ρ fs ws → (fGet f fs = none ∧ ws.lookup f = none) ∨ ∃ u v, fGet f fs = some u ∧ ws.lookup f = some v ∧ RU γ ρ u v
  | _, _, .nil => .inl ⟨rfl, rfl⟩
  | (g, u) :: r, (g', v) :: s, .cons ⟨e, h⟩ t => by
    have e : g = g' := e
    subst e
    show ((match sEq f g with | true => some u | false => fGet f r) = none ∧ _) ∨ ∃ u' v', (match sEq f g with | true => some u | false => fGet f r) = some u' ∧ _
    cases q : sEq f g with
    | true =>
      have := sEq_iff.mp q
      subst this
      exact .inr ⟨u, v, rfl, by simp [List.lookup], h⟩
    | false =>
      have n : f ≠ g := fun z => by rw [z, sEq_self] at q; cases q
      have nb : (f == g) = false := beq_eq_false_iff_ne.mpr n
      have el : List.lookup f ((g, v) :: s) = List.lookup f s := by simp only [List.lookup, nb]
      rw [el]
      exact RF.get t
theorem RF.put {f : Str} {u : U} {v : V} (h : RU γ ρ u v) : ∀ {fs : List (Str × U)} {ws : List (Str × V)}, RF γ ρ fs ws → RF γ ρ (fPut f u fs) (putF f v ws)
  | _, _, .nil => .cons ⟨rfl, h⟩ .nil
  | (g, x) :: r, (g', y) :: s, .cons ⟨e, hx⟩ t => by
    have e : g = g' := e
    subst e
    show RF γ ρ (match sEq g f with | true => (g, u) :: r | false => (g, x) :: fPut f u r) (if g = f then (g, v) :: s else (g, y) :: putF f v s)
    cases q : sEq g f with
    | true =>
      rw [if_pos (sEq_iff.mp q)]
      exact .cons ⟨rfl, h⟩ t
    | false =>
      rw [if_neg (fun z => by rw [z, sEq_self] at q; cases q)]
      exact .cons ⟨rfl, hx⟩ (RF.put h t)
theorem RK.get {k : Key} : ∀ {fs : List (Key × U)} {ws : List (Key × V)}, RK γ ρ fs ws → (kGet k fs = none ∧ valV ws k = none) ∨ ∃ u v, kGet k fs = some u ∧ valV ws k = some v ∧ RU γ ρ u v
  | _, _, .nil => .inl ⟨rfl, rfl⟩
  | (g, u) :: r, (g', v) :: s, .cons ⟨e, h⟩ t => by
    have e : g = g' := e
    subst e
    show ((match kEq g k with | true => some u | false => kGet k r) = none ∧ _) ∨ ∃ u' v', (match kEq g k with | true => some u | false => kGet k r) = some u' ∧ _
    cases q : kEq g k with
    | true =>
      refine .inr ⟨u, v, rfl, ?_, h⟩
      exact valV_pos (p := (g, v)) (kEq_iff.mp q)
    | false =>
      have n : ¬ g = k := fun z => by rw [z, kEq_iff.mpr rfl] at q; cases q
      rw [valV_neg (p := (g, v)) n]
      exact RK.get t
theorem RK.has {k : Key} : ∀ {fs : List (Key × U)} {ws : List (Key × V)}, RK γ ρ fs ws → kHas k fs = ws.any fun kv => decide (kv.1 = k)
  | _, _, .nil => rfl
  | (g, u) :: r, (g', v) :: s, .cons ⟨e, h⟩ t => by
    have e : g = g' := e
    subst e
    rw [List.any_cons]
    show (match kEq g k with | true => true | false => kHas k r) = (decide (g = k) || _)
    cases q : kEq g k with
    | true => rw [decide_eq_true (kEq_iff.mp q)]; rfl
    | false => rw [decide_eq_false (fun z => by rw [kEq_iff.mpr z] at q; cases q), RK.has t]; rfl
theorem RK.rep {k : Key} {u : U} {v : V} (h : RU γ ρ u v) : ∀ {fs : List (Key × U)} {ws : List (Key × V)}, RK γ ρ fs ws → RK γ ρ (kRep k u fs) (ws.map fun kv => if kv.1 = k then (kv.1, v) else kv)
  | _, _, .nil => .nil
  | (g, x) :: r, (g', y) :: s, .cons ⟨e, hx⟩ t => by
    have e : g = g' := e
    subst e
    rw [List.map_cons]
    show RK γ ρ (match kEq g k with | true => (g, u) :: kRep k u r | false => (g, x) :: kRep k u r) ((if g = k then (g, v) else (g, y)) :: _)
    cases q : kEq g k with
    | true => rw [if_pos (kEq_iff.mp q)]; exact .cons ⟨rfl, h⟩ (RK.rep h t)
    | false => rw [if_neg (fun z => by rw [kEq_iff.mpr z] at q; cases q)]; exact .cons ⟨rfl, hx⟩ (RK.rep h t)
theorem RK.put {k : Key} {u : U} {v : V} (h : RU γ ρ u v) {fs : List (Key × U)} {ws : List (Key × V)} (r : RK γ ρ fs ws) : RK γ ρ (kPut k u fs) (putK ws k v) := by
  unfold kPut putK
  rw [RK.has r]
  cases (ws.any fun kv => decide (kv.1 = k)) with
  | true => rw [if_pos rfl]; exact RK.rep h r
  | false => rw [if_neg Bool.false_ne_true]; exact Paired.snoc r ⟨rfl, h⟩
end

/-! ### what stands at the top: tuples and lists of the text's own, classes -/
structure GT where
  seq : Nat → Option (Bool × List U)
  fld : Nat → Str → Bool
structure GOk (K : PySem.W.Frag) (γ : Nat → Addr) (g : GT) : Prop where
  seq : ∀ k b xs, g.seq k = some (b, xs) → ∃ ys, RL γ [] xs ys ∧ ∀ H, (bif b then SqT K H (γ k) ys else SqL K H (γ k) ys)
  fld : ∀ c f, g.fld c f = true → Cls K (γ c) ∧ NoAttr K (γ c) f
/-- a list (false) or a tuple (true) -/
def seqOf (g : GT) (st : VS) : U → Option (Bool × List U)
  | .ref i => match st.get i with
    | some (.lst xs) => some (false, xs)
    | some (.tup xs) => some (true, xs)
    | _ => none
  | .glo k => g.seq k
  | _ => none
section
variable {K : PySem.W.Frag} {γ : Nat → Addr} {g : GT} {ρ : List Addr} {st : VS} {H : Hp}
theorem RL.any {us : List U} {vs : List V} (h : RL γ [] us vs) : RL γ ρ us vs := by
  have := RL.mono (l := ρ) h
  rwa [List.nil_append] at this
theorem seq_ok (G : GOk K γ g) (R : Rep γ ρ st H) {u : U} {v : V} (r : RU γ ρ u v) {b : Bool} {xs : List U} (e : seqOf g st u = some (b, xs)) : ∃ a ys, v = .ref a ∧ RL γ ρ xs ys ∧ (bif b then SqT K H a ys else SqL K H a ys) := by
  cases u with
  | ref i =>
    unfold seqOf at e
    simp only at e
    cases q : st.get i with
    | none => rw [q] at e; cases e
    | some o =>
      rw [q] at e
      cases o with
      | lst zs =>
        cases e
        obtain ⟨a, ev, _, ys, h, rl⟩ := R.get q r
        exact ⟨a, ys, ev, rl, Or.inl (Or.inl h)⟩
      | tup zs =>
        cases e
        obtain ⟨a, ev, _, ys, h, rl⟩ := R.get q r
        exact ⟨a, ys, ev, rl, Or.inl (Or.inl h)⟩
      | dct lk kvs => cases e
      | ins c fs => cases e
  | glo k =>
    obtain ⟨ys, rl, h⟩ := G.seq k b xs e
    exact ⟨γ k, ys, r, rl.any, h H⟩
  | non => cases e
  | bl _ => cases e
  | int _ => cases e
  | str _ => cases e
  | ty _ => cases e
end
end MV

namespace MV
open PySem L2

/-! ### either of two -/
theorem pe_or {X : Cx} {e : Expr} {t t' : TE} (h : PE X e t) (h' : PE X e t') : PE X e (fun σ H Q => t σ H Q ∨ t' σ H Q) := ⟨fun pins s σ H Q I q => q.elim (fun z => h.run pins s σ H Q I z) fun z => h'.run pins s σ H Q I z⟩
theorem pt_or2 {X : Cx} {e : Expr} {t t' : TT} (h : PT X e t) (h' : PT X e t') : PT X e (fun σ H Q => t σ H Q ∨ t' σ H Q) := ⟨fun pins s σ H Q I q => q.elim (fun z => h.run pins s σ H Q I z) fun z => h'.run pins s σ H Q I z⟩
theorem ps_or {X : Cx} {e : Stmt} {t t' : TS} (h : PS X e t) (h' : PS X e t') : PS X e (fun D σ H => t D σ H ∨ t' D σ H) := ⟨fun pins s σ H D I q => q.elim (fun z => h.run pins s σ H D I z) fun z => h'.run pins s σ H D I z⟩
def mOr {α : Type} (m m' : Fr → VS → Go α) : Fr → VS → Go α := fun σ st κ => match m σ st κ with
  | true => true
  | false => m' σ st κ
def mOrS (m m' : MS) : MS := fun σ st κ => match m σ st κ with
  | true => true
  | false => m' σ st κ
section
variable {γ : Nat → Addr} {W : WX} {X : Cx} {g : GT}
theorem SimAt.or {α β : Type} {τ : St} {Rv : List Addr → α → β → Prop} {ρ : List Addr} {H : Hp} {t t' : (β → Hp → Prop) → Prop} {m m' : Go α} (h : SimAt γ W τ Rv ρ H t m) (h' : SimAt γ W τ Rv ρ H t' m') :
    SimAt γ W τ Rv ρ H (fun Q => t Q ∨ t' Q) (fun κ => match m κ with | true => true | false => m' κ) := fun κ Q hm ok ex => by
  have hm2 : (match m κ with | true => true | false => m' κ) = true := hm
  cases q : m κ with
  | true => exact .inl (h κ Q q ok ex)
  | false => rw [q] at hm2; exact .inr (h' κ Q hm2 ok ex)
theorem se_or {e : Expr} {m m' : ME} (h : SE γ W X e m) (h' : SE γ W X e m') : SE γ W X e (mOr m m') := by
  obtain ⟨t, p, s⟩ := h
  obtain ⟨t', p', s'⟩ := h'
  exact ⟨_, pe_or p p', fun ρ st H σ τ R F => SimAt.or (s ρ st H σ τ R F) (s' ρ st H σ τ R F)⟩
theorem st_or {e : Expr} {m m' : MT} (h : ST γ W X e m) (h' : ST γ W X e m') : ST γ W X e (mOr m m') := by
  obtain ⟨t, p, s⟩ := h
  obtain ⟨t', p', s'⟩ := h'
  exact ⟨_, pt_or2 p p', fun ρ st H σ τ R F => SimAt.or (s ρ st H σ τ R F) (s' ρ st H σ τ R F)⟩
theorem ss_or {e : Stmt} {m m' : MS} (h : SS γ W X e m) (h' : SS γ W X e m') : SS γ W X e (mOrS m m') := by
  obtain ⟨t, p, s⟩ := h
  obtain ⟨t', p', s'⟩ := h'
  refine ⟨_, ps_or p p', fun ρ st H σ τ R F κ D hm ok => ?_⟩
  have hm2 : (match m σ st κ with | true => true | false => m' σ st κ) = true := hm
  cases q : m σ st κ with
  | true => exact .inl (s ρ st H σ τ R F κ D q ok)
  | false => rw [q] at hm2; exact .inr (s' ρ st H σ τ R F κ D hm2 ok)
/-- what is never run -/
theorem se_dead {e : Expr} : SE γ W X e (fun _ _ => bad) := ⟨fun _ _ _ => False, ⟨fun _ _ _ _ _ _ h => h.elim⟩, fun _ _ _ _ _ _ _ => SimAt.bad⟩
theorem ss_dead {s : Stmt} : SS γ W X s (fun _ _ _ => false) := ⟨fun _ _ _ => False, ⟨fun _ _ _ _ _ _ h => h.elim⟩, fun _ _ _ _ _ _ _ _ _ h => nomatch h⟩

/-! ### names, constants -/
def mVar (i : Nat) : ME := fun σ st κ => match σ[i]? with
  | some (some u) => κ (.ok u) st
  | _ => false
def mC (u : U) : ME := fun _ st κ => κ (.ok u) st
theorem se_var (i : Nat) {x : Str} {pos : Pos} (hN : X.N[i]? = some x := by rfl) (hv : Vis X.env.scope x := by first | exact Or.inl rfl | exact Or.inr (Or.inl rfl) | exact Or.inr (Or.inr rfl)) (hd : (x == ("__debug__" : Str)) = false := by decide)
    (hcd : (x == ("__classdict__" : Str)) = false := by decide) : SE γ W X (.Name x pos) (mVar i) :=
  ⟨tVar i, pe_var hN hv hd hcd, fun ρ st H σ τ R F κ Q hm ok _ => by
    have hm2 : (match σ[i]? with | some (some u) => κ (.ok u) st | _ => false) = true := hm
    cases q : σ[i]? with
    | none => rw [q] at hm2; cases hm2
    | some o =>
      cases o with
      | none => rw [q] at hm2; cases hm2
      | some u =>
        rw [q] at hm2
        obtain ⟨v, e, r⟩ := F.at_ i u q
        exact ⟨v, e, ok.here R r hm2⟩⟩
theorem SimAt.c {τ : St} {u : U} {v : V} {ρ : List Addr} {st : VS} {H : Hp} (R : Rep γ ρ st H) (r : RU γ ρ u v) : SimAt γ W τ (RU γ) ρ H (fun Q => tC v τ H Q) (fun κ => κ (.ok u) st) := SimAt.ret (u := u) R r
theorem se_int {i j pos} : SE γ W X (.Constant (.int i) j pos) (mC (.int i)) := ⟨_, pe_int, fun _ _ _ _ _ R _ => SimAt.c R rfl⟩
theorem se_bl {b j pos} : SE γ W X (.Constant (.bool b) j pos) (mC (.bl b)) := ⟨_, pe_bl, fun _ _ _ _ _ R _ => SimAt.c R rfl⟩
theorem se_non {j pos} : SE γ W X (.Constant .none j pos) (mC .non) := ⟨_, pe_non, fun _ _ _ _ _ R _ => SimAt.c R rfl⟩
theorem se_str {x j pos} : SE γ W X (.Constant (.str x) j pos) (mC (.str x)) := ⟨_, pe_str, fun _ _ _ _ _ R _ => SimAt.c R rfl⟩
/-- an object of the text's own by its name -/
theorem se_glo {x : Str} {k : Nat} {pos : Pos} (hm : X.mg x = some (.ref (γ k))) (hg : Gl X x := by rfl) (hd : (x == ("__debug__" : Str)) = false := by decide) : SE γ W X (.Name x pos) (mC (.glo k)) := ⟨_, pe_glob (v := .ref (γ k)) hg hm rfl hd, fun _ _ _ _ _ R _ => SimAt.c R rfl⟩
theorem se_gint {x : Str} {i : Int} {pos : Pos} (hm : ∃ t, X.mg x = some (.int i t)) (hg : Gl X x := by rfl) (hd : (x == ("__debug__" : Str)) = false := by decide) : SE γ W X (.Name x pos) (mC (.int i)) := by
  obtain ⟨t, hm⟩ := hm
  exact ⟨_, pe_glob (v := .int i) hg hm ⟨t, rfl⟩ hd, fun _ _ _ _ _ R _ => SimAt.c R rfl⟩
theorem se_gstr {x z : Str} {pos : Pos} (hm : ∃ t, X.mg x = some (.str z t)) (hg : Gl X x := by rfl) (hd : (x == ("__debug__" : Str)) = false := by decide) : SE γ W X (.Name x pos) (mC (.str z)) := by
  obtain ⟨t, hm⟩ := hm
  exact ⟨_, pe_glob (v := .str z) hg hm ⟨t, rfl⟩ hd, fun _ _ _ _ _ R _ => SimAt.c R rfl⟩
/-- a built-in class by its name -/
theorem se_ty {x : Str} {n : String} {pos : Pos} (hm : X.mg x = none) (hv : bootBuiltins x = some (.type n)) (hg : Gl X x := by rfl) (hn : x ≠ "__name__" := by decide) (hd : (x == ("__debug__" : Str)) = false := by decide) : SE γ W X (.Name x pos) (mC (.ty n)) :=
  ⟨_, pe_bltn (v := .ty n) hg hm hv rfl hn hd, fun _ _ _ _ _ R _ => SimAt.c R rfl⟩

/-! ### operators and comparisons by values -/
def Leaf2 (γ : Nat → Addr) (W : WX) (r : R2) (f : U → U → VS → Go U) : Prop := ∀ ρ st H τ u1 u2 v1 v2, Rep γ ρ st H → RU γ ρ u1 v1 → RU γ ρ u2 v2 → SimAt γ W τ (RU γ) ρ H (r v1 v2 H) (f u1 u2 st)
def Leaf1 (γ : Nat → Addr) (W : WX) (r : V → Hp → VK → Prop) (f : U → VS → Go U) : Prop := ∀ ρ st H τ u v, Rep γ ρ st H → RU γ ρ u v → SimAt γ W τ (RU γ) ρ H (r v H) (f u st)
def LeafL (γ : Nat → Addr) (W : WX) (r : List V → Hp → VK → Prop) (f : List U → VS → Go U) : Prop := ∀ ρ st H τ us vs, Rep γ ρ st H → RL γ ρ us vs → SimAt γ W τ (RU γ) ρ H (r vs H) (f us st)
def mBin (f : U → U → VS → Go U) (ma mb : ME) : ME := fun σ st => bnd (ma σ st) fun u1 st1 => bnd (mb σ st1) fun u2 st2 => f u1 u2 st2
theorem sim_bin {r : R2} {f : U → U → VS → Go U} {ta tb : TE} {ma mb : ME} (hf : Leaf2 γ W r f) (sa : ∀ ρ st H σ τ, Rep γ ρ st H → FrR γ ρ σ τ → SimAt γ W τ (RU γ) ρ H (ta τ H) (ma σ st)) (sb : ∀ ρ st H σ τ, Rep γ ρ st H → FrR γ ρ σ τ → SimAt γ W τ (RU γ) ρ H (tb τ H) (mb σ st))
    (ρ st H σ τ) (R : Rep γ ρ st H) (F : FrR γ ρ σ τ) : SimAt γ W τ (RU γ) ρ H (tOp r ta tb τ H) (mBin f ma mb σ st) := fun κ Q hm ok ex =>
  sa ρ st H σ τ R F _ _ hm (fun ρ1 st1 H1 u1 v1 s1 R1 r1 k1 => sb ρ1 st1 H1 σ τ R1 (F.step s1) _ _ k1 (fun ρ2 st2 H2 u2 v2 s2 R2 r2 k2 => hf ρ2 st2 H2 τ u1 u2 v1 v2 R2 (s2.ru r1) r2 _ _ k2 (ok.step (s1.trans s2)) (ex.step (s1.trans s2))) (ex.step s1)) ex
theorem se_bin {a b : Expr} {pos : Pos} {op : Operator} {r : R2} {f : U → U → VS → Go U} {ma mb : ME} (ho : OpR X (binaryOp op) r) (hf : Leaf2 γ W r f) (ha : SE γ W X a ma) (hb : SE γ W X b mb) : SE γ W X (.BinOp a op b pos) (mBin f ma mb) := by
  obtain ⟨ta, pa, sa⟩ := ha
  obtain ⟨tb, pb, sb⟩ := hb
  exact ⟨_, pe_op ho pa pb, sim_bin hf sa sb⟩
theorem se_cmp {a b : Expr} {pos : Pos} {op : CmpOp} {r : R2} {f : U → U → VS → Go U} {ma mb : ME} (ho : OpR X (compareOp op) r) (hf : Leaf2 γ W r f) (ha : SE γ W X a ma) (hb : SE γ W X b mb) (hm : behindInMarks op b = false := by first | exact nobehind _ (by decide) (by decide) | rfl) : SE γ W X (.Compare a [op] [b] pos) (mBin f ma mb) := by
  obtain ⟨ta, pa, sa⟩ := ha
  obtain ⟨tb, pb, sb⟩ := hb
  exact ⟨_, pe_cmpR ho pa pb hm, sim_bin hf sa sb⟩
/-- a value as a test: a bool -/
def mTest (m : ME) : MT := fun σ st => bnd (m σ st) fun u st1 κ => match u with
  | .bl b => κ (.ok b) st1
  | _ => false
theorem sim_test {t : TE} {m : ME} (s : ∀ ρ st H σ τ, Rep γ ρ st H → FrR γ ρ σ τ → SimAt γ W τ (RU γ) ρ H (t τ H) (m σ st)) (ρ st H σ τ) (R : Rep γ ρ st H) (F : FrR γ ρ σ τ) : SimAt γ W τ (fun _ a b => a = b) ρ H (tTest t τ H) (mTest m σ st) := fun κ Q hm ok ex =>
  s ρ st H σ τ R F _ _ hm (fun ρ1 st1 H1 u v s1 R1 r1 hm => by
    cases u with
    | bl b => exact ⟨b, r1, ok ρ1 st1 H1 b b s1 R1 rfl hm⟩
    | non => cases hm
    | int _ => cases hm
    | str _ => cases hm
    | ref _ => cases hm
    | glo _ => cases hm
    | ty _ => cases hm) ex
/-- a test by a value that is a bool -/
theorem st_val {e : Expr} {m : ME} (h : SE γ W X e m) (he : ∀ whole, isTrue e X.env whole = (do let v ← whole; standAt e.pos; holding [v] (truthy v)) := by intro _; rfl) : ST γ W X e (mTest m) := by
  obtain ⟨t, p, s⟩ := h
  exact ⟨_, pt_val p he, sim_test s⟩
theorem st_cmp {a b : Expr} {pos : Pos} {op : CmpOp} {r : R2} {f : U → U → VS → Go U} {ma mb : ME} (ho : OpR X (compareOp op) r) (hf : Leaf2 γ W r f) (ha : SE γ W X a ma) (hb : SE γ W X b mb) (hm : behindInMarks op b = false := by first | exact nobehind _ (by decide) (by decide) | rfl) : ST γ W X (.Compare a [op] [b] pos) (mTest (mBin f ma mb)) := by
  obtain ⟨ta, pa, sa⟩ := ha
  obtain ⟨tb, pb, sb⟩ := hb
  exact ⟨_, pt_cmpR ho pa pb hm, sim_test (sim_bin hf sa sb)⟩
/-- a op b op' c -/
def mChain (f f' : U → U → VS → Go U) (ma mb mc : ME) : ME := fun σ st => bnd (ma σ st) fun u1 st1 => bnd (mb σ st1) fun u2 st2 => bnd (f u1 u2 st2) fun k st3 κ => match k with
  | .bl true => bnd (mc σ st3) (fun u3 st4 => f' u2 u3 st4) κ
  | .bl false => κ (.ok (.bl false)) st3
  | _ => false
theorem sim_chain {r r' : R2} {f f' : U → U → VS → Go U} {ta tb tc : TE} {ma mb mc : ME} (hf : Leaf2 γ W r f) (hf' : Leaf2 γ W r' f') (sa : ∀ ρ st H σ τ, Rep γ ρ st H → FrR γ ρ σ τ → SimAt γ W τ (RU γ) ρ H (ta τ H) (ma σ st))
    (sb : ∀ ρ st H σ τ, Rep γ ρ st H → FrR γ ρ σ τ → SimAt γ W τ (RU γ) ρ H (tb τ H) (mb σ st)) (sc : ∀ ρ st H σ τ, Rep γ ρ st H → FrR γ ρ σ τ → SimAt γ W τ (RU γ) ρ H (tc τ H) (mc σ st))
    (ρ st H σ τ) (R : Rep γ ρ st H) (F : FrR γ ρ σ τ) : SimAt γ W τ (RU γ) ρ H (tChain r r' ta tb tc τ H) (mChain f f' ma mb mc σ st) := fun κ Q hm ok ex =>
  sa ρ st H σ τ R F _ _ hm (fun ρ1 st1 H1 u1 v1 s1 R1 r1 k1 => sb ρ1 st1 H1 σ τ R1 (F.step s1) _ _ k1 (fun ρ2 st2 H2 u2 v2 s2 R2 r2 k2 => hf ρ2 st2 H2 τ u1 u2 v1 v2 R2 (s2.ru r1) r2 _ _ k2 (fun ρ3 st3 H3 u3 v3 s3 R3 r3 hm => by
    have S := s1.trans (s2.trans s3)
    cases u3 with
    | bl b =>
      refine ⟨b, r3, ?_⟩
      cases b with
      | true =>
        rw [if_pos rfl]
        exact sc ρ3 st3 H3 σ τ R3 (F.step S) _ _ hm (fun ρ4 st4 H4 u4 v4 s4 R4 r4 k4 => hf' ρ4 st4 H4 τ u2 u4 v2 v4 R4 (s4.ru (s3.ru r2)) r4 _ _ k4 (ok.step (S.trans s4)) (ex.step (S.trans s4))) (ex.step S)
      | false =>
        rw [if_neg Bool.false_ne_true]
        exact ok ρ3 st3 H3 (.bl false) _ S R3 rfl hm
    | non => cases hm
    | int _ => cases hm
    | str _ => cases hm
    | ref _ => cases hm
    | glo _ => cases hm
    | ty _ => cases hm) (ex.step (s1.trans s2))) (ex.step s1)) ex
theorem se_chain {a b c : Expr} {pos : Pos} {op op' : CmpOp} {r r' : R2} {f f' : U → U → VS → Go U} {ma mb mc : ME} (ho : OpR X (compareOp op) r) (ho' : OpR X (compareOp op') r') (hf : Leaf2 γ W r f) (hf' : Leaf2 γ W r' f') (ha : SE γ W X a ma) (hb : SE γ W X b mb) (hc : SE γ W X c mc) (hm : lastMarks [op, op'] [b, c] = false := by rfl) :
    SE γ W X (.Compare a [op, op'] [b, c] pos) (mChain f f' ma mb mc) := by
  obtain ⟨ta, pa, sa⟩ := ha
  obtain ⟨tb, pb, sb⟩ := hb
  obtain ⟨tc, pc, sc⟩ := hc
  exact ⟨_, pe_chain ho ho' pa pb pc hm, sim_chain hf hf' sa sb sc⟩
theorem st_chain {a b c : Expr} {pos : Pos} {op op' : CmpOp} {r r' : R2} {f f' : U → U → VS → Go U} {ma mb mc : ME} (ho : OpR X (compareOp op) r) (ho' : OpR X (compareOp op') r') (hf : Leaf2 γ W r f) (hf' : Leaf2 γ W r' f') (ha : SE γ W X a ma) (hb : SE γ W X b mb) (hc : SE γ W X c mc) (hm : lastMarks [op, op'] [b, c] = false := by rfl) :
    ST γ W X (.Compare a [op, op'] [b, c] pos) (mTest (mChain f f' ma mb mc)) := by
  obtain ⟨ta, pa, sa⟩ := ha
  obtain ⟨tb, pb, sb⟩ := hb
  obtain ⟨tc, pc, sc⟩ := hc
  exact ⟨_, pt_chain ho ho' pa pb pc hm, sim_test (sim_chain hf hf' sa sb sc)⟩

/-! ### and, or, not, if: tests -/
def mAnd (m n : MT) : MT := fun σ st => bnd (m σ st) fun b st1 => match b with
  | true => n σ st1
  | false => ret false st1
def mOrT (m n : MT) : MT := fun σ st => bnd (m σ st) fun b st1 => match b with
  | true => ret true st1
  | false => n σ st1
def mNot (m : MT) : MT := fun σ st => bnd (m σ st) fun b st1 => ret (!b) st1
theorem sim_and {t u : TT} {m n : MT} (sa : ∀ ρ st H σ τ, Rep γ ρ st H → FrR γ ρ σ τ → SimAt γ W τ (fun _ a b => a = b) ρ H (t τ H) (m σ st)) (sb : ∀ ρ st H σ τ, Rep γ ρ st H → FrR γ ρ σ τ → SimAt γ W τ (fun _ a b => a = b) ρ H (u τ H) (n σ st))
    (ρ st H σ τ) (R : Rep γ ρ st H) (F : FrR γ ρ σ τ) : SimAt γ W τ (fun _ a b => a = b) ρ H (tAnd t u τ H) (mAnd m n σ st) := fun κ Q hm ok ex =>
  sa ρ st H σ τ R F _ _ hm (fun ρ1 st1 H1 u1 v1 s1 R1 r1 hm => by
    have r1 : u1 = v1 := r1
    subst r1
    cases u1 with
    | true => show u τ H1 Q; exact sb ρ1 st1 H1 σ τ R1 (F.step s1) κ Q hm (ok.step s1) (ex.step s1)
    | false => show Q false H1; exact ok ρ1 st1 H1 _ _ s1 R1 rfl hm) ex
theorem sim_orT {t u : TT} {m n : MT} (sa : ∀ ρ st H σ τ, Rep γ ρ st H → FrR γ ρ σ τ → SimAt γ W τ (fun _ a b => a = b) ρ H (t τ H) (m σ st)) (sb : ∀ ρ st H σ τ, Rep γ ρ st H → FrR γ ρ σ τ → SimAt γ W τ (fun _ a b => a = b) ρ H (u τ H) (n σ st))
    (ρ st H σ τ) (R : Rep γ ρ st H) (F : FrR γ ρ σ τ) : SimAt γ W τ (fun _ a b => a = b) ρ H (tOr t u τ H) (mOrT m n σ st) := fun κ Q hm ok ex =>
  sa ρ st H σ τ R F _ _ hm (fun ρ1 st1 H1 u1 v1 s1 R1 r1 hm => by
    have r1 : u1 = v1 := r1
    subst r1
    cases u1 with
    | false => show u τ H1 Q; exact sb ρ1 st1 H1 σ τ R1 (F.step s1) κ Q hm (ok.step s1) (ex.step s1)
    | true => show Q true H1; exact ok ρ1 st1 H1 _ _ s1 R1 rfl hm) ex
theorem sw_and1 {a : Expr} {pos : Pos} {m : MT} (h : ST γ W X a m) : SW γ W X (.BoolOp .And [a] pos) m := by
  obtain ⟨t, p, s⟩ := h; exact ⟨_, pw_and1 p, s⟩
theorem sw_or1 {a : Expr} {pos : Pos} {m : MT} (h : ST γ W X a m) : SW γ W X (.BoolOp .Or [a] pos) m := by
  obtain ⟨t, p, s⟩ := h; exact ⟨_, pw_or1 p, s⟩
theorem sw_and {a b : Expr} {rest : List Expr} {pos : Pos} {m n : MT} (h : ST γ W X a m) (h' : SW γ W X (.BoolOp .And (b :: rest) pos) n) : SW γ W X (.BoolOp .And (a :: b :: rest) pos) (mAnd m n) := by
  obtain ⟨t, p, s⟩ := h
  obtain ⟨t', p', s'⟩ := h'
  exact ⟨_, pw_and p p', sim_and s s'⟩
theorem sw_or {a b : Expr} {rest : List Expr} {pos : Pos} {m n : MT} (h : ST γ W X a m) (h' : SW γ W X (.BoolOp .Or (b :: rest) pos) n) : SW γ W X (.BoolOp .Or (a :: b :: rest) pos) (mOrT m n) := by
  obtain ⟨t, p, s⟩ := h
  obtain ⟨t', p', s'⟩ := h'
  exact ⟨_, pw_or p p', sim_orT s s'⟩
theorem SW.st {e : Expr} {m : MT} (h : SW γ W X e m) : ST γ W X e m := by
  obtain ⟨t, p, s⟩ := h; exact ⟨_, p.pt, s⟩
theorem st_not {a : Expr} {pos : Pos} {m : MT} (h : ST γ W X a m) : ST γ W X (.UnaryOp .Not a pos) (mNot m) := by
  obtain ⟨t, p, s⟩ := h
  refine ⟨_, pt_not p, fun ρ st H σ τ R F κ Q hm ok ex => s ρ st H σ τ R F _ _ hm (fun ρ1 st1 H1 u1 v1 s1 R1 r1 hm => ?_) ex⟩
  have r1 : u1 = v1 := r1
  subst r1
  exact ok ρ1 st1 H1 _ _ s1 R1 rfl hm
/-! ### as values -/
def mAndV (m n : ME) : ME := fun σ st => bnd (m σ st) fun u st1 κ => match u with
  | .bl true => n σ st1 κ
  | .bl false => κ (.ok (.bl false)) st1
  | _ => false
def mOrV (m n : ME) : ME := fun σ st => bnd (m σ st) fun u st1 κ => match u with
  | .bl false => n σ st1 κ
  | .bl true => κ (.ok (.bl true)) st1
  | _ => false
def mNotV (m : ME) : ME := fun σ st => bnd (m σ st) fun u st1 κ => match u with
  | .bl b => κ (.ok (.bl (!b))) st1
  | _ => false
theorem se_one {a : Expr} {op pos} {m : ME} (h : SE γ W X a m) : SE γ W X (.BoolOp op [a] pos) m := by
  obtain ⟨t, p, s⟩ := h; exact ⟨_, pe_one p, s⟩
theorem se_and {a b : Expr} {rest : List Expr} {pos : Pos} {m n : ME} (h : SE γ W X a m) (h' : SE γ W X (.BoolOp .And (b :: rest) pos) n) : SE γ W X (.BoolOp .And (a :: b :: rest) pos) (mAndV m n) := by
  obtain ⟨t, p, s⟩ := h
  obtain ⟨t', p', s'⟩ := h'
  refine ⟨_, pe_and p p', fun ρ st H σ τ R F κ Q hm ok ex => s ρ st H σ τ R F _ _ hm (fun ρ1 st1 H1 u1 v1 s1 R1 r1 hm => ?_) ex⟩
  cases u1 with
  | bl b =>
    refine ⟨b, r1, ?_⟩
    cases b with
    | true => show t' τ H1 Q; exact s' ρ1 st1 H1 σ τ R1 (F.step s1) κ Q hm (ok.step s1) (ex.step s1)
    | false => show Q (.bl false) H1; exact ok ρ1 st1 H1 (.bl false) _ s1 R1 rfl hm
  | non => cases hm
  | int _ => cases hm
  | str _ => cases hm
  | ref _ => cases hm
  | glo _ => cases hm
  | ty _ => cases hm
theorem se_orV {a b : Expr} {rest : List Expr} {pos : Pos} {m n : ME} (h : SE γ W X a m) (h' : SE γ W X (.BoolOp .Or (b :: rest) pos) n) : SE γ W X (.BoolOp .Or (a :: b :: rest) pos) (mOrV m n) := by
  obtain ⟨t, p, s⟩ := h
  obtain ⟨t', p', s'⟩ := h'
  refine ⟨_, PE.mk (L2.pe_or p p').run, fun ρ st H σ τ R F κ Q hm ok ex => s ρ st H σ τ R F _ _ hm (fun ρ1 st1 H1 u1 v1 s1 R1 r1 hm => ?_) ex⟩
  cases u1 with
  | bl b =>
    refine ⟨b, r1, ?_⟩
    cases b with
    | false => show t' τ H1 Q; exact s' ρ1 st1 H1 σ τ R1 (F.step s1) κ Q hm (ok.step s1) (ex.step s1)
    | true => show Q (.bl true) H1; exact ok ρ1 st1 H1 (.bl true) _ s1 R1 rfl hm
  | non => cases hm
  | int _ => cases hm
  | str _ => cases hm
  | ref _ => cases hm
  | glo _ => cases hm
  | ty _ => cases hm
theorem se_not {a : Expr} {pos : Pos} {m : ME} (h : SE γ W X a m) : SE γ W X (.UnaryOp .Not a pos) (mNotV m) := by
  obtain ⟨t, p, s⟩ := h
  refine ⟨_, pe_not p, fun ρ st H σ τ R F κ Q hm ok ex => s ρ st H σ τ R F _ _ hm (fun ρ1 st1 H1 u1 v1 s1 R1 r1 hm => ?_) ex⟩
  cases u1 with
  | bl b => exact ⟨b, r1, ok ρ1 st1 H1 (.bl (!b)) _ s1 R1 rfl hm⟩
  | non => cases hm
  | int _ => cases hm
  | str _ => cases hm
  | ref _ => cases hm
  | glo _ => cases hm
  | ty _ => cases hm
def mIf (c : MT) (m n : ME) : ME := fun σ st => bnd (c σ st) fun b st1 => match b with
  | true => m σ st1
  | false => n σ st1
theorem se_if {c a b : Expr} {pos : Pos} {mc : MT} {m n : ME} (hc : ST γ W X c mc) (h : SE γ W X a m) (h' : SE γ W X b n) : SE γ W X (.IfExp c a b pos) (mIf mc m n) := by
  obtain ⟨tc, pc, sc⟩ := hc
  obtain ⟨t, p, s⟩ := h
  obtain ⟨t', p', s'⟩ := h'
  refine ⟨_, pe_ifExp pc p p', fun ρ st H σ τ R F κ Q hm ok ex => sc ρ st H σ τ R F _ _ hm (fun ρ1 st1 H1 u1 v1 s1 R1 r1 hm => ?_) ex⟩
  have r1 : u1 = v1 := r1
  subst r1
  cases u1 with
  | true => show t τ H1 Q; exact s ρ1 st1 H1 σ τ R1 (F.step s1) κ Q hm (ok.step s1) (ex.step s1)
  | false => show t' τ H1 Q; exact s' ρ1 st1 H1 σ τ R1 (F.step s1) κ Q hm (ok.step s1) (ex.step s1)

/-! ### arguments, displays -/
def mNil : MA := fun _ st => ret [] st
def mCons (m : ME) (ms : MA) : MA := fun σ st => bnd (m σ st) fun u st1 => bnd (ms σ st1) fun us st2 => ret (u :: us) st2
theorem sa_nil : SA γ W X [] mNil := ⟨_, pa_nil, fun _ _ _ _ _ R _ => SimAt.ret R .nil⟩
theorem sa_cons {e : Expr} {es : List Expr} {m : ME} {ms : MA} (h : SE γ W X e m) (h' : SA γ W X es ms) (hs : starEach (e :: es) X.env = (false, eval e X.env) :: starEach es X.env := by rfl) : SA γ W X (e :: es) (mCons m ms) := by
  obtain ⟨t, p, s⟩ := h
  obtain ⟨t', p', s'⟩ := h'
  exact ⟨_, pa_cons p p' hs, fun ρ st H σ τ R F κ Q hm ok ex => s ρ st H σ τ R F _ _ hm (fun ρ1 st1 H1 u v s1 R1 r1 k1 => s' ρ1 st1 H1 σ τ R1 (F.step s1) _ _ k1 (fun ρ2 st2 H2 us vs s2 R2 r2 k2 => ok ρ2 st2 H2 _ _ (s1.trans s2) R2 (.cons (s2.ru r1) r2) k2) (ex.step s1)) ex⟩
def line : Nat := 16777216
theorem line_ok {n : Nat} (h : Nat.ble n line = true) : n ≤ sizeLine := by
  have := Nat.le_of_ble_eq_true h
  rw [sizeLine_eq]; exact this
theorem line_lt {n : Nat} (h : Nat.blt n line = true) : n < sizeLine := by
  have : n + 1 ≤ line := Nat.le_of_ble_eq_true h
  rw [sizeLine_eq]; exact this
def mTup (ms : MA) : ME := fun σ st => bnd (ms σ st) fun us st1 κ => match Nat.ble us.length line with
  | true => κ (.ok (.ref st1.n)) (st1.new (.tup us))
  | false => false
def mLst (ms : MA) : ME := fun σ st => bnd (ms σ st) fun us st1 κ => match Nat.ble us.length line with
  | true => κ (.ok (.ref st1.n)) (st1.new (.lst us))
  | false => false
theorem RL.length {ρ : List Addr} {us : List U} {vs : List V} (h : RL γ ρ us vs) : us.length = vs.length := Paired.length h
theorem se_tup {es : List Expr} {x1 pos} {ms : MA} (h : SA γ W X es ms) : SE γ W X (.Tuple es x1 pos) (mTup ms) := by
  obtain ⟨t, p, s⟩ := h
  refine ⟨_, pe_tup p, fun ρ st H σ τ R F κ Q hm ok ex => s ρ st H σ τ R F _ _ hm (fun ρ1 st1 H1 us vs s1 R1 r1 hm => ?_) ex⟩
  have hm2 : (match Nat.ble us.length line with | true => κ (.ok (.ref st1.n)) (st1.new (.tup us)) | false => false) = true := hm
  cases q : Nat.ble us.length line with
  | false => rw [q] at hm2; cases hm2
  | true =>
    rw [q] at hm2
    exact ⟨by rw [← r1.length]; exact line_ok q, (ok.step s1).alloc R1 hm2 (fun p => ⟨vs, upd_same, r1.mono⟩)⟩
theorem se_lst {es : List Expr} {pos} {ms : MA} (h : SA γ W X es ms) : SE γ W X (.List es pos) (mLst ms) := by
  obtain ⟨t, p, s⟩ := h
  refine ⟨_, pe_lst p, fun ρ st H σ τ R F κ Q hm ok ex => s ρ st H σ τ R F _ _ hm (fun ρ1 st1 H1 us vs s1 R1 r1 hm => ?_) ex⟩
  have hm2 : (match Nat.ble us.length line with | true => κ (.ok (.ref st1.n)) (st1.new (.lst us)) | false => false) = true := hm
  cases q : Nat.ble us.length line with
  | false => rw [q] at hm2; cases hm2
  | true =>
    rw [q] at hm2
    exact ⟨by rw [← r1.length]; exact line_ok q, (ok.step s1).alloc R1 hm2 (fun p => ⟨vs, upd_same, r1.mono⟩)⟩
/-- {} -/
def mDict0 : ME := fun _ st κ => κ (.ok (.ref st.n)) (st.new (.dct false []))
theorem se_dict0 {pos} : SE γ W X (.Dict [] [] pos) mDict0 := ⟨_, pe_dnewK, fun ρ st H σ τ R F κ Q hm ok ex => ok.alloc R hm (fun p => ⟨[], upd_same, .nil⟩)⟩

/-! ### attributes -/
def mFld (g : GT) (f : Str) (m : ME) : ME := fun σ st => bnd (m σ st) fun u st1 κ => match u with
  | .ref i => match st1.get i with
    | some (.ins c fs) => match g.fld c f, fGet f fs with
      | true, some w => κ (.ok w) st1
      | _, _ => false
    | _ => false
  | _ => false
theorem se_fld {e : Expr} {f : Str} {pos : Pos} {m : ME} (G : GOk X.K γ g) (h : SE γ W X e m) (hb : attributeBase e f X.env (eval e X.env) = eval e X.env := by rfl) : SE γ W X (.Attribute e f pos) (mFld g f m) := by
  obtain ⟨t, p, s⟩ := h
  refine ⟨_, pe_fld p hb, fun ρ st H σ τ R F κ Q hm ok ex => s ρ st H σ τ R F _ _ hm (fun ρ1 st1 H1 u v s1 R1 r1 hm => ?_) ex⟩
  cases u with
  | ref i =>
    have hm2 : (match st1.get i with | some (.ins c fs) => (match g.fld c f, fGet f fs with | true, some w => κ (.ok w) st1 | _, _ => false) | _ => false) = true := hm
    cases q : st1.get i with
    | none => rw [q] at hm2; cases hm2
    | some o =>
      cases o with
      | ins c fs =>
        rw [q] at hm2
        obtain ⟨a, ev, _, dx, ws, ho, rf⟩ := R1.get q r1
        have hm3 : (match g.fld c f, fGet f fs with | true, some w => κ (.ok w) st1 | _, _ => false) = true := hm2
        cases qf : g.fld c f with
        | false => rw [qf] at hm3; cases hm3
        | true =>
          rw [qf] at hm3
          rcases rf.get (f := f) with ⟨e1, _⟩ | ⟨w, x, e1, e2, rw'⟩
          · rw [e1] at hm3; cases hm3
          · rw [e1] at hm3
            obtain ⟨c1, c2⟩ := G.fld c f qf
            exact ⟨a, _, dx, ws, x, ev, ho, c1, c2, e2, ok ρ1 st1 H1 w x s1 R1 rw' hm3⟩
      | lst _ => rw [q] at hm2; cases hm2
      | tup _ => rw [q] at hm2; cases hm2
      | dct _ _ => rw [q] at hm2; cases hm2
  | non => cases hm
  | bl _ => cases hm
  | int _ => cases hm
  | str _ => cases hm
  | glo _ => cases hm
  | ty _ => cases hm
end
end MV

namespace MV
open PySem L2
section
variable {γ : Nat → Addr} {W : WX} {X : Cx} {g : GT}
/-- from a value on to a statement's end -/
def onE (κ : Out → Fr → VS → Bool) (σ : Fr) {α : Type} (f : α → VS → Bool) : Rs α → VS → Bool := fun r st => match r with
  | .ok u => f u st
  | .ex x => κ (.ex x) σ st
theorem EndsOk.exK {ρ : List Addr} {H : Hp} {κ : Out → Fr → VS → Bool} {D : Ends} {σ : Fr} {τ : St} {α : Type} {f : α → VS → Bool} (ok : EndsOk γ W ρ H κ D) (F : FrR γ ρ σ τ) : ExK γ W τ ρ H (onE κ σ f) := fun ρ' st' H' x c d s R r k => ok.ex ρ' st' H' σ τ x c d s R (F.step s) r k

/-! ### blocks -/
def mNext : MS := fun σ st κ => κ .nx σ st
def mSeq (m n : MS) : MS := fun σ st κ => m σ st fun o σ1 st1 => match o with
  | .nx => n σ1 st1 κ
  | .bk => κ .bk σ1 st1
  | .ct => κ .ct σ1 st1
  | .rt u => κ (.rt u) σ1 st1
  | .ex x => κ (.ex x) σ1 st1
theorem sss_nil : SSs γ W X [] mNext := ⟨_, pss_nil, fun ρ st H σ τ R F κ D hm ok => ok.nx ρ st H σ τ (Step.refl _ _) R F hm⟩
theorem sss_cons {s : Stmt} {ss : List Stmt} {m n : MS} (h : SS γ W X s m) (h' : SSs γ W X ss n) : SSs γ W X (s :: ss) (mSeq m n) := by
  obtain ⟨t, p, q⟩ := h
  obtain ⟨t', p', q'⟩ := h'
  exact ⟨_, pss_cons p p', fun ρ st H σ τ R F κ D hm ok => q ρ st H σ τ R F _ _ hm
    ⟨fun ρ1 st1 H1 σ1 τ1 s1 R1 F1 k => q' ρ1 st1 H1 σ1 τ1 R1 F1 κ D k (ok.step s1), fun ρ1 st1 H1 σ1 τ1 s1 R1 F1 k => ok.bk ρ1 st1 H1 σ1 τ1 s1 R1 F1 k, fun ρ1 st1 H1 σ1 τ1 s1 R1 F1 k => ok.ct ρ1 st1 H1 σ1 τ1 s1 R1 F1 k,
      fun ρ1 st1 H1 σ1 u v s1 R1 r k => ok.rt ρ1 st1 H1 σ1 u v s1 R1 r k, fun ρ1 st1 H1 σ1 τ1 x c d s1 R1 F1 r k => ok.ex ρ1 st1 H1 σ1 τ1 x c d s1 R1 F1 r k⟩⟩
theorem sss_one {s : Stmt} {m : MS} (h : SS γ W X s m) : SSs γ W X [s] m := by
  obtain ⟨t, p, q⟩ := h
  exact ⟨_, pss_one p, q⟩
theorem sss_dead {ss : List Stmt} : SSs γ W X ss (fun _ _ _ => false) := ⟨fun _ _ _ => False, ⟨fun _ _ _ _ _ _ h => h.elim⟩, fun _ _ _ _ _ _ _ _ _ h => nomatch h⟩
theorem ss_pass {pos} : SS γ W X (.Pass pos) mNext := ⟨_, ps_pass, fun ρ st H σ τ R F κ D hm ok => ok.nx ρ st H σ τ (Step.refl _ _) R F hm⟩
def mBreak : MS := fun σ st κ => κ .bk σ st
theorem ss_break {pos} : SS γ W X (.Break pos) mBreak := ⟨_, ps_break, fun ρ st H σ τ R F κ D hm ok => ok.bk ρ st H σ τ (Step.refl _ _) R F hm⟩
def mCont : MS := fun σ st κ => κ .ct σ st
theorem ss_cont {pos} : SS γ W X (.Continue pos) mCont := ⟨_, ps_continue, fun ρ st H σ τ R F κ D hm ok => ok.ct ρ st H σ τ (Step.refl _ _) R F hm⟩
def mDrop (m : ME) : MS := fun σ st κ => m σ st (onE κ σ fun _ st1 => κ .nx σ st1)
theorem ss_expr {e : Expr} {pos : Pos} {m : ME} (h : SE γ W X e m) (hs : swapsWith e none pos.line X.env = pure false := by rfl) : SS γ W X (.Expr e pos) (mDrop m) := by
  obtain ⟨t, p, s⟩ := h
  exact ⟨_, L2.ps_expr p hs, fun ρ st H σ τ R F κ D hm ok => s ρ st H σ τ R F _ _ hm (fun ρ1 st1 H1 u v s1 R1 r1 k => ok.nx ρ1 st1 H1 σ τ s1 R1 (F.step s1) k) (ok.exK F)⟩
def mRet (m : ME) : MS := fun σ st κ => m σ st (onE κ σ fun u st1 => κ (.rt u) σ st1)
theorem ss_ret {e : Expr} {pos : Pos} {m : ME} (h : SE γ W X e m) : SS γ W X (.Return (some e) pos) (mRet m) := by
  obtain ⟨t, p, s⟩ := h
  exact ⟨_, ps_ret p, fun ρ st H σ τ R F κ D hm ok => s ρ st H σ τ R F _ _ hm (fun ρ1 st1 H1 u v s1 R1 r1 k => ok.rt ρ1 st1 H1 σ u v s1 R1 r1 k) (ok.exK F)⟩
def mRetN : MS := fun σ st κ => κ (.rt .non) σ st
theorem ss_retN {pos} : SS γ W X (.Return none pos) mRetN := ⟨_, ps_retN, fun ρ st H σ τ R F κ D hm ok => ok.rt ρ st H σ .non .non (Step.refl _ _) R rfl hm⟩
def mIfS (c : MT) (m n : MS) : MS := fun σ st κ => c σ st (onE κ σ fun b st1 => match b with
  | true => m σ st1 κ
  | false => n σ st1 κ)
theorem ss_if {c : Expr} {a b : List Stmt} {pos : Pos} {mc : MT} {m n : MS} (hc : ST γ W X c mc) (h : SSs γ W X a m) (h' : SSs γ W X b n) : SS γ W X (.If c a b pos) (mIfS mc m n) := by
  obtain ⟨tc, pc, sc⟩ := hc
  obtain ⟨t, p, s⟩ := h
  obtain ⟨t', p', s'⟩ := h'
  refine ⟨_, ps_if pc p p', fun ρ st H σ τ R F κ D hm ok => sc ρ st H σ τ R F _ _ hm (fun ρ1 st1 H1 u v s1 R1 r1 k => ?_) (ok.exK F)⟩
  have r1 : u = v := r1
  subst r1
  cases u with
  | true => show t D τ H1; exact s ρ1 st1 H1 σ τ R1 (F.step s1) κ D k (ok.step s1)
  | false => show t' D τ H1; exact s' ρ1 st1 H1 σ τ R1 (F.step s1) κ D k (ok.step s1)

/-! ### targets -/
abbrev MG := U → Fr → VS → (Fr → VS → Bool) → Bool
abbrev MGs := List U → Fr → VS → (Fr → VS → Bool) → Bool
/-- the slots but sl are as before -/
def Same (sl : List Nat) (τ τ' : St) : Prop := τ'.length = τ.length ∧ ∀ j, j ∉ sl → τ'[j]? = τ[j]?
theorem Same.refl (sl : List Nat) (τ : St) : Same sl τ τ := ⟨rfl, fun _ _ => rfl⟩
theorem Same.trans {sl : List Nat} {τ τ1 τ2 : St} (a : Same sl τ τ1) (b : Same sl τ1 τ2) : Same sl τ τ2 := ⟨b.1.trans a.1, fun j h => (b.2 j h).trans (a.2 j h)⟩
theorem Same.mono {sl sm : List Nat} {τ τ' : St} (a : Same sl τ τ') (h : ∀ j ∈ sl, j ∈ sm) : Same sm τ τ' := ⟨a.1, fun j n => a.2 j fun z => n (h j z)⟩
def GK (γ : Nat → Addr) (sl : List Nat) (τ : St) (ρ : List Addr) (H : Hp) (κ : Fr → VS → Bool) (Q : St → Hp → Prop) : Prop := ∀ ρ' st' H' σ' τ', Step ρ H ρ' H' → Rep γ ρ' st' H' → FrR γ ρ' σ' τ' → Same sl τ τ' → κ σ' st' = true → Q τ' H'
def SimG (γ : Nat → Addr) (sl : List Nat) (t : TG) (m : MG) : Prop := ∀ ρ st H σ τ u v, Rep γ ρ st H → FrR γ ρ σ τ → RU γ ρ u v → ∀ κ Q, m u σ st κ = true → GK γ sl τ ρ H κ Q → t v τ H Q
def SimGs (γ : Nat → Addr) (sl : List Nat) (t : TGs) (m : MGs) : Prop := ∀ ρ st H σ τ us vs, Rep γ ρ st H → FrR γ ρ σ τ → RL γ ρ us vs → ∀ κ Q, m us σ st κ = true → GK γ sl τ ρ H κ Q → t vs τ H Q
def SG (γ : Nat → Addr) (X : Cx) (sl : List Nat) (tg : Expr) (m : MG) : Prop := ∃ t, PG X tg t ∧ SimG γ sl t m
def SGs (γ : Nat → Addr) (X : Cx) (sl : List Nat) (tg : List Expr) (m : MGs) : Prop := ∃ t, PGs X tg t ∧ SimGs γ sl t m
def mgName (i : Nat) : MG := fun u σ st κ => κ (σ.set i (some u)) st
theorem sg_name {i : Nat} {x : Str} {pos : Pos} (hN : X.N.Nodup) (hi : X.N[i]? = some x := by rfl) (hx : Loc X.env.scope x := by first | exact Or.inl rfl | exact Or.inr rfl)
    (hf : X.fn x = true ∨ X.env.scope.names.lookup x = some .local := by first | exact .inl rfl | exact .inr rfl | assumption) : SG γ X [i] (.Name x pos) (mgName i) :=
  ⟨_, pg_name hN hi hx hf, fun ρ st H σ τ u v R F r κ Q hm ok => ok ρ st H _ _ (Step.refl _ _) R (F.set i r) ⟨List.length_set, fun j h => List.getElem?_set_ne (fun z => h (by rw [z]; exact List.mem_singleton.mpr rfl))⟩ hm⟩
def mgNil : MGs := fun us σ st κ => match us with
  | [] => κ σ st
  | _ => false
def mgCons (m : MG) (ms : MGs) : MGs := fun us σ st κ => match us with
  | [] => false
  | u :: r => m u σ st fun σ1 st1 => ms r σ1 st1 κ
theorem sgs_nil : SGs γ X [] [] mgNil := ⟨_, pgs_nil, fun ρ st H σ τ us vs R F r κ Q hm ok => by
  cases r with
  | nil => exact ⟨rfl, ok ρ st H σ τ (Step.refl _ _) R F (Same.refl _ _) hm⟩
  | cons _ _ => cases hm⟩
theorem sgs_cons {sl sm : List Nat} {e : Expr} {es : List Expr} {m : MG} {ms : MGs} (h : SG γ X sl e m) (h' : SGs γ X sm es ms) (hs : (assignEach (e :: es) X.env).map (·.2) = assign e X.env :: (assignEach es X.env).map (·.2) := by rfl) : SGs γ X (sl ++ sm) (e :: es) (mgCons m ms) := by
  obtain ⟨t, p, s⟩ := h
  obtain ⟨t', p', s'⟩ := h'
  refine ⟨_, pgs_cons p p' hs, fun ρ st H σ τ us vs R F r κ Q hm ok => ?_⟩
  cases r with
  | nil => cases hm
  | cons r1 rs => exact ⟨_, _, rfl, s ρ st H σ τ _ _ R F r1 _ _ hm fun ρ1 st1 H1 σ1 τ1 s1 R1 F1 S1 k => s' ρ1 st1 H1 σ1 τ1 _ _ R1 F1 (s1.rl rs) κ Q k fun ρ2 st2 H2 σ2 τ2 s2 R2 F2 S2 k2 =>
      ok ρ2 st2 H2 σ2 τ2 (s1.trans s2) R2 F2 ((S1.mono fun j z => List.mem_append_left _ z).trans (S2.mono fun j z => List.mem_append_right _ z)) k2⟩
/-- (a, b, ..) = a tuple, a list -/
def mgTup (g : GT) (n : Nat) (ms : MGs) : MG := fun u σ st κ => match seqOf g st u with
  | some (_, xs) => match Nat.beq xs.length n with
    | true => ms xs σ st κ
    | false => false
  | none => false
theorem sg_tup {sl : List Nat} {es : List Expr} {k : Nat} {pos : Pos} {n : Nat} {ms : MGs} (G : GOk X.K γ g) (hc : X.calm = true) (h : SGs γ X sl es ms) (hn : (assignEach es X.env).length = n := by rfl) (hst : (assignEach es X.env).findIdx? (·.1) = none := by rfl) : SG γ X sl (.Tuple es k pos) (mgTup g n ms) := by
  obtain ⟨t, p, s⟩ := h
  have P : PG X (.Tuple es k pos) (fun v σ H Q => gTup X.K n t v σ H Q ∨ gUnl X.K n t v σ H Q) := ⟨fun pins s σ H v u Q I r hw => hw.elim (fun z => (pg_tup hc p hn hst).run pins s σ H v u Q I r z) fun z => (pg_unl hc p hn hst).run pins s σ H v u Q I r z⟩
  refine ⟨_, P, fun ρ st H σ τ u v R F r κ Q hm ok => ?_⟩
  have hm2 : (match seqOf g st u with | some (_, xs) => (match Nat.beq xs.length n with | true => ms xs σ st κ | false => false) | none => false) = true := hm
  cases q : seqOf g st u with
  | none => rw [q] at hm2; cases hm2
  | some bx =>
    obtain ⟨b, xs⟩ := bx
    rw [q] at hm2
    have hm3 : (match Nat.beq xs.length n with | true => ms xs σ st κ | false => false) = true := hm2
    obtain ⟨a, ys, ev, rl, hs⟩ := seq_ok G R r q
    cases ql : Nat.beq xs.length n with
    | false => rw [ql] at hm3; cases hm3
    | true =>
      rw [ql] at hm3
      have hl : ys.length = n := by rw [← rl.length]; exact Nat.eq_of_beq_eq_true ql
      cases b with
      | true => exact .inl ⟨a, ys, ev, hs, hl, s ρ st H σ τ xs ys R F rl κ Q hm3 ok⟩
      | false => exact .inr ⟨a, ys, ev, hs, hl, s ρ st H σ τ xs ys R F rl κ Q hm3 ok⟩

/-! ### assignments -/
def mAsg (m : ME) (mg : MG) : MS := fun σ st κ => m σ st (onE κ σ fun u st1 => mg u σ st1 fun σ2 st2 => κ .nx σ2 st2)
theorem sim_asg {sl : List Nat} {te : TE} {tg : TG} {m : ME} {mg : MG} (s : ∀ ρ st H σ τ, Rep γ ρ st H → FrR γ ρ σ τ → SimAt γ W τ (RU γ) ρ H (te τ H) (m σ st)) (sg : SimG γ sl tg mg)
    (ρ st H σ τ) (R : Rep γ ρ st H) (F : FrR γ ρ σ τ) : SimS γ W ρ H (fun D => tAsg te tg D τ H) (mAsg m mg σ st) := fun κ D hm ok =>
  s ρ st H σ τ R F _ _ hm (fun ρ1 st1 H1 u v s1 R1 r1 k => sg ρ1 st1 H1 σ τ u v R1 (F.step s1) r1 _ _ k fun ρ2 st2 H2 σ2 τ2 s2 R2 F2 _ k2 => ok.nx ρ2 st2 H2 σ2 τ2 (s1.trans s2) R2 F2 k2) (ok.exK F)
theorem ss_asg {sl : List Nat} {tg e : Expr} {pos : Pos} {m : ME} {mg : MG} (h : SE γ W X e m) (hg : SG γ X sl tg mg) (hs : swapsWithSole [tg] e pos.line X.env = pure false := by rfl) (hw : swappedStores [tg] e X.env = pure none := by rfl)
    (h1 : (assignEach [tg] X.env).map (·.2) = [assign tg X.env] := by rfl) : SS γ W X (.Assign [tg] e pos) (mAsg m mg) := by
  obtain ⟨t, p, s⟩ := h
  obtain ⟨t', p', s'⟩ := hg
  exact ⟨_, ps_asg p p' hs hw h1, sim_asg s s'⟩
theorem ss_set {i : Nat} {x : Str} {e : Expr} {pos pos' : Pos} {m : ME} (hN : X.N.Nodup) (h : SE γ W X e m) (hi : X.N[i]? = some x := by rfl) (hx : Loc X.env.scope x := by first | exact Or.inl rfl | exact Or.inr rfl) (hs : swapsWith e (some (.Name x pos')) pos.line X.env = pure false := by rfl)
    (hf : X.fn x = true ∨ X.env.scope.names.lookup x = some .local := by first | exact .inl rfl | exact .inr rfl | assumption) : SS γ W X (.Assign [.Name x pos'] e pos) (mAsg m (mgName i)) := by
  obtain ⟨t, p, s⟩ := h
  refine ⟨_, ps_set hN hi hx p hs hf, sim_asg (sl := [i]) s fun ρ st H σ τ u v R F r κ Q hm ok => ok ρ st H _ _ (Step.refl _ _) R (F.set i r) ⟨List.length_set, fun j h => List.getElem?_set_ne (fun z => h (by rw [z]; exact List.mem_singleton.mpr rfl))⟩ hm⟩
/-- a, b = x, y -/
def mPar (is : List Nat) (ms : MA) : MS := fun σ st κ => ms σ st (onE κ σ fun us st1 => match is, us with
  | [i, j], [u, v] => κ .nx ((σ.set i (some u)).set j (some v)) st1
  | [i, j, l], [u, v, w] => κ .nx (((σ.set i (some u)).set j (some v)).set l (some w)) st1
  | _, _ => false)
theorem ss_par {i j : Nat} {x y : Str} {a b : Expr} {kt k2 : Nat} {pt pt2 px py pos : Pos} {m : MA} (hc : X.calm = true) (hN : X.N.Nodup) (h : SA γ W X [a, b] m) (hi : X.N[i]? = some x := by rfl) (hj : X.N[j]? = some y := by rfl) (hij : i ≠ j := by decide) (hx : X.env.scope.names.lookup x = some .local := by rfl) (hy : X.env.scope.names.lookup y = some .local := by rfl)
    (hw : swappedStores [.Tuple [.Name x px, .Name y py] kt pt] (.Tuple [a, b] k2 pt2) X.env = pure (some [x, y]) := by rfl) : SS γ W X (.Assign [.Tuple [.Name x px, .Name y py] kt pt] (.Tuple [a, b] k2 pt2) pos) (mPar [i, j] m) := by
  obtain ⟨t, p, s⟩ := h
  refine ⟨_, ps_par hc hN hi hj hij hx hy p (hw := hw), fun ρ st H σ τ R F κ D hm ok => s ρ st H σ τ R F _ _ hm (fun ρ1 st1 H1 us vs s1 R1 r1 k => ?_) (ok.exK F)⟩
  cases r1 with
  | nil => cases k
  | cons r1 r =>
    cases r with
    | nil => cases k
    | cons r2 r =>
      cases r with
      | nil => exact ⟨_, _, rfl, ok.nx ρ1 st1 H1 _ _ s1 R1 (((F.step s1).set i r1).set j r2) k⟩
      | cons _ _ => cases k
theorem ss_par3 {i j l : Nat} {x y z : Str} {a b c : Expr} {kt k2 : Nat} {pt pt2 px py pz pos : Pos} {m : MA} (hc : X.calm = true) (hN : X.N.Nodup) (h : SA γ W X [a, b, c] m) (hi : X.N[i]? = some x := by rfl) (hj : X.N[j]? = some y := by rfl) (hl : X.N[l]? = some z := by rfl) (hij : i ≠ j := by decide) (hil : i ≠ l := by decide) (hjl : j ≠ l := by decide)
    (hx : X.env.scope.names.lookup x = some .local := by rfl) (hy : X.env.scope.names.lookup y = some .local := by rfl) (hz : X.env.scope.names.lookup z = some .local := by rfl)
    (hw : swappedStores [.Tuple [.Name x px, .Name y py, .Name z pz] kt pt] (.Tuple [a, b, c] k2 pt2) X.env = pure (some [x, y, z]) := by rfl) : SS γ W X (.Assign [.Tuple [.Name x px, .Name y py, .Name z pz] kt pt] (.Tuple [a, b, c] k2 pt2) pos) (mPar [i, j, l] m) := by
  obtain ⟨t, p, s⟩ := h
  refine ⟨_, ps_par3 hc hN hi hj hl hij hil hjl hx hy hz p (hw := hw), fun ρ st H σ τ R F κ D hm ok => s ρ st H σ τ R F _ _ hm (fun ρ1 st1 H1 us vs s1 R1 r1 k => ?_) (ok.exK F)⟩
  cases r1 with
  | nil => cases k
  | cons r1 r =>
    cases r with
    | nil => cases k
    | cons r2 r =>
      cases r with
      | nil => cases k
      | cons r3 r =>
        cases r with
        | nil => exact ⟨_, _, _, rfl, ok.nx ρ1 st1 H1 _ _ s1 R1 ((((F.step s1).set i r1).set j r2).set l r3) k⟩
        | cons _ _ => cases k
/-- o.f = e -/
def mSetF (g : GT) (f : Str) (mo me : ME) : MS := fun σ st κ => me σ st (onE κ σ fun w st1 => mo σ st1 (onE κ σ fun u st2 => match u with
  | .ref i => match st2.get i with
    | some (.ins c fs) => match g.fld c f, Nat.blt fs.length 1000 with
      | true, true => κ .nx σ (st2.put i (.ins c (fPut f w fs)))
      | _, _ => false
    | _ => false
  | _ => false))
theorem ss_setF {o e : Expr} {f : Str} {pos pos' : Pos} {mo me : ME} (G : GOk X.K γ g) (ho : SE γ W X o mo) (he : SE γ W X e me) (hs : swapsWith e (some (.Attribute o f pos')) pos.line X.env = pure false := by rfl) : SS γ W X (.Assign [.Attribute o f pos'] e pos) (mSetF g f mo me) := by
  obtain ⟨t, p, s⟩ := ho
  obtain ⟨t', p', s'⟩ := he
  refine ⟨_, ps_fld p p' hs, fun ρ st H σ τ R F κ D hm ok => s' ρ st H σ τ R F _ _ hm (fun ρ1 st1 H1 w x s1 R1 r1 k => s ρ1 st1 H1 σ τ R1 (F.step s1) _ _ k (fun ρ2 st2 H2 u v s2 R2 r2 k2 => ?_) ((ok.step s1).exK (F.step s1))) (ok.exK F)⟩
  have S := s1.trans s2
  cases u with
  | ref i =>
    have hm2 : (match st2.get i with | some (.ins c fs) => (match g.fld c f, Nat.blt fs.length 1000 with | true, true => κ .nx σ (st2.put i (.ins c (fPut f w fs))) | _, _ => false) | _ => false) = true := k2
    cases q : st2.get i with
    | none => rw [q] at hm2; cases hm2
    | some o =>
      cases o with
      | ins c fs =>
        rw [q] at hm2
        obtain ⟨a, ev, ea, dx, ws, hh, rf⟩ := R2.get q r2
        have hm3 : (match g.fld c f, Nat.blt fs.length 1000 with | true, true => κ .nx σ (st2.put i (.ins c (fPut f w fs))) | _, _ => false) = true := hm2
        cases qf : g.fld c f with
        | false => rw [qf] at hm3; cases hm3
        | true =>
          cases ql : Nat.blt fs.length 1000 with
          | false => rw [qf, ql] at hm3; cases hm3
          | true =>
            rw [qf, ql] at hm3
            obtain ⟨c1, c2⟩ := G.fld c f qf
            have ro : RO γ ρ2 (upd H2 a (.ins (γ c) dx (putF f x ws))) a (.ins c (fPut f w fs)) := ⟨dx, _, upd_same, rf.put (s2.ru r1)⟩
            obtain ⟨R3, S3⟩ := R2.put (o := .ins c (fPut f w fs)) ea (by rw [hh]; intro _ _ z; cases z) ro
            have hl : ws.length < 1000 := by
              have := Paired.length rf
              rw [← this]; exact Nat.le_of_ble_eq_true ql
            exact ⟨a, _, dx, ws, ev, hh, c1, c2, hl, ok.nx ρ2 _ _ σ τ (S.trans S3) R3 (F.step (S.trans S3)) hm3⟩
      | lst _ => rw [q] at hm2; cases hm2
      | tup _ => rw [q] at hm2; cases hm2
      | dct _ _ => rw [q] at hm2; cases hm2
  | non => cases k2
  | bl _ => cases k2
  | int _ => cases k2
  | str _ => cases k2
  | glo _ => cases k2
  | ty _ => cases k2
/-- i += e, a name that holds an int -/
def mAugI (f : Int → Int → Int) (i : Nat) (m : ME) : MS := fun σ st κ => match σ[i]? with
  | some (some (.int a)) => m σ st (onE κ σ fun u st1 => match u with
    | .int b => κ .nx (σ.set i (some (.int (f a b)))) st1
    | _ => false)
  | _ => false
theorem ss_augI {i : Nat} {x : Str} {op : Operator} {f : Int → Int → Int} {e : Expr} {pos pos' : Pos} {m : ME} (hN : X.N.Nodup) (ho : PIp X op (ipI f)) (h : SE γ W X e m) (hi : X.N[i]? = some x := by rfl) (hx : Loc X.env.scope x := by first | exact Or.inl rfl | exact Or.inr rfl)
    (hf : X.fn x = true ∨ X.env.scope.names.lookup x = some .local := by first | exact .inl rfl | exact .inr rfl | assumption) : SS γ W X (.AugAssign (.Name x pos') op e pos) (mAugI f i m) := by
  obtain ⟨t, p, s⟩ := h
  refine ⟨_, ps_aug hN hi hx p ho hf, fun ρ st H σ τ R F κ D hm ok => ?_⟩
  have hm2 : (match σ[i]? with | some (some (.int a)) => m σ st (onE κ σ fun u st1 => match u with | .int b => κ .nx (σ.set i (some (.int (f a b)))) st1 | _ => false) | _ => false) = true := hm
  cases q : σ[i]? with
  | none => rw [q] at hm2; cases hm2
  | some o =>
    cases o with
    | none => rw [q] at hm2; cases hm2
    | some w =>
      cases w with
      | int a =>
        rw [q] at hm2
        obtain ⟨v, e1, r⟩ := F.at_ i _ q
        have r : v = .int a := r
        subst r
        refine ⟨_, e1, s ρ st H σ τ R F _ _ hm2 (fun ρ1 st1 H1 u v s1 R1 r1 k => ?_) (ok.exK F)⟩
        cases u with
        | int b => exact ⟨a, b, rfl, r1, ok.nx ρ1 st1 H1 _ _ s1 R1 ((F.step s1).set i (u := .int (f a b)) (v := .int (f a b)) rfl) k⟩
        | non => cases k
        | bl _ => cases k
        | str _ => cases k
        | ref _ => cases k
        | glo _ => cases k
        | ty _ => cases k
      | non => rw [q] at hm2; cases hm2
      | bl _ => rw [q] at hm2; cases hm2
      | str _ => rw [q] at hm2; cases hm2
      | ref _ => rw [q] at hm2; cases hm2
      | glo _ => rw [q] at hm2; cases hm2
      | ty _ => rw [q] at hm2; cases hm2
end
end MV

namespace MV
open PySem L2
section
variable {γ : Nat → Addr} {W : WX} {X : Cx} {g : GT}

/-! ### readings that are made of the runs: the same in every context -/
def tM (γ : Nat → Addr) (W : WX) (m : ME) : TE := fun τ H Q => ∃ ρ st σ κ, Rep γ ρ st H ∧ FrR γ ρ σ τ ∧ m σ st κ = true ∧ OkK γ (RU γ) ρ H κ Q ∧ ExK γ W τ ρ H κ
def tMt (γ : Nat → Addr) (W : WX) (m : MT) : TT := fun τ H Q => ∃ ρ st σ κ, Rep γ ρ st H ∧ FrR γ ρ σ τ ∧ m σ st κ = true ∧ OkK γ (fun _ a b => a = b) ρ H κ Q ∧ ExK γ W τ ρ H κ
def tMg (γ : Nat → Addr) (sl : List Nat) (m : MG) : TG := fun v τ H Q => ∃ ρ st σ u κ, Rep γ ρ st H ∧ FrR γ ρ σ τ ∧ RU γ ρ u v ∧ m u σ st κ = true ∧ GK γ sl τ ρ H κ Q
theorem SE.pe {e : Expr} {m : ME} (h : SE γ W X e m) : PE X e (tM γ W m) := by
  obtain ⟨t, p, s⟩ := h
  exact ⟨fun pins sh τ H Q I ⟨ρ, st, σ, κ, R, F, hm, ok, ex⟩ => p.run pins sh τ H Q I (s ρ st H σ τ R F κ Q hm ok ex)⟩
theorem ST.pt {e : Expr} {m : MT} (h : ST γ W X e m) : PT X e (tMt γ W m) := by
  obtain ⟨t, p, s⟩ := h
  exact ⟨fun pins sh τ H Q I ⟨ρ, st, σ, κ, R, F, hm, ok, ex⟩ => p.run pins sh τ H Q I (s ρ st H σ τ R F κ Q hm ok ex)⟩
theorem SG.pg {sl : List Nat} {e : Expr} {m : MG} (h : SG γ X sl e m) : PG X e (tMg γ sl m) := by
  obtain ⟨t, p, s⟩ := h
  exact ⟨fun pins sh τ H v u Q I r ⟨ρ, st, σ, w, κ, R, F, ru, hm, ok⟩ => p.run pins sh τ H v u Q I r (s ρ st H σ τ w v R F ru κ Q hm ok)⟩

/-! ### while -/
def loopK (κ : Out → Fr → VS → Bool) (nxt : Fr → VS → Bool) : Out → Fr → VS → Bool := fun o σ st => match o with
  | .nx => nxt σ st
  | .ct => nxt σ st
  | .bk => κ .nx σ st
  | .rt u => κ (.rt u) σ st
  | .ex x => κ (.ex x) σ st
def wLoop (c : MT) (b : MS) : Nat → MS
  | 0, _, _, _ => false
  | n + 1, σ, st, κ => c σ st (onE κ σ fun t st1 => match t with
    | false => κ .nx σ st1
    | true => b σ st1 (loopK κ fun σ2 st2 => wLoop c b n σ2 st2 κ))
def mWhile (n : Nat) (c : MT) (b : MS) : MS := wLoop c b n
theorem ss_while {c : Expr} {body : List Stmt} {pos : Pos} {mc : MT} {m : MS} (n : Nat) (hp : PassesOwn (model X.prog X.w) X.A X.env X.xe) (hc : ST γ W X c mc) (hb : SSs γ W X body m) : SS γ W X (.While c body [] pos) (mWhile n mc m) := by
  obtain ⟨tc, pc, sc⟩ := hc
  obtain ⟨t, p, s⟩ := hb
  refine ⟨_, ps_while hp pc p, fun ρ st H σ τ R F κ D hm ok => ⟨fun k τ' H' => ∃ ρ' st' σ', Step ρ H ρ' H' ∧ Rep γ ρ' st' H' ∧ FrR γ ρ' σ' τ' ∧ wLoop mc m k σ' st' κ = true, ⟨n, ρ, st, σ, Step.refl _ _, R, F, hm⟩, fun k τ' H' ⟨ρ', st', σ', s1, R1, F1, hk⟩ => ?_⟩⟩
  cases k with
  | zero => cases hk
  | succ k =>
    refine sc ρ' st' H' σ' τ' R1 F1 _ _ hk (fun ρ2 st2 H2 u v s2 R2 r2 k2 => ?_) ((ok.step s1).exK F1)
    have r2 : u = v := r2
    subst r2
    have S2 := s1.trans s2
    cases u with
    | false => rw [if_neg Bool.false_ne_true]; exact ok.nx ρ2 st2 H2 σ' τ' S2 R2 (F1.step s2) k2
    | true =>
      rw [if_pos rfl]
      refine ⟨fun τ3 H3 => ∃ ρ3 st3 σ3, Step ρ H ρ3 H3 ∧ Rep γ ρ3 st3 H3 ∧ FrR γ ρ3 σ3 τ3 ∧ wLoop mc m k σ3 st3 κ = true, fun τ3 H3 h3 => ⟨k, Nat.lt_succ_self k, h3⟩, s ρ2 st2 H2 σ' τ' R2 (F1.step s2) _ _ k2
        ⟨fun ρ3 st3 H3 σ3 τ3 s3 R3 F3 k3 => ⟨ρ3, st3, σ3, S2.trans s3, R3, F3, k3⟩, fun ρ3 st3 H3 σ3 τ3 s3 R3 F3 k3 => ok.nx ρ3 st3 H3 σ3 τ3 (S2.trans s3) R3 F3 k3, fun ρ3 st3 H3 σ3 τ3 s3 R3 F3 k3 => ⟨ρ3, st3, σ3, S2.trans s3, R3, F3, k3⟩,
          fun ρ3 st3 H3 σ3 u v s3 R3 r3 k3 => ok.rt ρ3 st3 H3 σ3 u v (S2.trans s3) R3 r3 k3, fun ρ3 st3 H3 σ3 τ3 x cl d s3 R3 F3 r3 k3 => ok.ex ρ3 st3 H3 σ3 τ3 x cl d (S2.trans s3) R3 F3 r3 k3⟩⟩

/-! ### what is walked -/
inductive Itm where
  | seq (b : Bool) (u : U)
  | rng (lo : Int) (n : Nat)
  | enum (u : U)
  | zip (b : Bool) (u v : U)
  | chars (x : Str)
  | items (i : Nat) (lk : Bool) | keys (i : Nat) (lk : Bool) | vals (i : Nat) (lk : Bool)
inductive Yl where
  | one (u : U)
  | pair (u v : U)
def Yl.u : Yl → VS → U
  | .one u, _ => u
  | .pair _ _, st => .ref st.n
def Yl.st : Yl → VS → VS
  | .one _, st => st
  | .pair u v, st => st.new (.tup [u, v])
def kU : Key → U
  | .inl i => .int i
  | .inr x => .str x
/-- the i-th thing: none, a mistake; some none, the end -/
def Itm.next (g : GT) (st : VS) (i : Nat) : Itm → Option (Option Yl)
  | .seq b u => match seqOf g st u with
    | some (b', xs) => match b, b' with
      | true, true | false, false => match xs[i]? with
        | some x => some (some (.one x))
        | none => some none
      | _, _ => none
    | none => none
  | .rng lo n => match Nat.blt i n with
    | true => some (some (.one (.int (lo + i))))
    | false => some none
  | .enum u => match seqOf g st u with
    | some (false, xs) => match xs[i]? with
      | some x => some (some (.pair (.int i) x))
      | none => some none
    | _ => none
  | .zip b u v => match seqOf g st u, seqOf g st v with
    | some (b', xs), some (b'', ys) => match b, b', b'' with
      | false, false, false => match xs[i]?, ys[i]? with
        | some x, some y => some (some (.pair x y))
        | _, _ => some none
      | _, _, _ => none
    | _, _ => none
  | .chars x => match x.cps.toList[i]? with
    | some c => some (some (.one (.str ⟨#[c]⟩)))
    | none => some none
  | .items d _ => match st.get d with
    | some (.dct true kvs) => match kvs[i]? with
      | some (k, x) => some (some (.pair (kU k) x))
      | none => some none
    | _ => none
  | .keys d _ => match st.get d with
    | some (.dct true kvs) => match kvs[i]? with
      | some (k, x) => some (some (.one (kU k)))
      | none => some none
    | _ => none
  | .vals d _ => match st.get d with
    | some (.dct true kvs) => match kvs[i]? with
      | some (k, x) => some (some (.one x))
      | none => some none
    | _ => none
/-- J walks as it does, from ρ and H on -/
def ItOk (γ : Nat → Addr) (g : GT) (ρ : List Addr) (H : Hp) (it : Itm) (J : It) : Prop := ∀ ρ' st' H', Step ρ H ρ' H' → Rep γ ρ' st' H' → ∀ i,
  (it.next g st' i = some none → J.stop i H') ∧ ∀ y, it.next g st' i = some (some y) → J.go i H' ∧ ∀ x H'', J.yld i H' x H'' → ∃ ρ'', Step ρ' H' ρ'' H'' ∧ Rep γ ρ'' (y.st st') H'' ∧ RU γ ρ'' (y.u st') x
theorem ItOk.step {ρ ρ1 : List Addr} {H H1 : Hp} {it : Itm} {J : It} (h : ItOk γ g ρ H it J) (s : Step ρ H ρ1 H1) : ItOk γ g ρ1 H1 it J := fun ρ' st' H' s' => h ρ' st' H' (s.trans s')
/-- which dict is to be unlocked at the end -/
def Itm.lk : Itm → Option Nat
  | .items i true => some i
  | .keys i true => some i
  | .vals i true => some i
  | _ => none
/-- the dicts that were not locked when X's def was called -/
def NF (X : Cx) (d : Addr) : Prop := ∀ o' u', X.H_0 d ≠ some (.frz o' u')
/-- what is to be unlocked was not locked at H -/
def LkOk (N : Addr → Prop) (H : Hp) (ρ : List Addr) (it : Itm) : Prop := ∀ i, it.lk = some i → ∃ a, ρ[i]? = some a ∧ N a ∧ ∀ o x, H a ≠ some (.frz o x)
theorem LkOk.no {N : Addr → Prop} {H : Hp} {ρ : List Addr} {it : Itm} (h : it.lk = none := by rfl) : LkOk N H ρ it := fun i e => by rw [h] at e; cases e
theorem LkOk.step {N : Addr → Prop} {H H1 H2 : Hp} {ρ ρ' : List Addr} {it : Itm} (h : LkOk N H ρ it) (s : Step ρ H1 ρ' H2) : LkOk N H ρ' it := fun i e => by
  obtain ⟨a, ea, x⟩ := h i e
  obtain ⟨l, rfl⟩ := s.ext
  exact ⟨a, by rw [List.getElem?_append_left (List.getElem?_eq_some_iff.mp ea).1]; exact ea, x⟩
abbrev MI := Fr → VS → Go Itm
def SimI (γ : Nat → Addr) (W : WX) (g : GT) (N : Addr → Prop) (wi : TI) (m : MI) : Prop := ∀ ρ st H σ τ, Rep γ ρ st H → FrR γ ρ σ τ → ∀ (κ : Rs Itm → VS → Bool) (Rr : It → Hp → Prop), m σ st κ = true →
  (∀ ρ' st' H' it J, Step ρ H ρ' H' → Rep γ ρ' st' H' → ItOk γ g ρ' H' it J → LkOk N H ρ' it → κ (.ok it) st' = true → Rr J H') → ExK γ W τ ρ H κ → wi τ H Rr
def SI (γ : Nat → Addr) (W : WX) (g : GT) (X : Cx) (tg iter : Expr) (m : MI) : Prop := ∃ wi, PI X tg iter wi ∧ SimI γ W g (NF X) wi m
theorem pi_or {tg e : Expr} {t t' : TI} (h : PI X tg e t) (h' : PI X tg e t') : PI X tg e (fun σ H R => t σ H R ∨ t' σ H R) := ⟨fun pins s σ H R I q => q.elim (fun z => h.run pins s σ H R I z) fun z => h'.run pins s σ H R I z⟩
theorem si_or {tg e : Expr} {m m' : MI} (h : SI γ W g X tg e m) (h' : SI γ W g X tg e m') : SI γ W g X tg e (mOr m m') := by
  obtain ⟨t, p, s⟩ := h
  obtain ⟨t', p', s'⟩ := h'
  refine ⟨_, pi_or p p', fun ρ st H σ τ R F κ Rr hm ok ex => ?_⟩
  have hm2 : (match m σ st κ with | true => true | false => m' σ st κ) = true := hm
  cases q : m σ st κ with
  | true => exact .inl (s ρ st H σ τ R F κ Rr q ok ex)
  | false => rw [q] at hm2; exact .inr (s' ρ st H σ τ R F κ Rr hm2 ok ex)

/-- a list or a tuple -/
def miSeq (g : GT) (m : ME) : MI := fun σ st => bnd (m σ st) fun u st1 κ => match seqOf g st1 u with
  | some (b, _) => κ (.ok (.seq b u)) st1
  | none => false
theorem seq_next {ρ : List Addr} {H : Hp} (G : GOk X.K γ g) {u : U} {a : Addr} (ru : RU γ ρ u (.ref a)) (b : Bool) : ItOk γ g ρ H (.seq b u) (bif b then Itt X.K a else Itl X.K a) := fun ρ' st' H' s R i => by
  have ru' := s.ru ru
  have key : ∀ b' xs, seqOf g st' u = some (b', xs) → ∃ ys, RL γ ρ' xs ys ∧ (bif b' then SqT X.K H' a ys else SqL X.K H' a ys) := fun b' xs q => by
    obtain ⟨a', ys, ev, rl, h⟩ := seq_ok G R ru' q
    cases ev
    exact ⟨ys, rl, h⟩
  have hx : ∀ (b' : Bool) (xs : List U), seqOf g st' u = some (b', xs) → (Itm.seq b u).next g st' i = (match b, b' with | true, true | false, false => (match xs[i]? with | some x => some (some (.one x)) | none => some none) | _, _ => none) := fun b' xs q => by
    show (match seqOf g st' u with | some (b', xs) => _ | none => none) = _
    rw [q]
  cases q : seqOf g st' u with
  | none =>
    have e : (Itm.seq b u).next g st' i = none := by
      show (match seqOf g st' u with | some (b', xs) => _ | none => none) = _
      rw [q]
    rw [e]
    exact ⟨(fun h => nomatch h), (fun _ h => nomatch h)⟩
  | some bx =>
    obtain ⟨b', xs⟩ := bx
    rw [hx b' xs q]
    obtain ⟨ys, rl, h⟩ := key b' xs q
    have hl := rl.length
    cases b <;> cases b'
    · cases e : xs[i]? with
      | none => exact ⟨fun _ => ⟨ys, h, by rw [← hl]; exact List.getElem?_eq_none_iff.mp e⟩, (fun _ z => nomatch z)⟩
      | some x =>
        obtain ⟨hi, ex⟩ := List.getElem?_eq_some_iff.mp e
        have hy : ys[i]? = some (ys[i]'(by rw [← hl]; exact hi)) := List.getElem?_eq_getElem _
        refine ⟨(fun z => nomatch z), fun y z => ?_⟩
        cases z
        refine ⟨⟨ys, _, h, hy⟩, fun x' H'' ⟨e1, e2⟩ => ?_⟩
        subst e1
        have e3 := e2 ys h
        obtain ⟨v, hv, rv⟩ := pget rl e
        rw [e3] at hv; cases hv
        exact ⟨ρ', Step.refl _ _, R, rv⟩
    · exact ⟨(fun z => nomatch z), (fun _ z => nomatch z)⟩
    · exact ⟨(fun z => nomatch z), (fun _ z => nomatch z)⟩
    · cases e : xs[i]? with
      | none => exact ⟨fun _ => ⟨ys, h, by rw [← hl]; exact List.getElem?_eq_none_iff.mp e⟩, (fun _ z => nomatch z)⟩
      | some x =>
        obtain ⟨hi, ex⟩ := List.getElem?_eq_some_iff.mp e
        have hy : ys[i]? = some (ys[i]'(by rw [← hl]; exact hi)) := List.getElem?_eq_getElem _
        refine ⟨(fun z => nomatch z), fun y z => ?_⟩
        cases z
        refine ⟨⟨ys, _, h, hy⟩, fun x' H'' ⟨e1, e2⟩ => ?_⟩
        subst e1
        have e3 := e2 ys h
        obtain ⟨v, hv, rv⟩ := pget rl e
        rw [e3] at hv; cases hv
        exact ⟨ρ', Step.refl _ _, R, rv⟩


def iSq (K : PySem.W.Frag) (tl : TE) : TI := fun σ H R => tl σ H fun x H1 => ∃ a, x = .ref a ∧ (((∃ xs, SqL K H1 a xs) ∧ R (Itl K a) H1) ∨ ((∃ xs, SqT K H1 a xs) ∧ R (Itt K a) H1))
theorem pi_sq {tg l : Expr} {tl : TE} (hl : PE X l tl) : PI X tg l (iSq X.K tl) := by
  refine ⟨fun pins s σ H R I h => ?_⟩
  refine thn (hl.run pins s σ H _ I h) fun v s1 ⟨x, H1, I1, r1, q1⟩ => ?_
  obtain ⟨a, e, q1⟩ := q1
  subst e
  cases r1
  rcases q1 with ⟨⟨xs, hq⟩, q⟩ | ⟨⟨xs, hq⟩, q⟩
  · obtain ⟨its, rv, p, hz⟩ := I1.list hq
    refine wpAny_pyIter_list p.isList ?_
    refine ⟨s1.heap.objs.size, [s1.heap.objs.size], _, _, H1, rfl, I1.kept (t' := s1.toks) fun b o e => Heap.get?_push_of_some _ e, turn_list a _, ⟨_, Heap.get?_push_size _ rfl, rfl, rfl⟩, fun b hb => ?_, q⟩
    have e : b = s1.heap.objs.size := by simpa using hb
    subst e
    exact I1.fpOk (Nat.le_refl _) (I1.hok.fresh (Nat.le_refl _))
  · obtain ⟨its, rv, p, hz⟩ := I1.tuple hq
    refine wpAny_pyIter_tuple (show s1.heap.IsTuple a its.toArray from p) ?_
    refine ⟨s1.heap.objs.size, [s1.heap.objs.size], _, _, H1, rfl, I1.kept (t' := s1.toks) fun b o e => Heap.get?_push_of_some _ e, turn_tuple a _, ⟨_, Heap.get?_push_size _ rfl, rfl, rfl⟩, fun b hb => ?_, q⟩
    have e : b = s1.heap.objs.size := by simpa using hb
    subst e
    exact I1.fpOk (Nat.le_refl _) (I1.hok.fresh (Nat.le_refl _))
theorem si_seq {tg e : Expr} {m : ME} (G : GOk X.K γ g) (h : SE γ W X e m) : SI γ W g X tg e (miSeq g m) := by
  obtain ⟨t, p, s⟩ := h
  refine ⟨_, pi_sq p, fun ρ st H σ τ R F κ Rr hm ok ex => s ρ st H σ τ R F _ _ hm (fun ρ1 st1 H1 u v s1 R1 r1 k => ?_) ex⟩
  have k2 : (match seqOf g st1 u with | some (b, _) => κ (.ok (.seq b u)) st1 | none => false) = true := k
  cases q : seqOf g st1 u with
  | none => rw [q] at k2; cases k2
  | some bx =>
    obtain ⟨b, xs⟩ := bx
    rw [q] at k2
    obtain ⟨a, ys, ev, rl, hs⟩ := seq_ok G R1 r1 q
    subst ev
    cases b with
    | true => exact ⟨a, rfl, .inr ⟨⟨ys, hs⟩, ok ρ1 st1 H1 _ _ s1 R1 (seq_next G r1 true) LkOk.no k2⟩⟩
    | false => exact ⟨a, rfl, .inl ⟨⟨ys, hs⟩, ok ρ1 st1 H1 _ _ s1 R1 (seq_next G r1 false) LkOk.no k2⟩⟩
/-- an int in range's bounds -/
def inR (i : Int) : Bool := match decide (-4611686018427387904 ≤ i), decide (i < 4611686018427387904) with
  | true, true => true
  | _, _ => false
theorem inR_ok {i : Int} (h : inR i = true) : -(2 ^ 62) ≤ i ∧ i < 2 ^ 62 := by
  unfold inR at h
  cases q : decide (-4611686018427387904 ≤ i) <;> cases q2 : decide (i < 4611686018427387904) <;> rw [q, q2] at h <;> first | (cases h; done) | exact ⟨of_decide_eq_true q, of_decide_eq_true q2⟩
/-- range(n), range(a, b) -/
def miRng1 (ms : ME) : MI := fun σ st => bnd (ms σ st) fun u st1 κ => match u with
  | .int j => match inR j with
    | true => κ (.ok (.rng 0 j.toNat)) st1
    | false => false
  | _ => false
def miRng2 (ma mb : ME) : MI := fun σ st => bnd (ma σ st) fun u st1 => bnd (mb σ st1) fun w st2 κ => match u, w with
  | .int i, .int j => match inR i, inR j with
    | true, true => κ (.ok (.rng i (j - i).toNat)) st2
    | _, _ => false
  | _, _ => false
theorem rng_next {ρ : List Addr} {H : Hp} (lo : Int) (n : Nat) : ItOk γ g ρ H (.rng lo n) (Itr lo n) := fun ρ' st' H' s R i => by
  show ((match Nat.blt i n with | true => some (some (Yl.one (.int (lo + i)))) | false => some none) = some none → n ≤ i) ∧ ∀ y, (match Nat.blt i n with | true => some (some (Yl.one (.int (lo + i)))) | false => some none) = some (some y) → _
  cases q : Nat.blt i n with
  | true =>
    refine ⟨(fun z => nomatch z), fun y z => ?_⟩
    cases z
    refine ⟨Nat.le_of_ble_eq_true q, fun x H'' ⟨e1, e2⟩ => ?_⟩
    subst e1
    exact ⟨ρ', Step.refl _ _, R, e2⟩
  | false =>
    refine ⟨fun _ => ?_, (fun _ z => nomatch z)⟩
    refine Nat.le_of_not_lt fun z => ?_
    have : Nat.blt i n = true := Nat.ble_eq_true_of_le z
    rw [q] at this; cases this
theorem si_rng1 {tg a : Expr} {p pos : Pos} {m : ME} (hm : X.mg "range" = none) (h : SE γ W X a m) (hg : Gl X "range" := by rfl) (hs : starEach [a] X.env = [(false, eval a X.env)] := by rfl) : SI γ W g X tg (.Call (.Name "range" p) [a] [] pos) (miRng1 m) := by
  obtain ⟨t, pt, s⟩ := h
  refine ⟨_, pi_range1 hg hm (pa_cons pt pa_nil hs) (hs := hs), fun ρ st H σ τ R F κ Rr hm ok ex => s ρ st H σ τ R F _ _ hm (fun ρ1 st1 H1 u v s1 R1 r1 k => ?_) ex⟩
  cases u with
  | int j =>
    have r1 : v = .int j := r1
    subst r1
    have k2 : (match inR j with | true => κ (.ok (.rng 0 j.toNat)) st1 | false => false) = true := k
    cases q : inR j with
    | false => rw [q] at k2; cases k2
    | true =>
      rw [q] at k2
      obtain ⟨q1, q2⟩ := inR_ok q
      exact ⟨j, rfl, q1, q2, ok ρ1 st1 H1 _ _ s1 R1 (rng_next 0 j.toNat) LkOk.no k2⟩
  | non => cases k
  | bl _ => cases k
  | str _ => cases k
  | ref _ => cases k
  | glo _ => cases k
  | ty _ => cases k
theorem si_rng2 {tg a b : Expr} {p pos : Pos} {ma mb : ME} (hm : X.mg "range" = none) (h : SE γ W X a ma) (h' : SE γ W X b mb) (hg : Gl X "range" := by rfl) (hs : starEach [a, b] X.env = [(false, eval a X.env), (false, eval b X.env)] := by rfl) (hs2 : starEach [b] X.env = [(false, eval b X.env)] := by rfl) :
    SI γ W g X tg (.Call (.Name "range" p) [a, b] [] pos) (miRng2 ma mb) := by
  obtain ⟨t, pt, s⟩ := h
  obtain ⟨t', pt', s'⟩ := h'
  refine ⟨_, pi_range2 hg hm (pa_cons pt (pa_cons pt' pa_nil hs2) (by rw [hs, hs2])) (hs := hs) (hs2 := hs2), fun ρ st H σ τ R F κ Rr hm ok ex => s ρ st H σ τ R F _ _ hm (fun ρ1 st1 H1 u v s1 R1 r1 k => s' ρ1 st1 H1 σ τ R1 (F.step s1) _ _ k (fun ρ2 st2 H2 u2 v2 s2 R2 r2 k2 => ?_) (ex.step s1)) ex⟩
  cases u <;> cases u2 <;> first | (cases k2; done) | skip
  rename_i i j
  have r1 : v = .int i := r1
  have r2 : v2 = .int j := r2
  subst r1
  subst r2
  have k3 : (match inR i, inR j with | true, true => κ (.ok (.rng i (j - i).toNat)) st2 | _, _ => false) = true := k2
  cases q : inR i <;> cases q2 : inR j <;> rw [q, q2] at k3 <;> first | (cases k3; done) | skip
  obtain ⟨q1, q3⟩ := inR_ok q
  obtain ⟨q4, q5⟩ := inR_ok q2
  exact ⟨i, j, rfl, ⟨q1, q3, q4, q5⟩, ok ρ2 st2 H2 _ _ (s1.trans s2) R2 (rng_next i (j - i).toNat) LkOk.no k3⟩

/-! ### enumerate(list) -/
def miEnum (g : GT) (m : ME) : MI := fun σ st => bnd (m σ st) fun u st1 κ => match seqOf g st1 u with
  | some (false, _) => κ (.ok (.enum u)) st1
  | _ => false
/-- a pair just made -/
theorem pair_new {ρ : List Addr} {st : VS} {H : Hp} (R : Rep γ ρ st H) {u w : U} {x y : V} {T : Addr} (ru : RU γ ρ u x) (rw_ : RU γ ρ w y) (hT : H T = none) : ∃ ρ'', Step ρ H ρ'' (upd H T (.tup [x, y])) ∧ Rep γ ρ'' (st.new (.tup [u, w])) (upd H T (.tup [x, y])) ∧ RU γ ρ'' (.ref st.n) (.ref T) := by
  have ro : RO γ (ρ ++ [T]) (upd H T (.tup [x, y])) T (.tup [u, w]) := ⟨[x, y], upd_same, .cons ru.mono (.cons rw_.mono .nil)⟩
  obtain ⟨R', S⟩ := R.new hT (new_upd hT) ro
  refine ⟨_, S, R', T, ?_, rfl⟩
  rw [← R.len, List.getElem?_append_right (Nat.le_refl _), Nat.sub_self]; rfl
theorem enum_next {ρ : List Addr} {H : Hp} (G : GOk X.K γ g) {u : U} {a : Addr} (ru : RU γ ρ u (.ref a)) : ItOk γ g ρ H (.enum u) (Ite X.K a) := fun ρ' st' H' s R i => by
  have ru' := s.ru ru
  show ((match seqOf g st' u with | some (false, xs) => (match xs[i]? with | some x => some (some (Yl.pair (.int i) x)) | none => some none) | _ => none) = some none → _) ∧ ∀ y, (match seqOf g st' u with | some (false, xs) => (match xs[i]? with | some x => some (some (Yl.pair (.int i) x)) | none => some none) | _ => none) = some (some y) → _
  cases q : seqOf g st' u with
  | none => exact ⟨(fun h => nomatch h), (fun _ h => nomatch h)⟩
  | some bx =>
    obtain ⟨b', xs⟩ := bx
    obtain ⟨a', ys, ev, rl, h⟩ := seq_ok G R ru' q
    cases ev
    cases b' with
    | true => exact ⟨(fun h => nomatch h), (fun _ h => nomatch h)⟩
    | false =>
      show ((match xs[i]? with | some x => some (some (Yl.pair (.int i) x)) | none => some none) = some none → _) ∧ ∀ y, (match xs[i]? with | some x => some (some (Yl.pair (.int i) x)) | none => some none) = some (some y) → _
      cases e : xs[i]? with
      | none => exact ⟨fun _ => ⟨ys, h, by rw [← rl.length]; exact List.getElem?_eq_none_iff.mp e⟩, (fun _ z => nomatch z)⟩
      | some x =>
        obtain ⟨v, hv, rv⟩ := pget rl e
        refine ⟨(fun z => nomatch z), fun y z => ?_⟩
        cases z
        refine ⟨⟨ys, v, h, hv⟩, fun x' H'' ⟨T, x1, e1, e2, e3, e4⟩ => ?_⟩
        have e5 := e4 ys h
        rw [hv] at e5; cases e5
        subst e1 e3
        exact pair_new R (u := .int i) rfl rv e2
theorem si_enum {e : Expr} {p pos tpos : Pos} {elts : List Expr} {kk : Nat} {m : ME} (G : GOk X.K γ g) (hm : X.mg "enumerate" = none) (h : SE γ W X e m) (hg : Gl X "enumerate" := by rfl) (hs : starEach [e] X.env = [(false, eval e X.env)] := by rfl) :
    SI γ W g X (.Tuple elts kk tpos) (.Call (.Name "enumerate" p) [e] [] pos) (miEnum g m) := by
  obtain ⟨t, pt, s⟩ := h
  refine ⟨_, pi_enum hg hm (pa_cons pt pa_nil hs) (hs := hs), fun ρ st H σ τ R F κ Rr hm ok ex => s ρ st H σ τ R F _ _ hm (fun ρ1 st1 H1 u v s1 R1 r1 k => ?_) ex⟩
  have k2 : (match seqOf g st1 u with | some (false, _) => κ (.ok (.enum u)) st1 | _ => false) = true := k
  cases q : seqOf g st1 u with
  | none => rw [q] at k2; cases k2
  | some bx =>
    obtain ⟨b, xs⟩ := bx
    rw [q] at k2
    obtain ⟨a, ys, ev, rl, hs⟩ := seq_ok G R1 r1 q
    subst ev
    cases b with
    | true => cases k2
    | false => exact ⟨a, ys, rfl, hs, ok ρ1 st1 H1 _ _ s1 R1 (enum_next G r1) LkOk.no k2⟩

/-! ### d.items(), d.values(), d: the dict is locked while it is walked -/
def tLockR (N : Addr → Prop) (te : TE) : TE := fun σ H Q => te σ H fun x H1 => (∃ d kvs, x = .ref d ∧ H1 d = some (.dK kvs) ∧ (N d → ∀ od, Q x (upd H1 d (.frz od (.dK kvs))))) ∨ ∃ d od kvs, x = .ref d ∧ H1 d = some (.frz od (.dK kvs)) ∧ Q x H1
theorem pe_lockR {e : Expr} {te : TE} (he : PE X e te) : PE X e (tLockR (NF X) te) := by
  refine ⟨fun pins s σ H Q I h => ?_⟩
  refine thn (he.run pins s σ H _ I h) fun u s1 ⟨x, H1, I1, rx, q⟩ => ?_
  rcases q with ⟨d, kvs, ex, hd, q⟩ | ⟨d, od, kvs, ex, hd, q⟩
  · obtain ⟨od, I2⟩ := I1.lock hd trivial
    exact ⟨x, _, I2, rx, q (I1.nofrz hd trivial) od⟩
  · exact ⟨x, H1, I1, rx, q⟩
def miDict (k : Nat → Bool → Itm) (m : ME) : MI := fun σ st => bnd (m σ st) fun u st1 κ => match u with
  | .ref i => match st1.get i with
    | some (.dct false kvs) => κ (.ok (k i true)) (st1.put i (.dct true kvs))
    | some (.dct true _) => κ (.ok (k i false)) st1
    | _ => false
  | _ => false
theorem sim_dict {N : Addr → Prop} {te : TE} {J : Addr → Obj → List (Key × V) → It} {k : Nat → Bool → Itm} {m : ME} {C : (It → Hp → Prop) → VK} (hk : ∀ i lk, (k i lk).lk = bif lk then some i else none)
    (hP : ∀ (R : It → Hp → Prop) d o kvs (H1 : Hp), H1 d = some (.frz o (.dK kvs)) → R (J d o kvs) H1 → C R (.ref d) H1)
    (hJ : ∀ (ρ : List Addr) (H : Hp) (i : Nat) (lk : Bool) (d : Addr) (o : Obj) (kvs : List (Key × V)), ρ[i]? = some d → H d = some (.frz o (.dK kvs)) → ItOk γ g ρ H (k i lk) (J d o kvs))
    (s : ∀ ρ st H σ τ, Rep γ ρ st H → FrR γ ρ σ τ → SimAt γ W τ (RU γ) ρ H (te τ H) (m σ st)) : SimI γ W g N (fun σ H R => tLockR N te σ H (C R)) (miDict k m) := fun ρ st H σ τ R F κ Rr hm ok ex => by
  refine s ρ st H σ τ R F _ _ hm (fun ρ1 st1 H1 u v s1 R1 r1 kk => ?_) ex
  cases u with
  | ref i =>
    have k2 : (match st1.get i with | some (.dct false kvs) => κ (.ok (k i true)) (st1.put i (.dct true kvs)) | some (.dct true _) => κ (.ok (k i false)) st1 | _ => false) = true := kk
    cases q : st1.get i with
    | none => rw [q] at k2; cases k2
    | some o =>
      rw [q] at k2
      cases o with
      | dct lk kvs =>
        obtain ⟨a, ev, ea, ws, hh, rk⟩ := R1.get q r1
        subst ev
        cases lk with
        | false =>
          refine .inl ⟨a, ws, rfl, hh, fun hn od => ?_⟩
          have ro : RO γ ρ1 (upd H1 a (.frz od (.dK ws))) a (.dct true kvs) := ⟨ws, ⟨od, upd_same⟩, rk⟩
          have nf1 : ∀ o x, H1 a ≠ some (.frz o x) := fun o x z => by
            have hh : H1 a = some (.dK ws) := hh
            rw [hh] at z; cases z
          obtain ⟨R2, S2⟩ := R1.put (o := .dct true kvs) ea nf1 ro
          exact hP _ a od ws _ upd_same (ok ρ1 _ _ _ _ (s1.trans S2) R2 (hJ ρ1 _ i true a od ws ea upd_same) (fun j ej => by
            rw [hk] at ej; cases ej; exact ⟨a, ea, hn, fun o x z => nf1 o x (s1.frz a o x z)⟩) k2)
        | true =>
          obtain ⟨od, hh⟩ := hh
          exact .inr ⟨a, od, ws, rfl, hh, hP _ a od ws _ hh (ok ρ1 _ _ _ _ s1 R1 (hJ ρ1 _ i false a od ws ea hh) (LkOk.no (by rw [hk]; rfl)) k2)⟩
      | lst _ => cases k2
      | tup _ => cases k2
      | ins _ _ => cases k2
  | non => cases kk
  | bl _ => cases kk
  | int _ => cases kk
  | str _ => cases kk
  | glo _ => cases kk
  | ty _ => cases kk
theorem kU_ru {ρ : List Addr} (k : Key) : RU γ ρ (kU k) (kV k) := by
  cases k <;> rfl
/-- the dict that is walked, later -/
theorem dict_at {ρ : List Addr} {H : Hp} {i : Nat} {d : Addr} {o : Obj} {kvs : List (Key × V)} (ea : ρ[i]? = some d) (hd : H d = some (.frz o (.dK kvs))) {ρ' : List Addr} {st' : VS} {H' : Hp} (s : Step ρ H ρ' H') (R : Rep γ ρ' st' H') {us : List (Key × U)}
    (q : st'.get i = some (.dct true us)) : H' d = some (.frz o (.dK kvs)) ∧ RK γ ρ' us kvs := by
  have hd' := s.frz d o _ hd
  obtain ⟨a, ea', ws, ⟨o', h⟩, rk⟩ := R.obj i _ q
  obtain ⟨l, rfl⟩ := s.ext
  rw [List.getElem?_append_left (List.getElem?_eq_some_iff.mp ea).1, ea] at ea'
  cases ea'
  rw [hd'] at h
  cases h
  exact ⟨hd', rk⟩
theorem items_next (ρ : List Addr) (H : Hp) (i : Nat) (lk : Bool) (d : Addr) (o : Obj) (kvs : List (Key × V)) (ea : ρ[i]? = some d) (hd : H d = some (.frz o (.dK kvs))) : ItOk γ g ρ H (.items i lk) (Iti d o kvs) := fun ρ' st' H' s R j => by
  show ((match st'.get i with | some (.dct true kvs) => (match kvs[j]? with | some (k, x) => some (some (Yl.pair (kU k) x)) | none => some none) | _ => none) = some none → _) ∧ ∀ y, (match st'.get i with | some (.dct true kvs) => (match kvs[j]? with | some (k, x) => some (some (Yl.pair (kU k) x)) | none => some none) | _ => none) = some (some y) → _
  cases q : st'.get i with
  | none => exact ⟨(fun h => nomatch h), (fun _ h => nomatch h)⟩
  | some ob =>
    cases ob with
    | dct l us =>
      cases l with
      | false => exact ⟨(fun h => nomatch h), (fun _ h => nomatch h)⟩
      | true =>
        obtain ⟨hd', rk⟩ := dict_at ea hd s R q
        have hl : us.length = kvs.length := Paired.length rk
        show ((match us[j]? with | some (k, x) => some (some (Yl.pair (kU k) x)) | none => some none) = some none → _) ∧ ∀ y, (match us[j]? with | some (k, x) => some (some (Yl.pair (kU k) x)) | none => some none) = some (some y) → _
        cases e : us[j]? with
        | none => exact ⟨fun _ => ⟨hd', by rw [← hl]; exact List.getElem?_eq_none_iff.mp e⟩, (fun _ z => nomatch z)⟩
        | some kx =>
          obtain ⟨k, x⟩ := kx
          obtain ⟨⟨k', v⟩, hv, e1, rv⟩ := pget rk e
          have e1 : k = k' := e1
          subst e1
          refine ⟨(fun z => nomatch z), fun y z => ?_⟩
          cases z
          refine ⟨⟨hd', by rw [← hl]; exact (List.getElem?_eq_some_iff.mp e).1⟩, fun x' H'' ⟨T, k2, v2, e3, e4, e5, e6⟩ => ?_⟩
          rw [hv] at e3; cases e3
          subst e4 e6
          exact pair_new R (kU_ru k) rv e5
    | lst _ => exact ⟨(fun h => nomatch h), (fun _ h => nomatch h)⟩
    | tup _ => exact ⟨(fun h => nomatch h), (fun _ h => nomatch h)⟩
    | ins _ _ => exact ⟨(fun h => nomatch h), (fun _ h => nomatch h)⟩
theorem keys_next (ρ : List Addr) (H : Hp) (i : Nat) (lk : Bool) (d : Addr) (o : Obj) (kvs : List (Key × V)) (ea : ρ[i]? = some d) (hd : H d = some (.frz o (.dK kvs))) : ItOk γ g ρ H (.keys i lk) (Itk d o kvs) := fun ρ' st' H' s R j => by
  show ((match st'.get i with | some (.dct true kvs) => (match kvs[j]? with | some (k, x) => some (some (Yl.one (kU k))) | none => some none) | _ => none) = some none → _) ∧ ∀ y, (match st'.get i with | some (.dct true kvs) => (match kvs[j]? with | some (k, x) => some (some (Yl.one (kU k))) | none => some none) | _ => none) = some (some y) → _
  cases q : st'.get i with
  | none => exact ⟨(fun h => nomatch h), (fun _ h => nomatch h)⟩
  | some ob =>
    cases ob with
    | dct l us =>
      cases l with
      | false => exact ⟨(fun h => nomatch h), (fun _ h => nomatch h)⟩
      | true =>
        obtain ⟨hd', rk⟩ := dict_at ea hd s R q
        have hl : us.length = kvs.length := Paired.length rk
        show ((match us[j]? with | some (k, x) => some (some (Yl.one (kU k))) | none => some none) = some none → _) ∧ ∀ y, (match us[j]? with | some (k, x) => some (some (Yl.one (kU k))) | none => some none) = some (some y) → _
        cases e : us[j]? with
        | none => exact ⟨fun _ => ⟨hd', by rw [← hl]; exact List.getElem?_eq_none_iff.mp e⟩, (fun _ z => nomatch z)⟩
        | some kx =>
          obtain ⟨k, x⟩ := kx
          obtain ⟨⟨k', v⟩, hv, e1, rv⟩ := pget rk e
          have e1 : k = k' := e1
          subst e1
          refine ⟨(fun z => nomatch z), fun y z => ?_⟩
          cases z
          refine ⟨⟨hd', by rw [← hl]; exact (List.getElem?_eq_some_iff.mp e).1⟩, fun x' H'' ⟨e2, k2, v2, e3, e4⟩ => ?_⟩
          rw [hv] at e3; cases e3
          subst e2 e4
          exact ⟨ρ', Step.refl _ _, R, kU_ru k⟩
    | lst _ => exact ⟨(fun h => nomatch h), (fun _ h => nomatch h)⟩
    | tup _ => exact ⟨(fun h => nomatch h), (fun _ h => nomatch h)⟩
    | ins _ _ => exact ⟨(fun h => nomatch h), (fun _ h => nomatch h)⟩
theorem vals_next (ρ : List Addr) (H : Hp) (i : Nat) (lk : Bool) (d : Addr) (o : Obj) (kvs : List (Key × V)) (ea : ρ[i]? = some d) (hd : H d = some (.frz o (.dK kvs))) : ItOk γ g ρ H (.vals i lk) (Itd d o kvs) := fun ρ' st' H' s R j => by
  show ((match st'.get i with | some (.dct true kvs) => (match kvs[j]? with | some (k, x) => some (some (Yl.one x)) | none => some none) | _ => none) = some none → _) ∧ ∀ y, (match st'.get i with | some (.dct true kvs) => (match kvs[j]? with | some (k, x) => some (some (Yl.one x)) | none => some none) | _ => none) = some (some y) → _
  cases q : st'.get i with
  | none => exact ⟨(fun h => nomatch h), (fun _ h => nomatch h)⟩
  | some ob =>
    cases ob with
    | dct l us =>
      cases l with
      | false => exact ⟨(fun h => nomatch h), (fun _ h => nomatch h)⟩
      | true =>
        obtain ⟨hd', rk⟩ := dict_at ea hd s R q
        have hl : us.length = kvs.length := Paired.length rk
        show ((match us[j]? with | some (k, x) => some (some (Yl.one x)) | none => some none) = some none → _) ∧ ∀ y, (match us[j]? with | some (k, x) => some (some (Yl.one x)) | none => some none) = some (some y) → _
        cases e : us[j]? with
        | none => exact ⟨fun _ => ⟨hd', by rw [← hl]; exact List.getElem?_eq_none_iff.mp e⟩, (fun _ z => nomatch z)⟩
        | some kx =>
          obtain ⟨k, x⟩ := kx
          obtain ⟨⟨k', v⟩, hv, e1, rv⟩ := pget rk e
          refine ⟨(fun z => nomatch z), fun y z => ?_⟩
          cases z
          refine ⟨⟨hd', by rw [← hl]; exact (List.getElem?_eq_some_iff.mp e).1⟩, fun x' H'' ⟨e2, k2, e3⟩ => ?_⟩
          rw [hv] at e3; cases e3
          subst e2
          exact ⟨ρ', Step.refl _ _, R, rv⟩
    | lst _ => exact ⟨(fun h => nomatch h), (fun _ h => nomatch h)⟩
    | tup _ => exact ⟨(fun h => nomatch h), (fun _ h => nomatch h)⟩
    | ins _ _ => exact ⟨(fun h => nomatch h), (fun _ h => nomatch h)⟩
theorem si_items {e : Expr} {apos cpos tpos : Pos} {elts : List Expr} {kk : Nat} {m : ME} (h : SE γ W X e m) (hb : attributeBase e "items" X.env (eval e X.env) = eval e X.env := by rfl) (hl : (apos.endLine == cpos.line) = true := by rfl) :
    SI γ W g X (.Tuple elts kk tpos) (.Call (.Attribute e "items" apos) [] [] cpos) (miDict .items m) := by
  obtain ⟨t, p, s⟩ := h
  exact ⟨_, pi_items (pe_lockR p) hb hl, sim_dict (fun i lk => by cases lk <;> rfl) (fun R d o kvs H1 h q => ⟨d, o, kvs, rfl, h, q⟩) items_next s⟩
theorem si_vals {tg e : Expr} {apos cpos : Pos} {m : ME} (h : SE γ W X e m) (hb : attributeBase e "values" X.env (eval e X.env) = eval e X.env := by rfl) (hl : (apos.endLine == cpos.line) = true := by rfl) :
    SI γ W g X tg (.Call (.Attribute e "values" apos) [] [] cpos) (miDict .vals m) := by
  obtain ⟨t, p, s⟩ := h
  exact ⟨_, pi_values (pe_lockR p) hb hl, sim_dict (fun i lk => by cases lk <;> rfl) (fun R d o kvs H1 h q => ⟨d, o, kvs, rfl, h, q⟩) vals_next s⟩
theorem si_keys {tg e : Expr} {m : ME} (h : SE γ W X e m) : SI γ W g X tg e (miDict .keys m) := by
  obtain ⟨t, p, s⟩ := h
  exact ⟨_, pi_keys (pe_lockR p), sim_dict (fun i lk => by cases lk <;> rfl) (fun R d o kvs H1 h q => ⟨d, o, rfl, .inl ⟨kvs, h, q⟩⟩) keys_next s⟩
/-- a text's signs -/
def miStr (m : ME) : MI := fun σ st => bnd (m σ st) fun u st1 κ => match u with
  | .str x => κ (.ok (.chars x)) st1
  | _ => false
theorem str_next {ρ : List Addr} {H : Hp} (x : Str) : ItOk γ g ρ H (.chars x) (Its x) := fun ρ' st' H' s R i => by
  show ((match x.cps.toList[i]? with | some c => some (some (Yl.one (.str ⟨#[c]⟩))) | none => some none) = some none → _) ∧ ∀ y, (match x.cps.toList[i]? with | some c => some (some (Yl.one (.str ⟨#[c]⟩))) | none => some none) = some (some y) → _
  cases e : x.cps.toList[i]? with
  | none =>
    refine ⟨fun _ => ?_, (fun _ z => nomatch z)⟩
    have := List.getElem?_eq_none_iff.mp e
    first | exact this | (rw [Array.length_toList] at this; exact this)
  | some c =>
    refine ⟨(fun z => nomatch z), fun y z => ?_⟩
    cases z
    have hc := (List.getElem?_eq_some_iff.mp e).1
    have e2 : x.cps[i]? = some c := by simpa using e
    refine ⟨by first | exact hc | (rw [Array.length_toList] at hc; exact hc), fun x' H'' h => ?_⟩
    obtain ⟨e3, c', e4, e5⟩ := h
    subst e3
    have e6 : c = c' := Option.some.inj (e2.symm.trans e4)
    subst e6
    exact ⟨ρ', Step.refl _ _, R, e5⟩
theorem si_str {tg e : Expr} {m : ME} (h : SE γ W X e m) : SI γ W g X tg e (miStr m) := by
  obtain ⟨t, p, s⟩ := h
  refine ⟨_, pi_str p, fun ρ st H σ τ R F κ Rr hm ok ex => s ρ st H σ τ R F _ _ hm (fun ρ1 st1 H1 u v s1 R1 r1 k => ?_) ex⟩
  cases u with
  | str x => exact ⟨x, r1, ok ρ1 st1 H1 _ _ s1 R1 (str_next x) LkOk.no k⟩
  | non => cases k
  | bl _ => cases k
  | int _ => cases k
  | ref _ => cases k
  | glo _ => cases k
  | ty _ => cases k
/-- a list, a tuple, a dict by its keys, a text -/
def miAny (g : GT) (m : ME) : MI := mOr (miSeq g m) (mOr (miDict .keys m) (miStr m))
theorem si_any {tg e : Expr} {m : ME} (G : GOk X.K γ g) (h : SE γ W X e m) : SI γ W g X tg e (miAny g m) := si_or (si_seq G h) (si_or (si_keys h) (si_str h))

/-! ### at a walk's end the dict is unlocked -/
def unl (it : Itm) (st : VS) : Option VS := match it.lk with
  | none => some st
  | some i => match st.get i with
    | some (.dct true kvs) => some (st.put i (.dct false kvs))
    | _ => none
def UN (N : Addr → Prop) (P : Hp → Prop) (H : Hp) : Prop := P H ∨ ∃ d od u, N d ∧ H d = some (.frz od u) ∧ P (upd H d u)
theorem UN.inv {P : Hp → Prop} {pins : List (Addr × Obj)} {σ : St} {H : Hp} {s : Shared} (I : Inv X pins σ H s) (h : UN (NF X) P H) : ∃ H', Inv X pins σ H' s ∧ P H' := by
  rcases h with h | ⟨d, od, u, hn, hd, h⟩
  · exact ⟨H, I, h⟩
  · exact ⟨_, I.unlock hd hn, h⟩
def UD (N : Addr → Prop) (D : Ends) : Ends := ⟨fun σ => UN N (D.nx σ), fun v => UN N (D.rt v), fun σ => UN N (D.bk σ), fun σ => UN N (D.ct σ)⟩
theorem ps_unl {st : Stmt} {t : TS} (h : PS X st t) : PS X st (fun D σ H => t (UD (NF X) D) σ H) := by
  refine ⟨fun pins s σ H D I hw => thn (h.run pins s σ H _ I hw) fun f s1 q => ?_⟩
  cases f with
  | next => obtain ⟨σ', H', I2, q⟩ := q; obtain ⟨H2, I3, q⟩ := UN.inv I2 q; exact ⟨σ', _, I3, q⟩
  | brk => obtain ⟨σ', H', I2, q⟩ := q; obtain ⟨H2, I3, q⟩ := UN.inv I2 q; exact ⟨σ', _, I3, q⟩
  | cont => obtain ⟨σ', H', I2, q⟩ := q; obtain ⟨H2, I3, q⟩ := UN.inv I2 q; exact ⟨σ', _, I3, q⟩
  | ret v => obtain ⟨x, σ', H', I2, r, q⟩ := q; obtain ⟨H2, I3, q⟩ := UN.inv I2 q; exact ⟨x, σ', _, I3, r, q⟩
theorem pe_unl {e : Expr} {t : TE} (h : PE X e t) : PE X e (fun σ H Q => t σ H fun v => UN (NF X) (Q v)) := by
  refine ⟨fun pins s σ H Q I hw => thn (h.run pins s σ H _ I hw) fun v s1 ⟨x, H', I2, r, q⟩ => ?_⟩
  obtain ⟨H2, I3, q⟩ := UN.inv I2 q
  exact ⟨x, H2, I3, r, q⟩
/-- the end of a walk -/
theorem unl_ok {N : Addr → Prop} {H0 H : Hp} {ρ0 ρ : List Addr} {st st' : VS} {it : Itm} {P : Hp → Prop} (S : Step ρ0 H0 ρ H) (R : Rep γ ρ st H) (L : LkOk N H0 ρ it) (e : unl it st = some st') (h : ∀ H', Step ρ0 H0 ρ H' → Rep γ ρ st' H' → P H') : UN N P H := by
  unfold unl at e
  cases q : it.lk with
  | none => rw [q] at e; cases e; exact .inl (h H S R)
  | some i =>
    rw [q] at e
    have e2 : (match st.get i with | some (.dct true kvs) => some (st.put i (.dct false kvs)) | _ => none) = some st' := e
    obtain ⟨a, ea, hn, nf⟩ := L i q
    cases q2 : st.get i with
    | none => rw [q2] at e2; cases e2
    | some o =>
      rw [q2] at e2
      cases o with
      | dct lk kvs =>
        cases lk with
        | true =>
          cases e2
          obtain ⟨b, eb, ws, ⟨od, hh⟩, rk⟩ := R.obj i _ q2
          rw [ea] at eb; cases eb
          have ro : RO γ ρ (upd H a (.dK ws)) a (.dct false kvs) := ⟨ws, upd_same, rk⟩
          exact .inr ⟨a, od, .dK ws, hn, hh, h _ (S.unlock (List.mem_of_getElem? ea) nf) (R.unlock ea ro)⟩
        | false => cases e2
      | lst _ => cases e2
      | tup _ => cases e2
      | ins _ _ => cases e2

/-! ### for -/
def finK (it : Itm) (κ : Out → Fr → VS → Bool) (o : Out) (σ : Fr) (st : VS) : Bool := match unl it st with
  | some st' => κ o σ st'
  | none => false
def loopU (it : Itm) (κ : Out → Fr → VS → Bool) (nxt : Fr → VS → Bool) : Out → Fr → VS → Bool := fun o σ st => match o with
  | .nx => nxt σ st
  | .ct => nxt σ st
  | .bk => finK it κ .nx σ st
  | .rt u => finK it κ (.rt u) σ st
  | .ex x => κ (.ex x) σ st
def fLoop (g : GT) (it : Itm) (mg : MG) (b : MS) : Nat → Nat → MS
  | 0, _, _, _ => fun _ => false
  | n + 1, i, σ, st => fun κ => match it.next g st i with
    | none => false
    | some none => finK it κ .nx σ st
    | some (some y) => mg (y.u st) σ (y.st st) fun σ1 st1 => b σ1 st1 (loopU it κ fun σ2 st2 => fLoop g it mg b n (i + 1) σ2 st2 κ)
def mFor (g : GT) (n : Nat) (mi : MI) (mg : MG) (b : MS) : MS := fun σ st κ => mi σ st (onE κ σ fun it st1 => fLoop g it mg b n 0 σ st1 κ)
theorem ss_for {tg iter : Expr} {body : List Stmt} {pos : Pos} {sl : List Nat} {mi : MI} {mg : MG} {m : MS} (n : Nat) (hp : PassesOwn (model X.prog X.w) X.A X.env X.xe) (hc : X.calm = true) (hi : SI γ W g X tg iter mi) (hg : SG γ X sl tg mg) (hb : SSs γ W X body m)
    (hs : ∀ x, foldedSetIterable iter X.env x = pure x := by intro _; rfl) : SS γ W X (.For tg iter body [] pos) (mFor g n mi mg m) := by
  obtain ⟨ti, pi, si⟩ := hi
  obtain ⟨tg', pg, sg⟩ := hg
  obtain ⟨t, p, s⟩ := hb
  refine ⟨_, ps_unl (ps_for hp hc pi pg p hs), fun ρ st H σ τ R F κ D hm ok => si ρ st H σ τ R F _ _ hm (fun ρ1 st1 H1 it J s1 R1 iok lok k1 => ?_) (ok.exK F)⟩
  refine ⟨fun i k τ' H' => ∃ ρ' st' σ', Step ρ H ρ' H' ∧ Step ρ1 H1 ρ' H' ∧ Rep γ ρ' st' H' ∧ FrR γ ρ' σ' τ' ∧ fLoop g it mg m k i σ' st' κ = true, ⟨n, ρ1, st1, σ, s1, Step.refl _ _, R1, F.step s1, k1⟩, fun i k τ' H' ⟨ρ', st', σ', S, S1, R', F', hk⟩ => ?_⟩
  cases k with
  | zero => cases hk
  | succ k =>
    obtain ⟨stop, go⟩ := iok ρ' st' H' S1 R' i
    have hk2 : (match it.next g st' i with | none => false | some none => finK it κ .nx σ' st' | some (some y) => mg (y.u st') σ' (y.st st') fun σ1 st1 => m σ1 st1 (loopU it κ fun σ2 st2 => fLoop g it mg m k (i + 1) σ2 st2 κ)) = true := hk
    -- the ends
    have fin : ∀ {ρ2 : List Addr} {st2 : VS} {H2 : Hp} {o : Out} {σ2 : Fr} {P : Hp → Prop}, Step ρ H ρ2 H2 → Step ρ1 H1 ρ2 H2 → Rep γ ρ2 st2 H2 → finK it κ o σ2 st2 = true → (∀ st3 H3, Step ρ H ρ2 H3 → Rep γ ρ2 st3 H3 → κ o σ2 st3 = true → P H3) → UN (NF X) P H2 := fun {ρ2 st2 H2 o σ2 P} S2 S12 R2 e h => by
      unfold finK at e
      cases q : unl it st2 with
      | none => rw [q] at e; cases e
      | some st3 => rw [q] at e; exact unl_ok S2 R2 (lok.step S12) q fun H3 S3 R3 => h st3 H3 S3 R3 e
    cases q : it.next g st' i with
    | none => rw [q] at hk2; cases hk2
    | some oy =>
      rw [q] at hk2
      cases oy with
      | none => exact .inl ⟨stop q, fin S S1 R' hk2 fun st3 H3 S3 R3 e => ok.nx ρ' st3 H3 σ' τ' S3 R3 ⟨F'.len, F'.at_⟩ e⟩
      | some y =>
        obtain ⟨hgo, hy⟩ := go y q
        refine .inr ⟨hgo, fun τ2 H2 => ∃ ρ2 st2 σ2, Step ρ H ρ2 H2 ∧ Step ρ1 H1 ρ2 H2 ∧ Rep γ ρ2 st2 H2 ∧ FrR γ ρ2 σ2 τ2 ∧ fLoop g it mg m k (i + 1) σ2 st2 κ = true, fun τ2 H2 z => ⟨k, Nat.lt_succ_self k, z⟩, fun x H'' hyl => ?_⟩
        obtain ⟨ρ2, S2, R2, r2⟩ := hy x H'' hyl
        refine sg ρ2 _ H'' σ' τ' _ _ R2 (F'.step S2) r2 _ _ hk2 fun ρ3 st3 H3 σ3 τ3 S3 R3 F3 _ k3 => s ρ3 st3 H3 σ3 τ3 R3 F3 _ _ k3 ?_
        have SS := S.trans (S2.trans S3)
        have SS1 := S1.trans (S2.trans S3)
        exact ⟨fun ρ4 st4 H4 σ4 τ4 S4 R4 F4 k4 => ⟨ρ4, st4, σ4, SS.trans S4, SS1.trans S4, R4, F4, k4⟩, fun ρ4 st4 H4 σ4 τ4 S4 R4 F4 k4 => fin (SS.trans S4) (SS1.trans S4) R4 k4 fun st5 H5 S5 R5 e => ok.nx ρ4 st5 H5 σ4 τ4 S5 R5 F4 e,
          fun ρ4 st4 H4 σ4 τ4 S4 R4 F4 k4 => ⟨ρ4, st4, σ4, SS.trans S4, SS1.trans S4, R4, F4, k4⟩, fun ρ4 st4 H4 σ4 u v S4 R4 r4 k4 => fin (SS.trans S4) (SS1.trans S4) R4 k4 fun st5 H5 S5 R5 e => ok.rt ρ4 st5 H5 σ4 u v S5 R5 r4 e,
          fun ρ4 st4 H4 σ4 τ4 x cl d S4 R4 F4 r4 k4 => ok.ex ρ4 st4 H4 σ4 τ4 x cl d (SS.trans S4) R4 F4 r4 k4⟩

/-! ### a list comprehension -/
def wipeU (σ : Fr) : List Nat → Fr
  | [] => σ
  | v :: vs => (wipeU σ vs).set v none
theorem FrR.wiped {ρ : List Addr} {σ : Fr} {τ : St} (F : FrR γ ρ σ τ) : ∀ vs : List Nat, FrR γ ρ (wipeU σ vs) (wipe τ vs)
  | [] => F
  | v :: vs => by
    have h := FrR.wiped F vs
    refine ⟨by show ((wipeU σ vs).set v none).length = ((wipe τ vs).set v none).length; rw [List.length_set, List.length_set]; exact h.len, fun j u e => ?_⟩
    have e2 : ((wipeU σ vs).set v none)[j]? = some (some u) := e
    by_cases q : v = j
    · subst q
      rw [List.getElem?_set] at e2
      simp at e2
    · rw [List.getElem?_set_ne q] at e2
      obtain ⟨x, e1, r1⟩ := h.at_ j u e2
      exact ⟨x, by show ((wipe τ vs).set v none)[j]? = _; rw [List.getElem?_set_ne q]; exact e1, r1⟩
theorem wipe_get (τ : St) (j : Nat) : ∀ vs : List Nat, (wipe τ vs)[j]? = if j ∈ vs ∧ j < τ.length then some none else τ[j]?
  | [] => by simp [wipe]
  | v :: vs => by
    have ih := wipe_get τ j vs
    show ((wipe τ vs).set v none)[j]? = _
    by_cases q : v = j
    · subst q
      by_cases l : v < τ.length
      · rw [List.getElem?_set_self (by rw [wipe_length]; exact l), if_pos ⟨List.mem_cons_self, l⟩]
      · rw [List.getElem?_eq_none (by rw [List.length_set, wipe_length]; omega), if_neg (fun z => l z.2), List.getElem?_eq_none (by omega)]
    · rw [List.getElem?_set_ne q, ih]
      have : (j ∈ vs ∧ j < τ.length) ↔ (j ∈ v :: vs ∧ j < τ.length) := by
        rw [List.mem_cons]
        constructor
        · exact fun h => ⟨.inr h.1, h.2⟩
        · exact fun h => ⟨h.1.resolve_left (fun z => q z.symm), h.2⟩
      by_cases z : j ∈ vs ∧ j < τ.length
      · rw [if_pos z, if_pos (this.mp z)]
      · rw [if_neg z, if_neg (fun y => z (this.mpr y))]
theorem wipe_same {τ τ' : St} {sl vs : List Nat} (h : Same sl (wipe τ vs) τ') (hs : ∀ j ∈ sl, j ∈ vs) : wipe τ' vs = wipe τ vs := by
  have hl : τ'.length = τ.length := by rw [h.1, wipe_length]
  refine List.ext_getElem? fun j => ?_
  rw [wipe_get, wipe_get, hl]
  by_cases z : j ∈ vs ∧ j < τ.length
  · rw [if_pos z, if_pos z]
  · rw [if_neg z, if_neg z]
    by_cases y : j ∈ vs
    · rw [List.getElem?_eq_none (by rw [hl]; exact Nat.le_of_not_lt fun q => z ⟨y, q⟩), List.getElem?_eq_none (Nat.le_of_not_lt fun q => z ⟨y, q⟩)]
    · rw [h.2 j (fun q => y (hs j q)), wipe_get, if_neg z]
/-- no exception leaves it -/
def noX {α : Type} (f : α → VS → Bool) : Rs α → VS → Bool := fun r st => match r with
  | .ok u => f u st
  | .ex _ => false
def W0 : WX := fun _ _ _ _ => False
theorem noX_ex {W : WX} {τ : St} {ρ : List Addr} {H : Hp} {α : Type} {f : α → VS → Bool} : ExK γ W τ ρ H (noX f) := fun _ _ _ _ _ _ _ _ _ k => nomatch k
def finE (it : Itm) (κ : Rs U → VS → Bool) (u : U) (st : VS) : Bool := match unl it st with
  | some st' => κ (.ok u) st'
  | none => false
def cLoop (g : GT) (it : Itm) (mg : MG) (mt : MT) (me : ME) (σw : Fr) (d : Nat) : Nat → Nat → VS → (Rs U → VS → Bool) → Bool
  | 0, _, _ => fun _ => false
  | n + 1, i, st => fun κ => match it.next g st i with
    | none => false
    | some none => finE it κ (.ref d) st
    | some (some y) => mg (y.u st) σw (y.st st) fun σ1 st1 => mt σ1 st1 (noX fun b st2 => match b with
      | false => cLoop g it mg mt me σw d n (i + 1) st2 κ
      | true => me σ1 st2 (noX fun u st3 => match st3.get d with
        | some (.lst acc) => match Nat.blt acc.length line with
          | true => cLoop g it mg mt me σw d n (i + 1) (st3.put d (.lst (acc ++ [u]))) κ
          | false => false
        | _ => false))
def mLc (g : GT) (n : Nat) (vs : List Nat) (mi : MI) (mg : MG) (mt : MT) (me : ME) : ME := fun σ st => bnd (mi σ st) fun it st1 κ => cLoop g it mg mt me (wipeU σ vs) st1.n n 0 (st1.new (.lst [])) κ
def mYes : MT := fun _ st => ret true st
theorem sim_lc {sl vs : List Nat} {N : Addr → Prop} {wi : TI} {mi : MI} {mg : MG} {mt : MT} {me : ME} (n : Nat) (si : SimI γ W g N wi mi) (hsl : ∀ j ∈ sl, j ∈ vs) (ρ st H σ τ) (R : Rep γ ρ st H) (F : FrR γ ρ σ τ) :
    SimAt γ W τ (RU γ) ρ H (fun Q => tLc wi (tMg γ sl mg) (tMt γ W0 mt) (tM γ W0 me) vs τ H fun v => UN N (Q v)) (mLc g n vs mi mg mt me σ st) := fun κ Q hm ok ex => si ρ st H σ τ R F _ _ hm (fun ρ1 st1 H1 it J s1 R1 iok lok k1 D hD => by
  have ro : RO γ (ρ1 ++ [D]) (upd H1 D (.lst [])) D (.lst []) := ⟨[], upd_same, .nil⟩
  obtain ⟨R2, S2⟩ := R1.new hD (new_upd hD) ro
  have eD : (ρ1 ++ [D])[st1.n]? = some D := by rw [← R1.len, List.getElem?_append_right (Nat.le_refl _), Nat.sub_self]; rfl
  refine ⟨fun i k H' => ∃ ρ' st', Step (ρ1 ++ [D]) (upd H1 D (.lst [])) ρ' H' ∧ Rep γ ρ' st' H' ∧ cLoop g it mg mt me (wipeU σ vs) st1.n k i st' κ = true, ⟨n, ρ1 ++ [D], _, Step.refl _ _, R2, k1⟩, fun i k H' ⟨ρ', st', S', R', hk⟩ => ?_⟩
  have S1 : Step ρ1 H1 ρ' H' := S2.trans S'
  have S0 : Step ρ H ρ' H' := s1.trans S1
  cases k with
  | zero => cases hk
  | succ k =>
    obtain ⟨stop, go⟩ := iok ρ' st' H' S1 R' i
    have hk2 : (match it.next g st' i with
      | none => false
      | some none => finE it κ (.ref st1.n) st'
      | some (some y) => mg (y.u st') (wipeU σ vs) (y.st st') fun σ1 st3 => mt σ1 st3 (noX fun b st2 => match b with
        | false => cLoop g it mg mt me (wipeU σ vs) st1.n k (i + 1) st2 κ
        | true => me σ1 st2 (noX fun u st3 => match st3.get st1.n with
          | some (.lst acc) => match Nat.blt acc.length line with
            | true => cLoop g it mg mt me (wipeU σ vs) st1.n k (i + 1) (st3.put st1.n (.lst (acc ++ [u]))) κ
            | false => false
          | _ => false))) = true := hk
    have eD' : ρ'[st1.n]? = some D := by
      obtain ⟨l, e⟩ := S'.ext
      rw [e, List.getElem?_append_left (List.getElem?_eq_some_iff.mp eD).1]; exact eD
    cases q : it.next g st' i with
    | none => rw [q] at hk2; cases hk2
    | some oy =>
      rw [q] at hk2
      cases oy with
      | none =>
        refine .inl ⟨stop q, ?_⟩
        have e : finE it κ (.ref st1.n) st' = true := hk2
        unfold finE at e
        cases q2 : unl it st' with
        | none => rw [q2] at e; cases e
        | some st3 =>
          rw [q2] at e
          have rD : RU γ ρ' (.ref st1.n) (.ref D) := ⟨D, eD', rfl⟩
          exact unl_ok S0 R' (lok.step S1) q2 fun H3 S3 R3 => ok ρ' st3 H3 _ _ S3 R3 rD e
      | some y =>
        obtain ⟨hgo, hy⟩ := go y q
        refine .inr ⟨hgo, fun H2 => ∃ ρ2 st2, Step (ρ1 ++ [D]) (upd H1 D (.lst [])) ρ2 H2 ∧ Rep γ ρ2 st2 H2 ∧ cLoop g it mg mt me (wipeU σ vs) st1.n k (i + 1) st2 κ = true, fun H2 z => ⟨k, Nat.lt_succ_self k, z⟩, fun x H'' hyl => ?_⟩
        obtain ⟨ρ2, S2', R2', r2⟩ := hy x H'' hyl
        refine ⟨ρ2, _, _, _, _, R2', (F.wiped vs).step (S0.trans S2'), r2, hk2, fun ρ3 st3 H3 σ3 τ3 S3 R3 F3 sm k3 => ⟨wipe_same sm hsl, ρ3, st3, σ3, _, R3, F3, k3, fun ρ4 st4 H4 b b' S4 R4 eb k4 => ?_, noX_ex⟩⟩
        have eb : b = b' := eb
        subst eb
        have SA := S'.trans (S2'.trans (S3.trans S4))
        cases b with
        | false => exact iteF ⟨ρ4, st4, SA, R4, k4⟩
        | true =>
          refine iteT ?_
          refine ⟨ρ4, st4, σ3, _, R4, F3.step S4, k4, fun ρ5 st5 H5 u v S5 R5 r5 k5 => ?_, noX_ex⟩
          have k6 : (match st5.get st1.n with
            | some (.lst acc) => (match Nat.blt acc.length line with
              | true => cLoop g it mg mt me (wipeU σ vs) st1.n k (i + 1) (st5.put st1.n (.lst (acc ++ [u]))) κ
              | false => false)
            | _ => false) = true := k5
          have SB := SA.trans S5
          have eD5 : ρ5[st1.n]? = some D := by
            obtain ⟨l, e⟩ := SB.ext
            rw [e, List.getElem?_append_left (List.getElem?_eq_some_iff.mp eD).1]; exact eD
          cases q5 : st5.get st1.n with
          | none => rw [q5] at k6; cases k6
          | some o =>
            rw [q5] at k6
            cases o with
            | lst acc =>
              have k7 : (match Nat.blt acc.length line with
                | true => cLoop g it mg mt me (wipeU σ vs) st1.n k (i + 1) (st5.put st1.n (.lst (acc ++ [u]))) κ
                | false => false) = true := k6
              cases q6 : Nat.blt acc.length line with
              | false => rw [q6] at k7; cases k7
              | true =>
                rw [q6] at k7
                obtain ⟨a, ea, ys, hh, rl⟩ := R5.obj _ _ q5
                rw [eD5] at ea; cases ea
                have ro : RO γ ρ5 (upd H5 D (.lst (ys ++ [v]))) D (.lst (acc ++ [u])) := ⟨_, upd_same, Paired.snoc rl r5⟩
                obtain ⟨R6, S6⟩ := R5.put (o := .lst (acc ++ [u])) eD5 (by rw [hh]; intro _ _ z; cases z) ro
                exact ⟨ys, hh, by rw [← rl.length]; exact line_lt q6, ρ5, _, SB.trans S6, R6, k7⟩
            | tup _ => cases k6
            | dct _ _ => cases k6
            | ins _ _ => cases k6) ex
end
end MV

namespace MV
open PySem PySem.Spec PyProof.Rows L2

/-! ### list comprehensions as expressions -/
section
variable {γ : Nat → Addr} {W : WX} {X : Cx} {g : GT}
theorem pts_nilM : PTs X [] (tMt γ W0 mYes) := ⟨fun pins s τ H Q I ⟨ρ, st, σ, κ, R, F, hm, ok, _⟩ => (pts_nil (X := X)).run pins s τ H Q I (ok.here (v := true) R rfl hm)⟩
theorem ST.pts1 {c : Expr} {m : MT} (h : ST γ W0 X c m) : PTs X [c] (tMt γ W0 m) := pts_one h.pt
theorem se_lc {elt tg iter : Expr} {ifs : List Expr} {scope : Scope} {own : List (Str × Nat)} {pos : Pos} {sl : List Nat} {mi : MI} {mg : MG} {mt : MT} {me : ME} (n : Nat) (hc : X.calm = true) (hN : X.N.Nodup) (hi : SI γ W g X tg iter mi) (ok : BlkOk X.N X.env.scope scope own)
    (hg : ∀ (s : Shared) (H : Hp) (C : Addr) (cl : List (Str × Addr)) (fp : List Addr), SG γ (X.blk s H scope (compEnvC scope cl C X.env) fp) sl tg mg) (ht : ∀ (s : Shared) (H : Hp) (C : Addr) (cl : List (Str × Addr)) (fp : List Addr), PTs (X.blk s H scope (compEnvC scope cl C X.env) fp) ifs (tMt γ W0 mt))
    (he : ∀ (s : Shared) (H : Hp) (C : Addr) (cl : List (Str × Addr)) (fp : List Addr), SE γ W0 (X.blk s H scope (compEnvC scope cl C X.env) fp) elt me) (hsl : ∀ j ∈ sl, j ∈ own.map (·.2) := by decide) (hs : ∀ x, foldedSetIterable iter X.env x = pure x := by intro _; rfl) :
    SE γ W X (.ListComp elt [⟨tg, iter, ifs, 0⟩] scope pos) (mLc g n (own.map (·.2)) mi mg mt me) := by
  obtain ⟨ti, pi, si⟩ := hi
  exact ⟨_, pe_unl (pe_lc hc hN pi ok (fun s H C cl fp => (hg s H C cl fp).pg) ht (fun s H C cl fp => (he s H C cl fp).pe) hs), fun ρ st H σ τ R F => sim_lc n si hsl ρ st H σ τ R F⟩
theorem ss_setLc {i : Nat} {y : Str} {py : Pos} {elt tg iter : Expr} {ifs : List Expr} {scope : Scope} {own : List (Str × Nat)} {pos spos : Pos} {sl : List Nat} {mi : MI} {mg : MG} {mt : MT} {me : ME} (n : Nat) (hc : X.calm = true) (hN : X.N.Nodup) (hi : SI γ W g X tg iter mi) (ok : BlkOk X.N X.env.scope scope own)
    (hg : ∀ (s : Shared) (H : Hp) (C : Addr) (cl : List (Str × Addr)) (fp : List Addr), SG γ (X.blk s H scope (compEnvC scope cl C X.env) fp) sl tg mg) (ht : ∀ (s : Shared) (H : Hp) (C : Addr) (cl : List (Str × Addr)) (fp : List Addr), PTs (X.blk s H scope (compEnvC scope cl C X.env) fp) ifs (tMt γ W0 mt))
    (he : ∀ (s : Shared) (H : Hp) (C : Addr) (cl : List (Str × Addr)) (fp : List Addr), SE γ W0 (X.blk s H scope (compEnvC scope cl C X.env) fp) elt me) (hy : X.N[i]? = some y := by rfl) (hyl : X.env.scope.names.lookup y = some .local := by rfl)
    (hsw : swapsWith (.ListComp elt [⟨tg, iter, ifs, 0⟩] scope pos) (some (.Name y py)) spos.line X.env = pure true := by exact sw_true rfl rfl rfl (by decide +kernel)) (hsl : ∀ j ∈ sl, j ∈ own.map (·.2) := by decide) (hs : ∀ x, foldedSetIterable iter X.env x = pure x := by intro _; rfl) :
    SS γ W X (.Assign [.Name y py] (.ListComp elt [⟨tg, iter, ifs, 0⟩] scope pos) spos) (mAsg (mLc g n (own.map (·.2)) mi mg mt me) (mgName i)) := by
  obtain ⟨ti, pi, si⟩ := hi
  refine ⟨_, ps_unl (ps_setLc hc hN hy hyl hsw pi ok (fun s H C cl fp => (hg s H C cl fp).pg) ht (fun s H C cl fp => (he s H C cl fp).pe) hs), fun ρ st H σ τ R F κ D hm ok => ?_⟩
  exact sim_lc n si hsl ρ st H σ τ R F _ (fun v H1 => D.nx (τ.set i (some v)) H1) hm (fun ρ1 st1 H1 u v s1 R1 r1 k => ok.nx ρ1 st1 H1 _ _ s1 R1 ((F.step s1).set i r1) k) (ok.exK F)

/-! ### what a def promises: its run -/
def SpM (γ : Nat → Addr) (n : Nat) (mf : MF) : Sp := fun vs H Q E => vs.length = n ∧ ∃ ρ st us κ, Rep γ ρ st H ∧ RL γ ρ us vs ∧ mf us st (noX κ) = true ∧ OkK γ (RU γ) ρ H (noX κ) Q
def callM (mf : MF) (n : Nat) (us : List U) (st : VS) : Go U := fun κ => match Nat.beq us.length n with
  | true => mf us st (noX fun u st' => κ (.ok u) st')
  | false => false
theorem sim_call {ρ : List Addr} {st : VS} {H : Hp} {τ : L2.St} {n : Nat} {mf : MF} {us : List U} {vs : List V} (R : Rep γ ρ st H) (r : RL γ ρ us vs) : SimAt γ W τ (RU γ) ρ H (fun Q => SpM γ n mf vs H Q E0) (callM mf n us st) := fun κ Q hm ok _ => by
  have hm2 : (match Nat.beq us.length n with | true => mf us st (noX fun u st' => κ (.ok u) st') | false => false) = true := hm
  cases q : Nat.beq us.length n with
  | false => rw [q] at hm2; cases hm2
  | true =>
    rw [q] at hm2
    exact ⟨r.length.symm.trans (Nat.eq_of_beq_eq_true q), ρ, st, us, _, R, r, hm2, fun ρ' st' H' u v s R' r' k => ok ρ' st' H' u v s R' r' k⟩
/-- the slots at a def's entry -/
def mDef (np nl : Nat) (m : MS) : MF := fun us st κ => match Nat.beq us.length np with
  | true => m (us.map some ++ List.replicate nl none) st fun o _ st' => match o with
    | .nx => κ (.ok .non) st'
    | .rt u => κ (.ok u) st'
    | .ex x => κ (.ex x) st'
    | .bk => false
    | .ct => false
  | false => false
theorem fr_start {ρ : List Addr} {us : List U} {vs : List V} (r : RL γ ρ us vs) (nl : Nat) : FrR γ ρ (us.map some ++ List.replicate nl none) (vs.map some ++ List.replicate nl none) := by
  refine ⟨by simp [r.length], fun i u e => ?_⟩
  by_cases h : i < us.length
  · rw [List.getElem?_append_left (by simpa using h)] at e
    rw [List.getElem?_map] at e
    cases q : us[i]? with
    | none => rw [q] at e; cases e
    | some w =>
      rw [q] at e
      cases e
      obtain ⟨v, hv, rv⟩ := pget r q
      exact ⟨v, by rw [List.getElem?_append_left (by simpa [r.length] using h), List.getElem?_map, hv]; rfl, rv⟩
  · rw [List.getElem?_append_right (by simpa using h)] at e
    rw [List.getElem?_replicate] at e
    split at e <;> cases e
end
section
variable {γ : Nat → Addr} {P : Program} {w : World} {K : PySem.W.Frag} {mg : Str → Option Value} {base : Heap}
/-- a def keeps its promise: the body's run (no exception leaves it) -/
theorem fn_okM {x qual : Str} {params : Arguments} {body : List Stmt} {scope : Scope} {dvs : List V} {kws : List (Str × V)} {f : Addr} {fd : FuncData} {N ps : List Str} {k np nl : Nat} {m : MS} (F : FunD K x qual params body scope dvs kws f fd) (S : FnScope N ps scope) (hnp : ps.length = np) (hN : N.length = np + nl)
    (h : ∀ (cdv : Value) (A : Around) (outer : List Env) (s : Shared) (H : Hp), Room k (A.deeper (envOfC qual scope s.heap.objs.size f cdv)) → SSs γ W0 (cxOf CX0 P w K mg base N qual scope f cdv A outer s H E0).nox body m) :
    FnOk P w K mg base CX0 (k + 1) f fd ps (SpM γ np (mDef np nl m)) := by
  refine F.ok S (fun vs H Q E q => q.1.trans hnp.symm) fun cdv A outer s H vs Q E hr ⟨hl, ρ, st, us, κ, R, r, hm, ok⟩ => ?_
  obtain ⟨t, p, q⟩ := h cdv A outer s H hr
  have hm2 : (match Nat.beq us.length np with
    | true => m (us.map some ++ List.replicate nl none) st fun o _ st' => match o with
      | .nx => noX κ (.ok .non) st'
      | .rt u => noX κ (.ok u) st'
      | .ex x => noX κ (.ex x) st'
      | .bk => false
      | .ct => false
    | false => false) = true := hm
  cases z : Nat.beq us.length np with
  | false => rw [z] at hm2; cases hm2
  | true =>
    rw [z] at hm2
    have es : L2.start N vs = vs.map some ++ List.replicate nl none := by
      unfold L2.start
      rw [hN, hl, Nat.add_sub_cancel_left]
    refine ⟨t, PSs.nox p, ?_⟩
    rw [es]
    refine q ρ st H _ _ R (fr_start r nl) _ _ hm2 ⟨fun ρ1 st1 H1 σ1 τ1 s1 R1 F1 k1 => ok ρ1 st1 H1 .non .non s1 R1 rfl k1, fun _ _ _ _ _ _ _ _ k1 => ?_, fun _ _ _ _ _ _ _ _ k1 => ?_, fun ρ1 st1 H1 σ1 u v s1 R1 r1 k1 => ok ρ1 st1 H1 u v s1 R1 r1 k1, fun ρ1 st1 H1 σ1 τ1 x c d s1 R1 F1 r1 k1 => ?_⟩
    · cases k1
    · cases k1
    · cases k1
end
/-! ### calls: positional values -/
section
variable {γ : Nat → Addr} {W : WX} {X : Cx} {g : GT} {k n : Nat} {f C : Addr} {mf : MF}
/-- the def at f, called by positional values, runs mf -/
abbrev FnM (X : Cx) (γ : Nat → Addr) (k : Nat) (f : Addr) (n : Nat) (mf : MF) : Prop := FnR X.prog X.w X.K X.mg X.base CX0 k f (SpM γ n mf)
def mCall (mf : MF) (n : Nat) (ms : MA) : ME := fun σ st => bnd (ms σ st) fun us st1 => callM mf n us st1
theorem sim_calls {t : TA} {ms : MA} (s : ∀ ρ st H σ τ, Rep γ ρ st H → FrR γ ρ σ τ → SimAt γ W τ (RL γ) ρ H (t τ H) (ms σ st)) (ρ st H σ τ) (R : Rep γ ρ st H) (F : FrR γ ρ σ τ) :
    SimAt γ W τ (RU γ) ρ H (fun Q => t τ H fun vs H1 => SpM γ n mf vs H1 Q E0) (mCall mf n ms σ st) := fun κ Q hm ok ex =>
  s ρ st H σ τ R F _ _ hm (fun ρ1 st1 H1 us vs s1 R1 r1 k1 => sim_call (W := W) (τ := τ) R1 r1 _ _ k1 (ok.step s1) (ex.step s1)) ex
theorem se_call {x : Str} {e : Expr} {es : List Expr} {p pos : Pos} {ms : MA} (F : FnM X γ k f n mf) (hr : Room k X.A) (hm : X.mg x = some (.ref f)) (hk : PySem.W.keepIn X.K (.ref f) = true) (ha : SA γ W X (e :: es) ms) (hg : Gl X x := by rfl) (hd : (x == ("__debug__" : Str)) = false := by decide)
    (he : starEach (e :: es) X.env = (false, eval e X.env) :: starEach es X.env := by rfl) (hpl : (backTo pos (starEach es X.env)).any (·.1) = false := by rfl) : SE γ W X (.Call (.Name x p) (e :: es) [] pos) (mCall mf n ms) := by
  obtain ⟨t, pa, s⟩ := ha
  have P : PE X (.Call (.Name x p) (e :: es) [] pos) (fun σ H Q => t σ H fun vs H1 => SpM γ n mf vs H1 Q E0) := by
    refine ⟨fun pins s σ H Q I h => ?_⟩
    refine wpAny_Call_Name_kw (ld_glob I hg hm ?_ hd)
    refine PySem.W.callWith_K (h₀ := X.base) I.ok.mod.kin hk (thn (pa.run pos pins s σ H _ I h) fun us s1 ⟨vs, H1, I1, r, q⟩ => ⟨I1.kIn, ?_⟩) he hpl
    exact wpAny_call (run_fnR F hr L2.pass0 I1 r q)
  exact ⟨_, P, sim_calls s⟩
theorem se_call0 {x : Str} {p pos : Pos} (F : FnM X γ k f n mf) (hr : Room k X.A) (hm : X.mg x = some (.ref f)) (hk : PySem.W.keepIn X.K (.ref f) = true) (hg : Gl X x := by rfl) (hd : (x == ("__debug__" : Str)) = false := by decide) : SE γ W X (.Call (.Name x p) [] [] pos) (mCall mf n mNil) := by
  have P : PE X (.Call (.Name x p) [] [] pos) (fun σ H Q => tNil σ H fun vs H1 => SpM γ n mf vs H1 Q E0) := by
    refine ⟨fun pins s σ H Q I h => ?_⟩
    refine wpAny_Call_Name_kw (ld_glob I hg hm ?_ hd)
    exact PySem.W.callWith_K0 I.kIn hk (wpAny_call (run_fnR (us := []) F hr L2.pass0 I .nil h))
  exact ⟨_, P, sim_calls fun ρ st H σ τ R F => SimAt.ret R .nil⟩
/-- o.m(..), o an instance of the class c -/
def mMeth (c : Nat) (m : Str) (mf : MF) (n : Nat) (mo : ME) (ms : MA) : ME := fun σ st => bnd (mo σ st) fun u st1 => match u with
  | .ref i => match st1.get i with
    | some (.ins c' fs) => match Nat.beq c' c, fGet m fs with
      | true, none => bnd (ms σ st1) fun us st2 => callM mf n (u :: us) st2
      | _, _ => bad
    | _ => bad
  | _ => bad
def tMe (C : Addr) (m : Str) (sp : Sp) (ta : TE) (t : TA) : TE := fun σ H Q => ta σ H fun x H1 => ∃ a dx fs, x = .ref a ∧ H1 a = some (.ins C dx fs) ∧ fs.lookup m = none ∧ t σ H1 fun vs H2 => sp (x :: vs) H2 Q E0
theorem sim_meth {c : Nat} {m : Str} {ta : TE} {t : TA} {mo : ME} {ms : MA} (sa : ∀ ρ st H σ τ, Rep γ ρ st H → FrR γ ρ σ τ → SimAt γ W τ (RU γ) ρ H (ta τ H) (mo σ st)) (s : ∀ ρ st H σ τ, Rep γ ρ st H → FrR γ ρ σ τ → SimAt γ W τ (RL γ) ρ H (t τ H) (ms σ st)) (ρ st H σ τ) (R : Rep γ ρ st H) (F : FrR γ ρ σ τ) :
    SimAt γ W τ (RU γ) ρ H (tMe (γ c) m (SpM γ n mf) ta t τ H) (mMeth c m mf n mo ms σ st) := fun κ Q hm ok ex =>
  sa ρ st H σ τ R F _ _ hm (fun ρ1 st1 H1 u v s1 R1 r1 k1 => by
    cases u with
    | ref i =>
      have k2 : (match st1.get i with
        | some (.ins c' fs) => (match Nat.beq c' c, fGet m fs with
          | true, none => bnd (ms σ st1) fun us st2 => callM mf n (.ref i :: us) st2
          | _, _ => bad)
        | _ => bad) κ = true := k1
      cases q : st1.get i with
      | none => rw [q] at k2; cases k2
      | some o =>
        rw [q] at k2
        cases o with
        | ins c' fs =>
          obtain ⟨a, ev, ea, dx, ws, hh, rf⟩ := R1.get q r1
          subst ev
          have k3 : (match Nat.beq c' c, fGet m fs with
            | true, none => bnd (ms σ st1) fun us st2 => callM mf n (.ref i :: us) st2
            | _, _ => bad) κ = true := k2
          cases qc : Nat.beq c' c with
          | false => rw [qc] at k3; cases k3
          | true =>
            have ec := Nat.eq_of_beq_eq_true qc
            subst ec
            cases qf : fGet m fs with
            | some w => rw [qc, qf] at k3; cases k3
            | none =>
              rw [qc, qf] at k3
              have hl : ws.lookup m = none := by
                rcases rf.get (f := m) with ⟨_, e⟩ | ⟨_, _, e, _⟩
                · exact e
                · rw [qf] at e; cases e
              exact ⟨a, dx, ws, rfl, hh, hl, s ρ1 st1 H1 σ τ R1 (F.step s1) _ _ k3 (fun ρ2 st2 H2 us vs s2 R2 r2 k4 => sim_call (W := W) (τ := τ) R2 (.cons (s2.ru r1) r2) _ _ k4 (ok.step (s1.trans s2)) (ex.step (s1.trans s2))) (ex.step s1)⟩
        | lst _ => cases k2
        | tup _ => cases k2
        | dct _ _ => cases k2
    | non => cases k1
    | bl _ => cases k1
    | int _ => cases k1
    | str _ => cases k1
    | glo _ => cases k1
    | ty _ => cases k1) ex
theorem se_meth {c : Nat} {o e : Expr} {es : List Expr} {m : Str} {apos pos : Pos} {mo : ME} {ms : MA} {pl : Sem Bool} (hc : Cls X.K (γ c)) (hme : Meth X.K (γ c) m f) (F : FnM X γ k f n mf) (hr : Room k X.A) (ho : SE γ W X o mo) (ha : SA γ W X (e :: es) ms)
    (hst : starEach (e :: es) X.env = (false, eval e X.env) :: starEach es X.env := by rfl) (hpl : (backTo pos (starEach es X.env)).any (·.1) = false := by rfl)
    (ht : eval (.Call (.Attribute o m apos) (e :: es) [] pos) X.env = (do
      let ov ← eval o X.env
      standAt apos.atName
      let (f, first) ← holding [ov] (getMethod ov m pl)
      callWith pos f first (backTo pos (starEach (e :: es) X.env)) (backToKw pos (keywordEach [] X.env))) := by rfl) : SE γ W X (.Call (.Attribute o m apos) (e :: es) [] pos) (mMeth c m mf n mo ms) := by
  obtain ⟨to, po, so⟩ := ho
  obtain ⟨t, pa, s⟩ := ha
  exact ⟨_, pe_methR (pl := pl) po hc hme F hr L2.pass0 pa hst hpl ht, sim_meth so s⟩
theorem se_meth0 {c : Nat} {o : Expr} {m : Str} {apos pos : Pos} {mo : ME} {pl : Sem Bool} (hc : Cls X.K (γ c)) (hme : Meth X.K (γ c) m f) (F : FnM X γ k f n mf) (hr : Room k X.A) (ho : SE γ W X o mo)
    (ht : eval (.Call (.Attribute o m apos) [] [] pos) X.env = (do
      let ov ← eval o X.env
      standAt apos.atName
      let (f, first) ← holding [ov] (getMethod ov m pl)
      callWith pos f first (backTo pos (starEach [] X.env)) (backToKw pos (keywordEach [] X.env))) := by rfl) : SE γ W X (.Call (.Attribute o m apos) [] [] pos) (mMeth c m mf n mo mNil) := by
  obtain ⟨to, po, so⟩ := ho
  have P : PE X (.Call (.Attribute o m apos) [] [] pos) (tMe (γ c) m (SpM γ n mf) to tNil) := by
    refine ⟨fun pins s σ H Q I h => ?_⟩
    refine PySem.W.methodCall_KW (pl := pl) (thn (po.run pins s σ H _ I h) fun u s1 ⟨x, H1, I1, rx, a, dx, fs, ex, ea, l, q⟩ => ?_) ht
    subst ex
    obtain rfl : u = Value.ref a := rx
    refine getmeth_ok I1 ea hc hme l ?_
    exact PySem.W.callWith_K0 (first := [.ref a]) I1.kIn hme.kp (wpAny_call (run_fnR (us := [.ref a]) (vs := [.ref a]) F hr L2.pass0 I1 (.cons rfl .nil) q))
  exact ⟨_, P, sim_meth so fun ρ st H σ τ R F => SimAt.ret R .nil⟩
/-- C(..) -/
def mMake (c : Nat) (mf : MF) (n : Nat) (ms : MA) : ME := fun σ st => bnd (ms σ st) fun us st1 => bnd (callM mf n (.ref st1.n :: us) (st1.new (.ins c []))) fun u st2 κ => match u with
  | .non => κ (.ok (.ref st1.n)) st2
  | _ => false
theorem sim_make {c : Nat} {t : TA} {ms : MA} (s : ∀ ρ st H σ τ, Rep γ ρ st H → FrR γ ρ σ τ → SimAt γ W τ (RL γ) ρ H (t τ H) (ms σ st)) (ρ st H σ τ) (R : Rep γ ρ st H) (F : FrR γ ρ σ τ) :
    SimAt γ W τ (RU γ) ρ H (StX.tMakeR (γ c) (SpM γ n mf) E0 t τ H) (mMake c mf n ms σ st) := fun κ Q hm ok ex =>
  s ρ st H σ τ R F _ _ hm (fun ρ1 st1 H1 us vs s1 R1 r1 k1 x dx hx hdx ne => by
    have ro : RO γ (ρ1 ++ [x]) (upd (upd H1 dx (.own x)) x (.ins (γ c) dx [])) x (.ins c []) := ⟨dx, [], upd_same, .nil⟩
    have hk : ∀ a u, H1 a = some u → (upd (upd H1 dx (.own x)) x (.ins (γ c) dx [])) a = some u := fun a u e => by
      rw [upd_ne (ne_of_none e hx), upd_ne (ne_of_none e hdx)]; exact e
    obtain ⟨R2, S2⟩ := R1.new hx hk ro
    have ex0 : (ρ1 ++ [x])[st1.n]? = some x := by rw [← R1.len, List.getElem?_append_right (Nat.le_refl _), Nat.sub_self]; rfl
    have rx : RU γ (ρ1 ++ [x]) (.ref st1.n) (.ref x) := ⟨x, ex0, rfl⟩
    refine sim_call (W := W) (τ := τ) R2 (.cons rx r1.mono) _ _ k1 (fun ρ3 st3 H3 u v s3 R3 r3 k3 => ?_) (ex.step (s1.trans S2))
    cases u with
    | non => exact ⟨r3, ok ρ3 st3 H3 _ _ (s1.trans (S2.trans s3)) R3 (s3.ru rx) k3⟩
    | bl _ => cases k3
    | int _ => cases k3
    | str _ => cases k3
    | ref _ => cases k3
    | glo _ => cases k3
    | ty _ => cases k3) ex
theorem se_make {c : Nat} {x : Str} {e : Expr} {es : List Expr} {p pos : Pos} {ms : MA} (M : Mk X.K (γ c) f) (F : FnM X γ k f n mf) (hr : Room (k + 1) X.A) (hm : X.mg x = some (.ref (γ c))) (ha : SA γ W X (e :: es) ms) (hg : Gl X x := by rfl) (hd : (x == ("__debug__" : Str)) = false := by decide)
    (he : starEach (e :: es) X.env = (false, eval e X.env) :: starEach es X.env := by rfl) (hpl : (backTo pos (starEach es X.env)).any (·.1) = false := by rfl) : SE γ W X (.Call (.Name x p) (e :: es) [] pos) (mMake c mf n ms) := by
  obtain ⟨t, pa, s⟩ := ha
  exact ⟨_, StX.pe_makeR M F hr hg hm L2.pass0 pa hd he hpl, sim_make s⟩
theorem se_make0 {c : Nat} {x : Str} {p pos : Pos} (M : Mk X.K (γ c) f) (F : FnM X γ k f n mf) (hr : Room (k + 1) X.A) (hm : X.mg x = some (.ref (γ c))) (hg : Gl X x := by rfl) (hd : (x == ("__debug__" : Str)) = false := by decide) : SE γ W X (.Call (.Name x p) [] [] pos) (mMake c mf n mNil) := by
  have P : PE X (.Call (.Name x p) [] [] pos) (StX.tMakeR (γ c) (SpM γ n mf) E0 tNil) := by
    refine ⟨fun pins s σ H Q I h => ?_⟩
    refine wpAny_Call_Name_kw (ld_glob I hg hm ?_ hd)
    exact PySem.W.callWith_K0 I.kIn M.kp (StX.run_makeR (us := []) M F hr L2.pass0 I .nil h)
  exact ⟨_, P, sim_make fun ρ st H σ τ R F => SimAt.ret R .nil⟩

/-! ### own __contains__, __len__, __getitem__, properties -/
theorem run_wp {pins : List (Addr × Obj)} {σ : L2.St} {H : Hp} {s : Shared} {Q : VK} {us : List Value} {vs : List V} {sp : Sp} {A : Around} {E' : Value → Shared → Prop} (F : FnR X.prog X.w X.K X.mg X.base CX0 k f sp) (hr : Room k A) (e0 : Env0 X.prog X.w X.K X.mg X.base A X.stack s H) (I : Inv X pins σ H s) (r : Vals vs us) (h : sp vs H Q E0) :
    wpAny (model X.prog X.w) A (call (.ref f) us) (EP X pins σ Q) E' s := by
  refine wpAny_call (codeAny_mono (F A X.stack s H us vs Q E0 hr e0 r h) fun r s' hq => ?_)
  cases r with
  | error e => exact False.elim hq
  | ok fl =>
    cases fl with
    | ret u => exact I.after hq
    | next => exact False.elim hq
    | brk => exact False.elim hq
    | cont => exact False.elim hq
def rOwnIn (C : Addr) (sp : Sp) (neg : Bool) : R2 := fun x y H Q => ∃ a dx fs, y = .ref a ∧ H a = some (.ins C dx fs) ∧ sp [.ref a, x] H (fun v H' => ∃ b, v = .bl b ∧ Q (.bl (bif neg then !b else b)) H') E0
theorem op_in_own {sp : Sp} (hs : PySem.W.findIn X.K (.ref C) "__contains__" = some (some (.ref f))) (hf : PySem.W.isFn X.K (.ref f) = true) (F : FnR X.prog X.w X.K X.mg X.base CX0 k f sp) (hr : Room k X.A) : OpR X (compareOp .In) (rOwnIn C sp false) := by
  intro pins s σ H x y v u Q I rx ry h
  obtain ⟨a, dx, fs, rfl, ea, h⟩ := h
  obtain rfl : u = Value.ref a := ry
  obtain ⟨mA, O, _, _, _, _⟩ := ins_get I.hok ea
  obtain ⟨od, J, _⟩ := O.look
  obtain ⟨m, Fm⟩ := I.fr
  refine PySem.W.in_K Fm I.ok.mod.kin J hs hf (thn (run_wp (vs := [.ref a, x]) F hr I.env0 I (.cons rfl (.cons rx .nil)) h) fun r s1 ⟨z, H1, I1, rz, b, ez, q⟩ => ?_)
  subst ez
  cases rz
  exact wpAny_truthy_bool ⟨.bl b, H1, I1, rfl, q⟩
theorem op_notin_own {sp : Sp} (hs : PySem.W.findIn X.K (.ref C) "__contains__" = some (some (.ref f))) (hf : PySem.W.isFn X.K (.ref f) = true) (F : FnR X.prog X.w X.K X.mg X.base CX0 k f sp) (hr : Room k X.A) : OpR X (compareOp .NotIn) (rOwnIn C sp true) := by
  intro pins s σ H x y v u Q I rx ry h
  obtain ⟨a, dx, fs, rfl, ea, h⟩ := h
  obtain rfl : u = Value.ref a := ry
  obtain ⟨mA, O, _, _, _, _⟩ := ins_get I.hok ea
  obtain ⟨od, J, _⟩ := O.look
  obtain ⟨m, Fm⟩ := I.fr
  refine PySem.W.notIn_K Fm I.ok.mod.kin J hs hf (thn (run_wp (vs := [.ref a, x]) F hr I.env0 I (.cons rfl (.cons rx .nil)) h) fun r s1 ⟨z, H1, I1, rz, b, ez, q⟩ => ?_)
  subst ez
  cases rz
  exact wpAny_truthy_bool ⟨.bl (!b), H1, I1, rfl, q⟩
/-- o is an instance of the class c: its own method on it and x -/
def fOwn2 (c : Nat) (mf : MF) (post : Bool → Bool) : U → U → VS → Go U := fun x o st => match o with
  | .ref i => match st.get i with
    | some (.ins c' _) => match Nat.beq c' c with
      | true => bnd (callM mf 2 [o, x] st) fun (u : U) st1 κ => match u with
        | .bl b => κ (.ok (.bl (post b))) st1
        | _ => false
      | false => bad
    | _ => bad
  | _ => bad
theorem leaf_ownIn {c : Nat} (neg : Bool) : Leaf2 γ W (rOwnIn (γ c) (SpM γ 2 mf) neg) (fOwn2 c mf fun b => bif neg then !b else b) := fun ρ st H τ x o vx vo R rx ro κ Q hm ok ex => by
  cases o with
  | ref i =>
    have k2 : (match st.get i with
      | some (.ins c' _) => (match Nat.beq c' c with
        | true => bnd (callM mf 2 [.ref i, x] st) fun (u : U) st1 κ => match u with
          | .bl b => κ (Rs.ok (U.bl (bif neg then !b else b))) st1
          | _ => false
        | false => bad)
      | _ => bad) κ = true := hm
    cases q : st.get i with
    | none => rw [q] at k2; cases k2
    | some ob =>
      rw [q] at k2
      cases ob with
      | ins c' fs =>
        obtain ⟨a, ev, ea, dx, ws, hh, rf⟩ := R.get q ro
        subst ev
        have k3 : (match Nat.beq c' c with
          | true => bnd (callM mf 2 [.ref i, x] st) fun (u : U) st1 κ => match u with
            | .bl b => κ (Rs.ok (U.bl (bif neg then !b else b))) st1
            | _ => false
          | false => bad) κ = true := k2
        cases qc : Nat.beq c' c with
        | false => rw [qc] at k3; cases k3
        | true =>
          have ec := Nat.eq_of_beq_eq_true qc
          subst ec
          rw [qc] at k3
          refine ⟨a, dx, ws, rfl, hh, sim_call (W := W) (τ := τ) R (.cons ro (.cons rx .nil)) _ _ k3 (fun ρ1 st1 H1 u v s1 R1 r1 k1 => ?_) ex⟩
          cases u with
          | bl b => exact ⟨b, r1, ok ρ1 st1 H1 (.bl _) _ s1 R1 rfl k1⟩
          | non => cases k1
          | int _ => cases k1
          | str _ => cases k1
          | ref _ => cases k1
          | glo _ => cases k1
          | ty _ => cases k1
      | lst _ => cases k2
      | tup _ => cases k2
      | dct _ _ => cases k2
  | non => cases hm
  | bl _ => cases hm
  | int _ => cases hm
  | str _ => cases hm
  | glo _ => cases hm
  | ty _ => cases hm
end
end MV

namespace MV
open PySem PySem.Spec PyProof.Rows L2
section
variable {γ : Nat → Addr} {W : WX} {X : Cx} {g : GT} {ρ : List Addr} {st : VS} {H : Hp}

/-! ### operators: packages -/
def fOr2 (f f' : U → U → VS → Go U) : U → U → VS → Go U := fun a b st κ => match f a b st κ with
  | true => true
  | false => f' a b st κ
theorem Leaf2.or {r r' : R2} {f f' : U → U → VS → Go U} (h : Leaf2 γ W r f) (h' : Leaf2 γ W r' f') : Leaf2 γ W (fun x y H Q => r x y H Q ∨ r' x y H Q) (fOr2 f f') :=
  fun ρ st H τ u1 u2 v1 v2 R r1 r2 => SimAt.or (h ρ st H τ u1 u2 v1 v2 R r1 r2) (h' ρ st H τ u1 u2 v1 v2 R r1 r2)
def Op2 (X : Cx) (γ : Nat → Addr) (W : WX) (fo : Value → Value → Sem Value) (f : U → U → VS → Go U) : Prop := ∃ r, OpR X fo r ∧ Leaf2 γ W r f
theorem Op2.or {fo : Value → Value → Sem Value} {f f' : U → U → VS → Go U} (h : Op2 X γ W fo f) (h' : Op2 X γ W fo f') : Op2 X γ W fo (fOr2 f f') := by
  obtain ⟨r, a, b⟩ := h
  obtain ⟨r', a', b'⟩ := h'
  exact ⟨_, OpR.or a a', Leaf2.or b b'⟩
theorem se_bin2 {a b : Expr} {pos : Pos} {op : Operator} {f : U → U → VS → Go U} {ma mb : ME} (ho : Op2 X γ W (binaryOp op) f) (ha : SE γ W X a ma) (hb : SE γ W X b mb) : SE γ W X (.BinOp a op b pos) (mBin f ma mb) := by
  obtain ⟨r, p, q⟩ := ho
  exact se_bin p q ha hb
theorem se_cmp2 {a b : Expr} {pos : Pos} {op : CmpOp} {f : U → U → VS → Go U} {ma mb : ME} (ho : Op2 X γ W (compareOp op) f) (ha : SE γ W X a ma) (hb : SE γ W X b mb) (hm : behindInMarks op b = false := by first | exact nobehind _ (by decide) (by decide) | rfl) : SE γ W X (.Compare a [op] [b] pos) (mBin f ma mb) := by
  obtain ⟨r, p, q⟩ := ho
  exact se_cmp p q ha hb hm
theorem st_cmp2 {a b : Expr} {pos : Pos} {op : CmpOp} {f : U → U → VS → Go U} {ma mb : ME} (ho : Op2 X γ W (compareOp op) f) (ha : SE γ W X a ma) (hb : SE γ W X b mb) (hm : behindInMarks op b = false := by first | exact nobehind _ (by decide) (by decide) | rfl) : ST γ W X (.Compare a [op] [b] pos) (mTest (mBin f ma mb)) := by
  obtain ⟨r, p, q⟩ := ho
  exact st_cmp p q ha hb hm
theorem se_chain2 {a b c : Expr} {pos : Pos} {op op' : CmpOp} {f f' : U → U → VS → Go U} {ma mb mc : ME} (ho : Op2 X γ W (compareOp op) f) (ho' : Op2 X γ W (compareOp op') f') (ha : SE γ W X a ma) (hb : SE γ W X b mb) (hc : SE γ W X c mc) (hm : lastMarks [op, op'] [b, c] = false := by rfl) :
    SE γ W X (.Compare a [op, op'] [b, c] pos) (mChain f f' ma mb mc) := by
  obtain ⟨r, p, q⟩ := ho
  obtain ⟨r', p', q'⟩ := ho'
  exact se_chain p p' q q' ha hb hc hm
theorem st_chain2 {a b c : Expr} {pos : Pos} {op op' : CmpOp} {f f' : U → U → VS → Go U} {ma mb mc : ME} (ho : Op2 X γ W (compareOp op) f) (ho' : Op2 X γ W (compareOp op') f') (ha : SE γ W X a ma) (hb : SE γ W X b mb) (hc : SE γ W X c mc) (hm : lastMarks [op, op'] [b, c] = false := by rfl) :
    ST γ W X (.Compare a [op, op'] [b, c] pos) (mTest (mChain f f' ma mb mc)) := by
  obtain ⟨r, p, q⟩ := ho
  obtain ⟨r', p', q'⟩ := ho'
  exact st_chain p p' q q' ha hb hc hm

/-! ### ints -/
def fI (c : Int → Int → Bool) (h : Int → Int → U) : U → U → VS → Go U := fun a b st κ => match a, b with
  | .int i, .int j => match c i j with
    | true => κ (.ok (h i j)) st
    | false => false
  | _, _ => false
theorem leaf_I {C : Int → Int → Prop} {gv : Int → Int → V} {c : Int → Int → Bool} {h : Int → Int → U} (hc : ∀ i j, c i j = true → C i j) (e : ∀ i j, RU γ [] (h i j) (gv i j)) : Leaf2 γ W (fun x y H Q => ∃ i j, x = .int i ∧ y = .int j ∧ C i j ∧ Q (gv i j) H) (fI c h) := fun ρ st H τ u1 u2 v1 v2 R r1 r2 κ Q hm ok ex => by
  cases u1 <;> cases u2 <;> first | (cases hm; done) | skip
  rename_i i j
  have hm2 : (match c i j with | true => κ (.ok (h i j)) st | false => false) = true := hm
  cases q : c i j with
  | false => rw [q] at hm2; cases hm2
  | true =>
    rw [q] at hm2
    have z := RU.mono (l := ρ) (e i j)
    rw [List.nil_append] at z
    exact ⟨i, j, r1, r2, hc i j q, ok.here R z hm2⟩
theorem leaf_I0 {gv : Int → Int → V} {h : Int → Int → U} (e : ∀ i j, RU γ [] (h i j) (gv i j)) : Leaf2 γ W (fun x y H Q => ∃ i j, x = .int i ∧ y = .int j ∧ Q (gv i j) H) (fI (fun _ _ => true) h) := fun ρ st H τ u1 u2 v1 v2 R r1 r2 κ Q hm ok ex => by
  obtain ⟨i, j, a, b, _, q⟩ := leaf_I (W := W) (C := fun _ _ => True) (c := fun _ _ => true) (fun _ _ _ => trivial) e ρ st H τ u1 u2 v1 v2 R r1 r2 κ Q hm ok ex
  exact ⟨i, j, a, b, q⟩
def fAddI : U → U → VS → Go U := fI (fun _ _ => true) fun i j => .int (i + j)
theorem o_addI : Op2 X γ W (binaryOp .Add) fAddI := ⟨_, op_add, leaf_I0 fun _ _ => rfl⟩
def fSub : U → U → VS → Go U := fI (fun _ _ => true) fun i j => .int (i - j)
theorem o_sub : Op2 X γ W (binaryOp .Sub) fSub := ⟨_, op_sub, leaf_I0 fun _ _ => rfl⟩
def fMod : U → U → VS → Go U := fI (fun _ j => decide (0 < j)) fun i j => .int (i % j)
theorem o_mod : Op2 X γ W (binaryOp .Mod) fMod := ⟨_, op_mod, leaf_I (C := fun _ j => 0 < j) (fun _ _ => of_decide_eq_true) fun _ _ => rfl⟩
def fLt : U → U → VS → Go U := fI (fun _ _ => true) fun i j => .bl (decide (i < j))
theorem o_lt : Op2 X γ W (compareOp .Lt) fLt := ⟨_, op_lt, leaf_I0 fun _ _ => rfl⟩
def fLe : U → U → VS → Go U := fI (fun _ _ => true) fun i j => .bl (decide (i ≤ j))
theorem o_le : Op2 X γ W (compareOp .LtE) fLe := ⟨_, op_le, leaf_I0 fun _ _ => rfl⟩
def fGt : U → U → VS → Go U := fI (fun _ _ => true) fun i j => .bl (decide (j < i))
theorem o_gt : Op2 X γ W (compareOp .Gt) fGt := ⟨_, op_gt, leaf_I0 fun _ _ => rfl⟩
def fGe : U → U → VS → Go U := fI (fun _ _ => true) fun i j => .bl (decide (j ≤ i))
theorem o_ge : Op2 X γ W (compareOp .GtE) fGe := ⟨_, op_ge, leaf_I0 fun _ _ => rfl⟩
/-- texts joined -/
def fAddS : U → U → VS → Go U := fun a b st κ => match a, b with
  | .str x, .str y => match Nat.ble (x.length + y.length) line with
    | true => κ (.ok (.str (x ++ y))) st
    | false => false
  | _, _ => false
theorem o_addS : Op2 X γ W (binaryOp .Add) fAddS := ⟨_, op_add_str, fun ρ st H τ u1 u2 v1 v2 R r1 r2 κ Q hm ok ex => by
  cases u1 <;> cases u2 <;> first | (cases hm; done) | skip
  rename_i x y
  have hm2 : (match Nat.ble (x.length + y.length) line with | true => κ (.ok (.str (x ++ y))) st | false => false) = true := hm
  cases q : Nat.ble (x.length + y.length) line with
  | false => rw [q] at hm2; cases hm2
  | true => rw [q] at hm2; exact ⟨x, y, r1, r2, line_ok q, ok.here (u := .str (x ++ y)) R rfl hm2⟩⟩
/-- lists joined -/
def fCat : U → U → VS → Go U := fun a b st κ => match a, b with
  | .ref i, .ref j => match st.get i, st.get j with
    | some (.lst xs), some (.lst ys) => match Nat.ble (xs.length + ys.length) line with
      | true => κ (.ok (.ref st.n)) (st.new (.lst (xs ++ ys)))
      | false => false
    | _, _ => false
  | _, _ => false
theorem papp {α β : Type} {F : α → β → Prop} : ∀ {xs xs' : List α} {ys ys' : List β}, Paired F xs ys → Paired F xs' ys' → Paired F (xs ++ xs') (ys ++ ys')
  | _, _, _, _, .nil, h => h
  | _, _, _, _, .cons r t, h => .cons r (papp t h)
theorem o_cat : Op2 X γ W (binaryOp .Add) fCat := ⟨_, op_cat, fun ρ st H τ u1 u2 v1 v2 R r1 r2 κ Q hm ok ex => by
  cases u1 <;> cases u2 <;> first | (cases hm; done) | skip
  rename_i i j
  have hm2 : (match st.get i, st.get j with
    | some (.lst xs), some (.lst ys) => (match Nat.ble (xs.length + ys.length) line with
      | true => κ (.ok (.ref st.n)) (st.new (.lst (xs ++ ys)))
      | false => false)
    | _, _ => false) = true := hm
  cases q1 : st.get i with
  | none => rw [q1] at hm2; cases hm2
  | some o1 =>
    cases q2 : st.get j with
    | none => rw [q1, q2] at hm2; cases o1 <;> cases hm2
    | some o2 =>
      rw [q1, q2] at hm2
      cases o1 <;> cases o2 <;> first | (cases hm2; done) | skip
      rename_i xs ys
      have hm3 : (match Nat.ble (xs.length + ys.length) line with
        | true => κ (.ok (.ref st.n)) (st.new (.lst (xs ++ ys)))
        | false => false) = true := hm2
      cases q : Nat.ble (xs.length + ys.length) line with
      | false => rw [q] at hm3; cases hm3
      | true =>
        rw [q] at hm3
        obtain ⟨a, ea, _, vs, ha, ra⟩ := R.get q1 r1
        obtain ⟨b, eb, _, ws, hb, rb⟩ := R.get q2 r2
        refine ⟨a, b, vs, ws, ea, eb, ha, hb, by rw [← ra.length, ← rb.length]; exact line_ok q, ok.alloc R hm3 fun p => ⟨vs ++ ws, upd_same, papp ra.mono rb.mono⟩⟩⟩
def fAdd : U → U → VS → Go U := fOr2 fAddI (fOr2 fAddS fCat)
theorem o_add : Op2 X γ W (binaryOp .Add) fAdd := o_addI.or (o_addS.or o_cat)

/-! ### is None -/
def isN : U → Bool
  | .non => true
  | _ => false
theorem isN_ok {u : U} {v : V} (r : RU γ ρ u v) : decide (v = .non) = isN u := by
  cases u with
  | non => have r : v = .non := r; subst r; rfl
  | bl b => have r : v = .bl b := r; subst r; rfl
  | int b => have r : v = .int b := r; subst r; rfl
  | str b => have r : v = .str b := r; subst r; rfl
  | ref i => obtain ⟨a, _, r⟩ := r; subst r; rfl
  | glo k => have r : v = .ref (γ k) := r; subst r; rfl
  | ty n => have r : v = .ty n := r; subst r; rfl
def fIsN (neg : Bool) : U → U → VS → Go U := fun a b st κ => match b with
  | .non => κ (.ok (.bl (bif neg then !isN a else isN a))) st
  | _ => false
theorem o_isN : Op2 X γ W (compareOp .Is) (fIsN false) := ⟨_, op_isN, fun ρ st H τ u1 u2 v1 v2 R r1 r2 κ Q hm ok ex => by
  cases u2 <;> first | (cases hm; done) | skip
  exact ⟨r2, by rw [isN_ok r1]; exact ok.here (u := .bl (isN u1)) R rfl hm⟩⟩
theorem o_notN : Op2 X γ W (compareOp .IsNot) (fIsN true) := ⟨_, op_notN, fun ρ st H τ u1 u2 v1 v2 R r1 r2 κ Q hm ok ex => by
  cases u2 <;> first | (cases hm; done) | skip
  exact ⟨r2, by rw [isN_ok r1]; exact ok.here (u := .bl (!isN u1)) R rfl hm⟩⟩

/-! ### flat values: in -/
def bEq : Bool → Bool → Bool
  | true, true => true
  | false, false => true
  | _, _ => false
def bI : Bool → Int
  | true => 1
  | false => 0
def flatU : U → Bool
  | .non => true
  | .bl _ => true
  | .int _ => true
  | .str _ => true
  | _ => false
def eqF : U → U → Bool
  | .non, .non => true
  | .bl a, .bl b => bEq a b
  | .bl a, .int b => iEq (bI a) b
  | .int a, .bl b => iEq a (bI b)
  | .int a, .int b => iEq a b
  | .str a, .str b => sEq a b
  | _, _ => false
theorem iEq_beq (a b : Int) : (a == b) = iEq a b := by
  cases q : iEq a b with
  | true => rw [iEq_iff.mp q]; exact beq_self_eq_true b
  | false => exact beq_eq_false_iff_ne.mpr fun z => by rw [iEq_iff.mpr z] at q; cases q
theorem sEq_beq (a b : Str) : (a == b) = sEq a b := by
  cases q : sEq a b with
  | true => rw [sEq_iff.mp q]; exact beq_self_eq_true b
  | false => exact beq_eq_false_iff_ne.mpr fun z => by rw [sEq_iff.mpr z] at q; cases q
def vOf : U → V
  | .non => .non
  | .bl b => .bl b
  | .int i => .int i
  | .str x => .str x
  | _ => .non
theorem flat_ok {u : U} {v : V} (f : flatU u = true) (r : RU γ ρ u v) : v = vOf u ∧ flatV v = true := by
  cases u <;> first | (cases f; done) | exact ⟨r, by rw [show v = _ from r]; rfl⟩
theorem eqF_ok {u w : U} (f : flatU u = true) (h : flatU w = true) : eqV (vOf u) (vOf w) = eqF u w := by
  cases u <;> first | (cases f; done) | skip
  all_goals cases w <;> first | (cases h; done) | rfl | skip
  · rename_i a b; cases a <;> cases b <;> rfl
  · rename_i a b
    show ((if a then 1 else 0) == b) = iEq (bI a) b
    rw [← iEq_beq]; cases a <;> rfl
  · rename_i a b
    show (a == (if b then 1 else 0)) = iEq a (bI b)
    rw [← iEq_beq]; cases b <;> rfl
  · exact iEq_beq _ _
  · exact sEq_beq _ _
def allFlat : List U → Bool
  | [] => true
  | u :: r => match flatU u with
    | true => allFlat r
    | false => false
def anyEq (x : U) : List U → Bool
  | [] => false
  | u :: r => match eqF u x with
    | true => true
    | false => anyEq x r
theorem allFlat_ok : ∀ {us : List U} {vs : List V}, allFlat us = true → RL γ ρ us vs → vs.all flatV = true ∧ vs = us.map vOf ∧ ∀ u ∈ us, flatU u = true
  | _, _, _, .nil => ⟨rfl, rfl, fun _ h => nomatch h⟩
  | u :: r, v :: s, h, .cons a t => by
    have h2 : (match flatU u with | true => allFlat r | false => false) = true := h
    cases q : flatU u with
    | false => rw [q] at h2; cases h2
    | true =>
      rw [q] at h2
      obtain ⟨e, f⟩ := flat_ok q a
      obtain ⟨e2, e3, e4⟩ := allFlat_ok h2 t
      refine ⟨by rw [List.all_cons, f, e2]; rfl, by rw [e, e3]; rfl, fun w hw => ?_⟩
      rcases List.mem_cons.mp hw with z | z
      · rw [z]; exact q
      · exact e4 w z
theorem anyEq_ok {x : U} (fx : flatU x = true) : ∀ {us : List U}, (∀ u ∈ us, flatU u = true) → inV (vOf x) (us.map vOf) = anyEq x us
  | [], _ => rfl
  | u :: r, h => by
    show (eqV (vOf u) (vOf x) || inV (vOf x) (r.map vOf)) = (match eqF u x with | true => true | false => anyEq x r)
    rw [eqF_ok (h u List.mem_cons_self) fx, anyEq_ok fx fun w hw => h w (List.mem_cons_of_mem _ hw)]
    cases eqF u x <;> rfl
def fInSeq (g : GT) (neg : Bool) : U → U → VS → Go U := fun a b st κ => match seqOf g st b with
  | some (_, xs) => match flatU a, allFlat xs with
    | true, true => κ (.ok (.bl (bif neg then !anyEq a xs else anyEq a xs))) st
    | _, _ => false
  | none => false
theorem leaf_inSeq {K : PySem.W.Frag} (G : GOk K γ g) (neg : Bool) : Leaf2 γ W (rIn K neg) (fInSeq g neg) := fun ρ st H τ u1 u2 v1 v2 R r1 r2 κ Q hm ok ex => by
  have hm2 : (match seqOf g st u2 with
    | some (_, xs) => (match flatU u1, allFlat xs with
      | true, true => κ (.ok (.bl (bif neg then !anyEq u1 xs else anyEq u1 xs))) st
      | _, _ => false)
    | none => false) = true := hm
  cases q : seqOf g st u2 with
  | none => rw [q] at hm2; cases hm2
  | some bx =>
    obtain ⟨b, xs⟩ := bx
    rw [q] at hm2
    have hm3 : (match flatU u1, allFlat xs with
      | true, true => κ (.ok (.bl (bif neg then !anyEq u1 xs else anyEq u1 xs))) st
      | _, _ => false) = true := hm2
    obtain ⟨a, ys, ev, rl, hs⟩ := seq_ok G R r2 q
    cases q1 : flatU u1 <;> cases q2 : allFlat xs <;> rw [q1, q2] at hm3 <;> first | (cases hm3; done) | skip
    obtain ⟨e1, e2⟩ := flat_ok q1 r1
    obtain ⟨e3, e4, e5⟩ := allFlat_ok q2 rl
    refine ⟨a, ys, ev, ?_, e2, e3, ?_⟩
    · cases b with
      | true => exact .inr hs
      | false => exact .inl hs
    · rw [e1, e4, anyEq_ok q1 e5]
      cases neg with
      | true => exact ok.here (u := .bl (!anyEq u1 xs)) R rfl hm3
      | false => exact ok.here (u := .bl (anyEq u1 xs)) R rfl hm3
theorem o_inSeq (G : GOk X.K γ g) : Op2 X γ W (compareOp .In) (fInSeq g false) := ⟨_, op_in_seq, leaf_inSeq G false⟩
theorem o_ninSeq (G : GOk X.K γ g) : Op2 X γ W (compareOp .NotIn) (fInSeq g true) := ⟨_, op_notIn_seq, leaf_inSeq G true⟩

/-! ### in a dict -/
def kOf : U → Option Key
  | .int i => some (.inl i)
  | .str x => some (.inr x)
  | _ => none
theorem kOf_ok {u : U} {v : V} {k : Key} (e : kOf u = some k) (r : RU γ ρ u v) : v = kV k := by
  cases u <;> cases e <;> exact r
def rDin (neg : Bool) : R2 := fun y x H Q => (∃ a o, x = .ref a ∧ DGet H a y o ∧ Q (.bl (bif neg then !o.isSome else o.isSome)) H) ∨ ∃ a kvs, x = .ref a ∧ y = .non ∧ Rd H a (.dK kvs) ∧ Q (.bl neg) H
theorem op_din (hu : X.A.units + 1 < cLine) : OpR X (compareOp .In) (rDin false) := by
  intro pins s σ H x y v u Q I rx ry h
  rcases h with ⟨a, ov, ex, gg, q⟩ | ⟨a, kvs, ex, ey, gg, q⟩
  · subst ex
    obtain rfl : u = Value.ref a := ry
    exact d_in hu I gg rx fun s3 I3 => ⟨.bl ov.isSome, H, I3, rfl, q⟩
  · subst ex ey
    obtain rfl : u = Value.ref a := ry
    obtain rfl : v = Value.none := rx
    exact d_inNone I gg fun s3 I3 => ⟨.bl false, H, I3, rfl, q⟩
theorem op_dnin (hu : X.A.units + 1 < cLine) : OpR X (compareOp .NotIn) (rDin true) := by
  intro pins s σ H x y v u Q I rx ry h
  rcases h with ⟨a, ov, ex, gg, q⟩ | ⟨a, kvs, ex, ey, gg, q⟩
  · subst ex
    obtain rfl : u = Value.ref a := ry
    exact d_notIn hu I gg rx fun s3 I3 => ⟨.bl (!ov.isSome), H, I3, rfl, q⟩
  · subst ex ey
    obtain rfl : u = Value.ref a := ry
    obtain rfl : v = Value.none := rx
    exact d_notInNone I gg fun s3 I3 => ⟨.bl true, H, I3, rfl, q⟩
def isSm {α : Type} : Option α → Bool
  | some _ => true
  | none => false
def nkOf : U → Option (Option Key)
  | .non => some none
  | .int i => some (some (.inl i))
  | .str x => some (some (.inr x))
  | _ => none
def fInD (neg : Bool) : U → U → VS → Go U := fun a b st κ => match b with
  | .ref i => match st.get i with
    | some (.dct _ kvs) => match nkOf a with
      | some none => κ (.ok (.bl neg)) st
      | some (some k) => κ (.ok (.bl (bif neg then !isSm (kGet k kvs) else isSm (kGet k kvs)))) st
      | none => false
    | _ => false
  | _ => false
theorem dct_rd {a : Addr} {lk : Bool} {kvs : List (Key × U)} (h : RO γ ρ H a (.dct lk kvs)) : ∃ ws, Rd H a (.dK ws) ∧ RK γ ρ kvs ws := by
  obtain ⟨ws, h, r⟩ := h
  cases lk with
  | true => exact ⟨ws, .inr h, r⟩
  | false => exact ⟨ws, .inl h, r⟩
theorem leaf_inD (neg : Bool) : Leaf2 γ W (rDin neg) (fInD neg) := fun ρ st H τ u1 u2 v1 v2 R r1 r2 κ Q hm ok ex => by
  cases u2 <;> first | (cases hm; done) | skip
  rename_i i
  have hm2 : (match st.get i with
    | some (.dct _ kvs) => (match nkOf u1 with
      | some none => κ (.ok (.bl neg)) st
      | some (some k) => κ (.ok (.bl (bif neg then !isSm (kGet k kvs) else isSm (kGet k kvs)))) st
      | none => false)
    | _ => false) = true := hm
  cases q : st.get i with
  | none => rw [q] at hm2; cases hm2
  | some o =>
    rw [q] at hm2
    cases o <;> first | (cases hm2; done) | skip
    rename_i lk kvs
    obtain ⟨a, ev, _, ro⟩ := R.get q r2
    obtain ⟨ws, rd, rk⟩ := dct_rd ro
    have key : ∀ k, kOf u1 = some k → κ (.ok (.bl (bif neg then !isSm (kGet k kvs) else isSm (kGet k kvs)))) st = true → rDin neg v1 v2 H Q := fun k ek hk => by
      refine .inl ⟨a, valV ws k, ev, .inl ⟨ws, k, rd, kOf_ok ek r1, rfl⟩, ?_⟩
      have e : isSm (kGet k kvs) = (valV ws k).isSome := by
        rcases rk.get (k := k) with ⟨e1, e2⟩ | ⟨_, _, e1, e2, _⟩ <;> rw [e1, e2] <;> rfl
      rw [← e]
      exact ok.here (u := .bl (bif neg then !isSm (kGet k kvs) else isSm (kGet k kvs))) R rfl hk
    cases u1 with
    | non => exact .inr ⟨a, ws, ev, r1, rd, ok.here (u := .bl neg) R rfl hm2⟩
    | int j => exact key _ rfl hm2
    | str x => exact key _ rfl hm2
    | bl _ => cases hm2
    | ref _ => cases hm2
    | glo _ => cases hm2
    | ty _ => cases hm2
theorem o_inD (hu : X.A.units + 1 < cLine) : Op2 X γ W (compareOp .In) (fInD false) := ⟨_, op_din hu, leaf_inD false⟩
theorem o_ninD (hu : X.A.units + 1 < cLine) : Op2 X γ W (compareOp .NotIn) (fInD true) := ⟨_, op_dnin hu, leaf_inD true⟩

/-! ### a sign in a text -/
def nMem (c : Nat) : List Nat → Bool
  | [] => false
  | d :: r => match Nat.beq c d with
    | true => true
    | false => nMem c r
theorem nMem_ok (c : Nat) : ∀ l : List Nat, decide (c ∈ l) = nMem c l
  | [] => rfl
  | d :: r => by
    show _ = (match Nat.beq c d with | true => true | false => nMem c r)
    rw [← nMem_ok c r]
    cases q : Nat.beq c d with
    | true => rw [Nat.eq_of_beq_eq_true q]; exact decide_eq_true List.mem_cons_self
    | false =>
      have n : c ≠ d := fun z => by rw [z, Nat.beq_refl] at q; cases q
      by_cases h : c ∈ r
      · rw [decide_eq_true h, decide_eq_true (List.mem_cons_of_mem _ h)]
      · rw [decide_eq_false h, decide_eq_false (fun z => (List.mem_cons.mp z).elim n h)]
def fInSign (neg : Bool) : U → U → VS → Go U := fun a b st κ => match a, b with
  | .str x, .str z => match x.cps.toList with
    | [c] => κ (.ok (.bl (bif neg then !nMem c z.cps.toList else nMem c z.cps.toList))) st
    | _ => false
  | _, _ => false
theorem sign_eq {x : Str} {c : Nat} (h : x.cps.toList = [c]) : x = ⟨#[c]⟩ := by
  cases x with
  | mk a => exact congrArg Str.mk (Array.toList_inj.mp h)
theorem leaf_inSign (neg : Bool) : Leaf2 γ W (fun x y H Q => ∃ (c : Nat) (z : Str), x = .str ⟨#[c]⟩ ∧ y = .str z ∧ Q (.bl (bif neg then !decide (c ∈ z.cps.toList) else decide (c ∈ z.cps.toList))) H) (fInSign neg) := fun ρ st H τ u1 u2 v1 v2 R r1 r2 κ Q hm ok ex => by
  cases u1 <;> cases u2 <;> first | (cases hm; done) | skip
  rename_i x z
  have hm2 : (match x.cps.toList with
    | [c] => κ (.ok (.bl (bif neg then !nMem c z.cps.toList else nMem c z.cps.toList))) st
    | _ => false) = true := hm
  cases q : x.cps.toList with
  | nil => rw [q] at hm2; cases hm2
  | cons c t =>
    cases t with
    | cons _ _ => rw [q] at hm2; cases hm2
    | nil =>
      rw [q] at hm2
      refine ⟨c, z, by rw [← sign_eq q]; exact r1, r2, ?_⟩
      rw [nMem_ok]
      exact ok.here (u := .bl (bif neg then !nMem c z.cps.toList else nMem c z.cps.toList)) R rfl hm2
theorem o_inSign : Op2 X γ W (compareOp .In) (fInSign false) := ⟨_, op_in_sign, leaf_inSign false⟩
theorem o_ninSign : Op2 X γ W (compareOp .NotIn) (fInSign true) := ⟨_, op_notIn_sign, leaf_inSign true⟩
/-- in a tuple, a list, a dict, a text -/
def fIn (g : GT) (neg : Bool) : U → U → VS → Go U := fOr2 (fInSeq g neg) (fOr2 (fInD neg) (fInSign neg))
theorem o_in (G : GOk X.K γ g) (hu : X.A.units + 1 < cLine) : Op2 X γ W (compareOp .In) (fIn g false) := (o_inSeq G).or ((o_inD hu).or o_inSign)
theorem o_nin (G : GOk X.K γ g) (hu : X.A.units + 1 < cLine) : Op2 X γ W (compareOp .NotIn) (fIn g true) := (o_ninSeq G).or ((o_ninD hu).or o_ninSign)
end
end MV

namespace MV
open PySem PySem.Spec PyProof.Rows L2

/-! ### data that is compared -/
def mapD {α β : Type} (f : α → Option β) : List α → Option (List β)
  | [] => some []
  | a :: r => match f a with
    | some b => match mapD f r with
      | some bs => some (b :: bs)
      | none => none
    | none => none
def uD (g : GT) (st : VS) : Nat → U → Option PyData
  | 0, _ => none
  | n + 1, u => match u with
    | .non => some .none
    | .bl b => some (.bool b)
    | .int i => some (.int i)
    | .str x => some (.str x)
    | _ => match seqOf g st u with
      | some (false, xs) => match mapD (uD g st n) xs with
        | some ds => some (.list ds)
        | none => none
      | some (true, xs) => match mapD (uD g st n) xs with
        | some ds => some (.tuple ds)
        | none => none
      | none => none
def allB {α : Type} (f : α → Bool) : List α → Bool
  | [] => true
  | a :: r => match f a with
    | true => allB f r
    | false => false
def dSh : Nat → PyData → Bool
  | 0, d => match d with
    | .none => true
    | .bool _ => true
    | .int _ => true
    | .str x => allB (fun c => Nat.blt c 0x110000) x.cps.toList
    | _ => false
  | n + 1, d => match d with
    | .none => true
    | .bool _ => true
    | .int _ => true
    | .str x => allB (fun c => Nat.blt c 0x110000) x.cps.toList
    | .list xs => allB (dSh n) xs
    | .tuple xs => allB (dSh n) xs
    | .dict _ => false
def zipB {α : Type} (f : α → α → Option Bool) : List α → List α → Option Bool
  | [], [] => some true
  | a :: r, b :: s => match f a b with
    | some true => zipB f r s
    | some false => some false
    | none => none
  | _, _ => some false
/-- d == e, at most n deep -/
def dEq : Nat → PyData → PyData → Option Bool
  | 0, _, _ => none
  | n + 1, d, e => match d, e with
    | .none, .none => some true
    | .bool a, .bool b => some (bEq a b)
    | .bool a, .int b => some (iEq (bI a) b)
    | .int a, .bool b => some (iEq a (bI b))
    | .int a, .int b => some (iEq a b)
    | .str a, .str b => some (sEq a b)
    | .list xs, .list ys => zipB (dEq n) xs ys
    | .tuple xs, .tuple ys => zipB (dEq n) xs ys
    | .dict _, _ => none
    | _, .dict _ => none
    | _, _ => some false
theorem allB_iff {α : Type} {f : α → Bool} : ∀ {l : List α}, allB f l = true → ∀ a ∈ l, f a = true
  | [], _, _, h => nomatch h
  | b :: r, h, a, ha => by
    have h2 : (match f b with | true => allB f r | false => false) = true := h
    cases q : f b with
    | false => rw [q] at h2; cases h2
    | true =>
      rw [q] at h2
      rcases List.mem_cons.mp ha with z | z
      · rw [z]; exact q
      · exact allB_iff h2 a z
theorem strOk_ok {x : Str} (h : allB (fun c => Nat.blt c 0x110000) x.cps.toList = true) : PyData.strOk x = true := by
  unfold PyData.strOk
  rw [Array.all_eq_true_iff_forall_mem]
  intro c hc
  have := allB_iff h c (by simpa using hc)
  exact decide_eq_true (Nat.le_of_ble_eq_true this)
theorem dSh_ok : ∀ (n : Nat) (d : PyData), dSh n d = true → d.canLay0 = true ∧ d.depth ≤ n
  | 0, d, h => by
    cases d with
    | none => exact ⟨rfl, by simp [PyData.depth]⟩
    | bool b => exact ⟨rfl, by simp [PyData.depth]⟩
    | int i => exact ⟨rfl, by simp [PyData.depth]⟩
    | str x => exact ⟨by simp only [PyData.canLay0]; exact strOk_ok h, by simp [PyData.depth]⟩
    | list _ => cases h
    | tuple _ => cases h
    | dict _ => cases h
  | n + 1, d, h => by
    have key : ∀ ds : List PyData, allB (dSh n) ds = true → PyData.canLayAll0 ds = true ∧ PyData.depthAll ds ≤ n := fun ds => by
      induction ds with
      | nil => intro _; exact ⟨by simp [PyData.canLayAll0], by simp [PyData.depthAll]⟩
      | cons x r ih =>
        intro hh
        have h2 : (match dSh n x with | true => allB (dSh n) r | false => false) = true := hh
        cases q : dSh n x with
        | false => rw [q] at h2; cases h2
        | true =>
          rw [q] at h2
          obtain ⟨a, b⟩ := ih h2
          obtain ⟨c, e⟩ := dSh_ok n x q
          exact ⟨by simp [PyData.canLayAll0, a, c], by simp only [PyData.depthAll]; omega⟩
    cases d with
    | none => exact ⟨rfl, by simp [PyData.depth]⟩
    | bool b => exact ⟨rfl, by simp [PyData.depth]⟩
    | int i => exact ⟨rfl, by simp [PyData.depth]⟩
    | str x => exact ⟨by simp only [PyData.canLay0]; exact strOk_ok h, by simp [PyData.depth]⟩
    | list xs => obtain ⟨a, b⟩ := key xs h; exact ⟨by simp only [PyData.canLay0]; exact a, by simp only [PyData.depth]; omega⟩
    | tuple xs => obtain ⟨a, b⟩ := key xs h; exact ⟨by simp only [PyData.canLay0]; exact a, by simp only [PyData.depth]; omega⟩
    | dict _ => cases h
theorem shaped_ok {d : PyData} (h : dSh 40 d = true) : SeqAt.shaped d = true := by
  obtain ⟨a, b⟩ := dSh_ok 40 d h
  exact Bool.and_eq_true_iff.mpr ⟨a, decide_eq_true (by omega)⟩
theorem zipB_ok {n : Nat} (ih : ∀ d e b, dEq n d e = some b → PyData.eqv d e = b) : ∀ (xs ys : List PyData) (b : Bool), zipB (dEq n) xs ys = some b → PyData.eqvAll xs ys = b
  | [], [], b, h => by cases h; rfl
  | [], _ :: _, b, h => by cases h; rfl
  | _ :: _, [], b, h => by cases h; rfl
  | x :: r, y :: s, b, h => by
    have h2 : (match dEq n x y with | some true => zipB (dEq n) r s | some false => some false | none => none) = some b := h
    simp only [PyData.eqvAll]
    cases q : dEq n x y with
    | none => rw [q] at h2; cases h2
    | some c =>
      rw [q] at h2
      rw [ih x y c q]
      cases c with
      | false => cases h2; rfl
      | true => rw [zipB_ok ih r s b h2]; rfl
theorem dEq_ok : ∀ (n : Nat) (d e : PyData) (b : Bool), dEq n d e = some b → PyData.eqv d e = b
  | 0, _, _, _, h => nomatch h
  | n + 1, d, e, b, h => by
    have ih := dEq_ok n
    cases d <;> cases e <;> first | (cases h; done) | (cases h; simp only [PyData.eqv]; done) | skip
    · rename_i x y
      cases h
      simp only [PyData.eqv]
      cases x <;> cases y <;> rfl
    · rename_i x y
      cases h
      simp only [PyData.eqv]
      rw [← iEq_beq]; cases x <;> rfl
    · rename_i x y
      cases h
      simp only [PyData.eqv]
      rw [← iEq_beq]; cases y <;> rfl
    · cases h
      simp only [PyData.eqv]
      exact iEq_beq _ _
    · cases h
      simp only [PyData.eqv]
      exact sEq_beq _ _
    · simp only [PyData.eqv]; exact zipB_ok ih _ _ b h
    · simp only [PyData.eqv]; exact zipB_ok ih _ _ b h
section
variable {γ : Nat → Addr} {W : WX} {X : Cx} {g : GT} {ρ : List Addr} {st : VS} {H : Hp}
theorem mapD_cons {α β : Type} {f : α → Option β} {a : α} {r : List α} : mapD f (a :: r) = (match f a with | some b => (match mapD f r with | some bs => some (b :: bs) | none => none) | none => none) := rfl
theorem mapD_ok {K : PySem.W.Frag} {f : U → Option PyData} (ih : ∀ u v d, f u = some d → RU γ ρ u v → Dp K H v d) : ∀ (us : List U) (vs : List V) (ds : List PyData), mapD f us = some ds → RL γ ρ us vs → DpAll K H vs ds
  | _, _, _, e, .nil => by cases e; exact .nil
  | u :: r, v :: s, ds, e, .cons a t => by
    rw [mapD_cons] at e
    cases q : f u with
    | none => rw [q] at e; cases e
    | some d =>
      cases q2 : mapD f r with
      | none => rw [q, q2] at e; cases e
      | some bs => rw [q, q2] at e; cases e; exact .cons (ih u v d q a) (mapD_ok ih r s bs q2 t)
theorem uD_ok {K : PySem.W.Frag} (G : GOk K γ g) (R : Rep γ ρ st H) : ∀ (n : Nat) (u : U) (v : V) (d : PyData), uD g st n u = some d → RU γ ρ u v → Dp K H v d
  | 0, _, _, _, e, _ => nomatch e
  | n + 1, u, v, d, e, r => by
    have ih := uD_ok G R n
    have rest : (match seqOf g st u with
      | some (false, xs) => (match mapD (uD g st n) xs with
        | some ds => some (PyData.list ds)
        | none => none)
      | some (true, xs) => (match mapD (uD g st n) xs with
        | some ds => some (PyData.tuple ds)
        | none => none)
      | none => none) = some d → Dp K H v d := fun e => by
      cases q : seqOf g st u with
      | none => rw [q] at e; cases e
      | some bx =>
        obtain ⟨b, xs⟩ := bx
        rw [q] at e
        obtain ⟨a, ys, ev, rl, hs⟩ := seq_ok G R r q
        subst ev
        cases b with
        | false =>
          have e3 : (match mapD (uD g st n) xs with | some ds => some (PyData.list ds) | none => none) = some d := e
          cases q2 : mapD (uD g st n) xs with
          | none => rw [q2] at e3; cases e3
          | some ds => rw [q2] at e3; cases e3; exact .lst hs (mapD_ok ih xs ys ds q2 rl)
        | true =>
          have e3 : (match mapD (uD g st n) xs with | some ds => some (PyData.tuple ds) | none => none) = some d := e
          cases q2 : mapD (uD g st n) xs with
          | none => rw [q2] at e3; cases e3
          | some ds => rw [q2] at e3; cases e3; exact .tup hs (mapD_ok ih xs ys ds q2 rl)
    cases u with
    | non => have r : v = .non := r; subst r; cases e; exact .non
    | bl b => have r : v = .bl b := r; subst r; cases e; exact .bl b
    | int b => have r : v = .int b := r; subst r; cases e; exact .int b
    | str b => have r : v = .str b := r; subst r; cases e; exact .str b
    | ref i => exact rest e
    | glo k => exact rest e
    | ty n => exact rest e
def fEqD (g : GT) (neg : Bool) : U → U → VS → Go U := fun a b st κ => match uD g st 30 a with
  | some d => match uD g st 30 b with
    | some e => match dSh 40 d, dSh 40 e, dEq 40 d e with
      | true, true, some r => κ (.ok (.bl (bif neg then !r else r))) st
      | _, _, _ => false
    | none => false
  | none => false
theorem leaf_eqD {K : PySem.W.Frag} (G : GOk K γ g) (neg : Bool) : Leaf2 γ W (fun x y H Q => ∃ d e, Dp K H x d ∧ Dp K H y e ∧ SeqAt.shaped d = true ∧ SeqAt.shaped e = true ∧ Q (.bl (bif neg then !PyData.eqv d e else PyData.eqv d e)) H) (fEqD g neg) := fun ρ st H τ u1 u2 v1 v2 R r1 r2 κ Q hm ok ex => by
  have hm2 : (match uD g st 30 u1 with
    | some d => (match uD g st 30 u2 with
      | some e => (match dSh 40 d, dSh 40 e, dEq 40 d e with
        | true, true, some r => κ (.ok (.bl (bif neg then !r else r))) st
        | _, _, _ => false)
      | none => false)
    | none => false) = true := hm
  cases q1 : uD g st 30 u1 with
  | none => rw [q1] at hm2; cases hm2
  | some d =>
    cases q2 : uD g st 30 u2 with
    | none => rw [q1, q2] at hm2; cases hm2
    | some e =>
      rw [q1, q2] at hm2
      have hm3 : (match dSh 40 d, dSh 40 e, dEq 40 d e with
        | true, true, some r => κ (.ok (.bl (bif neg then !r else r))) st
        | _, _, _ => false) = true := hm2
      cases q3 : dSh 40 d with
      | false => rw [q3] at hm3; cases hm3
      | true =>
        cases q4 : dSh 40 e with
        | false => rw [q3, q4] at hm3; cases hm3
        | true =>
          cases q5 : dEq 40 d e with
          | none => rw [q3, q4, q5] at hm3; cases hm3
          | some r =>
            rw [q3, q4, q5] at hm3
            refine ⟨d, e, uD_ok G R 30 _ _ _ q1 r1, uD_ok G R 30 _ _ _ q2 r2, shaped_ok q3, shaped_ok q4, ?_⟩
            rw [dEq_ok 40 d e r q5]
            exact ok.here (u := .bl (bif neg then !r else r)) R rfl hm3
theorem o_eqD (G : GOk X.K γ g) (hu : X.A.units + 64 < cLine) : Op2 X γ W (compareOp .Eq) (fEqD g false) := ⟨_, op_eqD hu, leaf_eqD G false⟩
theorem o_neD (G : GOk X.K γ g) (hu : X.A.units + 64 < cLine) : Op2 X γ W (compareOp .NotEq) (fEqD g true) := ⟨_, op_neD hu, leaf_eqD G true⟩

/-! ### two lists of different lengths, whatever is in them -/
def rLenNe (K : PySem.W.Frag) (neg : Bool) : R2 := fun x y H Q => ∃ a b xs ys, x = .ref a ∧ y = .ref b ∧ SqL K H a xs ∧ SqL K H b ys ∧ xs.length ≠ ys.length ∧ Q (.bl neg) H
theorem lst_of {s : Shared} {a : Addr} {its : List Value} (p : PlainL s.heap a its.toArray) : s.heap.IsList a its.toArray := by
  obtain ⟨o, m, e, c, d, q⟩ := p
  exact ⟨o, e, c, m, q⟩
theorem op_lenNe (hu : X.A.units < cLine) : OpR X (compareOp .Eq) (rLenNe X.K false) := by
  intro pins s σ H x y v u Q I rx ry ⟨a, b, xs, ys, ex, ey, ha, hb, hl, q⟩
  subst ex ey
  obtain rfl : v = Value.ref a := rx
  obtain rfl : u = Value.ref b := ry
  obtain ⟨its, r1, p1, _⟩ := I.list ha
  obtain ⟨jts, r2, p2, _⟩ := I.list hb
  refine SeqAt.eq_list_lengthsAt (lst_of p1) (lst_of p2) ?_ hu ⟨.bl false, H, I, rfl, q⟩
  simp only [List.size_toArray, ← r1.length, ← r2.length]
  exact bne_iff_ne.mpr hl
theorem op_lenNeN (hu : X.A.units < cLine) : OpR X (compareOp .NotEq) (rLenNe X.K true) := by
  intro pins s σ H x y v u Q I rx ry ⟨a, b, xs, ys, ex, ey, ha, hb, hl, q⟩
  subst ex ey
  obtain rfl : v = Value.ref a := rx
  obtain rfl : u = Value.ref b := ry
  obtain ⟨its, r1, p1, _⟩ := I.list ha
  obtain ⟨jts, r2, p2, _⟩ := I.list hb
  refine SeqAt.RcNeAt.lists_lengths (lst_of p1) (lst_of p2) ?_ hu X.prog X.w _ _ ⟨.bl true, H, I, rfl, q⟩
  simp only [List.size_toArray, ← r1.length, ← r2.length]
  exact bne_iff_ne.mpr hl
def fLenNe (g : GT) (neg : Bool) : U → U → VS → Go U := fun a b st κ => match seqOf g st a, seqOf g st b with
  | some (false, xs), some (false, ys) => match Nat.beq xs.length ys.length with
    | false => κ (.ok (.bl neg)) st
    | true => false
  | _, _ => false
theorem leaf_lenNe {K : PySem.W.Frag} (G : GOk K γ g) (neg : Bool) : Leaf2 γ W (rLenNe K neg) (fLenNe g neg) := fun ρ st H τ u1 u2 v1 v2 R r1 r2 κ Q hm ok ex => by
  have hm2 : (match seqOf g st u1, seqOf g st u2 with
    | some (false, xs), some (false, ys) => (match Nat.beq xs.length ys.length with
      | false => κ (.ok (.bl neg)) st
      | true => false)
    | _, _ => false) = true := hm
  cases q1 : seqOf g st u1 with
  | none => rw [q1] at hm2; cases hm2
  | some bx =>
    obtain ⟨b1, xs⟩ := bx
    cases q2 : seqOf g st u2 with
    | none => rw [q1, q2] at hm2; cases b1 <;> cases hm2
    | some bx =>
      obtain ⟨b2, ys⟩ := bx
      rw [q1, q2] at hm2
      cases b1 <;> cases b2 <;> first | (cases hm2; done) | skip
      have hm3 : (match Nat.beq xs.length ys.length with
        | false => κ (.ok (.bl neg)) st
        | true => false) = true := hm2
      obtain ⟨a, vs, ea, ra, ha⟩ := seq_ok G R r1 q1
      obtain ⟨b, ws, eb, rb, hb⟩ := seq_ok G R r2 q2
      cases q : Nat.beq xs.length ys.length with
      | true => rw [q] at hm3; cases hm3
      | false =>
        rw [q] at hm3
        refine ⟨a, b, vs, ws, ea, eb, ha, hb, fun z => ?_, ok.here (u := .bl neg) R rfl hm3⟩
        rw [← ra.length, ← rb.length] at z
        rw [z, Nat.beq_refl] at q; cases q
def fEq (g : GT) (neg : Bool) : U → U → VS → Go U := fOr2 (fEqD g neg) (fLenNe g neg)
theorem o_eq (G : GOk X.K γ g) (hu : X.A.units + 64 < cLine) : Op2 X γ W (compareOp .Eq) (fEq g false) := (o_eqD G hu).or ⟨_, op_lenNe (by omega), leaf_lenNe G false⟩
theorem o_ne (G : GOk X.K γ g) (hu : X.A.units + 64 < cLine) : Op2 X γ W (compareOp .NotEq) (fEq g true) := (o_neD G hu).or ⟨_, op_lenNeN (by omega), leaf_lenNe G true⟩

/-! ### subscripts -/
def IxR2 (X : Cx) (r : R2) : Prop :=
  ∀ (value slice : Expr) (pins : List (Addr × Obj)) (s : Shared) (σ : L2.St) (H : Hp) (x y : V) (v u : Value) (Q : VK), Inv X pins σ H s → RelV x v → RelV y u → r x y H Q →
    subscripted slice false v u = operate [v, u] (getItem v u) → subscripted slice true v u = runValue (.builtin "lifetime.subscript" ⟨[v, u], []⟩) → wpAny (model X.prog X.w) X.A (subscriptTail value slice v u) (EP X pins σ Q) X.xe s
theorem IxR.two {r : R2} (h : IxR X r) : IxR2 X r := fun value slice pins s σ H x y v u Q I rx ry q hs _ => h value slice pins s σ H x y v u Q I rx ry q hs
def Ix2 (X : Cx) (γ : Nat → Addr) (W : WX) (f : U → U → VS → Go U) : Prop := ∃ r, IxR2 X r ∧ Leaf2 γ W r f
theorem Ix2.or {f f' : U → U → VS → Go U} (h : Ix2 X γ W f) (h' : Ix2 X γ W f') : Ix2 X γ W (fOr2 f f') := by
  obtain ⟨r, a, b⟩ := h
  obtain ⟨r', a', b'⟩ := h'
  exact ⟨_, fun value slice pins s σ H x y v u Q I rx ry q hs hs2 => q.elim (fun z => a value slice pins s σ H x y v u Q I rx ry z hs hs2) fun z => a' value slice pins s σ H x y v u Q I rx ry z hs hs2, Leaf2.or b b'⟩
def PlainIx2 (b : Expr) : Prop := ∀ o i, subscripted b true o i = runValue (.builtin "lifetime.subscript" ⟨[o, i], []⟩)
theorem se_ix2 {a b : Expr} {pos : Pos} {f : U → U → VS → Go U} {ma mb : ME} (ho : Ix2 X γ W f) (ha : SE γ W X a ma) (hb : SE γ W X b mb) (hs : PlainIx b := by intro _ _; rfl) (hs2 : PlainIx2 b := by intro _ _; rfl) : SE γ W X (.Subscript a b pos) (mBin f ma mb) := by
  obtain ⟨r, p, q⟩ := ho
  obtain ⟨ta, pa, sa⟩ := ha
  obtain ⟨tb, pb, sb⟩ := hb
  have P : PE X (.Subscript a b pos) (tOp r ta tb) := ⟨fun pins s σ H Q I h => Subscript_ (binT pa pb I h fun v u s2 x y H2 I2 rx ry q => p a b pins s2 σ H2 x y v u Q I2 rx ry q (hs _ _) (hs2 _ _))⟩
  exact ⟨_, P, sim_bin q sa sb⟩
def uAt (xs : List U) : Int → Option U
  | .ofNat n => xs[n]?
  | .negSucc m => match Nat.blt m xs.length with
    | true => xs[xs.length - 1 - m]?
    | false => none
theorem uAt_ok {xs : List U} {ys : List V} (rl : RL γ ρ xs ys) {i : Int} {u : U} (e : uAt xs i = some u) : ∃ v, atI ys i = some v ∧ RU γ ρ u v := by
  have hl := rl.length
  cases i with
  | ofNat n =>
    obtain ⟨v, hv, rv⟩ := pget rl (show xs[n]? = some u from e)
    refine ⟨v, ?_, rv⟩
    have hn : n < ys.length := (List.getElem?_eq_some_iff.mp hv).1
    show (ixN ys.length (n : Int)).bind _ = _
    unfold ixN
    rw [if_pos (Int.natCast_nonneg n), if_pos (by exact_mod_cast hn)]
    exact hv
  | negSucc m =>
    have e2 : (match Nat.blt m xs.length with | true => xs[xs.length - 1 - m]? | false => none) = some u := e
    cases q : Nat.blt m xs.length with
    | false => rw [q] at e2; cases e2
    | true =>
      rw [q] at e2
      have hm : m < xs.length := Nat.le_of_ble_eq_true q
      obtain ⟨v, hv, rv⟩ := pget rl e2
      refine ⟨v, ?_, rv⟩
      unfold atI ixN
      have h0 : ¬ (0 ≤ Int.negSucc m) := by simp
      have h1 : -(ys.length : Int) ≤ Int.negSucc m := by rw [Int.negSucc_eq]; omega
      rw [if_neg h0, if_pos h1]
      have e3 : (Int.negSucc m + (ys.length : Int)).toNat = xs.length - 1 - m := by rw [Int.negSucc_eq]; omega
      show ys[(Int.negSucc m + (ys.length : Int)).toNat]? = some v
      rw [e3]; exact hv
def fIxS (g : GT) : U → U → VS → Go U := fun a b st κ => match b with
  | .int i => match seqOf g st a with
    | some (_, xs) => match uAt xs i with
      | some u => κ (.ok u) st
      | none => false
    | none => false
  | _ => false
theorem o_ixS (G : GOk X.K γ g) : Ix2 X γ W (fIxS g) := ⟨_, IxR.two (IxR.or ix_list ix_tup), fun ρ st H τ u1 u2 v1 v2 R r1 r2 κ Q hm ok ex => by
  cases u2 <;> first | (cases hm; done) | skip
  rename_i i
  have hm2 : (match seqOf g st u1 with
    | some (_, xs) => (match uAt xs i with
      | some u => κ (.ok u) st
      | none => false)
    | none => false) = true := hm
  cases q : seqOf g st u1 with
  | none => rw [q] at hm2; cases hm2
  | some bx =>
    obtain ⟨b, xs⟩ := bx
    rw [q] at hm2
    have hm3 : (match uAt xs i with
      | some u => κ (.ok u) st
      | none => false) = true := hm2
    obtain ⟨a, ys, ev, rl, hs⟩ := seq_ok G R r1 q
    cases q2 : uAt xs i with
    | none => rw [q2] at hm3; cases hm3
    | some u =>
      rw [q2] at hm3
      obtain ⟨v, hv, rv⟩ := uAt_ok rl q2
      cases b with
      | false => exact .inl ⟨a, ys, i, v, ev, r2, hs, hv, ok.here R rv hm3⟩
      | true => exact .inr ⟨a, ys, i, v, ev, r2, hs, hv, ok.here R rv hm3⟩⟩
def rDGet : R2 := fun x y H Q => ∃ a v, x = .ref a ∧ DGet H a y (some v) ∧ Q v H
theorem ix_dict (hu : X.A.units + 1 < cLine) : IxR X rDGet := by
  intro value slice pins s σ H x y v u Q I rx ry ⟨a, z, ex, gg, q⟩ hs
  subst ex
  obtain rfl : v = Value.ref a := rx
  have hT := dict_typeIs I gg
  unfold subscriptTail
  refine wpAny_bind ?_
  rw [getitemInPython_of_ne hT.not_modules]
  refine wpAny_bind (wpAny_specialOf hT PySem.F.slot_dict_getitem.lookup ?_)
  have fin : wpAny (model X.prog X.w) X.A (subscripted slice false (.ref a) u) (fun r s₃ => wpAny (model X.prog X.w) X.A (letTemporaryGo value (.ref a) r >>= fun _ => pure r) (EP X pins σ Q) X.xe s₃) X.xe s := by
    rw [hs]
    refine wpAny_operating (d_getItem hu I gg ry fun w' s3 I3 rw' => wpAny_bind (wpAny_letTemporaryGo (wpAny_pure ⟨z, H, I3, rw', q⟩)))
  first
    | exact wpAny_pure (wpAny_bind fin)
    | exact wpAny_bind fin
    | exact wpAny_pure fin
def fIxD : U → U → VS → Go U := fun a b st κ => match a with
  | .ref i => match st.get i with
    | some (.dct _ kvs) => match kOf b with
      | some k => match kGet k kvs with
        | some u => κ (.ok u) st
        | none => false
      | none => false
    | _ => false
  | _ => false
theorem o_ixD (hu : X.A.units + 1 < cLine) : Ix2 X γ W fIxD := ⟨_, IxR.two (ix_dict hu), fun ρ st H τ u1 u2 v1 v2 R r1 r2 κ Q hm ok ex => by
  cases u1 <;> first | (cases hm; done) | skip
  rename_i i
  have hm2 : (match st.get i with
    | some (.dct _ kvs) => (match kOf u2 with
      | some k => (match kGet k kvs with
        | some u => κ (.ok u) st
        | none => false)
      | none => false)
    | _ => false) = true := hm
  cases q : st.get i with
  | none => rw [q] at hm2; cases hm2
  | some o =>
    rw [q] at hm2
    cases o <;> first | (cases hm2; done) | skip
    rename_i lk kvs
    have hm3 : (match kOf u2 with
      | some k => (match kGet k kvs with
        | some u => κ (.ok u) st
        | none => false)
      | none => false) = true := hm2
    obtain ⟨a, ev, _, ro⟩ := R.get q r1
    obtain ⟨ws, rd, rk⟩ := dct_rd ro
    cases q2 : kOf u2 with
    | none => rw [q2] at hm3; cases hm3
    | some k =>
      rw [q2] at hm3
      have hm4 : (match kGet k kvs with
        | some u => κ (.ok u) st
        | none => false) = true := hm3
      rcases rk.get (k := k) with ⟨e1, e2⟩ | ⟨u, v, e1, e2, ru⟩
      · rw [e1] at hm4; cases hm4
      · rw [e1] at hm4
        exact ⟨a, v, ev, .inl ⟨ws, k, rd, kOf_ok q2 r2, e2.symm⟩, ok.here R ru hm4⟩⟩
/-- o[x] by the class's own __getitem__ -/
def rOwn2 (C : Addr) (sp : Sp) : R2 := fun o x H Q => ∃ a dx fs, o = .ref a ∧ H a = some (.ins C dx fs) ∧ sp [.ref a, x] H Q E0
theorem ix_own {k : Nat} {f C : Addr} {sp : Sp} (hs : PySem.W.findIn X.K (.ref C) "__getitem__" = some (some (.ref f))) (hf : PySem.W.fnIn X.K f = true) (hfn : PySem.W.isFn X.K (.ref f) = true) (F : FnR X.prog X.w X.K X.mg X.base CX0 k f sp) (hr : Room (k + 1) X.A) : IxR2 X (rOwn2 C sp) := by
  intro value slice pins s σ H x y v u Q I rx ry ⟨a, dx, fs, ex, ea, h⟩ _ hs2
  subst ex
  obtain rfl : v = Value.ref a := rx
  obtain ⟨mA, O, _, _, _, _⟩ := ins_get I.hok ea
  obtain ⟨od, J, _⟩ := O.look
  obtain ⟨m, Fm⟩ := I.fr
  exact PySem.W.sub_K Fm I.ok.mod.kin J hs hf hfn (run_wp (vs := [.ref a, y]) F hr.in1 I.env0.in1 I (.cons rfl (.cons ry .nil)) h) hs2
/-- the instance's own method on the two -/
def fSelf2 (c : Nat) (mf : MF) : U → U → VS → Go U := fun o x st => match o with
  | .ref i => match st.get i with
    | some (.ins c' _) => match Nat.beq c' c with
      | true => callM mf 2 [o, x] st
      | false => bad
    | _ => bad
  | _ => bad
theorem leaf_self2 {c : Nat} {mf : MF} : Leaf2 γ W (rOwn2 (γ c) (SpM γ 2 mf)) (fSelf2 c mf) := fun ρ st H τ o x vo vx R ro rx κ Q hm ok ex => by
  cases o <;> first | (cases hm; done) | skip
  rename_i i
  have k2 : (match st.get i with
    | some (.ins c' _) => (match Nat.beq c' c with
      | true => callM mf 2 [.ref i, x] st
      | false => bad)
    | _ => bad) κ = true := hm
  cases q : st.get i with
  | none => rw [q] at k2; cases k2
  | some ob =>
    rw [q] at k2
    cases ob <;> first | (cases k2; done) | skip
    rename_i c' fs
    obtain ⟨a, ev, ea, dx, ws, hh, rf⟩ := R.get q ro
    subst ev
    have k3 : (match Nat.beq c' c with
      | true => callM mf 2 [.ref i, x] st
      | false => bad) κ = true := k2
    cases qc : Nat.beq c' c with
    | false => rw [qc] at k3; cases k3
    | true =>
      have ec := Nat.eq_of_beq_eq_true qc
      subst ec
      rw [qc] at k3
      exact ⟨a, dx, ws, rfl, hh, sim_call (W := W) (τ := τ) R (.cons ro (.cons rx .nil)) _ _ k3 ok ex⟩
theorem o_ixOwn {k c : Nat} {f : Addr} {mf : MF} (hs : PySem.W.findIn X.K (.ref (γ c)) "__getitem__" = some (some (.ref f))) (hf : PySem.W.fnIn X.K f = true) (hfn : PySem.W.isFn X.K (.ref f) = true) (F : FnM X γ k f 2 mf) (hr : Room (k + 1) X.A) : Ix2 X γ W (fSelf2 c mf) := ⟨_, ix_own hs hf hfn F hr, leaf_self2⟩
theorem o_inOwn {k c : Nat} {f : Addr} {mf : MF} (hs : PySem.W.findIn X.K (.ref (γ c)) "__contains__" = some (some (.ref f))) (hfn : PySem.W.isFn X.K (.ref f) = true) (F : FnM X γ k f 2 mf) (hr : Room k X.A) : Op2 X γ W (compareOp .In) (fOwn2 c mf fun b => bif false then !b else b) := ⟨_, op_in_own hs hfn F hr, leaf_ownIn false⟩
theorem o_ninOwn {k c : Nat} {f : Addr} {mf : MF} (hs : PySem.W.findIn X.K (.ref (γ c)) "__contains__" = some (some (.ref f))) (hfn : PySem.W.isFn X.K (.ref f) = true) (F : FnM X γ k f 2 mf) (hr : Room k X.A) : Op2 X γ W (compareOp .NotIn) (fOwn2 c mf fun b => bif true then !b else b) := ⟨_, op_notin_own hs hfn F hr, leaf_ownIn true⟩
end
end MV

namespace MV
open PySem PySem.Calls PyProof.Rows PyProof.V PySem.Spec
open PySem.W (KdxG kdx_alive)

/-! ### list(enumerate(xs)) -/
/-- an enumerate whose last tuple is held elsewhere -/
abbrev EnF (h : Heap) (e it : Addr) (i : Int) (a : Addr) (f : Bool) (item : Value) : Prop :=
  h.get? e = some { cls := .type "enumerate", dict := none, data := .fields #[rawInt a, .bool f, .ref it, rawInt i, .none, item], slots := #[] }
section
variable {prog : Program} {w : World} {A : Around} {E : Value → Shared → Prop} {s : Shared}
theorem enf_next {e it l a : Addr} {f : Bool} {oa : Obj} {i : Nat} {items : Array Value} {x old : Value} {Q : Option Value → Shared → Prop}
    (he : EnF s.heap e it i a f old) (ha : s.heap.get? a = some oa) (hae : a ≠ e) (hai : a ≠ it) (hit : s.heap.IsListIter it l i) (hl : s.heap.IsList l items) (hx : items[i]? = some x) (hne : e ≠ it)
    (hQ : ∀ h' tk, EnF h' e it ((i : Int) + 1) a true old → h'.IsListIter it l (i + 1) →
      h'.get? s.heap.objs.size = some { cls := .type "tuple", data := .seq #[.int i tk, x] } → h'.objs.size = s.heap.objs.size + 1 →
      (∀ b o, b ≠ e → b ≠ it → s.heap.get? b = some o → h'.get? b = some o) → Q (some (.ref s.heap.objs.size)) { s with heap := h', toks := s.toks + 1 }) :
    wpAny (model prog w) A (pyNext (.ref e)) Q E s := by
  obtain ⟨hp, g, d, tk, os⟩ := s
  have hT : Shared.TypeIs ⟨hp, g, d, tk, os⟩ (.ref e) "enumerate" := ⟨_, he, rfl⟩
  unfold pyNext
  refine wpAny_bind (wpAny_attempt (wpAny_callSpecial?_slot (name := Str.ofString "__next__") hT PySem.F.slot_enumerate_next
    (wpAny_call_entry PySem.F.slot_enumerate_next hT PySem.F.entry_enumerate_next ?_ (PySem.F.args_enumerate_next_1 _))))
  show wpAny _ _ (field (.ref e) 2 >>= _) _ _ _
  refine wpAny_bind (wpAny_field he rfl (x := .ref it) rfl ?_)
  refine wpAny_bind (wpAny_nextOf_list_item hit hl hx fun h₁ hit₁ hs₁ => ?_)
  replace hs₁ : Heap.SameBut it hp h₁ := hs₁
  have he₁ : EnF h₁ e it i a f old := (hs₁.2 e hne).trans he
  show wpAny _ _ (field (.ref e) 3 >>= _) _ _ ⟨h₁, g, d, tk, os⟩
  refine wpAny_bind (wpAny_field he₁ rfl (x := rawInt i) rfl ?_)
  show wpAny _ _ (field (.ref e) 4 >>= _) _ _ ⟨h₁, g, d, tk, os⟩
  refine wpAny_bind (wpAny_field he₁ rfl (x := .none) rfl ?_)
  show wpAny _ _ (mkInt i >>= _) _ _ ⟨h₁, g, d, tk, os⟩
  refine wpAny_bind (wpAny_mkInt ?_)
  show wpAny _ _ (setField (.ref e) 3 (rawInt ((i : Int) + 1)) >>= _) _ _ ⟨h₁, g, d, tk + 1, os⟩
  refine wpAny_bind (wpAny_setField_rec he₁ (by simp) fun h₂ he₂ hs₂ => ?_)
  replace hs₂ : Heap.SameBut e h₁ h₂ := hs₂
  replace he₂ : EnF h₂ e it ((i : Int) + 1) a f old := he₂
  show wpAny _ _ (setField (.ref e) 4 .none >>= _) _ _ ⟨h₂, g, d, tk + 1, os⟩
  refine wpAny_bind (wpAny_setField_rec he₂ (by simp) fun h₃ he₃ hs₃ => ?_)
  replace hs₃ : Heap.SameBut e h₂ h₃ := hs₃
  replace he₃ : EnF h₃ e it ((i : Int) + 1) a f old := he₃
  show wpAny _ _ (newTuple [.int i tk, x] >>= _) _ _ ⟨h₃, g, d, tk + 1, os⟩
  refine wpAny_bind (wpAny_newTuple ?_)
  have he₄ : EnF (h₃.push { cls := .type "tuple", data := .seq #[.int i tk, x] }) e it ((i : Int) + 1) a f old := Heap.get?_push_of_some _ he₃
  generalize hh₄ : h₃.push { cls := .type "tuple", data := .seq #[.int i tk, x] } = h₄ at he₄
  have hsz : h₃.objs.size = hp.objs.size := by rw [hs₃.1, hs₂.1, hs₁.1]
  have hel : e < hp.objs.size := Heap.lt_size he
  have ht₄ : h₄.get? hp.objs.size = some { cls := .type "tuple", data := .seq #[.int i tk, x] } := by rw [← hh₄, ← hsz]; exact Heap.get?_push_size _ rfl
  have hz₄ : h₄.objs.size = hp.objs.size + 1 := by rw [← hh₄, Heap.size_push, hsz]
  have hk₄ : ∀ b o, b ≠ e → b ≠ it → hp.get? b = some o → h₄.get? b = some o := fun b o hbe hbi hb => by
    rw [← hh₄]; exact Heap.get?_push_of_some _ (hs₃.extBut b o hbe (hs₂.extBut b o hbe (hs₁.extBut b o hbi hb)))
  have hit₄ : h₄.IsListIter it l (i + 1) := by
    rw [← hh₄]; obtain ⟨o, ho, r⟩ := (hit₁.extBut hs₂.extBut (Ne.symm hne)).extBut hs₃.extBut (Ne.symm hne); exact ⟨o, Heap.get?_push_of_some _ ho, r⟩
  have ha₄ : h₄.get? a = some oa := hk₄ a oa hae hai ha
  show wpAny _ _ (Builtin.SmallTypes.ownedTupleIsFree (.ref e) >>= _) _ _ ⟨h₄, g, d, tk + 1, os⟩
  rw [hsz]
  clear hh₄ he₃ hs₃ he₂ hs₂ he₁ hs₁ hit₁ hsz h₃ h₂ h₁
  have fin : ∀ h₅ : Heap, EnF h₅ e it ((i : Int) + 1) a true old → Heap.SameBut e h₄ h₅ → Q (some (.ref hp.objs.size)) ⟨h₅, g, d, tk + 1, os⟩ := fun h₅ he₅ hs₅ =>
    hQ h₅ tk he₅ (hit₄.extBut hs₅.extBut (Ne.symm hne)) (hs₅.extBut _ _ (Nat.ne_of_gt hel) ht₄) (by show h₅.objs.size = hp.objs.size + 1; rw [hs₅.1, hz₄]) fun b o hb hb2 q => hs₅.extBut b o hb (hk₄ b o hb hb2 q)
  refine wpAny_bind ?_
  unfold Builtin.SmallTypes.ownedTupleIsFree
  refine wpAny_bind (wpAny_field he₄ rfl (x := rawInt a) rfl ?_)
  show wpAny _ _ (loadIfAlive ((a : Int).toNat) >>= _) _ _ _
  rw [Int.toNat_natCast]
  refine wpAny_bind (kdx_alive ha₄ ?_)
  simp only [Option.isNone_some, Bool.false_eq_true, if_false]
  refine wpAny_bind (wpAny_field he₄ rfl (x := .bool f) rfl ?_)
  cases f with
  | true =>
    rw [if_neg (show ¬ ((Value.bool true != Value.bool true) = true) from Bool.false_ne_true)]
    refine wpAny_pure ?_
    simp only [Bool.false_eq_true, if_false]
    exact wpAny_pure ⟨_, rfl, wpAny_pure (fin h₄ he₄ (Heap.SameBut.refl _ _))⟩
  | false =>
    rw [if_pos (show (Value.bool false != Value.bool true) = true from rfl)]
    refine wpAny_bind (wpAny_setField_rec he₄ (by simp) fun h₅ he₅ hs₅ => ?_)
    replace hs₅ : Heap.SameBut e h₄ h₅ := hs₅
    replace he₅ : EnF h₅ e it ((i : Int) + 1) a true old := he₅
    refine wpAny_pure ?_
    simp only [Bool.false_eq_true, if_false]
    exact wpAny_pure ⟨_, rfl, wpAny_pure (fin h₅ he₅ hs₅)⟩
theorem enf_end {e it l a : Addr} {f : Bool} {i : Nat} {items : Array Value} {old : Value} {Q : Option Value → Shared → Prop} (hh : A.handled = none)
    (he : EnF s.heap e it i a f old) (hit : s.heap.IsListIter it l i) (hl : s.heap.IsList l items) (hx : items[i]? = none)
    (hQ : ∀ h', Heap.ExtBut it s.heap h' → Q none { s with heap := h' }) : wpAny (model prog w) A (pyNext (.ref e)) Q E s := by
  have hT : s.TypeIs (.ref e) "enumerate" := ⟨_, he, rfl⟩
  unfold pyNext
  refine wpAny_bind (wpAny_attempt (wpAny_callSpecial?_slot (name := Str.ofString "__next__") hT PySem.F.slot_enumerate_next
    (wpAny_call_entry PySem.F.slot_enumerate_next hT PySem.F.entry_enumerate_next ?_ (PySem.F.args_enumerate_next_1 _))))
  show wpAny _ _ (field (.ref e) 2 >>= _) _ _ _
  refine wpAny_bind (wpAny_field he rfl (x := .ref it) rfl ?_)
  refine wpAny_bind (wpAny_nextOf_list_end hh hit hl hx fun h' x he' hx' => ?_)
  obtain ⟨o, ho, hc⟩ := hx'
  refine wpAny_bind (wpAny_isInstance (T := "StopIteration") (b := true) ⟨o, ho, hc⟩ isSubtype_stop ?_)
  exact wpAny_pure (hQ _ he')
def EnSt (h : Heap) (e it l S : Addr) (i : Nat) : Prop := h.IsListIter it l i ∧ ((i = 0 ∧ IsEnum h e it 0 .none) ∨ ∃ a f oa old, EnF h e it i a f old ∧ h.get? a = some oa ∧ a ≠ e ∧ a ≠ it ∧ a ≠ S)
theorem EnSt.keep {h h' : Heap} {e it l S : Addr} {i : Nat} (x : EnSt h e it l S i) (hk : ∀ b o, b ≠ S → h.get? b = some o → h'.get? b = some o) (he : e ≠ S) (hI : it ≠ S) : EnSt h' e it l S i := by
  obtain ⟨z, x⟩ := x
  refine ⟨z.at fun o q => hk it o hI q, ?_⟩
  rcases x with ⟨q, hit⟩ | ⟨a, f, oa, old, hit, ha, hae, hai, haS⟩
  · exact .inl ⟨q, hk _ _ he hit⟩
  · exact .inr ⟨a, f, oa, old, hk _ _ he hit, hk _ _ haS ha, hae, hai, haS⟩
theorem en_item {e it l S : Addr} {i : Nat} {items : Array Value} {x : Value} {Q : Option Value → Shared → Prop} (hst : EnSt s.heap e it l S i) (hS : S < s.heap.objs.size) (hne : e ≠ it)
    (hl : s.heap.IsList l items) (hx : items[i]? = some x)
    (hQ : ∀ h' tk tk', EnSt h' e it l S (i + 1) → h'.get? s.heap.objs.size = some { cls := .type "tuple", data := .seq #[.int i tk, x] } → h'.objs.size = s.heap.objs.size + 1 →
      (∀ b o, b ≠ e → b ≠ it → s.heap.get? b = some o → h'.get? b = some o) → Q (some (.ref s.heap.objs.size)) { s with heap := h', toks := tk' }) :
    wpAny (model prog w) A (pyNext (.ref e)) Q E s := by
  obtain ⟨hit, q⟩ := hst
  obtain ⟨oi, hoi, _⟩ := id hit
  have hil : it < s.heap.objs.size := Heap.lt_size hoi
  rcases q with ⟨rfl, he⟩ | ⟨a, f, oa, old, he, ha, hae, hai, haS⟩
  · exact wpAny_pyNext_enum_item he hit hl hx hne fun h' a b c d k => hQ h' _ _ ⟨b, .inr ⟨_, false, _, x, a, c, Nat.ne_of_gt (Heap.lt_size he), Nat.ne_of_gt hil, Nat.ne_of_gt hS⟩⟩ c d k
  · refine enf_next he ha hae hai hit hl hx hne fun h' tk a' b c d k => hQ h' tk _ ⟨b, .inr ⟨a, true, oa, old, ?_, k a oa hae hai ha, hae, hai, haS⟩⟩ c d k
    exact a'
theorem en_done {e it l S : Addr} {i : Nat} {items : Array Value} {Q : Option Value → Shared → Prop} (hh : A.handled = none) (hst : EnSt s.heap e it l S i) (hl : s.heap.IsList l items) (hx : items[i]? = none)
    (hQ : ∀ h', Heap.ExtBut it s.heap h' → Q none { s with heap := h' }) : wpAny (model prog w) A (pyNext (.ref e)) Q E s := by
  obtain ⟨hit, q⟩ := hst
  rcases q with ⟨rfl, he⟩ | ⟨a, f, oa, old, he, ha, hae, hai, haS⟩
  · exact wpAny_pyNext_enum_end hh he hit hl hx hQ
  · exact enf_end hh he hit hl hx hQ
end
section
variable {prog : Program} {w : World} {K : Type} [DecidableEq K] {knd : KeyKind prog w K} {A : Around} {s : Shared} {R : Result → Shared → Prop} {kvs : List (K × Value)} {items : Array Value}
theorem en_loop {S I it l : Addr} (hh : A.handled = none) (hIS : I < S) (hit : it < I) (hSl : l ≠ S) (hIl : l ≠ I) (hil : l ≠ it) (hn : kvs.length ≤ sizeLine) (hsz0 : items.size = kvs.length) (hkv : ∀ (i : Nat) (k : K) (x : Value), kvs[i]? = some (k, x) → items[i]? = some x ∧ ∀ tk, knd.is k (.int i tk) = true) (res : Value) {h₁ : Heap}
    (hR : ∀ h' tk acc c as, (∀ b o, b ≠ S → b ≠ I → b ≠ it → h₁.get? b = some o → h'.get? b = some o) → h'.get? S = some { cls := .type "list", dict := none, data := .seq acc c, slots := #[] } → as.length = kvs.length → KdxG knd kvs S h' as →
      acc.toList = as.map Value.ref → R (.ok (.ret res)) { s with heap := h', toks := tk }) :
    ∀ (k i : Nat) (h : Heap) (tk c : Nat) (acc : Array Value) (as : List Addr), kvs.length - i = k → i ≤ kvs.length → EnSt h I it l S i → h.IsList l items → (∀ b o, b ≠ S → b ≠ I → b ≠ it → h₁.get? b = some o → h.get? b = some o) →
      h.get? S = some { cls := .type "list", dict := none, data := .seq acc c, slots := #[] } → acc.toList = as.map Value.ref → as.length = i → KdxG knd kvs S h as →
      codeAny (model prog w) A (.builtin "list.extend.loop" ⟨[.ref S, .ref I, res], []⟩) R { s with heap := h, toks := tk } := by
  have hne : S ≠ I := Nat.ne_of_gt hIS
  have hSit : S ≠ it := Nat.ne_of_gt (Nat.lt_trans hit hIS)
  have hIit : I ≠ it := Nat.ne_of_gt hit
  intro k
  induction k with
  | zero =>
    intro i h tk c acc as hk hi hst hD hkeep hS hacc hal hG
    have hin : i = kvs.length := by omega
    refine codeAny_builtin PySem.F.entry_extend_loop ?_
    rw [Around.under_plainId PySem.F.plain_extend_loop _]
    show wpAny _ A.in1 (pyNext (.ref I) >>= _) _ _ _
    refine wpAny_bind (en_done (s := { s with heap := h, toks := tk }) (A := A.in1) hh hst hD (Array.getElem?_eq_none (by omega)) fun h' he => ?_)
    refine wpAny_pure (hR h' tk acc c as (fun b o h1 h2 h3 e => he b o h3 (hkeep b o h1 h2 h3 e)) (he S _ hSit hS) (by omega) ⟨hG.rise, hG.above, fun j a hj => ?_⟩ hacc)
    obtain ⟨key, kk, x, e1, e2, e3⟩ := hG.pairs j a hj
    exact ⟨key, kk, x, e1, e2, he a _ (Nat.ne_of_gt (Nat.lt_trans (Nat.lt_trans hit hIS) (hG.above a (List.mem_of_getElem? hj)))) e3⟩
  | succ k ih =>
    intro i h tk c acc as hk hi hst hD hkeep hS hacc hal hG
    have hlt : i < kvs.length := by omega
    obtain ⟨⟨kk, x⟩, hx⟩ : ∃ p, kvs[i]? = some p := ⟨kvs[i], List.getElem?_eq_getElem hlt⟩
    obtain ⟨hx2, hkey⟩ := hkv i kk x hx
    have hsz : acc.size = i := by rw [← Array.length_toList, hacc, List.length_map, hal]
    refine codeAny_builtin PySem.F.entry_extend_loop ?_
    rw [Around.under_plainId PySem.F.plain_extend_loop _]
    show wpAny _ A.in1 (pyNext (.ref I) >>= _) _ _ _
    refine wpAny_bind (en_item (s := { s with heap := h, toks := tk }) (S := S) hst (Heap.lt_size hS) hIit hD hx2 fun h' tk1 tk2 hst' ht hz hkp => ?_)
    dsimp only at ht hz hkp ⊢
    have hS' := hkp S _ hne hSit hS
    have up : ∀ b o, b ≠ S → h'.get? b = some o → (h'.update S (Obj.mapSeq (·.push (Value.ref h.objs.size)))).get? b = some o := fun b o hb e => (Heap.get?_update_other _ _ (Ne.symm hb)).trans e
    have hSl' : S < h.objs.size := Heap.lt_size hS
    show wpAny _ A.in1 (updateSeq S (·.push (Value.ref h.objs.size)) >>= _) _ _ _
    refine wpAny_bind ?_
    refine wpAny_updateSeq hS' rfl (wpAny_pure ⟨plainId_quiet PySem.F.plain_extend_loop _, ih (i + 1) _ tk2 _ (acc.push (Value.ref h.objs.size)) (as ++ [h.objs.size]) (by omega) hlt (hst'.keep up (Ne.symm hne) (Ne.symm hSit)) ?_
      (fun b o h1 h2 h3 e => up b o h1 (hkp b o h2 h3 (hkeep b o h1 h2 h3 e))) (Heap.get?_update_self _ hS' rfl) (by rw [Array.toList_push, hacc, List.map_append]; rfl) (by rw [List.length_append, hal]; rfl) ⟨?_, ?_, ?_⟩⟩) (by rw [hsz]; omega) (by show (acc.push (Value.ref h.objs.size)).size ≤ sizeLine + 1; rw [Array.size_push, hsz]; omega)
    · obtain ⟨o, ho, r⟩ := hD
      exact ⟨o, up l o hSl (hkp l o hIl hil ho), r⟩
    · refine List.pairwise_append.mpr ⟨hG.rise, List.pairwise_singleton _ _, fun a ha b hb => ?_⟩
      rw [List.mem_singleton.mp hb]
      exact hG.there ha
    · intro a ha
      rcases List.mem_append.mp ha with ha | ha
      · exact hG.above a ha
      · rw [List.mem_singleton.mp ha]; exact hSl'
    · intro j b hj
      rcases Nat.lt_trichotomy j as.length with h1 | h1 | h1
      · rw [List.getElem?_append_left h1] at hj
        obtain ⟨key', k', x', e1, e2, e3⟩ := hG.pairs j b hj
        have hb := hG.above b (List.mem_of_getElem? hj)
        exact ⟨key', k', x', e1, e2, up b _ (Nat.ne_of_gt hb) (hkp b _ (Nat.ne_of_gt (Nat.lt_trans hIS hb)) (Nat.ne_of_gt (Nat.lt_trans (Nat.lt_trans hit hIS) hb)) e3)⟩
      · subst h1
        have hb : h.objs.size = b := by simpa using hj
        subst hb
        exact ⟨_, kk, x, by rw [hal]; exact hx, hkey tk1, by rw [hal] at *; exact up _ _ (Nat.ne_of_gt hSl') ht⟩
      · have hnone : (as ++ [h.objs.size])[j]? = none := List.getElem?_eq_none (by rw [List.length_append, List.length_singleton]; omega)
        rw [hnone] at hj; cases hj
end
theorem en_nolen : typeLookup (.type "enumerate") "__len__" = pure none := by rw [typeLookup_type, builtinLookup_eq_fast]; kernel_rfl
theorem en_nohint : typeLookup (.type "enumerate") "__length_hint__" = pure none := by rw [typeLookup_type, builtinLookup_eq_fast]; kernel_rfl
section
variable {prog : Program} {w : World} {K : Type} [DecidableEq K] {knd : KeyKind prog w K} {A : Around} {E : Value → Shared → Prop} {s : Shared} {I it l : Addr} {kvs : List (K × Value)} {items : Array Value}
theorem en_hint (hT : s.TypeIs (.ref I) "enumerate") {Q : Bool → Shared → Prop} (h : Q true s) : wpAny (model prog w) A (Builtin.List.listLengthHint (.ref I)) Q E s := by
  unfold Builtin.List.listLengthHint
  refine wpAny_bind (wpAny_specialOf hT en_nolen ?_)
  show wpAny _ _ (specialOf (Value.ref I) (Str.ofString "__length_hint__") >>= _) _ _ _
  refine wpAny_bind (wpAny_specialOf hT en_nohint ?_)
  exact wpAny_pure h
theorem en_extend {R : Result → Shared → Prop} (hh : A.handled = none) (he : IsEnum s.heap I it 0 .none) (hit : s.heap.IsListIter it l 0) (hl : s.heap.IsList l items) (hiI : it < I) (hIl : l ≠ I) (hil : l ≠ it) (hsz0 : items.size = kvs.length) (hkv : ∀ (i : Nat) (k : K) (x : Value), kvs[i]? = some (k, x) → items[i]? = some x ∧ ∀ tk, knd.is k (.int i tk) = true)
    (S : Addr) (hIS : I < S) (hSl : l ≠ S) (res : Value) (c₀ : Nat) (hS : s.heap.get? S = some { cls := .type "list", data := .seq #[] c₀ })
    (hR : ∀ h' tk acc c as, (∀ b o, b ≠ S → b ≠ I → b ≠ it → s.heap.get? b = some o → h'.get? b = some o) → h'.get? S = some { cls := .type "list", dict := none, data := .seq acc c, slots := #[] } → as.length = kvs.length → KdxG knd kvs S h' as →
      acc.toList = as.map Value.ref → R (.ok (.ret res)) { s with heap := h', toks := tk }) (hn : kvs.length ≤ sizeLine) :
    wpAny (model prog w) A.in1 (Builtin.List.listExtendWith (.ref S) (.ref I) res)
      (fun fin s' => match fin with | .done f => R (.ok f) s' | .again c' => c'.quiet = true ∧ codeAny (model prog w) A c' R s') (fun e s' => R (.error e) s') s := by
  have hT : s.TypeIs (.ref I) "enumerate" := ⟨_, he, rfl⟩
  have hSne : S ≠ I := Nat.ne_of_gt hIS
  have hSit : S ≠ it := Nat.ne_of_gt (Nat.lt_trans hiI hIS)
  have key : ∀ (h : Heap) (c₁ tk : Nat), (∀ b o, b ≠ S → s.heap.get? b = some o → h.get? b = some o) →
      h.get? S = some { cls := .type "list", data := .seq #[] c₁ } → codeAny (model prog w) A (.builtin "list.extend.loop" ⟨[.ref S, .ref I, res], []⟩) R { s with heap := h, toks := tk } := by
    intro h c₁ tk hk hS₁
    refine en_loop (knd := knd) (kvs := kvs) (items := items) (s := s) (h₁ := s.heap) hh hIS hiI hSl hIl hil hn hsz0 hkv res hR
      kvs.length 0 h tk c₁ #[] [] (Nat.sub_zero _) (Nat.zero_le _) ⟨hit.at fun o q => hk it o (Ne.symm hSit) q, .inl ⟨rfl, hk I _ (Ne.symm hSne) he⟩⟩ ?_ (fun b o hb _ _ e => hk b o hb e) hS₁ rfl rfl
      ⟨List.Pairwise.nil, (fun _ ha => nomatch ha), (fun j a hj => by simp at hj)⟩
    obtain ⟨o, ho, r⟩ := hl
    exact ⟨o, hk l o hSl ho, r⟩
  unfold Builtin.List.listExtendWith
  refine wpAny_bind (wpAny_typeOf (T := "enumerate") hT ?_)
  have h1 : Builtin.List.listSameRef (.ref S) (.ref I) = false := by simp [Builtin.List.listSameRef, hSne]
  have h2 : (Value.type "enumerate" == Value.type "list") = false := by decide
  have h3 : (Value.type "enumerate" == Value.type "tuple") = false := by decide
  simp only [h1, h2, h3, Bool.or_false, Bool.false_eq_true, if_false]
  refine wpAny_bind (wpAny_pyIter_enum he ?_)
  refine wpAny_bind (wpAny_holding (en_hint hT ?_))
  refine wpAny_ite_split (fun _ => ?_) (fun _ => wpAny_pure ⟨plainId_quiet PySem.F.plain_extend_loop _, key _ c₀ _ (fun b o _ e => e) hS⟩)
  refine wpAny_bind (wpAny_rule ?_)
  refine wpAny_bind ?_
  show wpAny _ _ (updateSeq S (·.push .none) >>= fun _ => updateSeq S (·.pop)) _ _ _
  refine wpAny_bind (wpAny_updateSeq hS rfl ?_)
  have hS₂ := Heap.get?_update_self (Obj.mapSeq (·.push Value.none)) hS rfl
  refine wpAny_updateSeq (hz := by seq_fits) hS₂ rfl ?_
  have hS₃ := Heap.get?_update_self (Obj.mapSeq (·.pop)) hS₂ rfl
  refine wpAny_pure ⟨plainId_quiet PySem.F.plain_extend_loop _, key _ _ _ (fun b o hb e => ?_) hS₃⟩
  exact (Heap.get?_update_other _ _ (Ne.symm hb)).trans ((Heap.get?_update_other _ _ (Ne.symm hb)).trans e)
theorem en_init {R : Result → Shared → Prop} (hh : A.handled = none) (he : IsEnum s.heap I it 0 .none) (hit : s.heap.IsListIter it l 0) (hl : s.heap.IsList l items) (hiI : it < I) (hIl : l ≠ I) (hil : l ≠ it) (hsz0 : items.size = kvs.length) (hkv : ∀ (i : Nat) (k : K) (x : Value), kvs[i]? = some (k, x) → items[i]? = some x ∧ ∀ tk, knd.is k (.int i tk) = true)
    (S : Addr) (hIS : I < S) (hSl : l ≠ S) (hS : s.heap.get? S = some { cls := .type "list", data := .seq #[] })
    (hR : ∀ h' tk acc c as, (∀ b o, b ≠ S → b ≠ I → b ≠ it → s.heap.get? b = some o → h'.get? b = some o) → h'.get? S = some { cls := .type "list", dict := none, data := .seq acc c, slots := #[] } → as.length = kvs.length → KdxG knd kvs S h' as →
      acc.toList = as.map Value.ref → R (.ok (.ret .none)) { s with heap := h', toks := tk }) (hn : kvs.length ≤ sizeLine) :
    wpAny (model prog w) A.in1 (Builtin.«list.__init__» ⟨[.ref S, .ref I], []⟩)
      (fun fin s' => match fin with | .done f => R (.ok f) s' | .again c' => c'.quiet = true ∧ codeAny (model prog w) A c' R s') (fun e s' => R (.error e) s') s := by
  show wpAny _ _ (do let old ← Builtin.List.listItems (.ref S); Builtin.List.listUpdate (.ref S) (fun _ => #[]); letGo old.toList.reverse; Builtin.List.listExtendWith (.ref S) (.ref I) .none) _ _ s
  refine wpAny_bind ?_
  unfold Builtin.List.listItems
  refine wpAny_bind (wpAny_seqItems hS rfl (wpAny_pure ?_))
  show wpAny _ _ (updateSeq S (fun _ => #[]) >>= fun _ => letGo (#[] : Array Value).toList.reverse >>= fun _ => Builtin.List.listExtendWith (.ref S) (.ref I) .none) _ _ s
  refine wpAny_bind (wpAny_updateSeq hS rfl ?_)
  have hS₂ := Heap.get?_update_self (Obj.mapSeq (fun _ => (#[] : Array Value))) hS rfl
  have oth : ∀ b o, b ≠ S → s.heap.get? b = some o → (s.heap.update S (Obj.mapSeq (fun _ => (#[] : Array Value)))).get? b = some o :=
    fun b o hb e => (Heap.get?_update_other _ _ (Ne.symm hb)).trans e
  refine wpAny_bind (wpAny_letGo ?_)
  have hSit : it ≠ S := Nat.ne_of_lt (Nat.lt_trans hiI hIS)
  refine en_extend (knd := knd) (kvs := kvs) (items := items) hh (oth I _ (Nat.ne_of_lt hIS) he) (hit.at fun o q => oth it o hSit q) (by obtain ⟨o, ho, r⟩ := hl; exact ⟨o, oth l o hSl ho, r⟩) hiI hIl hil hsz0 hkv S hIS hSl .none _ hS₂ (fun h' tk acc c as hk hS' hl' hG hacc => ?_) hn
  exact hR h' tk acc c as (fun b o hb hb2 hb3 e => hk b o hb hb2 hb3 (oth b o hb e)) hS' hl' hG hacc
/-- list(e) for a new enumerate -/
theorem en_call {Q : Value → Shared → Prop} (hh : A.handled = none) (he : IsEnum s.heap I it 0 .none) (hit : s.heap.IsListIter it l 0) (hl : s.heap.IsList l items) (hiI : it < I) (hIl : l ≠ I) (hil : l ≠ it) (hsz0 : items.size = kvs.length) (hkv : ∀ (i : Nat) (k : K) (x : Value), kvs[i]? = some (k, x) → items[i]? = some x ∧ ∀ tk, knd.is k (.int i tk) = true)
    (hn : kvs.length ≤ sizeLine)
    (hQ : ∀ h' tk acc c as, (∀ b o, b ≠ I → b ≠ it → s.heap.get? b = some o → h'.get? b = some o) → h'.get? s.heap.objs.size = some { cls := .type "list", dict := none, data := .seq acc c, slots := #[] } → as.length = kvs.length → KdxG knd kvs s.heap.objs.size h' as →
      acc.toList = as.map Value.ref → Q (.ref s.heap.objs.size) { s with heap := h', toks := tk }) :
    wpAny (model prog w) A (call (.type "list") [.ref I]) Q E s := by
  refine callType_codes (Q₁ := fun obj s₁ => obj = .ref s.heap.objs.size ∧ s₁ = { s with heap := s.heap.push { cls := .type "list", data := .seq #[] } }) PySem.F.called_list (PySem.F.typeCall_list_1 _) PySem.F.entry_list_init
    (code_list_new _ ⟨rfl, rfl⟩) fun obj s₁ h₁ => ?_
  obtain ⟨rfl, rfl⟩ := h₁
  have hS : (s.heap.push { cls := .type "list", data := .seq #[] }).get? s.heap.objs.size = some { cls := .type "list", data := .seq #[] } := Heap.get?_push_size _ rfl
  have hI : I < s.heap.objs.size := Heap.lt_size he
  have hd : l < s.heap.objs.size := let ⟨_, ho, _⟩ := hl; Heap.lt_size ho
  refine ⟨⟨_, hS, rfl⟩, PySem.F.args_list_init_2 _ _, en_init (knd := knd) (kvs := kvs) (items := items) (A := A.in1) hh (Heap.get?_push_of_some _ he) (hit.at fun o q => Heap.get?_push_of_some _ q) (by obtain ⟨o, ho, r⟩ := hl; exact ⟨o, Heap.get?_push_of_some _ ho, r⟩) hiI hIl hil hsz0 hkv _ hI (Nat.ne_of_lt hd) hS (fun h' tk acc c as hk hS' hl' hG hacc => ?_) hn⟩
  exact ⟨rfl, hQ h' tk acc c as (fun b o h1 h2 e => hk b o (Nat.ne_of_lt (Heap.lt_size e)) h1 h2 (Heap.get?_push_of_some _ e)) hS' hl' hG hacc⟩
end
end MV

namespace MV
open PySem PySem.Spec PyProof.Rows L2

/-- what a new list of new pairs is -/
def rPairs (kvs : List (Key × V)) : Hp → VK → Prop := fun H Q => ∀ (H' : Hp) (p : Addr) (ts : List Addr), (∀ b o, H b = some o → H' b = some o) → H p = none → (∀ t ∈ ts, H t = none) → ts.Nodup → p ∉ ts → H' p = some (.lst (ts.map V.ref)) → Paired (fun (t : Addr) (q : Key × V) => H' t = some (.tup [kV q.1, q.2])) ts kvs → Q (.ref p) H'
def ixV : List V → Nat → List (Key × V)
  | [], _ => []
  | v :: r, n => (.inl (n : Nat), v) :: ixV r (n + 1)
def ixW : List Value → Nat → List (Key × Value)
  | [], _ => []
  | v :: r, n => (.inl (n : Nat), v) :: ixW r (n + 1)
theorem ixW_get : ∀ (l : List Value) (n i : Nat) (k : Key) (x : Value), (ixW l n)[i]? = some (k, x) → l[i]? = some x ∧ k = .inl ((n + i : Nat) : Int)
  | [], _, _, _, _, h => by simp [ixW] at h
  | v :: r, n, 0, k, x, h => by
    have h : some ((Sum.inl (n : Int) : Key), v) = some (k, x) := h
    cases h
    exact ⟨rfl, rfl⟩
  | v :: r, n, i + 1, k, x, h => by
    obtain ⟨a, b⟩ := ixW_get r (n + 1) i k x h
    exact ⟨a, by rw [b]; congr 1; omega⟩
theorem ixW_len : ∀ (l : List Value) (n : Nat), (ixW l n).length = l.length
  | [], _ => rfl
  | _ :: r, n => by show (ixW r (n + 1)).length + 1 = r.length + 1; rw [ixW_len r]
theorem ixV_len : ∀ (l : List V) (n : Nat), (ixV l n).length = l.length
  | [], _ => rfl
  | _ :: r, n => by show (ixV r (n + 1)).length + 1 = r.length + 1; rw [ixV_len r]
theorem ix_kv : ∀ {vs : List V} {us : List Value} (n : Nat), Vals vs us → KV (ixV vs n) (ixW us n)
  | _, _, _, .nil => .nil
  | _, _, n, .cons r t => .cons ⟨rfl, r⟩ (ix_kv (n + 1) t)
def rEnumL (K : PySem.W.Frag) : V → Hp → VK → Prop := fun x H Q => ∃ (a : Addr) (xs : List V), x = .ref a ∧ SqL K H a xs ∧ rPairs (ixV xs 0) H Q
def tListEnum (K : PySem.W.Frag) (te : TE) : TE := fun σ H Q => te σ H fun x H1 => rEnumL K x H1 Q
section
variable {X : Cx} {e : Expr} {te : TE} {p p2 apos cpos pos pos2 : Pos}
theorem pairs_nodup {ts : List Addr} {s : Shared} {h' : Heap} {K : Type} [DecidableEq K] {knd : PySem.KeyKind X.prog X.w K} {vs : List (K × Value)} {lo : Addr} (hG : PySem.W.KdxG knd vs lo h' ts) : ts.Nodup := List.Pairwise.imp (fun {a b} (h : a < b) => Nat.ne_of_lt h) hG.rise
theorem pairs_laid {pins : List (Addr × Obj)} {σ : L2.St} {H : Hp} {s : Shared} {h' : Heap} {tk : Nat} {S : Addr} {kvs : List (Key × V)} {vs : List (Key × Value)} {acc : Array Value} {c : Nat} {as : List Addr} (I : Inv X pins σ H s) (hSs : s.heap.objs.size ≤ S) (hz : kvs.length ≤ sizeLine) (kv : KV kvs vs)
    (hk : ∀ b o, s.heap.get? b = some o → h'.get? b = some o) (hS : h'.get? S = some { cls := .type "list", dict := none, data := .seq acc c, slots := #[] }) (hl : as.length = vs.length) (hG : PySem.W.KdxG (mixKind X.prog X.w) vs S h' as) (hacc : acc.toList = as.map Value.ref) :
    ∃ H' : Hp, (∀ b o, H b = some o → H' b = some o) ∧ H S = none ∧ (∀ t ∈ as, H t = none) ∧ as.Nodup ∧ S ∉ as ∧ H' S = some (.lst (as.map V.ref)) ∧ Paired (fun (t : Addr) (q : Key × V) => H' t = some (.tup [kV q.1, q.2])) as kvs ∧ Inv X pins σ H' { s with heap := h', toks := tk } := by
  have lk : kvs.length = vs.length := Paired.length kv
  have hSn : S ∉ as := fun z => Nat.lt_irrefl _ (hG.above _ z)
  have nd : as.Nodup := List.Pairwise.imp (fun {a b} (h : a < b) => Nat.ne_of_lt h) hG.rise
  have new : ∀ t ∈ as, H t = none := fun t ht => I.hok.fresh (Nat.le_of_lt (Nat.lt_of_le_of_lt hSs (hG.above t ht)))
  have newS : H S = none := I.hok.fresh hSs
  have atP := LiI.putT_at as kvs (upd H S (.lst (as.map V.ref))) (by omega) nd
  have off : ∀ b, b ∉ as → b ≠ S → LiI.putT (upd H S (.lst (as.map V.ref))) as kvs b = H b := fun b h1 h2 => by rw [LiI.putT_off as kvs _ h1, upd_ne h2]
  have low : ∀ b o, s.heap.get? b = some o → b ∉ as ∧ b ≠ S := fun b o e => ⟨fun z => absurd (Heap.lt_size e) (Nat.not_lt.mpr (Nat.le_of_lt (Nat.lt_of_le_of_lt hSs (hG.above b z)))), Nat.ne_of_lt (Nat.lt_of_lt_of_le (Heap.lt_size e) hSs)⟩
  have kp : ∀ b u, H b = some u → (LiI.putT (upd H S (.lst (as.map V.ref))) as kvs) b = some u := fun b u e => by
    rw [off b (fun z => by rw [new b z] at e; cases e) (fun z => by rw [z, newS] at e; cases e)]
    exact e
  have eS : LiI.putT (upd H S (.lst (as.map V.ref))) as kvs S = some (.lst (as.map V.ref)) := by rw [LiI.putT_off as kvs _ hSn, upd_same]
  refine ⟨LiI.putT (upd H S (.lst (as.map V.ref))) as kvs, kp, newS, new, nd, hSn, eS, atP, ?_⟩
  refine I.call' (ch := []) rfl ⟨fun b o q _ _ _ => hk b o q, fun b o q _ _ _ => ⟨o.slots, hk b o q⟩, fun b o q n _ => ?_, fun b o q _ => ⟨o, hk b o q⟩, fun b xs q => kp b _ q, fun b o u q => kp b _ q, fun b ps q => ⟨#[], by rw [kp b _ q]; simp⟩⟩ (fun b u q => ?_) I.bare fun b z => by simp at z
  · obtain ⟨z1, z2⟩ := low b o q
    rw [off b z1 z2]
    exact n
  · by_cases hb : b ∈ as
    · obtain ⟨j, pk, e1, e2, e3⟩ := LiI.paired_ix atP hb
      rw [e3] at q
      cases q
      obtain ⟨key, k, x, f1, f2, f3⟩ := hG.pairs j b e1
      obtain ⟨qv, g1, g2, g3⟩ := LiI.paired_get kv e2
      rw [f1] at g1
      cases g1
      have rk : RelV (kV pk.1) key := by
        rw [g2]
        exact relV_key (show keyIs k key = true from f2)
      exact ⟨by show 2 ≤ sizeLine; decide, [key, x], .cons rk (.cons g3 .nil), ⟨_, f3, rfl, _, rfl⟩⟩
    · by_cases hb2 : b = S
      · rw [hb2] at q ⊢
        rw [eS] at q
        cases q
        refine ⟨by rw [List.length_map]; omega, acc.toList, c, by rw [hacc]; exact LiI.vals_refs as, ?_⟩
        rw [Array.toArray_toList]
        exact hS
      · rw [off b hb hb2] at q
        exact (I.hok b u q).stay (fun d v _ y => hk d v y) (fun d y => kp d _ y) fun d xs y => kp d _ y
/-- list(enumerate(e)) -/
theorem pe_listEnum (hc : X.calm = true) (he : PE X e te) (hg : Gl X "list") (hm : X.mg "list" = none) (hv : bootBuiltins "list" = some (.type "list")) (hg2 : Gl X "enumerate") (hm2 : X.mg "enumerate" = none)
    (hs : starEach [.Call (.Name "enumerate" p2) [e] [] pos2] X.env = (false, eval (.Call (.Name "enumerate" p2) [e] [] pos2) X.env) :: starEach [] X.env := by rfl) (hs2 : starEach [e] X.env = (false, eval e X.env) :: starEach [] X.env := by rfl) :
    PE X (.Call (.Name "list" p) [.Call (.Name "enumerate" p2) [e] [] pos2] [] pos) (tListEnum X.K te) := by
  refine ⟨fun pins s σ H Q I hq => ?_⟩
  refine wpAny_Call_Name_kw (ld_blt I hg hm hv ?_)
  refine PyProof.Rows.callWith_type1 ?_ hs rfl
  rw [hs]
  show wpAny _ _ (spliced ((false, eval (.Call (.Name "enumerate" p2) [e] [] pos2) X.env) :: backTo pos (starEach [] X.env))) _ _ s
  refine Calls.spliced_cons ?_
  have hq2 : tCons te tNil σ H (fun vs H1 => match vs with | [x] => rEnumL X.K x H1 Q | _ => False) := hq
  refine Call_ (ld_blt I hg2 hm2 boot_enumerate (PyProof.Rows.callWith_type1 (thn ((pa_cons he pa_nil hs2).run pos2 pins s σ H _ I hq2) fun us s1 ⟨vs, H1, I1, r1, q1⟩ => ?_) hs2 rfl))
  cases r1 with
  | nil => exact q1.elim
  | cons r rr =>
    cases rr with
    | cons _ _ => exact q1.elim
    | nil =>
      obtain ⟨a, xs, ex, hsq, q⟩ := q1
      subst ex
      cases r
      obtain ⟨its, rv, p', hz⟩ := I1.list hsq
      have hL : s1.heap.IsList a its.toArray := lst_of p'
      obtain ⟨oa, hoa, _⟩ := id hL
      have hal : a < s1.heap.objs.size := Heap.lt_size hoa
      refine call_enumerate_list hL fun h' hen hit hsz hk => ?_
      have I2 : Inv X pins σ H1 { s1 with heap := h' } := I1.kept (t' := s1.toks) hk
      refine Calls.spliced_nil ?_
      have hkv : ∀ (i : Nat) (k : Key) (x : Value), (ixW its 0)[i]? = some (k, x) → its.toArray[i]? = some x ∧ ∀ tk, (mixKind X.prog X.w).is k (.int i tk) = true := fun i k x e => by
        obtain ⟨z1, z2⟩ := ixW_get its 0 i k x e
        refine ⟨by simpa using z1, fun tk => ?_⟩
        subst z2
        show Value.isInt ((0 + i : Nat) : Int) (Value.int (i : Int) tk) = true
        simp [Value.isInt]
      refine en_call (knd := mixKind X.prog X.w) (kvs := ixW its 0) (items := its.toArray) (I1.ok.hd hc) hen hit (by obtain ⟨o, ho, z⟩ := hL; exact ⟨o, hk a o ho, z⟩) (Nat.lt_succ_self _) (Nat.ne_of_lt (Nat.lt_succ_of_lt hal)) (Nat.ne_of_lt hal) (by rw [ixW_len]; simp) hkv (by rw [ixW_len, ← rv.length]; exact hz) fun h'' tk acc c as hk2 hS hl hG hacc => ?_
      -- the enumerate and the list's iterator are objects of no name
      have kv := ix_kv 0 rv
      have hk3 : ∀ b o, s1.heap.get? b = some o → h''.get? b = some o := fun b o z => hk2 b o (Nat.ne_of_lt (Nat.lt_succ_of_lt (Heap.lt_size z))) (Nat.ne_of_lt (Heap.lt_size z)) (hk b o z)
      obtain ⟨H', k1, k2, k3, k4, k5, k6, k7, J⟩ := pairs_laid (tk := tk) I1 (by show s1.heap.objs.size ≤ h'.objs.size; omega) (by rw [ixV_len]; exact hz) kv hk3 hS hl hG hacc
      exact ⟨.ref _, H', J, rfl, q H' _ as k1 k2 k3 k4 k5 k6 k7⟩
/-- list(e.items()) -/
def rItemsN : V → Hp → VK → Prop := fun x H Q => ∃ (d : Addr) (kvs : List (Key × V)), x = .ref d ∧ H d = some (.dK kvs) ∧ rPairs kvs H Q
def tListItemsN (te : TE) : TE := fun σ H Q => te σ H fun x H1 => rItemsN x H1 Q
theorem pe_listItemsN (hc : X.calm = true) (he : PE X e te) (hg : Gl X "list") (hm : X.mg "list" = none) (hv : bootBuiltins "list" = some (.type "list")) (hbase : attributeBase e "items" X.env (eval e X.env) = eval e X.env := by rfl) (hline : (apos.endLine == cpos.line) = true := by rfl)
    (hs : starEach [.Call (.Attribute e "items" apos) [] [] cpos] X.env = (false, eval (.Call (.Attribute e "items" apos) [] [] cpos) X.env) :: starEach [] X.env := by rfl) :
    PE X (.Call (.Name "list" p) [.Call (.Attribute e "items" apos) [] [] cpos] [] pos) (tListItemsN te) := by
  refine ⟨fun pins s σ H Q I hq => ?_⟩
  refine wpAny_Call_Name_kw (ld_blt I hg hm hv ?_)
  refine PyProof.Rows.callWith_type1 ?_ hs rfl
  rw [hs]
  show wpAny _ _ (spliced ((false, eval (.Call (.Attribute e "items" apos) [] [] cpos) X.env) :: backTo pos (starEach [] X.env))) _ _ s
  refine Calls.spliced_cons ?_
  refine wpAny_Call_method (T := "dict") (id := "dict.items") hbase rfl hline PySem.F.plainAttrs_dict PySem.F.slot_dict_items PySem.F.type_dict_items (thn (he.run pins s σ H _ I hq) fun u s1 ⟨x, H1, I1, rx, d, kvs, ex, hd, q⟩ => ?_)
  subst ex
  obtain rfl : u = Value.ref d := rx
  obtain ⟨hz, hs0, vs, kv, hdo⟩ := I1.hok d _ hd
  obtain ⟨ep, hat⟩ := hdo.dictAt
  have lk : kvs.length = vs.length := Paired.length kv
  have I2 : Inv X pins σ H1 { s1 with heap := s1.heap.push { cls := .type "dict_items", data := .fields #[.ref d] } } := I1.kept (t' := s1.toks) fun b ob q => Heap.get?_push_of_some _ q
  refine ⟨hdo.typeIs, hdo.mapOf.noDict, ?_⟩
  show wpAny _ _ (callWith cpos (.builtin "dict.items") [.ref d] [] []) _ X.xe s1
  refine method_meetsIn PySem.F.slot_dict_items PySem.F.entry_dict_items rfl (PySem.evalArgs_none ⟨rfl, hdo.typeIs, PySem.F.args_dict_items_1 _, _, meets_dict_items (mixKind X.prog X.w) d hs0, ⟨vs, hdo⟩, ?_⟩)
  refine Calls.spliced_nil ?_
  refine PySem.W.kdx_call (knd := mixKind X.prog X.w) (kvs := vs) (ep := ep) (I1.ok.hd hc) ⟨_, Heap.get?_push_size _ rfl, rfl, rfl⟩ (hat.push _) (by omega) fun h' tk acc c as hk hS hl hG hacc => ?_
  obtain ⟨H', k1, k2, k3, k4, k5, k6, k7, J⟩ := pairs_laid (tk := tk) I2 (Nat.le_refl _) hz kv hk hS hl hG hacc
  exact ⟨.ref _, H', J, rfl, q H' _ as k1 k2 k3 k4 k5 k6 k7⟩
end

/-! ### in the virtual heap -/
def mkP : List (Key × U) → VS → List U → (List U → VS → Bool) → Bool
  | [], st, acc, k => k acc st
  | (q, u) :: r, st, acc, k => mkP r (st.new (.tup [kU q, u])) (acc ++ [.ref st.n]) k
section
variable {γ : Nat → Addr} {W : WX} {X : Cx} {g : GT}
theorem Rep.ext {ρ : List Addr} {st : VS} {H H' : Hp} (R : Rep γ ρ st H) (hk : ∀ a o, H a = some o → H' a = some o) : Rep γ ρ st H' := ⟨R.len, R.nd, fun a ha => by
  obtain ⟨o, e⟩ := R.all a ha; exact ⟨o, hk a o e⟩, fun i o e => by
  obtain ⟨a, ea, ro⟩ := R.obj i o e
  obtain ⟨x, ex⟩ := ro.some
  exact ⟨a, ea, ro.here ((hk a x ex).trans ex.symm)⟩⟩
theorem mkP_ok {k : List U → VS → Bool} : ∀ (kus : List (Key × U)) (kvs : List (Key × V)) (ts : List Addr) (ρ : List Addr) (st : VS) (H : Hp) (acc : List U) (av : List V), Rep γ ρ st H → RK γ ρ kus kvs → RL γ ρ acc av → ts.Nodup → (∀ t ∈ ts, H t = none) → ts.length = kvs.length → mkP kus st acc k = true →
    ∃ st' us', k us' st' = true ∧ Rep γ (ρ ++ ts) st' (LiI.putT H ts kvs) ∧ RL γ (ρ ++ ts) us' (av ++ ts.map V.ref)
  | _, _, ts, ρ, st, H, acc, av, R, .nil, ra, nd, hn, hl, h => by
    cases ts with
    | cons _ _ => cases hl
    | nil => exact ⟨st, acc, h, by rw [List.append_nil]; exact R, by rw [List.append_nil, List.map_nil, List.append_nil]; exact ra⟩
  | (q, u) :: r, (q', v) :: s, ts, ρ, st, H, acc, av, R, .cons ⟨e, ru⟩ t, ra, nd, hn, hl, h => by
    have e : q = q' := e
    subst e
    cases ts with
    | nil => cases hl
    | cons a ts =>
      have ha := hn a List.mem_cons_self
      have nd' := List.nodup_cons.mp nd
      have ro : RO γ (ρ ++ [a]) (upd H a (.tup [kV q, v])) a (.tup [kU q, u]) := ⟨_, upd_same, .cons (kU_ru q) (.cons ru.mono .nil)⟩
      obtain ⟨R2, S2⟩ := R.new ha (new_upd ha) ro
      have rr : RU γ (ρ ++ [a]) (.ref st.n) (.ref a) := ⟨a, by rw [← R.len, List.getElem?_append_right (Nat.le_refl _), Nat.sub_self]; rfl, rfl⟩
      have rk : RK γ (ρ ++ [a]) r s := pmap (fun _ _ z => ⟨z.1, z.2.mono⟩) t
      have h' : mkP r (st.new (.tup [kU q, u])) (acc ++ [.ref st.n]) k = true := h
      obtain ⟨st', us', h1, h2, h3⟩ := mkP_ok r s ts (ρ ++ [a]) _ _ (acc ++ [.ref st.n]) (av ++ [.ref a]) R2 rk (Paired.snoc ra.mono rr) nd'.2 (fun b hb => by rw [upd_ne (fun (z : b = a) => nd'.1 (by rw [← z]; exact hb))]; exact hn b (List.mem_cons_of_mem _ hb)) (Nat.succ.inj hl) h'
      refine ⟨st', us', h1, ?_, ?_⟩
      · rw [List.append_assoc] at h2; exact h2
      · rw [List.append_assoc, List.append_assoc] at h3; exact h3
/-- a new list of new pairs -/
def mPairs (kus : List (Key × U)) (st : VS) : Go U := fun κ => mkP kus st [] fun us st1 => κ (.ok (.ref st1.n)) (st1.new (.lst us))
theorem sim_pairs {ρ : List Addr} {st : VS} {H : Hp} {τ : L2.St} {kus : List (Key × U)} {kvs : List (Key × V)} (R : Rep γ ρ st H) (rk : RK γ ρ kus kvs) : SimAt γ W τ (RU γ) ρ H (fun Q => rPairs kvs H Q) (mPairs kus st) := fun κ Q hm ok ex H' p ts hk hp hts nd hpt hl hP => by
  have hlen : ts.length = kvs.length := Paired.length hP
  obtain ⟨st', us', h1, h2, h3⟩ := mkP_ok kus kvs ts ρ st H [] [] R rk .nil nd hts hlen hm
  have e0 : LiI.putT H ts kvs p = none := by rw [LiI.putT_off ts kvs H hpt]; exact hp
  have h3 : RL γ (ρ ++ ts) us' (ts.map V.ref) := h3
  have ro : RO γ (ρ ++ ts ++ [p]) (upd (LiI.putT H ts kvs) p (.lst (ts.map V.ref))) p (.lst us') := ⟨_, upd_same, h3.mono⟩
  obtain ⟨R3, _⟩ := h2.new e0 (new_upd e0) ro
  have sub : ∀ a o, upd (LiI.putT H ts kvs) p (.lst (ts.map V.ref)) a = some o → H' a = some o := fun a o e => by
    by_cases q : a = p
    · subst q; rw [upd_same] at e; cases e; exact hl
    · rw [upd_ne q] at e
      by_cases ht : a ∈ ts
      · obtain ⟨j, y, e1, e2, e3⟩ := LiI.paired_ix (LiI.putT_at ts kvs H hlen nd) ht
        obtain ⟨y', e4, e5⟩ := LiI.paired_get hP e1
        rw [e2] at e4; cases e4
        rw [e3] at e; cases e; exact e5
      · rw [LiI.putT_off ts kvs H ht] at e; exact hk a o e
  have R4 := R3.ext sub
  have S : Step ρ H (ρ ++ ts ++ [p]) H' := ⟨⟨ts ++ [p], by rw [List.append_assoc]⟩, fun a ha n => by
    rw [List.append_assoc] at ha
    rcases List.mem_append.mp ha with z | z
    · exact absurd z n
    · rcases List.mem_append.mp z with z | z
      · exact hts a z
      · rw [List.mem_singleton.mp z]; exact hp, fun a o _ e => hk a o e, fun a o u e => hk a _ e⟩
  exact ok _ _ _ (.ref st'.n) (.ref p) S R4 ⟨p, by rw [← h2.len, List.getElem?_append_right (Nat.le_refl _), Nat.sub_self]; rfl, rfl⟩ h1
def ixU : List U → Nat → List (Key × U)
  | [], _ => []
  | v :: r, n => (.inl (n : Nat), v) :: ixU r (n + 1)
theorem ixU_ok {ρ : List Addr} : ∀ {us : List U} {vs : List V} (n : Nat), RL γ ρ us vs → RK γ ρ (ixU us n) (ixV vs n)
  | _, _, _, .nil => .nil
  | _, _, n, .cons r t => .cons ⟨rfl, r⟩ (ixU_ok (n + 1) t)
def mListEnum (g : GT) (m : ME) : ME := fun σ st => bnd (m σ st) fun u st1 => match seqOf g st1 u with
  | some (false, xs) => mPairs (ixU xs 0) st1
  | _ => bad
theorem se_listEnum {e : Expr} {p p2 pos pos2 : Pos} {m : ME} (G : GOk X.K γ g) (hc : X.calm = true) (h : SE γ W X e m) (hm : X.mg "list" = none) (hm2 : X.mg "enumerate" = none) (hg : Gl X "list" := by rfl) (hg2 : Gl X "enumerate" := by rfl)
    (hs : starEach [.Call (.Name "enumerate" p2) [e] [] pos2] X.env = (false, eval (.Call (.Name "enumerate" p2) [e] [] pos2) X.env) :: starEach [] X.env := by rfl) (hs2 : starEach [e] X.env = (false, eval e X.env) :: starEach [] X.env := by rfl) :
    SE γ W X (.Call (.Name "list" p) [.Call (.Name "enumerate" p2) [e] [] pos2] [] pos) (mListEnum g m) := by
  obtain ⟨t, pt, s⟩ := h
  refine ⟨_, pe_listEnum hc pt hg hm rfl hg2 hm2 hs hs2, fun ρ st H σ τ R F κ Q hm ok ex => s ρ st H σ τ R F _ _ hm (fun ρ1 st1 H1 u v s1 R1 r1 k => ?_) ex⟩
  have k2 : (match seqOf g st1 u with
    | some (false, xs) => mPairs (ixU xs 0) st1
    | _ => bad) κ = true := k
  cases q : seqOf g st1 u with
  | none => rw [q] at k2; cases k2
  | some bx =>
    obtain ⟨b, xs⟩ := bx
    rw [q] at k2
    cases b with
    | true => cases k2
    | false =>
      obtain ⟨a, ys, ev, rl, hs⟩ := seq_ok G R1 r1 q
      exact ⟨a, ys, ev, hs, sim_pairs (W := W) (τ := τ) R1 (ixU_ok 0 rl) κ Q k2 (ok.step s1) (ex.step s1)⟩
def mListItems (m : ME) : ME := fun σ st => bnd (m σ st) fun u st1 => match u with
  | .ref i => match st1.get i with
    | some (.dct false kvs) => mPairs kvs st1
    | _ => bad
  | _ => bad
theorem se_listItems {e : Expr} {p apos cpos pos : Pos} {m : ME} (hc : X.calm = true) (h : SE γ W X e m) (hm : X.mg "list" = none) (hg : Gl X "list" := by rfl) (hbase : attributeBase e "items" X.env (eval e X.env) = eval e X.env := by rfl) (hline : (apos.endLine == cpos.line) = true := by rfl)
    (hs : starEach [.Call (.Attribute e "items" apos) [] [] cpos] X.env = (false, eval (.Call (.Attribute e "items" apos) [] [] cpos) X.env) :: starEach [] X.env := by rfl) : SE γ W X (.Call (.Name "list" p) [.Call (.Attribute e "items" apos) [] [] cpos] [] pos) (mListItems m) := by
  obtain ⟨t, pt, s⟩ := h
  refine ⟨_, pe_listItemsN hc pt hg hm rfl hbase hline hs, fun ρ st H σ τ R F κ Q hm ok ex => s ρ st H σ τ R F _ _ hm (fun ρ1 st1 H1 u v s1 R1 r1 k => ?_) ex⟩
  cases u <;> first | (cases k; done) | skip
  rename_i i
  have k2 : (match st1.get i with
    | some (.dct false kvs) => mPairs kvs st1
    | _ => bad) κ = true := k
  cases q : st1.get i with
  | none => rw [q] at k2; cases k2
  | some o =>
    rw [q] at k2
    cases o <;> first | (cases k2; done) | skip
    rename_i lk kvs
    cases lk with
    | true => cases k2
    | false =>
      obtain ⟨a, ev, _, ws, hh, rk⟩ := R1.get q r1
      exact ⟨a, ws, ev, hh, sim_pairs (W := W) (τ := τ) R1 rk κ Q k2 (ok.step s1) (ex.step s1)⟩
end
end MV

namespace MV
open PySem PySem.Spec PyProof.Rows L2
section
variable {γ : Nat → Addr} {W : WX} {X : Cx} {g : GT} {ρ : List Addr} {st : VS} {H : Hp}

/-! ### calls of builtins -/
def fOrL (f f' : List U → VS → Go U) : List U → VS → Go U := fun us st κ => match f us st κ with
  | true => true
  | false => f' us st κ
def Cb (X : Cx) (γ : Nat → Addr) (W : WX) (fv : Value) (f : List U → VS → Go U) : Prop := ∃ r, CallR X fv r ∧ LeafL γ W r f
theorem Cb.or {fv : Value} {f f' : List U → VS → Go U} (h : Cb X γ W fv f) (h' : Cb X γ W fv f') : Cb X γ W fv (fOrL f f') := by
  obtain ⟨r, a, b⟩ := h
  obtain ⟨r', a', b'⟩ := h'
  exact ⟨_, CallR.or a a', fun ρ st H τ us vs R rl => SimAt.or (b ρ st H τ us vs R rl) (b' ρ st H τ us vs R rl)⟩
def mCb (f : List U → VS → Go U) (ms : MA) : ME := fun σ st => bnd (ms σ st) fun us st1 => f us st1
theorem sim_cb {r : List V → Hp → VK → Prop} {f : List U → VS → Go U} {t : TA} {ms : MA} (hf : LeafL γ W r f) (s : ∀ ρ st H σ τ, Rep γ ρ st H → FrR γ ρ σ τ → SimAt γ W τ (RL γ) ρ H (t τ H) (ms σ st)) (ρ st H σ τ) (R : Rep γ ρ st H) (F : FrR γ ρ σ τ) :
    SimAt γ W τ (RU γ) ρ H (fun Q => t τ H fun vs H1 => r vs H1 Q) (mCb f ms σ st) := fun κ Q hm ok ex =>
  s ρ st H σ τ R F _ _ hm (fun ρ1 st1 H1 us vs s1 R1 r1 k1 => hf ρ1 st1 H1 τ us vs R1 r1 _ _ k1 (ok.step s1) (ex.step s1)) ex
theorem se_callB {x : Str} {id : String} {e : Expr} {es : List Expr} {p pos : Pos} {f : List U → VS → Go U} {ms : MA} (hc : Cb X γ W (.builtin id) f) (hm : X.mg x = none) (hv : bootBuiltins x = some (.builtin id)) (ha : SA γ W X (e :: es) ms) (hg : Gl X x := by rfl) (hn : x ≠ "__name__" := by decide) (hdb : (x == ("__debug__" : Str)) = false := by decide)
    (he : starEach (e :: es) X.env = (false, eval e X.env) :: starEach es X.env := by rfl) (hpl : (backTo pos (starEach es X.env)).any (·.1) = false := by rfl) : SE γ W X (.Call (.Name x p) (e :: es) [] pos) (mCb f ms) := by
  obtain ⟨r, a, b⟩ := hc
  obtain ⟨t, pt, s⟩ := ha
  exact ⟨_, pe_callB a hg hm hv pt hn hdb he hpl, sim_cb b s⟩
theorem se_callTy {x : Str} {T : String} {e : Expr} {es : List Expr} {p pos : Pos} {f : List U → VS → Go U} {ms : MA} (hc : Cb X γ W (.type T) f) (hm : X.mg x = none) (hv : bootBuiltins x = some (.type T)) (ha : SA γ W X (e :: es) ms) (hg : Gl X x := by rfl) (hn : x ≠ "__name__" := by decide) (hdb : (x == ("__debug__" : Str)) = false := by decide)
    (he : starEach (e :: es) X.env = (false, eval e X.env) :: starEach es X.env := by rfl) (hpl : (backTo pos (starEach es X.env)).any (·.1) = false := by rfl) : SE γ W X (.Call (.Name x p) (e :: es) [] pos) (mCb f ms) := by
  obtain ⟨r, a, b⟩ := hc
  obtain ⟨t, pt, s⟩ := ha
  exact ⟨_, pe_callTy a hg hm hv pt hn hdb he hpl, sim_cb b s⟩
theorem RL.one {us : List U} {v : V} (r : RL γ ρ us [v]) : ∃ u, us = [u] ∧ RU γ ρ u v := by
  cases r with
  | cons a t => cases t; exact ⟨_, rfl, a⟩
/-- a value alone -/
def f1 (f : U → VS → Go U) : List U → VS → Go U := fun us st κ => match us with
  | [u] => f u st κ
  | _ => false
theorem leaf1 {r : V → Hp → VK → Prop} {f : U → VS → Go U} (h : Leaf1 γ W r f) : LeafL γ W (fun vs H Q => ∃ x, vs = [x] ∧ r x H Q) (f1 f) := fun ρ st H τ us vs R rl κ Q hm ok ex => by
  cases rl with
  | nil => cases hm
  | cons a t =>
    cases t with
    | cons _ _ => cases hm
    | nil => exact ⟨_, rfl, h ρ st H τ _ _ R a κ Q hm ok ex⟩
/-- len -/
def fLenS (g : GT) : U → VS → Go U := fun u st κ => match u with
  | .str x => match Nat.ble x.length line with
    | true => κ (.ok (.int x.length)) st
    | false => false
  | _ => match seqOf g st u with
    | some (_, xs) => κ (.ok (.int xs.length)) st
    | none => false
theorem cb_lenS (G : GOk X.K γ g) : Cb X γ W (.builtin "len") (f1 (fLenS g)) := ⟨fun vs H Q => ∃ x, vs = [x] ∧ ∃ n : Nat, LenV X.K x H n ∧ Q (.int n) H, fun pins s σ H xs us Q I r ⟨x, e1, n, e2, q⟩ => call_len pins s σ H xs us Q I r ⟨x, n, e1, e2, q⟩, leaf1 fun ρ st H τ u v R ru κ Q hm ok ex => by
  have rest : (match seqOf g st u with
    | some (_, xs) => κ (.ok (.int xs.length)) st
    | none => false) = true → ∃ n : Nat, LenV X.K v H n ∧ Q (.int n) H := fun h => by
    cases q : seqOf g st u with
    | none => rw [q] at h; cases h
    | some bx =>
      obtain ⟨b, xs⟩ := bx
      rw [q] at h
      obtain ⟨a, ys, ev, rl, hs⟩ := seq_ok G R ru q
      subst ev
      refine ⟨xs.length, ?_, ok.here (u := .int xs.length) R rfl h⟩
      cases b with
      | true => exact .inr ⟨ys, hs, rl.length⟩
      | false => exact .inl ⟨ys, hs, rl.length⟩
  cases u with
  | str x =>
    have hm2 : (match Nat.ble x.length line with | true => κ (.ok (.int x.length)) st | false => false) = true := hm
    cases q : Nat.ble x.length line with
    | false => rw [q] at hm2; cases hm2
    | true =>
      rw [q] at hm2
      have ru : v = .str x := ru
      subst ru
      exact ⟨x.length, ⟨line_ok q, rfl⟩, ok.here (u := .int x.length) R rfl hm2⟩
  | non => exact rest hm
  | bl _ => exact rest hm
  | int _ => exact rest hm
  | ref _ => exact rest hm
  | glo _ => exact rest hm
  | ty _ => exact rest hm⟩
def fLenD : U → VS → Go U := fun u st κ => match u with
  | .ref i => match st.get i with
    | some (.dct _ kvs) => κ (.ok (.int kvs.length)) st
    | _ => false
  | _ => false
theorem cb_lenD : Cb X γ W (.builtin "len") (f1 fLenD) := ⟨fun vs H Q => ∃ x, vs = [x] ∧ ∃ a kvs, x = .ref a ∧ Rd H a (.dK kvs) ∧ Q (.int (kvs.length : Nat)) H, fun pins s σ H xs us Q I r ⟨x, e1, a, kvs, e2, rd, q⟩ => by
    subst e1 e2
    obtain ⟨u, rfl, ru⟩ := vals1 r
    cases ru
    exact d_len I rd fun t s' I' => ⟨.int kvs.length, H, I', ⟨t, rfl⟩, q⟩, leaf1 fun ρ st H τ u v R ru κ Q hm ok ex => by
  cases u <;> first | (cases hm; done) | skip
  rename_i i
  have hm2 : (match st.get i with | some (.dct _ kvs) => κ (.ok (.int kvs.length)) st | _ => false) = true := hm
  cases q : st.get i with
  | none => rw [q] at hm2; cases hm2
  | some o =>
    rw [q] at hm2
    cases o <;> first | (cases hm2; done) | skip
    rename_i lk kvs
    obtain ⟨a, ev, _, ro⟩ := R.get q ru
    obtain ⟨ws, rd, rk⟩ := dct_rd ro
    refine ⟨a, ws, ev, rd, ?_⟩
    rw [← show kvs.length = ws.length from Paired.length rk]
    exact ok.here (u := .int kvs.length) R rfl hm2⟩
/-- len of an instance: its own __len__ -/
def rLenOwn (C : Addr) (sp : Sp) : List V → Hp → VK → Prop := fun vs H Q => ∃ x, vs = [x] ∧ ∃ a dx fs, x = .ref a ∧ H a = some (.ins C dx fs) ∧ sp [.ref a] H (fun v H' => ∃ n : Int, v = .int n ∧ (0 ≤ n ∧ n < 2 ^ 63) ∧ Q (.int n) H') E0
theorem cr_lenOwn {k : Nat} {f C : Addr} {sp : Sp} (hs : PySem.W.findIn X.K (.ref C) "__len__" = some (some (.ref f))) (hf : PySem.W.isFn X.K (.ref f) = true) (F : FnR X.prog X.w X.K X.mg X.base CX0 k f sp) (hr : Room (k + 1) X.A) : CallR X (.builtin "len") (rLenOwn C sp) := by
  intro pins s σ H xs us Q I r ⟨x, e1, a, dx, fs, ex, ea, h⟩
  subst e1 ex
  obtain ⟨u, rfl, ru⟩ := vals1 r
  obtain rfl : u = Value.ref a := ru
  obtain ⟨mA, O, _, _, _, _⟩ := ins_get I.hok ea
  obtain ⟨od, J, _⟩ := O.look
  obtain ⟨m, Fm⟩ := I.fr
  refine PySem.W.len_K Fm I.ok.mod.kin J hs hf (thn (run_wp (vs := [.ref a]) F hr.in1 I.env0.in1 I (.cons rfl .nil) h) fun r s1 ⟨z, H1, I1, rz, n, ez, hn, q⟩ => ?_)
  subst ez
  obtain ⟨t, rfl⟩ := rz
  exact ⟨hn, .int n, H1, I1.tok _, ⟨_, rfl⟩, q⟩
def fLenOwn (c : Nat) (mf : MF) : U → VS → Go U := fun u st => match u with
  | .ref i => match st.get i with
    | some (.ins c' _) => match Nat.beq c' c with
      | true => bnd (callM mf 1 [.ref i] st) fun w st1 κ => match w with
        | .int n => match decide (0 ≤ n), decide (n < 9223372036854775808) with
          | true, true => κ (.ok (.int n)) st1
          | _, _ => false
        | _ => false
      | false => bad
    | _ => bad
  | _ => bad
theorem cb_lenOwn {k c : Nat} {f : Addr} {mf : MF} (hs : PySem.W.findIn X.K (.ref (γ c)) "__len__" = some (some (.ref f))) (hf : PySem.W.isFn X.K (.ref f) = true) (F : FnM X γ k f 1 mf) (hr : Room (k + 1) X.A) : Cb X γ W (.builtin "len") (f1 (fLenOwn c mf)) := ⟨_, cr_lenOwn hs hf F hr, leaf1 fun ρ st H τ u v R ru κ Q hm ok ex => by
  cases u <;> first | (cases hm; done) | skip
  rename_i i
  have k2 : (match st.get i with
    | some (.ins c' _) => (match Nat.beq c' c with
      | true => bnd (callM mf 1 [.ref i] st) fun w st1 κ => match w with
        | .int n => (match decide (0 ≤ n), decide (n < 9223372036854775808) with
          | true, true => κ (Rs.ok (U.int n)) st1
          | _, _ => false)
        | _ => false
      | false => bad)
    | _ => bad) κ = true := hm
  cases q : st.get i with
  | none => rw [q] at k2; cases k2
  | some ob =>
    rw [q] at k2
    cases ob <;> first | (cases k2; done) | skip
    rename_i c' fs
    obtain ⟨a, ev, ea, dx, ws, hh, rf⟩ := R.get q ru
    subst ev
    have k3 : (match Nat.beq c' c with
      | true => bnd (callM mf 1 [.ref i] st) fun w st1 κ => match w with
        | .int n => (match decide (0 ≤ n), decide (n < 9223372036854775808) with
          | true, true => κ (Rs.ok (U.int n)) st1
          | _, _ => false)
        | _ => false
      | false => bad) κ = true := k2
    cases qc : Nat.beq c' c with
    | false => rw [qc] at k3; cases k3
    | true =>
      have ec := Nat.eq_of_beq_eq_true qc
      subst ec
      rw [qc] at k3
      refine ⟨a, dx, ws, rfl, hh, sim_call (W := W) (τ := τ) R (.cons ru .nil) _ _ k3 (fun ρ1 st1 H1 w x s1 R1 r1 k4 => ?_) ex⟩
      cases w <;> first | (cases k4; done) | skip
      rename_i n
      have k5 : (match decide (0 ≤ n), decide (n < 9223372036854775808) with
        | true, true => κ (Rs.ok (U.int n)) st1
        | _, _ => false) = true := k4
      cases q1 : decide (0 ≤ n) <;> cases q2 : decide (n < 9223372036854775808) <;> rw [q1, q2] at k5 <;> first | (cases k5; done) | skip
      exact ⟨n, r1, ⟨of_decide_eq_true q1, of_decide_eq_true q2⟩, ok ρ1 st1 H1 (.int n) _ s1 R1 rfl k5⟩⟩
/-- list(a list, a tuple), list(a dict) -/
def fListS (g : GT) : U → VS → Go U := fun u st κ => match seqOf g st u with
  | some (_, xs) => κ (.ok (.ref st.n)) (st.new (.lst xs))
  | none => false
theorem cb_listS (G : GOk X.K γ g) : Cb X γ W (.type "list") (f1 (fListS g)) := ⟨fun vs H Q => ∃ x, vs = [x] ∧ ∃ p ys, x = .ref p ∧ (SqL X.K H p ys ∨ SqT X.K H p ys) ∧ ∀ l, H l = none → Q (.ref l) (upd H l (.lst ys)), fun pins s σ H xs us Q I r ⟨x, e1, p, ys, e2, hs, q⟩ => call_list_of pins s σ H xs us Q I r ⟨p, ys, by rw [e1, e2], hs, q⟩, leaf1 fun ρ st H τ u v R ru κ Q hm ok ex => by
  have hm2 : (match seqOf g st u with | some (_, xs) => κ (.ok (.ref st.n)) (st.new (.lst xs)) | none => false) = true := hm
  cases q : seqOf g st u with
  | none => rw [q] at hm2; cases hm2
  | some bx =>
    obtain ⟨b, xs⟩ := bx
    rw [q] at hm2
    obtain ⟨a, ys, ev, rl, hs⟩ := seq_ok G R ru q
    refine ⟨a, ys, ev, ?_, ok.alloc R hm2 fun p => ⟨ys, upd_same, rl.mono⟩⟩
    cases b with
    | true => exact .inr hs
    | false => exact .inl hs⟩
def kUs : List (Key × U) → List U
  | [] => []
  | (k, _) :: r => kU k :: kUs r
theorem kUs_ok : ∀ {us : List (Key × U)} {vs : List (Key × V)}, RK γ ρ us vs → RL γ ρ (kUs us) (vs.map fun kv => kV kv.1)
  | _, _, .nil => .nil
  | (k, u) :: r, (k', v) :: s, .cons ⟨e, _⟩ t => by
    have e : k = k' := e
    subst e
    exact .cons (kU_ru k) (kUs_ok t)
def fListD : U → VS → Go U := fun u st κ => match u with
  | .ref i => match st.get i with
    | some (.dct _ kvs) => κ (.ok (.ref st.n)) (st.new (.lst (kUs kvs)))
    | _ => false
  | _ => false
theorem cb_listD (hc : X.calm = true) : Cb X γ W (.type "list") (f1 fListD) := ⟨fun vs H Q => ∃ x, vs = [x] ∧ ∃ a kvs, x = .ref a ∧ Rd H a (.dK kvs) ∧ ∀ p, H p = none → Q (.ref p) (upd H p (.lst (kvs.map fun kv => kV kv.1))), fun pins s σ H xs us Q I r ⟨x, e1, a, kvs, e2, rd, q⟩ => call_listD hc pins s σ H xs us Q I r ⟨a, kvs, by rw [e1, e2], rd, q⟩, leaf1 fun ρ st H τ u v R ru κ Q hm ok ex => by
  cases u <;> first | (cases hm; done) | skip
  rename_i i
  have hm2 : (match st.get i with | some (.dct _ kvs) => κ (.ok (.ref st.n)) (st.new (.lst (kUs kvs))) | _ => false) = true := hm
  cases q : st.get i with
  | none => rw [q] at hm2; cases hm2
  | some o =>
    rw [q] at hm2
    cases o <;> first | (cases hm2; done) | skip
    rename_i lk kvs
    obtain ⟨a, ev, _, ro⟩ := R.get q ru
    obtain ⟨ws, rd, rk⟩ := dct_rd ro
    exact ⟨a, ws, ev, rd, ok.alloc R hm2 fun p => ⟨_, upd_same, (kUs_ok rk).mono⟩⟩⟩
def fList (g : GT) : List U → VS → Go U := fOrL (f1 (fListS g)) (f1 fListD)
theorem cb_list (G : GOk X.K γ g) (hc : X.calm = true) : Cb X γ W (.type "list") (fList g) := (cb_listS G).or (cb_listD hc)
/-- dict(d) -/
def fDictD : U → VS → Go U := fun u st κ => match u with
  | .ref i => match st.get i with
    | some (.dct _ kvs) => κ (.ok (.ref st.n)) (st.new (.dct false kvs))
    | _ => false
  | _ => false
theorem cb_dictD : Cb X γ W (.type "dict") (f1 fDictD) := ⟨fun vs H Q => ∃ x, vs = [x] ∧ ∃ a kvs, x = .ref a ∧ Rd H a (.dK kvs) ∧ ∀ p, H p = none → Q (.ref p) (upd H p (.dK kvs)), fun pins s σ H xs us Q I r ⟨x, e1, a, kvs, e2, rd, q⟩ => call_dictD pins s σ H xs us Q I r ⟨a, kvs, by rw [e1, e2], rd, q⟩, leaf1 fun ρ st H τ u v R ru κ Q hm ok ex => by
  cases u <;> first | (cases hm; done) | skip
  rename_i i
  have hm2 : (match st.get i with | some (.dct _ kvs) => κ (.ok (.ref st.n)) (st.new (.dct false kvs)) | _ => false) = true := hm
  cases q : st.get i with
  | none => rw [q] at hm2; cases hm2
  | some o =>
    rw [q] at hm2
    cases o <;> first | (cases hm2; done) | skip
    rename_i lk kvs
    obtain ⟨a, ev, _, ro⟩ := R.get q ru
    obtain ⟨ws, rd, rk⟩ := dct_rd ro
    exact ⟨a, ws, ev, rd, ok.alloc R hm2 fun p => ⟨ws, upd_same, pmap (fun _ _ z => ⟨z.1, z.2.mono⟩) rk⟩⟩⟩
/-- all, any, sum, abs -/
def blsOf : List U → Option (List Bool)
  | [] => some []
  | .bl b :: r => match blsOf r with
    | some l => some (b :: l)
    | none => none
  | _ :: _ => none
theorem blsOf_ok : ∀ {us : List U} {vs : List V} {l : List Bool}, blsOf us = some l → RL γ ρ us vs → vs = l.map V.bl
  | _, _, l, h, .nil => by cases h; rfl
  | u :: r, v :: s, l, h, .cons a t => by
    cases u <;> first | (cases h; done) | skip
    rename_i b
    have h2 : (match blsOf r with | some l => some (b :: l) | none => none) = some l := h
    cases q : blsOf r with
    | none => rw [q] at h2; cases h2
    | some l2 =>
      rw [q] at h2; cases h2
      rw [show v = .bl b from a, blsOf_ok q t]; rfl
def intsOf : List U → Option (List Int)
  | [] => some []
  | .int b :: r => match intsOf r with
    | some l => some (b :: l)
    | none => none
  | _ :: _ => none
theorem intsOf_ok : ∀ {us : List U} {vs : List V} {l : List Int}, intsOf us = some l → RL γ ρ us vs → vs = l.map V.int
  | _, _, l, h, .nil => by cases h; rfl
  | u :: r, v :: s, l, h, .cons a t => by
    cases u <;> first | (cases h; done) | skip
    rename_i b
    have h2 : (match intsOf r with | some l => some (b :: l) | none => none) = some l := h
    cases q : intsOf r with
    | none => rw [q] at h2; cases h2
    | some l2 =>
      rw [q] at h2; cases h2
      rw [show v = .int b from a, intsOf_ok q t]; rfl
theorem intsOf_map : ∀ {us : List U} {l : List Int}, intsOf us = some l → us = l.map U.int
  | [], _, h => by cases h; rfl
  | u :: r, l, h => by
    cases u <;> first | (cases h; done) | skip
    rename_i b
    have h2 : (match intsOf r with | some l => some (b :: l) | none => none) = some l := h
    cases q : intsOf r with
    | none => rw [q] at h2; cases h2
    | some l2 =>
      rw [q] at h2; cases h2
      rw [intsOf_map q]; rfl
def anyB : List Bool → Bool
  | [] => false
  | true :: _ => true
  | false :: r => anyB r
def allT : List Bool → Bool
  | [] => true
  | false :: _ => false
  | true :: r => allT r
theorem anyB_ok : ∀ l : List Bool, l.any id = anyB l
  | [] => rfl
  | true :: _ => rfl
  | false :: r => anyB_ok r
theorem allT_ok : ∀ l : List Bool, l.all id = allT l
  | [] => rfl
  | false :: _ => rfl
  | true :: r => allT_ok r
def fBls (g : GT) (h : List Bool → Bool) : U → VS → Go U := fun u st κ => match seqOf g st u with
  | some (false, xs) => match blsOf xs with
    | some l => κ (.ok (.bl (h l))) st
    | none => false
  | _ => false
theorem leaf_bls {K : PySem.W.Frag} (G : GOk K γ g) {h h' : List Bool → Bool} (e : ∀ l, h' l = h l) : LeafL γ W (fun vs H Q => ∃ (a : Addr) (bs : List Bool), vs = [V.ref a] ∧ SqL K H a (bs.map V.bl) ∧ Q (.bl (h' bs)) H) (f1 (fBls g h)) := fun ρ st H τ us vs R rl κ Q hm ok ex => by
  obtain ⟨x, ex1, q⟩ := leaf1 (W := W) (r := fun x H Q => ∃ (a : Addr) (bs : List Bool), x = V.ref a ∧ SqL K H a (bs.map V.bl) ∧ Q (.bl (h' bs)) H) (f := fBls g h) (fun ρ st H τ u v R ru κ Q hm ok ex => by
    have hm2 : (match seqOf g st u with
      | some (false, xs) => (match blsOf xs with
        | some l => κ (.ok (.bl (h l))) st
        | none => false)
      | _ => false) = true := hm
    cases q : seqOf g st u with
    | none => rw [q] at hm2; cases hm2
    | some bx =>
      obtain ⟨b, xs⟩ := bx
      rw [q] at hm2
      cases b with
      | true => cases hm2
      | false =>
        have hm3 : (match blsOf xs with
          | some l => κ (.ok (.bl (h l))) st
          | none => false) = true := hm2
        obtain ⟨a, ys, ev, rl, hs⟩ := seq_ok G R ru q
        cases q2 : blsOf xs with
        | none => rw [q2] at hm3; cases hm3
        | some l =>
          rw [q2] at hm3
          have ey := blsOf_ok q2 rl
          subst ey
          exact ⟨a, l, ev, hs, by rw [e]; exact ok.here (u := .bl (h l)) R rfl hm3⟩) ρ st H τ us vs R rl κ Q hm ok ex
  obtain ⟨a, bs, e1, e2, e3⟩ := q
  exact ⟨a, bs, by rw [ex1, e1], e2, e3⟩
theorem cb_any (G : GOk X.K γ g) (hc : X.calm = true) : Cb X γ W (.builtin "any") (f1 (fBls g anyB)) := ⟨_, cr_any hc, leaf_bls G anyB_ok⟩
theorem cb_all (G : GOk X.K γ g) (hc : X.calm = true) : Cb X γ W (.builtin "all") (f1 (fBls g allT)) := ⟨_, cr_all hc, leaf_bls G allT_ok⟩
def sumI : List Int → Int
  | [] => 0
  | i :: r => i + sumI r
theorem sumI_ok : ∀ l : List Int, l.sum = sumI l
  | [] => rfl
  | i :: r => by rw [List.sum_cons, sumI_ok r]; rfl
def fSum (g : GT) : U → VS → Go U := fun u st κ => match seqOf g st u with
  | some (false, xs) => match intsOf xs with
    | some l => κ (.ok (.int (sumI l))) st
    | none => false
  | _ => false
theorem cb_sum (G : GOk X.K γ g) (hc : X.calm = true) : Cb X γ W (.builtin "sum") (f1 (fSum g)) := ⟨fun vs H Q => ∃ x, vs = [x] ∧ ∃ (a : Addr) (ns : List Int), x = V.ref a ∧ SqL X.K H a (ns.map V.int) ∧ Q (.int ns.sum) H, fun pins s σ H xs us Q I r ⟨x, e1, a, ns, e2, hs, q⟩ => cr_sum hc pins s σ H xs us Q I r ⟨a, ns, by rw [e1, e2], hs, q⟩, leaf1 fun ρ st H τ u v R ru κ Q hm ok ex => by
  have hm2 : (match seqOf g st u with
    | some (false, xs) => (match intsOf xs with
      | some l => κ (.ok (.int (sumI l))) st
      | none => false)
    | _ => false) = true := hm
  cases q : seqOf g st u with
  | none => rw [q] at hm2; cases hm2
  | some bx =>
    obtain ⟨b, xs⟩ := bx
    rw [q] at hm2
    cases b with
    | true => cases hm2
    | false =>
      have hm3 : (match intsOf xs with
        | some l => κ (.ok (.int (sumI l))) st
        | none => false) = true := hm2
      obtain ⟨a, ys, ev, rl, hs⟩ := seq_ok G R ru q
      cases q2 : intsOf xs with
      | none => rw [q2] at hm3; cases hm3
      | some l =>
        rw [q2] at hm3
        have ey := intsOf_ok q2 rl
        subst ey
        exact ⟨a, l, ev, hs, by rw [sumI_ok]; exact ok.here (u := .int (sumI l)) R rfl hm3⟩⟩
def fAbs : U → VS → Go U := fun u st κ => match u with
  | .int i => κ (.ok (.int (if i < 0 then -i else i))) st
  | _ => false
theorem cb_abs : Cb X γ W (.builtin "abs") (f1 fAbs) := ⟨fun vs H Q => ∃ x, vs = [x] ∧ ∃ i : Int, x = V.int i ∧ Q (.int (if i < 0 then -i else i)) H, fun pins s σ H xs us Q I r ⟨x, e1, i, e2, q⟩ => call_abs pins s σ H xs us Q I r ⟨i, by rw [e1, e2], q⟩, leaf1 fun ρ st H τ u v R ru κ Q hm ok ex => by
  cases u <;> first | (cases hm; done) | skip
  rename_i i
  exact ⟨i, ru, ok.here (u := .int (if i < 0 then -i else i)) R rfl hm⟩⟩
end
end MV

namespace MV
open PySem PySem.Spec PyProof.Rows L2

/-! ### isinstance of a built-in class -/
inductive Tg where
  | non | bl | int | str | lst | tup | dct
def Tg.v : Tg → Value
  | .non => .type "NoneType"
  | .bl => .type "bool"
  | .int => .type "int"
  | .str => .type "str"
  | .lst => .type "list"
  | .tup => .type "tuple"
  | .dct => .type "dict"
def tagOf (st : VS) : U → Option Tg
  | .non => some .non
  | .bl _ => some .bl
  | .int _ => some .int
  | .str _ => some .str
  | .ref i => match st.get i with
    | some (.lst _) => some .lst
    | some (.tup _) => some .tup
    | some (.dct _ _) => some .dct
    | _ => none
  | _ => none
def isInt : Tg → Bool
  | .int => true
  | .bl => true
  | _ => false
def isBool : Tg → Bool
  | .bl => true
  | _ => false
def isStr : Tg → Bool
  | .str => true
  | _ => false
def isList : Tg → Bool
  | .lst => true
  | _ => false
def isTuple : Tg → Bool
  | .tup => true
  | _ => false
def isDict : Tg → Bool
  | .dct => true
  | _ => false
theorem isInt_ok (K : PySem.W.Frag) (t : Tg) : PySem.W.kitOne K t.v (.type "int") = some (isInt t) := by cases t <;> kernel_rfl
theorem isBool_ok (K : PySem.W.Frag) (t : Tg) : PySem.W.kitOne K t.v (.type "bool") = some (isBool t) := by cases t <;> kernel_rfl
theorem isStr_ok (K : PySem.W.Frag) (t : Tg) : PySem.W.kitOne K t.v (.type "str") = some (isStr t) := by cases t <;> kernel_rfl
theorem isList_ok (K : PySem.W.Frag) (t : Tg) : PySem.W.kitOne K t.v (.type "list") = some (isList t) := by cases t <;> kernel_rfl
theorem isTuple_ok (K : PySem.W.Frag) (t : Tg) : PySem.W.kitOne K t.v (.type "tuple") = some (isTuple t) := by cases t <;> kernel_rfl
theorem isDict_ok (K : PySem.W.Frag) (t : Tg) : PySem.W.kitOne K t.v (.type "dict") = some (isDict t) := by cases t <;> kernel_rfl
section
variable {γ : Nat → Addr} {W : WX} {X : Cx} {g : GT} {ρ : List Addr} {st : VS} {H : Hp}
theorem tagOf_ok {K : PySem.W.Frag} (R : Rep γ ρ st H) {u : U} {v : V} (r : RU γ ρ u v) {t : Tg} (e : tagOf st u = some t) : TyX K H v t.v := by
  cases u with
  | non => cases e; rw [show v = .non from r]; exact .base .non
  | bl b => cases e; rw [show v = .bl b from r]; exact .base (.bl b)
  | int b => cases e; rw [show v = .int b from r]; exact .base (.int b)
  | str b => cases e; rw [show v = .str b from r]; exact .base (.str b)
  | glo k => cases e
  | ty n => cases e
  | ref i =>
    have e2 : (match st.get i with | some (.lst _) => some Tg.lst | some (.tup _) => some Tg.tup | some (.dct _ _) => some Tg.dct | _ => none) = some t := e
    cases q : st.get i with
    | none => rw [q] at e2; cases e2
    | some o =>
      rw [q] at e2
      obtain ⟨a, ev, _, ro⟩ := R.get q r
      subst ev
      cases o with
      | lst xs => cases e2; obtain ⟨ys, h, _⟩ := ro; exact .base (.lst h)
      | tup xs => cases e2; obtain ⟨ys, h, _⟩ := ro; exact .base (.tup h)
      | dct lk kvs =>
        cases e2
        obtain ⟨ws, rd, _⟩ := dct_rd ro
        rcases rd with h | ⟨o, h⟩
        · exact .base (.dK h)
        · exact .fDict h
      | ins c fs => cases e2
def mIsi (tb : Tg → Bool) (m : ME) : ME := fun σ st => bnd (m σ st) fun u st1 κ => match tagOf st1 u with
  | some t => κ (.ok (.bl (tb t))) st1
  | none => false
theorem se_isi {e : Expr} {T : Str} {n : String} {p pT pos : Pos} {m : ME} {tb : Tg → Bool} (ht : ∀ t : Tg, PySem.W.kitOne X.K t.v (.type n) = some (tb t)) (h : SE γ W X e m) (hm : X.mg "isinstance" = none) (hmT : X.mg T = none) (hvT : bootBuiltins T = some (.type n)) (hg : Gl X "isinstance" := by rfl) (hgT : Gl X T := by rfl)
    (hnT : T ≠ "__name__" := by decide) (hdT : (T == ("__debug__" : Str)) = false := by decide)
    (he : starEach [e, .Name T pT] X.env = (false, eval e X.env) :: starEach [.Name T pT] X.env := by rfl) (he2 : starEach [.Name T pT] X.env = (false, eval (.Name T pT) X.env) :: starEach [] X.env := by rfl) (hpl : (backTo pos (starEach [.Name T pT] X.env)).any (·.1) = false := by rfl) :
    SE γ W X (.Call (.Name "isinstance" p) [e, .Name T pT] [] pos) (mIsi tb m) := by
  obtain ⟨t, pt, s⟩ := h
  have pT' : PE X (.Name T pT) (tC (.ty n)) := pe_bltn (v := .ty n) hgT hmT hvT rfl hnT hdT
  refine ⟨_, pe_callB call_isi hg hm rfl (pa_cons pt (pa_cons pT' pa_nil he2) he) (he := he) (hpl := hpl), fun ρ st H σ τ R F κ Q hm ok ex => s ρ st H σ τ R F _ _ hm (fun ρ1 st1 H1 u v s1 R1 r1 k => ?_) ex⟩
  have k2 : (match tagOf st1 u with | some t => κ (.ok (.bl (tb t))) st1 | none => false) = true := k
  cases q : tagOf st1 u with
  | none => rw [q] at k2; cases k2
  | some tg =>
    rw [q] at k2
    exact ⟨v, .ty n, tg.v, .type n, tb tg, rfl, .ty n, tagOf_ok R1 r1 q, ht tg, ok ρ1 st1 H1 (.bl (tb tg)) _ s1 R1 rfl k2⟩

/-! ### a list's methods -/
def LeafM (γ : Nat → Addr) (W : WX) (r : V → List V → Hp → VK → Prop) (f : U → List U → VS → Go U) : Prop := ∀ ρ st H τ u us v vs, Rep γ ρ st H → RU γ ρ u v → RL γ ρ us vs → SimAt γ W τ (RU γ) ρ H (r v vs H) (f u us st)
def Mt2 (X : Cx) (γ : Nat → Addr) (W : WX) (id : String) (f : U → List U → VS → Go U) : Prop := ∃ r, MtR X id r ∧ LeafM γ W r f
def isLst (st : VS) : U → Bool
  | .ref i => match st.get i with
    | some (.lst _) => true
    | _ => false
  | _ => false
theorem isLst_ok {K : PySem.W.Frag} (R : Rep γ ρ st H) {u : U} {v : V} (r : RU γ ρ u v) (e : isLst st u = true) : tyV K "list" v H := by
  cases u <;> first | (cases e; done) | skip
  rename_i i
  have e2 : (match st.get i with | some (.lst _) => true | _ => false) = true := e
  cases q : st.get i with
  | none => rw [q] at e2; cases e2
  | some o =>
    rw [q] at e2
    cases o <;> first | (cases e2; done) | skip
    obtain ⟨a, ev, _, ys, h, _⟩ := R.get q r
    subst ev
    exact .inl ⟨rfl, ys, .inl (.inl h)⟩
def mMt (f : U → List U → VS → Go U) (mo : ME) (ms : MA) : ME := fun σ st => bnd (mo σ st) fun u st1 => match isLst st1 u with
  | true => bnd (ms σ st1) fun us st2 => f u us st2
  | false => bad
theorem se_bm {o e : Expr} {es : List Expr} {name : Str} {id : String} {apos cpos : Pos} {f : U → List U → VS → Go U} {mo : ME} {ms : MA} (slot : Slot "list" name id) (hty : typeOf (.builtin id) = pure (.type "method_descriptor")) (hm : Mt2 X γ W id f) (ho : SE γ W X o mo) (ha : SA γ W X (e :: es) ms)
    (hbase : attributeBase o name X.env (eval o X.env) = eval o X.env := by rfl)
    (hfew : ((backTo cpos (starEach (e :: es) X.env)).all (fun x => !x.1) && (backToKw cpos (keywordEach [] X.env)).all (fun x => x.1.isSome)
      && decide ((e :: es).length + ([] : List Keyword).length + (if ([] : List Keyword).isEmpty then 0 else 1) < 30)) = true := by rfl)
    (hline : (apos.endLine == cpos.line) = true := by rfl) (hs : starEach (e :: es) X.env = (false, eval e X.env) :: starEach es X.env := by rfl) (hplain : (backTo cpos (starEach es X.env)).any (·.1) = false := by rfl) :
    SE γ W X (.Call (.Attribute o name apos) (e :: es) [] cpos) (mMt f mo ms) := by
  obtain ⟨r, a, b⟩ := hm
  obtain ⟨to, po, so⟩ := ho
  obtain ⟨t, pt, s⟩ := ha
  refine ⟨_, pe_bm PySem.F.plainAttrs_list slot hty a po pt hbase hfew hline hs hplain, fun ρ st H σ τ R F κ Q hm ok ex => so ρ st H σ τ R F _ _ hm (fun ρ1 st1 H1 u v s1 R1 r1 k => ?_) ex⟩
  have k2 : (match isLst st1 u with | true => bnd (ms σ st1) fun us st2 => f u us st2 | false => bad) κ = true := k
  cases q : isLst st1 u with
  | false => rw [q] at k2; cases k2
  | true =>
    rw [q] at k2
    exact ⟨isLst_ok R1 r1 q, s ρ1 st1 H1 σ τ R1 (F.step s1) _ _ k2 (fun ρ2 st2 H2 us vs s2 R2 r2 k3 => b ρ2 st2 H2 τ u us v vs R2 (s2.ru r1) r2 _ _ k3 (ok.step (s1.trans s2)) (ex.step (s1.trans s2))) (ex.step s1)⟩
theorem se_bm0 {o : Expr} {name : Str} {id : String} {apos cpos : Pos} {f : U → List U → VS → Go U} {mo : ME} (slot : Slot "list" name id) (hty : typeOf (.builtin id) = pure (.type "method_descriptor")) (hm : Mt2 X γ W id f) (ho : SE γ W X o mo)
    (hbase : attributeBase o name X.env (eval o X.env) = eval o X.env := by rfl) (hline : (apos.endLine == cpos.line) = true := by rfl) : SE γ W X (.Call (.Attribute o name apos) [] [] cpos) (mMt f mo mNil) := by
  obtain ⟨r, a, b⟩ := hm
  obtain ⟨to, po, so⟩ := ho
  refine ⟨_, pe_bm0 PySem.F.plainAttrs_list slot hty a po hbase hline, fun ρ st H σ τ R F κ Q hm ok ex => so ρ st H σ τ R F _ _ hm (fun ρ1 st1 H1 u v s1 R1 r1 k => ?_) ex⟩
  have k2 : (match isLst st1 u with | true => bnd (mNil σ st1) fun us st2 => f u us st2 | false => bad) κ = true := k
  cases q : isLst st1 u with
  | false => rw [q] at k2; cases k2
  | true =>
    rw [q] at k2
    exact ⟨isLst_ok R1 r1 q, b ρ1 st1 H1 τ u [] v [] R1 r1 .nil _ _ k2 (ok.step s1) (ex.step s1)⟩
/-- a list changed -/
theorem OkK.putL {i : Nat} {a : Addr} {xs : List U} {ys zs : List V} {κ : Rs U → VS → Bool} {Q : VK} {u : U} {v : V} (ok : OkK γ (RU γ) ρ H κ Q) (R : Rep γ ρ st H) (ea : ρ[i]? = some a) (hh : H a = some (.lst ys)) (rl : RL γ ρ xs zs) (ru : RU γ ρ u v) (h : κ (.ok u) (st.put i (.lst xs)) = true) : Q v (upd H a (.lst zs)) := by
  have ro : RO γ ρ (upd H a (.lst zs)) a (.lst xs) := ⟨zs, upd_same, rl⟩
  obtain ⟨R2, S2⟩ := R.put ea (by rw [hh]; intro _ _ z; cases z) ro
  exact ok ρ _ _ u v S2 R2 ru h
def fAppend : U → List U → VS → Go U := fun u us st κ => match u, us with
  | .ref i, [w] => match st.get i with
    | some (.lst xs) => match Nat.blt xs.length line with
      | true => κ (.ok .non) (st.put i (.lst (xs ++ [w])))
      | false => false
    | _ => false
  | _, _ => false
theorem mt2_append : Mt2 X γ W "list.append" fAppend := ⟨_, mt_append, fun ρ st H τ u us v vs R ru rl κ Q hm ok ex => by
  cases u <;> first | (cases hm; done) | skip
  rename_i i
  cases rl with
  | nil => cases hm
  | cons a t =>
    cases t with
    | cons _ _ => cases hm
    | nil =>
      rename_i w x
      have hm2 : (match st.get i with
        | some (.lst xs) => (match Nat.blt xs.length line with
          | true => κ (.ok .non) (st.put i (.lst (xs ++ [w])))
          | false => false)
        | _ => false) = true := hm
      cases q : st.get i with
      | none => rw [q] at hm2; cases hm2
      | some o =>
        rw [q] at hm2
        cases o <;> first | (cases hm2; done) | skip
        rename_i xs
        have hm3 : (match Nat.blt xs.length line with
          | true => κ (.ok .non) (st.put i (.lst (xs ++ [w])))
          | false => false) = true := hm2
        obtain ⟨d, ev, ea, ys, hh, rl⟩ := R.get q ru
        subst ev
        cases q2 : Nat.blt xs.length line with
        | false => rw [q2] at hm3; cases hm3
        | true =>
          rw [q2] at hm3
          exact ⟨d, ys, x, rfl, rfl, hh, by rw [← rl.length]; exact line_lt q2, ok.putL (u := .non) (v := .non) R ea hh (Paired.snoc rl a) rfl hm3⟩⟩
theorem pdropLast {α β : Type} {F : α → β → Prop} : ∀ {xs : List α} {ys : List β}, Paired F xs ys → Paired F xs.dropLast ys.dropLast
  | _, _, .nil => .nil
  | _, _, .cons r .nil => .nil
  | _, _, .cons r (.cons r2 t) => .cons r (pdropLast (.cons r2 t))
theorem perase {α β : Type} {F : α → β → Prop} : ∀ {xs : List α} {ys : List β} (i : Nat), Paired F xs ys → Paired F (xs.eraseIdx i) (ys.eraseIdx i)
  | _, _, _, .nil => .nil
  | _, _, 0, .cons r t => t
  | _, _, i + 1, .cons r t => .cons r (perase i t)
def fPop : U → List U → VS → Go U := fun u us st κ => match u, us with
  | .ref i, [] => match st.get i with
    | some (.lst xs) => match xs[xs.length - 1]? with
      | some w => κ (.ok w) (st.put i (.lst xs.dropLast))
      | none => false
    | _ => false
  | _, _ => false
theorem mt2_pop : Mt2 X γ W "list.pop" fPop := ⟨_, mt_pop, fun ρ st H τ u us v vs R ru rl κ Q hm ok ex => by
  cases u <;> first | (cases hm; done) | skip
  rename_i i
  cases rl with
  | cons a t => cases hm
  | nil =>
    have hm2 : (match st.get i with
      | some (.lst xs) => (match xs[xs.length - 1]? with
        | some w => κ (.ok w) (st.put i (.lst xs.dropLast))
        | none => false)
      | _ => false) = true := hm
    cases q : st.get i with
    | none => rw [q] at hm2; cases hm2
    | some o =>
      rw [q] at hm2
      cases o <;> first | (cases hm2; done) | skip
      rename_i xs
      have hm3 : (match xs[xs.length - 1]? with
        | some w => κ (.ok w) (st.put i (.lst xs.dropLast))
        | none => false) = true := hm2
      obtain ⟨d, ev, ea, ys, hh, rl⟩ := R.get q ru
      subst ev
      cases q2 : xs[xs.length - 1]? with
      | none => rw [q2] at hm3; cases hm3
      | some w =>
        rw [q2] at hm3
        obtain ⟨y, hy, ry⟩ := pget rl q2
        rw [rl.length] at hy
        exact ⟨d, ys, y, rfl, rfl, hh, hy, ok.putL R ea hh (pdropLast rl) ry hm3⟩⟩
def iIdx (k : Int) : List Int → Option Nat
  | [] => none
  | i :: r => match iEq i k with
    | true => some 0
    | false => match iIdx k r with
      | some j => some (j + 1)
      | none => none
theorem iIdx_ok {k : Int} : ∀ {ns : List Int} {j : Nat}, iIdx k ns = some j → ns[j]? = some k ∧ ∀ m : Nat, m < j → ns[m]? ≠ some k
  | [], _, h => nomatch h
  | i :: r, j, h => by
    have h2 : (match iEq i k with | true => some 0 | false => (match iIdx k r with | some j => some (j + 1) | none => none)) = some j := h
    cases q : iEq i k with
    | true =>
      rw [q] at h2; cases h2
      exact ⟨by rw [iEq_iff.mp q]; rfl, fun m hm => absurd hm (Nat.not_lt_zero m)⟩
    | false =>
      rw [q] at h2
      cases q2 : iIdx k r with
      | none => rw [q2] at h2; cases h2
      | some j2 =>
        rw [q2] at h2; cases h2
        obtain ⟨a, b⟩ := iIdx_ok q2
        refine ⟨a, fun m hm => ?_⟩
        cases m with
        | zero =>
          intro z
          have z : some i = some k := z
          cases z
          rw [iEq_iff.mpr rfl] at q; cases q
        | succ m => exact b m (Nat.lt_of_succ_lt_succ hm)
theorem rl_ints : ∀ l : List Int, RL γ ρ (l.map U.int) (l.map V.int)
  | [] => .nil
  | _ :: r => .cons rfl (rl_ints r)
def intOf : U → Option Int
  | .int i => some i
  | _ => none
theorem intOf_ok {u : U} {v : V} {i : Int} (e : intOf u = some i) (r : RU γ ρ u v) : v = .int i := by
  cases u <;> cases e
  exact r
def fRemove : U → List U → VS → Go U := fun u us st κ => match u, us with
  | .ref i, [w] => match st.get i with
    | some (.lst xs) => match intsOf xs, intOf w with
      | some ns, some k => match iIdx k ns with
        | some j => κ (.ok .non) (st.put i (.lst ((ns.eraseIdx j).map U.int)))
        | none => false
      | _, _ => false
    | _ => false
  | _, _ => false
theorem mt2_remove : Mt2 X γ W "list.remove" fRemove := ⟨_, mt_remove, fun ρ st H τ u us v vs R ru rl κ Q hm ok ex => by
  cases u <;> first | (cases hm; done) | skip
  rename_i i
  cases rl with
  | nil => cases hm
  | cons a t =>
    cases t with
    | cons _ _ => cases hm
    | nil =>
      rename_i w x
      have hm2 : (match st.get i with
        | some (.lst xs) => (match intsOf xs, intOf w with
          | some ns, some k => (match iIdx k ns with
            | some j => κ (.ok .non) (st.put i (.lst ((ns.eraseIdx j).map U.int)))
            | none => false)
          | _, _ => false)
        | _ => false) = true := hm
      cases q : st.get i with
      | none => rw [q] at hm2; cases hm2
      | some o =>
        rw [q] at hm2
        cases o <;> first | (cases hm2; done) | skip
        rename_i xs
        have hm3 : (match intsOf xs, intOf w with
          | some ns, some k => (match iIdx k ns with
            | some j => κ (.ok .non) (st.put i (.lst ((ns.eraseIdx j).map U.int)))
            | none => false)
          | _, _ => false) = true := hm2
        obtain ⟨d, ev, ea, ys, hh, rl⟩ := R.get q ru
        subst ev
        cases q2 : intsOf xs with
        | none => rw [q2] at hm3; cases hm3
        | some ns =>
          cases q4 : intOf w with
          | none => rw [q2, q4] at hm3; cases hm3
          | some k =>
            rw [q2, q4] at hm3
            have hm4 : (match iIdx k ns with
              | some j => κ (.ok .non) (st.put i (.lst ((ns.eraseIdx j).map U.int)))
              | none => false) = true := hm3
            have ey := intsOf_ok q2 rl
            subst ey
            cases q3 : iIdx k ns with
            | none => rw [q3] at hm4; cases hm4
            | some j =>
              rw [q3] at hm4
              obtain ⟨z1, z2⟩ := iIdx_ok q3
              have ex2 := intOf_ok q4 a
              subst ex2
              exact ⟨d, ns, k, j, rfl, rfl, hh, z1, z2, ok.putL (u := .non) (v := .non) R ea hh (rl_ints _) rfl hm4⟩⟩

/-! ### o[i] = v -/
def rSetLD : TSet := fun o i v H Q => rSetL o i v H Q ∨ rSetD o i v H Q
theorem set_ld (hu : X.A.units + 1 < cLine) : PSet X rSetLD := fun pins s σ H o i v ov iv u Q I ro ri rv h => h.elim (fun z => set_list pins s σ H o i v ov iv u Q I ro ri rv z) fun z => set_dict hu pins s σ H o i v ov iv u Q I ro ri rv z
def uIx (n : Nat) : Int → Option Nat
  | .ofNat m => match Nat.blt m n with
    | true => some m
    | false => none
  | .negSucc m => match Nat.blt m n with
    | true => some (n - 1 - m)
    | false => none
theorem uIx_ok {n : Nat} {i : Int} {j : Nat} (e : uIx n i = some j) : ixN n i = some j := by
  unfold ixN
  cases i with
  | ofNat m =>
    have e2 : (match Nat.blt m n with | true => some m | false => none) = some j := e
    cases q : Nat.blt m n with
    | false => rw [q] at e2; cases e2
    | true =>
      rw [q] at e2
      have ej : m = j := Option.some.inj e2
      have hm : m < n := Nat.le_of_ble_eq_true q
      have h1 : (0 : Int) ≤ Int.ofNat m := Int.natCast_nonneg m
      have h2 : Int.ofNat m < (n : Int) := by simpa using hm
      rw [if_pos h1, if_pos h2, ← ej]; rfl
  | negSucc m =>
    have e2 : (match Nat.blt m n with | true => some (n - 1 - m) | false => none) = some j := e
    cases q : Nat.blt m n with
    | false => rw [q] at e2; cases e2
    | true =>
      rw [q] at e2
      have ej : n - 1 - m = j := Option.some.inj e2
      have hm : m < n := Nat.le_of_ble_eq_true q
      have h0 : ¬ (0 ≤ Int.negSucc m) := by simp
      have h1 : -(n : Int) ≤ Int.negSucc m := by rw [Int.negSucc_eq]; omega
      rw [if_neg h0, if_pos h1, ← ej]
      congr 1
      rw [Int.negSucc_eq]; omega
def fSetI : U → U → U → VS → (VS → Bool) → Bool := fun o i w st κ => match o with
  | .ref p => match st.get p with
    | some (.lst xs) => match intOf i with
      | some k => match uIx xs.length k with
        | some j => κ (st.put p (.lst (xs.set j w)))
        | none => false
      | none => false
    | some (.dct false kvs) => match kOf i with
      | some k => match Nat.blt kvs.length line with
        | true => κ (st.put p (.dct false (kPut k w kvs)))
        | false => false
      | none => false
    | _ => false
  | _ => false
theorem pset {α β : Type} {F : α → β → Prop} {a : α} {b : β} (h : F a b) : ∀ {xs : List α} {ys : List β} (i : Nat), Paired F xs ys → Paired F (xs.set i a) (ys.set i b)
  | _, _, _, .nil => .nil
  | _, _, 0, .cons r t => .cons h t
  | _, _, i + 1, .cons r t => .cons r (pset h i t)
theorem setI_ok {o i w : U} {vo vi vw : V} {κ : VS → Bool} {Q : Hp → Prop} (R : Rep γ ρ st H) (ro : RU γ ρ o vo) (ri : RU γ ρ i vi) (rw_ : RU γ ρ w vw) (h : fSetI o i w st κ = true) (ok : ∀ st' H', Step ρ H ρ H' → Rep γ ρ st' H' → κ st' = true → Q H') : rSetLD vo vi vw H Q := by
  cases o <;> first | (cases h; done) | skip
  rename_i p
  have h2 : (match st.get p with
    | some (.lst xs) => (match intOf i with
      | some k => (match uIx xs.length k with
        | some j => κ (st.put p (.lst (xs.set j w)))
        | none => false)
      | none => false)
    | some (.dct false kvs) => (match kOf i with
      | some k => (match Nat.blt kvs.length line with
        | true => κ (st.put p (.dct false (kPut k w kvs)))
        | false => false)
      | none => false)
    | _ => false) = true := h
  cases q : st.get p with
  | none => rw [q] at h2; cases h2
  | some ob =>
    rw [q] at h2
    cases ob with
    | lst xs =>
      obtain ⟨a, ev, ea, ys, hh, rl⟩ := R.get q ro
      have h25 : (match intOf i with
        | some k => (match uIx xs.length k with
          | some j => κ (st.put p (.lst (xs.set j w)))
          | none => false)
        | none => false) = true := h2
      cases q9 : intOf i with
      | none => rw [q9] at h25; cases h25
      | some k =>
      rw [q9] at h25
      have h3 : (match uIx xs.length k with
        | some j => κ (st.put p (.lst (xs.set j w)))
        | none => false) = true := h25
      cases q2 : uIx xs.length k with
      | none => rw [q2] at h3; cases h3
      | some j =>
        rw [q2] at h3
        have ro2 : RO γ ρ (upd H a (.lst (ys.set j vw))) a (.lst (xs.set j w)) := ⟨_, upd_same, pset rw_ j rl⟩
        obtain ⟨R2, S2⟩ := R.put ea (by rw [hh]; intro _ _ z; cases z) ro2
        refine .inl ⟨a, ys, k, j, ev, intOf_ok q9 ri, hh, ?_, ok _ _ S2 R2 h3⟩
        rw [← rl.length]; exact uIx_ok q2
    | dct lk kvs =>
      cases lk with
      | true => cases h2
      | false =>
        obtain ⟨a, ev, ea, ws, hh, rk⟩ := R.get q ro
        have h3 : (match kOf i with
          | some k => (match Nat.blt kvs.length line with
            | true => κ (st.put p (.dct false (kPut k w kvs)))
            | false => false)
          | none => false) = true := h2
        cases q2 : kOf i with
        | none => rw [q2] at h3; cases h3
        | some k =>
          rw [q2] at h3
          have h4 : (match Nat.blt kvs.length line with
            | true => κ (st.put p (.dct false (kPut k w kvs)))
            | false => false) = true := h3
          cases q3 : Nat.blt kvs.length line with
          | false => rw [q3] at h4; cases h4
          | true =>
            rw [q3] at h4
            have hh : H a = some (.dK ws) := hh
            have ro2 : RO γ ρ (upd H a (.dK (putK ws k vw))) a (.dct false (kPut k w kvs)) := ⟨_, upd_same, rk.put rw_⟩
            obtain ⟨R2, S2⟩ := R.put ea (by rw [hh]; intro _ _ z; cases z) ro2
            have hl : ws.length < sizeLine := by
              rw [← show kvs.length = ws.length from Paired.length rk]; exact line_lt q3
            exact .inr ⟨a, _, ev, .inl ⟨ws, k, hh, kOf_ok q2 ri, hl, rfl⟩, ok _ _ S2 R2 h4⟩
    | tup _ => cases h2
    | ins _ _ => cases h2
def mgSub (mo mi : ME) : MG := fun u σ st κ => mo σ st (noX fun o st1 => mi σ st1 (noX fun i st2 => fSetI o i u st2 fun st3 => κ σ st3))
theorem sg_sub {o i : Expr} {pos : Pos} {mo mi : ME} (hu : X.A.units + 1 < cLine) (ho : SE γ W X o mo) (hi : SE γ W X i mi)
    (ha : ∀ v, assign (.Subscript o i pos) X.env v = (do
      let ov ← holding [v] (eval o X.env)
      let iv ← holding [v, ov] (eval i X.env)
      standAt pos
      holding [v, ov, iv] (setItem ov iv v)
      release [v, ov, iv] []) := by intro _; rfl) : SG γ X [] (.Subscript o i pos) (mgSub mo mi) := by
  obtain ⟨to, po, so⟩ := ho
  obtain ⟨ti, pi, si⟩ := hi
  refine ⟨_, pg_sub po pi (set_ld hu) ha, fun ρ st H σ τ u v R F ru κ Q hm ok => so ρ st H σ τ R F _ _ hm (fun ρ1 st1 H1 u1 v1 s1 R1 r1 k1 => si ρ1 st1 H1 σ τ R1 (F.step s1) _ _ k1 (fun ρ2 st2 H2 u2 v2 s2 R2 r2 k2 => ?_) noX_ex) noX_ex⟩
  exact setI_ok R2 (s2.ru r1) r2 ((s1.trans s2).ru ru) k2 fun st3 H3 S3 R3 k3 => ok ρ2 st3 H3 σ τ (s1.trans (s2.trans S3)) R3 (F.step (s1.trans (s2.trans S3))) (Same.refl _ _) k3

/-! ### o.f += e -/
def mAugF (g : GT) (f : Str) (mo mv : ME) : MS := fun σ st κ => mo σ st (onE κ σ fun u st1 => match u with
  | .ref i => match st1.get i with
    | some (.ins c fs) => match g.fld c f, fGet f fs with
      | true, some (.int a) => mv σ st1 (onE κ σ fun w st2 => match w with
        | .int b => match st2.get i with
          | some (.ins c' fs') => match Nat.beq c' c, Nat.blt fs'.length 1000 with
            | true, true => κ .nx σ (st2.put i (.ins c (fPut f (.int (a + b)) fs')))
            | _, _ => false
          | _ => false
        | _ => false)
      | _, _ => false
    | _ => false
  | _ => false)
theorem ss_augF {o value : Expr} {f : Str} {tpos pos : Pos} {mo mv : ME} (G : GOk X.K γ g) (ho : SE γ W X o mo) (hv : SE γ W X value mv) : SS γ W X (.AugAssign (.Attribute o f tpos) .Add value pos) (mAugF g f mo mv) := by
  obtain ⟨to, po, so⟩ := ho
  obtain ⟨tv, pv, sv⟩ := hv
  refine ⟨_, ps_fldaug po pv in_add, fun ρ st H σ τ R F κ D hm ok => so ρ st H σ τ R F _ _ hm (fun ρ1 st1 H1 u v s1 R1 r1 k => ?_) (ok.exK F)⟩
  cases u <;> first | (cases k; done) | skip
  rename_i i
  have k2 : (match st1.get i with
    | some (.ins c fs) => (match g.fld c f, fGet f fs with
      | true, some (.int a) => mv σ st1 (onE κ σ fun w st2 => match w with
        | .int b => (match st2.get i with
          | some (.ins c' fs') => (match Nat.beq c' c, Nat.blt fs'.length 1000 with
            | true, true => κ .nx σ (st2.put i (.ins c (fPut f (.int (a + b)) fs')))
            | _, _ => false)
          | _ => false)
        | _ => false)
      | _, _ => false)
    | _ => false) = true := k
  cases q : st1.get i with
  | none => rw [q] at k2; cases k2
  | some ob =>
    rw [q] at k2
    cases ob <;> first | (cases k2; done) | skip
    rename_i c fs
    obtain ⟨d, ev, ea, dx, ws, hh, rf⟩ := R1.get q r1
    subst ev
    have k3 : (match g.fld c f, fGet f fs with
      | true, some (.int a) => mv σ st1 (onE κ σ fun w st2 => match w with
        | .int b => (match st2.get i with
          | some (.ins c' fs') => (match Nat.beq c' c, Nat.blt fs'.length 1000 with
            | true, true => κ .nx σ (st2.put i (.ins c (fPut f (.int (a + b)) fs')))
            | _, _ => false)
          | _ => false)
        | _ => false)
      | _, _ => false) = true := k2
    cases qf : g.fld c f with
    | false => rw [qf] at k3; cases k3
    | true =>
      rw [qf] at k3
      obtain ⟨c1, c2⟩ := G.fld c f qf
      rcases rf.get (f := f) with ⟨e1, _⟩ | ⟨w, x, e1, e2, rw'⟩
      · rw [e1] at k3; cases k3
      · rw [e1] at k3
        cases w <;> first | (cases k3; done) | skip
        rename_i a
        have ex : x = .int a := rw'
        subst ex
        refine ⟨d, _, dx, ws, _, rfl, hh, c1, c2, e2, sv ρ1 st1 H1 σ τ R1 (F.step s1) _ _ k3 (fun ρ2 st2 H2 w y s2 R2 r2 k4 => ?_) ((ok.step s1).exK (F.step s1))⟩
        cases w <;> first | (cases k4; done) | skip
        rename_i b
        have ey : y = .int b := r2
        subst ey
        have k5 : (match st2.get i with
          | some (.ins c' fs') => (match Nat.beq c' c, Nat.blt fs'.length 1000 with
            | true, true => κ .nx σ (st2.put i (.ins c (fPut f (.int (a + b)) fs')))
            | _, _ => false)
          | _ => false) = true := k4
        cases q5 : st2.get i with
        | none => rw [q5] at k5; cases k5
        | some ob =>
          rw [q5] at k5
          cases ob <;> first | (cases k5; done) | skip
          rename_i c' fs'
          have k6 : (match Nat.beq c' c, Nat.blt fs'.length 1000 with
            | true, true => κ .nx σ (st2.put i (.ins c (fPut f (.int (a + b)) fs')))
            | _, _ => false) = true := k5
          cases q6 : Nat.beq c' c <;> cases q7 : Nat.blt fs'.length 1000 <;> rw [q6, q7] at k6 <;> first | (cases k6; done) | skip
          have ec := Nat.eq_of_beq_eq_true q6
          subst ec
          obtain ⟨d2, ev2, ea2, dx2, ws2, hh2, rf2⟩ := R2.get q5 (s2.ru r1)
          cases ev2
          have ro : RO γ ρ2 (upd H2 d (.ins (γ c') dx2 (putF f (.int (a + b)) ws2))) d (.ins c' (fPut f (.int (a + b)) fs')) := ⟨dx2, _, upd_same, rf2.put (u := .int (a + b)) (v := .int (a + b)) rfl⟩
          obtain ⟨R3, S3⟩ := R2.put ea2 (by rw [hh2]; intro _ _ z; cases z) ro
          have hl : ws2.length < 1000 := by
            have := Paired.length rf2
            rw [← this]; exact Nat.le_of_ble_eq_true q7
          have S := s1.trans (s2.trans S3)
          exact ⟨a, b, rfl, rfl, dx2, ws2, hh2, hl, ok.nx ρ2 _ _ σ τ S R3 (F.step S) k6⟩

/-! ### try: what runs through -/
theorem ss_try0 {body : List Stmt} {h₀ : ExceptHandler} {hs : List ExceptHandler} {pos : Pos} {m : MS} (hn : ∀ e s, ¬ X.xe e s) (hb : SSs γ W X body m) : SS γ W X (.Try body (h₀ :: hs) [] [] pos) m := by
  obtain ⟨t, p, s⟩ := hb
  exact ⟨_, ps_try_never (u := tNext) hn p pss_nil, fun ρ st H σ τ R F κ D hm ok => s ρ st H σ τ R F κ _ hm ok⟩
end
end MV

namespace MV
open PySem PySem.Spec PyProof.Rows L2

theorem ptake {α β : Type} {F : α → β → Prop} : ∀ (n : Nat) {xs : List α} {ys : List β}, Paired F xs ys → Paired F (xs.take n) (ys.take n)
  | 0, _, _, _ => .nil
  | _ + 1, _, _, .nil => .nil
  | n + 1, _, _, .cons a t => .cons a (ptake n t)
theorem pdrop {α β : Type} {F : α → β → Prop} : ∀ (n : Nat) {xs : List α} {ys : List β}, Paired F xs ys → Paired F (xs.drop n) (ys.drop n)
  | 0, _, _, h => h
  | _ + 1, _, _, .nil => .nil
  | n + 1, _, _, .cons a t => pdrop n t
/-! ### defs called with fewer values: defaults -/
section
variable {γ : Nat → Addr} {P : Program} {w : World} {K : PySem.W.Frag} {mg : Str → Option Value} {base : Heap}
def mfD (mf : MF) (dus : List U) : MF := fun us st => mf (us ++ dus) st
theorem fnM_of {k n n' : Nat} {f : Addr} {fd : FuncData} {ps : List Str} {mf : MF} {ds : List Value} {dvs : List V} {dus : List U} (F : FnOk P w K mg base CX0 k f fd ps (SpM γ n mf)) (hb : L2.Binds K fd ps ds) (hd : Vals dvs ds) (hu : RL γ [] dus dvs) (hn : n' + dus.length = n) :
    FnR P w K mg base CX0 k f (SpM γ n' (mfD mf dus)) := by
  intro A outer s H us vs Q E hr e0 r ⟨hl, ρ, st, wus, κ, R, rl, hm, ok⟩
  have r2 : Vals (vs ++ dvs) (us ++ ds) := r.append hd
  have hsp : SpM γ n mf (vs ++ dvs) H Q E := ⟨by rw [List.length_append, hl, ← hu.length]; exact hn, ρ, st, wus ++ dus, κ, R, papp rl (RL.any hu), hm, ok⟩
  have KX : K.In s.heap := e0.mod.kin.keeps fun b o e => (e0.bs b o e).1
  have hlen : (us ++ ds).length = ps.length := r2.length.symm.trans (F.len _ _ _ _ hsp)
  exact F.run A outer s H ⟨us, []⟩ (us ++ ds) (vs ++ dvs) Q E hr e0 (hb s us KX hlen) r2 hsp
/-- all values are given -/
theorem fnM_all {k n : Nat} {f : Addr} {fd : FuncData} {ps : List Str} {mf : MF} (F : FnOk P w K mg base CX0 k f fd ps (SpM γ n mf)) (hb : L2.Binds K fd ps []) : FnR P w K mg base CX0 k f (SpM γ n mf) := by
  intro A outer s H us vs Q E hr e0 r hsp
  have KX : K.In s.heap := e0.mod.kin.keeps fun b o e => (e0.bs b o e).1
  have hlen : (us ++ []).length = ps.length := by rw [List.append_nil]; exact r.length.symm.trans (F.len _ _ _ _ hsp)
  have hz := hb s us KX hlen
  rw [List.append_nil] at hz
  exact F.run A outer s H ⟨us, []⟩ us vs Q E hr e0 hz r hsp
/-- def f(a, .., *rest) called with n values -/
def mfStar (np : Nat) (mf : MF) : MF := fun us st κ => match Nat.ble us.length line with
  | true => mf (us.take np ++ [.ref st.n]) (st.new (.tup (us.drop np))) κ
  | false => false
theorem fn_starM {x qual : Str} {params : Arguments} {body : List Stmt} {scope : Scope} {kws : List (Str × V)} {f : Addr} {fd : FuncData} {N ps : List Str} {pv : Str} {k np nl n : Nat} {m : MS} (F : FunD K x qual params body scope [] kws f fd) (S : FnScope N (ps ++ [pv]) scope) (hnp : ps.length = np) (hN : N.length = (np + 1) + nl) (hn : np ≤ n)
    (hb : ∀ (kV doc pm : Value) (an : Option Addr) (cdv ct : Value) (us rest : List Value), us.length = ps.length → bindArgs (PySem.W.fnOf x qual params body scope .none kV doc pm an cdv ct) ⟨us ++ rest, []⟩ = (newTuple rest >>= fun t => pure (ps.zip us ++ [(pv, t)])))
    (h : ∀ (cdv : Value) (A : Around) (outer : List Env) (s : Shared) (H : Hp), Room k (A.deeper (envOfC qual scope s.heap.objs.size f cdv)) → SSs γ W0 (cxOf CX0 P w K mg base N qual scope f cdv A outer s H E0).nox body m) :
    FnR P w K mg base CX0 (k + 1) f (SpM γ n (mfStar np (mDef (np + 1) nl m))) := by
  obtain ⟨oc, od, dV, kV, doc, pm, an, cdv, ct, osl, rfl, lk, hcd, hD, _⟩ := F.ex
  rcases hD with ⟨_, rfl⟩ | ⟨e, _⟩
  case inr => exact absurd rfl e
  refine FnR.imp (StX.fn_star (sp := SpM γ (np + 1) (mDef (np + 1) nl m)) lk hcd S StX.cxUp_none (hb kV doc pm an cdv ct) fun A outer s H vs Q E hr ⟨hl, ρ, st, us, κ, R, r, hm, ok⟩ => ?_) fun vs H Q E ⟨hl, ρ, st, us, κ, R, r, hm, ok⟩ => ?_
  · obtain ⟨t, p, q⟩ := h cdv A outer s H hr
    have hm2 : (match Nat.beq us.length (np + 1) with
      | true => m (us.map some ++ List.replicate nl none) st fun o _ st' => match o with
        | .nx => noX κ (.ok .non) st'
        | .rt u => noX κ (.ok u) st'
        | .ex x => noX κ (.ex x) st'
        | .bk => false
        | .ct => false
      | false => false) = true := hm
    cases z : Nat.beq us.length (np + 1) with
    | false => rw [z] at hm2; cases hm2
    | true =>
      rw [z] at hm2
      have es : L2.start N vs = vs.map some ++ List.replicate nl none := by
        unfold L2.start
        rw [hN, hl, Nat.add_sub_cancel_left]
      refine ⟨t, PSs.nox p, ?_⟩
      rw [es]
      refine q ρ st H _ _ R (fr_start r nl) _ _ hm2 ⟨fun ρ1 st1 H1 σ1 τ1 s1 R1 F1 k1 => ok ρ1 st1 H1 .non .non s1 R1 rfl k1, fun _ _ _ _ _ _ _ _ k1 => ?_, fun _ _ _ _ _ _ _ _ k1 => ?_, fun ρ1 st1 H1 σ1 u v s1 R1 r1 k1 => ok ρ1 st1 H1 u v s1 R1 r1 k1, fun ρ1 st1 H1 σ1 τ1 x c d s1 R1 F1 r1 k1 => ?_⟩
      · cases k1
      · cases k1
      · cases k1
  · have hm2 : (match Nat.ble us.length line with
      | true => mDef (np + 1) nl m (us.take np ++ [.ref st.n]) (st.new (.tup (us.drop np))) (noX κ)
      | false => false) = true := hm
    cases q : Nat.ble us.length line with
    | false => rw [q] at hm2; cases hm2
    | true =>
      rw [q] at hm2
      have hz : vs.length ≤ sizeLine := by rw [← r.length]; exact line_ok q
      refine ⟨vs.take np, vs.drop np, (List.take_append_drop np vs).symm, by rw [List.length_take, hl, hnp]; exact Nat.min_eq_left hn, Nat.le_trans (by rw [List.length_drop]; exact Nat.sub_le _ _) hz, fun p hp => ?_⟩
      have rt : RL γ ρ (us.take np) (vs.take np) := ptake np r
      have rd : RL γ ρ (us.drop np) (vs.drop np) := pdrop np r
      have ro : RO γ (ρ ++ [p]) (upd H p (.tup (vs.drop np))) p (.tup (us.drop np)) := ⟨_, upd_same, rd.mono⟩
      obtain ⟨R2, S2⟩ := R.new hp (new_upd hp) ro
      have rp : RU γ (ρ ++ [p]) (.ref st.n) (.ref p) := ⟨p, by rw [← R.len, List.getElem?_append_right (Nat.le_refl _), Nat.sub_self]; rfl, rfl⟩
      exact ⟨by rw [List.length_append, List.length_take, hl, Nat.min_eq_left hn]; rfl, ρ ++ [p], st.new (.tup (us.drop np)), us.take np ++ [U.ref st.n], κ, R2, Paired.snoc rt.mono rp, hm2, ok.step S2⟩
end

/-! ### keywords -/
section
variable {γ : Nat → Addr} {W : WX} {X : Cx} {g : GT}
def SK (γ : Nat → Addr) (W : WX) (X : Cx) (kws : List Keyword) (m : MA) : Prop := ∃ t, PK X kws t ∧ ∀ ρ st H σ τ, Rep γ ρ st H → FrR γ ρ σ τ → SimAt γ W τ (RL γ) ρ H (t τ H) (m σ st)
theorem sk_nil : SK γ W X [] mNil := ⟨_, pk_nil, fun _ _ _ _ _ R _ => SimAt.ret R .nil⟩
theorem sk_cons {nm : Option Str} {e : Expr} {kpos : Pos} {kws : List Keyword} {m : ME} {ms : MA} (h : SE γ W X e m) (h' : SK γ W X kws ms) : SK γ W X (⟨nm, e, kpos⟩ :: kws) (mCons m ms) := by
  obtain ⟨t, p, s⟩ := h
  obtain ⟨t', p', s'⟩ := h'
  exact ⟨_, pk_cons p p', fun ρ st H σ τ R F κ Q hm ok ex => s ρ st H σ τ R F _ _ hm (fun ρ1 st1 H1 u v s1 R1 r1 k1 => s' ρ1 st1 H1 σ τ R1 (F.step s1) _ _ k1 (fun ρ2 st2 H2 us vs s2 R2 r2 k2 => ok ρ2 st2 H2 _ _ (s1.trans s2) R2 (.cons (s2.ru r1) r2) k2) (ex.step s1)) ex⟩
def mMakeK (c : Nat) (mf : MF) (nn n m : Nat) (gU : List U → List U → List U) (ms mk : MA) : ME := fun σ st => bnd (ms σ st) fun us st1 => bnd (mk σ st1) fun ws st2 => match Nat.beq us.length n, Nat.beq ws.length m with
  | true, true => bnd (callM mf nn (gU (U.ref st2.n :: us) ws) (st2.new (.ins c []))) fun u st3 κ => match u with
    | .non => κ (.ok (.ref st2.n)) st3
    | _ => false
  | _, _ => bad
/-- C(e, .., k = v, ..) -/
theorem se_makeK {k n nn c : Nat} {f : Addr} {fd : FuncData} {ps ks : List Str} {mf : MF} {x : Str} {p pos : Pos} {e : Expr} {es : List Expr} {kws : List Keyword} {ms mk : MA} {gr : List Value → List Value → List Value} {gV : List V → List V → List V} {gU : List U → List U → List U}
    (M : Mk X.K (γ c) f) (F : FnOk X.prog X.w X.K X.mg X.base CX0 k f fd ps (SpM γ nn mf)) (hr : Room (k + 1) X.A) (hm : X.mg x = some (.ref (γ c))) (hb : KBn X.K fd ps (n + 1) ks gr gV) (hgu : ∀ {ρ us vs ws zs}, RL γ ρ us vs → RL γ ρ ws zs → RL γ ρ (gU us ws) (gV vs zs)) (ha : SA γ W X (e :: es) ms) (hkw : SK γ W X kws mk) (hg : Gl X x := by rfl)
    (hall : (backToKw pos (keywordEach kws X.env)).all (·.1.isSome) = true := by rfl) (hks : (backToKw pos (keywordEach kws X.env)).filterMap (·.1) = ks := by rfl) (hdb : (x == ("__debug__" : Str)) = false := by decide)
    (he : starEach (e :: es) X.env = (false, eval e X.env) :: starEach es X.env := by rfl) (hpl : ((backTo pos (starEach (e :: es) X.env)).any (·.1) || (backToKw pos (keywordEach kws X.env)).any (·.1.isNone)) = false := by rfl) :
    SE γ W X (.Call (.Name x p) (e :: es) kws pos) (mMakeK c mf nn n ks.length gU ms mk) := by
  obtain ⟨t, pt, s⟩ := ha
  obtain ⟨tk, pk, sk⟩ := hkw
  refine ⟨_, pe_makeN M F hr hg hm hb L2.pass0 pt pk hall hks hdb he hpl, fun ρ st H σ τ R F κ Q hm ok ex => s ρ st H σ τ R F _ _ hm (fun ρ1 st1 H1 us vs s1 R1 r1 k1 => sk ρ1 st1 H1 σ τ R1 (F.step s1) _ _ k1 (fun ρ2 st2 H2 ws zs s2 R2 r2 k2 => ?_) (ex.step s1)) ex⟩
  have k3 : (match Nat.beq us.length n, Nat.beq ws.length ks.length with
    | true, true => bnd (callM mf nn (gU (U.ref st2.n :: us) ws) (st2.new (.ins c []))) fun (u : U) st3 κ => match u with
      | .non => κ (Rs.ok (U.ref st2.n)) st3
      | _ => false
    | _, _ => bad) κ = true := k2
  cases q1 : Nat.beq us.length n with
  | false => rw [q1] at k3; cases k3
  | true =>
    cases q2 : Nat.beq ws.length ks.length with
    | false => rw [q1, q2] at k3; cases k3
    | true =>
      rw [q1, q2] at k3
      refine ⟨by rw [← r1.length]; exact Nat.eq_of_beq_eq_true q1, by rw [← r2.length]; exact Nat.eq_of_beq_eq_true q2, fun x dx hx hdx ne => ?_⟩
      have ro : RO γ (ρ2 ++ [x]) (upd (upd H2 dx (.own x)) x (.ins (γ c) dx [])) x (.ins c []) := ⟨dx, [], upd_same, .nil⟩
      have hk : ∀ a u, H2 a = some u → (upd (upd H2 dx (.own x)) x (.ins (γ c) dx [])) a = some u := fun a u e => by
        rw [upd_ne (ne_of_none e hx), upd_ne (ne_of_none e hdx)]; exact e
      obtain ⟨R3, S3⟩ := R2.new hx hk ro
      have ex0 : (ρ2 ++ [x])[st2.n]? = some x := by rw [← R2.len, List.getElem?_append_right (Nat.le_refl _), Nat.sub_self]; rfl
      have rx : RU γ (ρ2 ++ [x]) (.ref st2.n) (.ref x) := ⟨x, ex0, rfl⟩
      have S := s1.trans (s2.trans S3)
      refine sim_call (W := W) (τ := τ) R3 (hgu (us := U.ref st2.n :: us) (vs := V.ref x :: vs) (.cons rx ((s2.rl r1).mono)) r2.mono) _ _ k3 (fun ρ4 st4 H4 u v s4 R4 r4 k4 => ?_) (ex.step S)
      cases u <;> first | (cases k4; done) | skip
      exact ⟨r4, ok ρ4 st4 H4 _ _ (S.trans s4) R4 (s4.ru rx) k4⟩

/-! ### a dict comprehension -/
def dLoop (g : GT) (it : Itm) (mg : MG) (mt : MT) (mk me : ME) (σw : Fr) (d : Nat) : Nat → Nat → VS → (Rs U → VS → Bool) → Bool
  | 0, _, _ => fun _ => false
  | n + 1, i, st => fun κ => match it.next g st i with
    | none => false
    | some none => finE it κ (.ref d) st
    | some (some y) => mg (y.u st) σw (y.st st) fun σ1 st1 => mt σ1 st1 (noX fun b st2 => match b with
      | false => dLoop g it mg mt mk me σw d n (i + 1) st2 κ
      | true => mk σ1 st2 (noX fun q st3 => me σ1 st3 (noX fun u st4 => match kOf q, st4.get d with
        | some k, some (.dct false kvs) => match Nat.blt kvs.length line with
          | true => dLoop g it mg mt mk me σw d n (i + 1) (st4.put d (.dct false (kPut k u kvs))) κ
          | false => false
        | _, _ => false)))
def mDc (g : GT) (n : Nat) (vs : List Nat) (mi : MI) (mg : MG) (mt : MT) (mk me : ME) : ME := fun σ st => bnd (mi σ st) fun it st1 κ => dLoop g it mg mt mk me (wipeU σ vs) st1.n n 0 (st1.new (.dct false [])) κ
theorem sim_dc {sl vs : List Nat} {N : Addr → Prop} {wi : TI} {mi : MI} {mg : MG} {mt : MT} {mk me : ME} (n : Nat) (si : SimI γ W g N wi mi) (hsl : ∀ j ∈ sl, j ∈ vs) (ρ st H σ τ) (R : Rep γ ρ st H) (F : FrR γ ρ σ τ) :
    SimAt γ W τ (RU γ) ρ H (fun Q => tDc wi (tMg γ sl mg) (tMt γ W0 mt) (tM γ W0 mk) (tM γ W0 me) vs τ H fun v => UN N (Q v)) (mDc g n vs mi mg mt mk me σ st) := fun κ Q hm ok ex => si ρ st H σ τ R F _ _ hm (fun ρ1 st1 H1 it J s1 R1 iok lok k1 D hD => by
  have ro : RO γ (ρ1 ++ [D]) (upd H1 D (.dK [])) D (.dct false []) := ⟨[], upd_same, .nil⟩
  obtain ⟨R2, S2⟩ := R1.new hD (new_upd hD) ro
  have eD : (ρ1 ++ [D])[st1.n]? = some D := by rw [← R1.len, List.getElem?_append_right (Nat.le_refl _), Nat.sub_self]; rfl
  refine ⟨fun i k H' => ∃ ρ' st', Step (ρ1 ++ [D]) (upd H1 D (.dK [])) ρ' H' ∧ Rep γ ρ' st' H' ∧ dLoop g it mg mt mk me (wipeU σ vs) st1.n k i st' κ = true, ⟨n, ρ1 ++ [D], _, Step.refl _ _, R2, k1⟩, fun i k H' ⟨ρ', st', S', R', hk⟩ => ?_⟩
  have S1 : Step ρ1 H1 ρ' H' := S2.trans S'
  have S0 : Step ρ H ρ' H' := s1.trans S1
  cases k with
  | zero => cases hk
  | succ k =>
    obtain ⟨stop, go⟩ := iok ρ' st' H' S1 R' i
    have hk2 : (match it.next g st' i with
      | none => false
      | some none => finE it κ (.ref st1.n) st'
      | some (some y) => mg (y.u st') (wipeU σ vs) (y.st st') fun σ1 st3 => mt σ1 st3 (noX fun b st2 => match b with
        | false => dLoop g it mg mt mk me (wipeU σ vs) st1.n k (i + 1) st2 κ
        | true => mk σ1 st2 (noX fun q st3 => me σ1 st3 (noX fun u st4 => match kOf q, st4.get st1.n with
          | some kk, some (.dct false kvs) => match Nat.blt kvs.length line with
            | true => dLoop g it mg mt mk me (wipeU σ vs) st1.n k (i + 1) (st4.put st1.n (.dct false (kPut kk u kvs))) κ
            | false => false
          | _, _ => false)))) = true := hk
    have eD' : ρ'[st1.n]? = some D := by
      obtain ⟨l, e⟩ := S'.ext
      rw [e, List.getElem?_append_left (List.getElem?_eq_some_iff.mp eD).1]; exact eD
    cases q : it.next g st' i with
    | none => rw [q] at hk2; cases hk2
    | some oy =>
      rw [q] at hk2
      cases oy with
      | none =>
        refine .inl ⟨stop q, ?_⟩
        have e : finE it κ (.ref st1.n) st' = true := hk2
        unfold finE at e
        cases q2 : unl it st' with
        | none => rw [q2] at e; cases e
        | some st3 =>
          rw [q2] at e
          have rD : RU γ ρ' (.ref st1.n) (.ref D) := ⟨D, eD', rfl⟩
          exact unl_ok S0 R' (lok.step S1) q2 fun H3 S3 R3 => ok ρ' st3 H3 _ _ S3 R3 rD e
      | some y =>
        obtain ⟨hgo, hy⟩ := go y q
        refine .inr ⟨hgo, fun H2 => ∃ ρ2 st2, Step (ρ1 ++ [D]) (upd H1 D (.dK [])) ρ2 H2 ∧ Rep γ ρ2 st2 H2 ∧ dLoop g it mg mt mk me (wipeU σ vs) st1.n k (i + 1) st2 κ = true, fun H2 z => ⟨k, Nat.lt_succ_self k, z⟩, fun x H'' hyl => ?_⟩
        obtain ⟨ρ2, S2', R2', r2⟩ := hy x H'' hyl
        refine ⟨ρ2, _, _, _, _, R2', (F.wiped vs).step (S0.trans S2'), r2, hk2, fun ρ3 st3 H3 σ3 τ3 S3 R3 F3 sm k3 => ⟨wipe_same sm hsl, ρ3, st3, σ3, _, R3, F3, k3, fun ρ4 st4 H4 b b' S4 R4 eb k4 => ?_, noX_ex⟩⟩
        have eb : b = b' := eb
        subst eb
        have SA := S'.trans (S2'.trans (S3.trans S4))
        cases b with
        | false => exact iteF ⟨ρ4, st4, SA, R4, k4⟩
        | true =>
          refine iteT ?_
          refine ⟨ρ4, st4, σ3, _, R4, F3.step S4, k4, fun ρ5 st5 H5 qk kv S5 R5 r5 k5 => ⟨ρ5, st5, σ3, _, R5, F3.step (S4.trans S5), k5, fun ρ6 st6 H6 u v S6 R6 r6 k6 => ?_, noX_ex⟩, noX_ex⟩
          have k7 : (match kOf qk, st6.get st1.n with
            | some kk, some (.dct false kvs) => (match Nat.blt kvs.length line with
              | true => dLoop g it mg mt mk me (wipeU σ vs) st1.n k (i + 1) (st6.put st1.n (.dct false (kPut kk u kvs))) κ
              | false => false)
            | _, _ => false) = true := k6
          have SB := SA.trans (S5.trans S6)
          have eD6 : ρ6[st1.n]? = some D := by
            obtain ⟨l, e⟩ := SB.ext
            rw [e, List.getElem?_append_left (List.getElem?_eq_some_iff.mp eD).1]; exact eD
          cases q4 : kOf qk with
          | none => rw [q4] at k7; cases k7
          | some kk =>
            cases q5 : st6.get st1.n with
            | none => rw [q4, q5] at k7; cases k7
            | some o =>
              rw [q4, q5] at k7
              cases o with
              | dct lk kvs =>
                cases lk with
                | true => cases k7
                | false =>
                  have k8 : (match Nat.blt kvs.length line with
                    | true => dLoop g it mg mt mk me (wipeU σ vs) st1.n k (i + 1) (st6.put st1.n (.dct false (kPut kk u kvs))) κ
                    | false => false) = true := k7
                  cases q6 : Nat.blt kvs.length line with
                  | false => rw [q6] at k8; cases k8
                  | true =>
                    rw [q6] at k8
                    obtain ⟨a, ea, ws, hh, rk⟩ := R6.obj _ _ q5
                    rw [eD6] at ea; cases ea
                    have hh : H6 D = some (.dK ws) := hh
                    have ro : RO γ ρ6 (upd H6 D (.dK (putK ws kk v))) D (.dct false (kPut kk u kvs)) := ⟨_, upd_same, rk.put r6⟩
                    obtain ⟨R7, S7⟩ := R6.put (o := .dct false (kPut kk u kvs)) eD6 (by rw [hh]; intro _ _ z; cases z) ro
                    refine ⟨ws, kk, kOf_ok q4 (S6.ru r5), hh, ?_, ρ6, _, SB.trans S7, R7, k8⟩
                    rw [← show kvs.length = ws.length from Paired.length rk]; exact line_lt q6
              | lst _ => cases k7
              | tup _ => cases k7
              | ins _ _ => cases k7) ex
theorem se_dc {kx vx tg iter : Expr} {ifs : List Expr} {scope : Scope} {own : List (Str × Nat)} {pos : Pos} {sl : List Nat} {mi : MI} {mg : MG} {mt : MT} {mk me : ME} (n : Nat) (hc : X.calm = true) (hN : X.N.Nodup) (hi : SI γ W g X tg iter mi) (ok : BlkOk X.N X.env.scope scope own)
    (hg : ∀ (s : Shared) (H : Hp) (C : Addr) (cl : List (Str × Addr)) (fp : List Addr), SG γ (X.blk s H scope (compEnvC scope cl C X.env) fp) sl tg mg) (ht : ∀ (s : Shared) (H : Hp) (C : Addr) (cl : List (Str × Addr)) (fp : List Addr), PTs (X.blk s H scope (compEnvC scope cl C X.env) fp) ifs (tMt γ W0 mt))
    (hk : ∀ (s : Shared) (H : Hp) (C : Addr) (cl : List (Str × Addr)) (fp : List Addr), SE γ W0 (X.blk s H scope (compEnvC scope cl C X.env) fp) kx mk) (he : ∀ (s : Shared) (H : Hp) (C : Addr) (cl : List (Str × Addr)) (fp : List Addr), SE γ W0 (X.blk s H scope (compEnvC scope cl C X.env) fp) vx me)
    (hsl : ∀ j ∈ sl, j ∈ own.map (·.2) := by decide) (hs : ∀ x, foldedSetIterable iter X.env x = pure x := by intro _; rfl) :
    SE γ W X (.DictComp kx vx [⟨tg, iter, ifs, 0⟩] scope pos) (mDc g n (own.map (·.2)) mi mg mt mk me) := by
  obtain ⟨ti, pi, si⟩ := hi
  exact ⟨_, pe_unl (pe_dc hc hN pi ok (fun s H C cl fp => (hg s H C cl fp).pg) ht (fun s H C cl fp => (hk s H C cl fp).pe) (fun s H C cl fp => (he s H C cl fp).pe) hs), fun ρ st H σ τ R F => sim_dc n si hsl ρ st H σ τ R F⟩
end
end MV

namespace MV
open PySem PySem.Spec PyProof.Rows L2 He

/-! ### the head's facts, and one test of one's own; the wished list vl is written out, so that the kernel need not compare two maps -/
abbrev AlM : Type := Bool × List FnW
/-- what an object holds, without its type's line and its dict: few enough that no doubles need be dropped -/
def heldV : Value → List Addr
  | .ref a => [a]
  | _ => []
def heldO (o : Obj) : List Addr := match o.data with
  | .dict es _ => es.toList.flatMap fun e => heldV e.val
  | .cls cd => [cd.ns]
  | .func fd => heldV fd.code ++ (heldV fd.defaults ++ heldV fd.kwdefaults)
  | .seq its _ => its.toList.flatMap heldV
  | .fields vs => vs.toList.flatMap heldV
  | _ => []
def layM (g : Addr → Option Obj) (as : List Addr) : List Addr := as.flatMap fun a => match g a with
  | some o => heldO o
  | none => []
def asM (g : Addr → Option Obj) : Nat → List Addr → List Addr
  | 0, as => as
  | n + 1, as => as ++ asM g n (layM g as)
def obsM (n : Nat) (fa : List Fa) (fn : List DefD) (ex : PySem.W.Frag → Bool) (g : Addr → Option Obj) : AlM := (((fa.all fun f => f.ok (frG g (asM g n [mainGlobals]))) && fn.all fun d => d.ok (frG g (asM g n [mainGlobals]))) && ex (frG g (asM g n [mainGlobals])), fn.map fun d => fnW (frG g (asM g n [mainGlobals])) d.at_)
def hookM (n : Nat) (fa : List Fa) (fn : List DefD) (ex : PySem.W.Frag → Bool) (vl : List FnW) (hv : vl = fn.map DefD.val) : PySem.W.Hook where
  α := AlM
  obs := fun s => obsM n fa fn ex s.heap.get?
  val := fun _ => (true, vl)
  says := fun _ h => ∃ K : PySem.W.Frag, K.In h ∧ SaysD fa fn K ∧ ex K = true
  of := fun _ s e => by
    have e1 := congrArg (fun z : AlM => z.1) e
    have e2 := congrArg (fun z : AlM => z.2) e
    obtain ⟨e3, e4⟩ := ba e1
    exact ⟨_, frG_in (as := asM s.heap.get? n [mainGlobals]), Prod.ext e3 (e2.trans hv), e4⟩
  keeps := fun _ _ _ ⟨K, hK, c, c2⟩ k => ⟨K, PySem.W.Frag.In.keeps hK k, c, c2⟩
theorem obsM_eq {n : Nat} {fa : List Fa} {fn : List DefD} {ex : PySem.W.Frag → Bool} {vl : List FnW} {hv : vl = fn.map DefD.val} {g : Addr → Option Obj} {s : Shared} (h : ∀ a, g a = s.heap.get? a) : obsM n fa fn ex g = (hookM n fa fn ex vl hv).obs s := by
  have e : g = s.heap.get? := funext h
  rw [e] <;> rfl
/-- a tuple that stands at an address -/
def tupA (K : PySem.W.Frag) (a : Addr) (vs : List Dv) : Bool := match K.lookup a with
  | some ⟨.type c, _, .seq its _, _⟩ => decide (c = "tuple") && (decide (its.size ≤ sizeLine) && relAll (vs.map (Dv.v K)) its.toList)
  | _ => false
theorem tupA_ok {K : PySem.W.Frag} {a : Addr} {vs : List Dv} (h : tupA K a vs = true) (H : Hp) : SqT K H a (vs.map (Dv.v K)) := by
  unfold tupA at h
  cases q : K.lookup a with
  | none =>
    rw [q] at h
    cases h
  | some o =>
    obtain ⟨oc, od, dt, osl⟩ := o
    rw [q] at h
    cases oc with
    | type c =>
      cases dt with
      | seq its n =>
        obtain ⟨h1, h2⟩ := ba (show (decide (c = "tuple") && (decide (its.size ≤ sizeLine) && relAll (vs.map (Dv.v K)) its.toList)) = true from h)
        obtain ⟨h3, h4⟩ := ba h2
        exact .inr ⟨_, its, n, q, congrArg Value.type (of_decide_eq_true h1), rfl, of_decide_eq_true h3, relAll_ok h4⟩
      | _ => cases h
    | _ => cases dt <;> cases h
/-! ### small helps for the printed texts -/
def strIn (f : Str) : List Str → Bool
  | [] => false
  | x :: r => match sEq f x with
    | true => true
    | false => strIn f r
theorem strIn_ok {f : Str} : ∀ {l : List Str}, strIn f l = true → f ∈ l
  | [], h => nomatch h
  | x :: r, h => by
    have h2 : (match sEq f x with | true => true | false => strIn f r) = true := h
    cases q : sEq f x with
    | true => rw [sEq_iff.mp q]; exact List.mem_cons_self
    | false => rw [q] at h2; exact List.mem_cons_of_mem _ (strIn_ok h2)
theorem hu64 {k : Nat} {A : Around} (r : Room k A) : A.units + 64 < cLine := by have := r.un; omega
theorem hu1 {k : Nat} {A : Around} (r : Room k A) : A.units + 1 < cLine := by have := r.un; omega
theorem mem_nil {α : Type} {P : α → Prop} : ∀ f ∈ ([] : List α), P f := fun _ h => nomatch h
theorem mem_cons {α : Type} {P : α → Prop} {a : α} {l : List α} (h : P a) (h' : ∀ f ∈ l, P f) : ∀ f ∈ a :: l, P f := fun f hf => by
  rcases List.mem_cons.mp hf with e | e
  · rw [e]; exact h
  · exact h' f e
def mDeadE : ME := fun _ _ => bad
def mDeadS : MS := fun _ _ _ => false
theorem e_dead {γ : Nat → Addr} {W : WX} {X : Cx} {e : Expr} : SE γ W X e mDeadE := se_dead
theorem s_dead {γ : Nat → Addr} {W : WX} {X : Cx} {s : Stmt} : SS γ W X s mDeadS := ss_dead
theorem ss_dead2 {γ : Nat → Addr} {W : WX} {X : Cx} {s : List Stmt} : SSs γ W X s mDeadS := sss_dead
theorem t_dead {γ : Nat → Addr} {W : WX} {X : Cx} {e : Expr} : ST γ W X e (fun _ _ => bad) := ⟨fun _ _ _ => False, ⟨fun _ _ _ _ _ _ h => h.elim⟩, fun _ _ _ _ _ _ _ => SimAt.bad⟩
def mDeadT : MT := fun _ _ => bad
def fIx (g : GT) : U → U → VS → Go U := fOr2 (fIxS g) fIxD
theorem o_ix {γ : Nat → Addr} {W : WX} {X : Cx} {g : GT} (G : GOk X.K γ g) (hu : X.A.units + 1 < cLine) : Ix2 X γ W (fIx g) := (o_ixS G).or (o_ixD hu)
def fLen (g : GT) : List U → VS → Go U := fOrL (f1 (fLenS g)) (f1 fLenD)
theorem cb_len {γ : Nat → Addr} {W : WX} {X : Cx} {g : GT} (G : GOk X.K γ g) : Cb X γ W (.builtin "len") (fLen g) := (cb_lenS G).or cb_lenD
theorem se_negc {γ : Nat → Addr} {W : WX} {X : Cx} {i : Int} {j : Nat} {p pos : Pos} : SE γ W X (.UnaryOp .USub (.Constant (.int i) j p) pos) (mC (.int (-i))) := ⟨_, pe_un un_neg pe_int, fun ρ st H σ τ R F κ Q hm ok ex => ⟨i, rfl, ok.here (u := .int (-i)) R rfl hm⟩⟩
/-- the empty virtual heap -/
def vs0 : VS := ⟨.nil, 0⟩
theorem rep0 {γ : Nat → Addr} {H : Hp} : Rep γ [] vs0 H := ⟨rfl, List.nodup_nil, fun _ h => (nomatch h), fun i o e => by
  have : vs0.get i = none := getF_nil (i + 1) i
  rw [this] at e; cases e⟩
end MV

namespace C69
open PySem PySem.Spec PyProof.Rows L2 MV
def top (i : Nat) : Stmt := PySem.Challenge.pw_copymemos_k69_tuples_in_cycles_by_hand.main.body.getD i (.Pass ⟨0, 0, 0, 0⟩)
abbrev R : PySem.W.OpenRow := PySem.W.OpenLaw.row PySem.Challenge.rw_copymemos_k69_tuples_in_cycles_by_hand
def d0 : He.DefD := ⟨("_law_ring_right", none), "_law_ring_right", "_law_ring_right", defArgs (top 35), defBody (top 35), defScope (top 35), [], []⟩
def d1 : He.DefD := ⟨("Heap", some "__init__"), "__init__", "Heap.__init__", defArgs (inClass (top 32) 0), defBody (inClass (top 32) 0), defScope (inClass (top 32) 0), [], []⟩
def d2 : He.DefD := ⟨("Heap", some "make"), "make", "Heap.make", defArgs (inClass (top 32) 12), defBody (inClass (top 32) 12), defScope (inClass (top 32) 12), [], []⟩
def d3 : He.DefD := ⟨("Heap", some "need_value"), "need_value", "Heap.need_value", defArgs (inClass (top 32) 6), defBody (inClass (top 32) 6), defScope (inClass (top 32) 6), [], []⟩
def d4 : He.DefD := ⟨("Heap", some "is_value"), "is_value", "Heap.is_value", defArgs (inClass (top 32) 5), defBody (inClass (top 32) 5), defScope (inClass (top 32) 5), [], []⟩
def d5 : He.DefD := ⟨("Heap", some "is_cell"), "is_cell", "Heap.is_cell", defArgs (inClass (top 32) 4), defBody (inClass (top 32) 4), defScope (inClass (top 32) 4), [], []⟩
def d6 : He.DefD := ⟨("is_integer", none), "is_integer", "is_integer", defArgs (top 16), defBody (top 16), defScope (top 16), [], []⟩
def d7 : He.DefD := ⟨("is_atom", none), "is_atom", "is_atom", defArgs (top 18), defBody (top 18), defScope (top 18), [], []⟩
def d8 : He.DefD := ⟨("is_word", none), "is_word", "is_word", defArgs (top 17), defBody (top 17), defScope (top 17), [], []⟩
def d9 : He.DefD := ⟨("Heap", some "new_cell"), "new_cell", "Heap.new_cell", defArgs (inClass (top 32) 8), defBody (inClass (top 32) 8), defScope (inClass (top 32) 8), [.non, .adr (He.dflAt ("Heap", some "new_cell") 1)], []⟩
def d10 : He.DefD := ⟨("without_repetitions", none), "without_repetitions", "without_repetitions", defArgs (top 31), defBody (top 31), defScope (top 31), [], []⟩
def d11 : He.DefD := ⟨("Cell", some "__init__"), "__init__", "Cell.__init__", defArgs (inClass (top 29) 0), defBody (inClass (top 29) 0), defScope (inClass (top 29) 0), [], []⟩
def d12 : He.DefD := ⟨("Heap", some "add"), "add", "Heap.add", defArgs (inClass (top 32) 21), defBody (inClass (top 32) 21), defScope (inClass (top 32) 21), [], []⟩
def d13 : He.DefD := ⟨("Heap", some "need_changeable"), "need_changeable", "Heap.need_changeable", defArgs (inClass (top 32) 18), defBody (inClass (top 32) 18), defScope (inClass (top 32) 18), [], []⟩
def d14 : He.DefD := ⟨("Heap", some "cell_of"), "cell_of", "Heap.cell_of", defArgs (inClass (top 32) 7), defBody (inClass (top 32) 7), defScope (inClass (top 32) 7), [], []⟩
def d15 : He.DefD := ⟨("Heap", some "append_to"), "append_to", "Heap.append_to", defArgs (inClass (top 32) 9), defBody (inClass (top 32) 9), defScope (inClass (top 32) 9), [], []⟩
def d16 : He.DefD := ⟨("Copying", some "__init__"), "__init__", "Copying.__init__", defArgs (inClass (top 25) 0), defBody (inClass (top 25) 0), defScope (inClass (top 25) 0), [], [("memo", .non)]⟩
def d17 : He.DefD := ⟨("Memo", some "__init__"), "__init__", "Memo.__init__", defArgs (inClass (top 20) 0), defBody (inClass (top 20) 0), defScope (inClass (top 20) 0), [], []⟩
def d18 : He.DefD := ⟨("Heap", some "new_entries"), "new_entries", "Heap.new_entries", defArgs (inClass (top 32) 3), defBody (inClass (top 32) 3), defScope (inClass (top 32) 3), [], []⟩
def d19 : He.DefD := ⟨("Entries", some "__init__"), "__init__", "Entries.__init__", defArgs (inClass (top 30) 0), defBody (inClass (top 30) 0), defScope (inClass (top 30) 0), [], []⟩
def d20 : He.DefD := ⟨("Memo", some "is_in_use"), "is_in_use", "Memo.is_in_use", defArgs (inClass (top 20) 6), defBody (inClass (top 20) 6), defScope (inClass (top 20) 6), [], []⟩
def d21 : He.DefD := ⟨("Heap", some "__contains__"), "__contains__", "Heap.__contains__", defArgs (inClass (top 32) 2), defBody (inClass (top 32) 2), defScope (inClass (top 32) 2), [], []⟩
def d22 : He.DefD := ⟨("Memo", some "set_use"), "set_use", "Memo.set_use", defArgs (inClass (top 20) 7), defBody (inClass (top 20) 7), defScope (inClass (top 20) 7), [], []⟩
def d23 : He.DefD := ⟨("Heap", some "parts"), "parts", "Heap.parts", defArgs (inClass (top 32) 17), defBody (inClass (top 32) 17), defScope (inClass (top 32) 17), [], []⟩
def d24 : He.DefD := ⟨("Heap", some "steps_and_values"), "steps_and_values", "Heap.steps_and_values", defArgs (inClass (top 32) 11), defBody (inClass (top 32) 11), defScope (inClass (top 32) 11), [], []⟩
def d25 : He.DefD := ⟨("Copying", some "finish"), "finish", "Copying.finish", defArgs (inClass (top 25) 7), defBody (inClass (top 25) 7), defScope (inClass (top 25) 7), [], []⟩
def d26 : He.DefD := ⟨("Copying", some "step"), "step", "Copying.step", defArgs (inClass (top 25) 5), defBody (inClass (top 25) 5), defScope (inClass (top 25) 5), [], []⟩
def d27 : He.DefD := ⟨("Copying", some "begin"), "begin", "Copying.begin", defArgs (inClass (top 25) 8), defBody (inClass (top 25) 8), defScope (inClass (top 25) 8), [], []⟩
def d28 : He.DefD := ⟨("Memo", some "__contains__"), "__contains__", "Memo.__contains__", defArgs (inClass (top 20) 1), defBody (inClass (top 20) 1), defScope (inClass (top 20) 1), [], []⟩
def d29 : He.DefD := ⟨("Memo", some "__getitem__"), "__getitem__", "Memo.__getitem__", defArgs (inClass (top 20) 2), defBody (inClass (top 20) 2), defScope (inClass (top 20) 2), [], []⟩
def d30 : He.DefD := ⟨("Copying", some "deliver"), "deliver", "Copying.deliver", defArgs (inClass (top 25) 10), defBody (inClass (top 25) 10), defScope (inClass (top 25) 10), [], []⟩
def d31 : He.DefD := ⟨("Copying", some "be_over"), "be_over", "Copying.be_over", defArgs (inClass (top 25) 6), defBody (inClass (top 25) 6), defScope (inClass (top 25) 6), [], []⟩
def d32 : He.DefD := ⟨("attach", none), "attach", "attach", defArgs (top 23), defBody (top 23), defScope (top 23), [], []⟩
def d33 : He.DefD := ⟨("Heap", some "kind"), "kind", "Heap.kind", defArgs (inClass (top 32) 15), defBody (inClass (top 32) 15), defScope (inClass (top 32) 15), [], []⟩
def d34 : He.DefD := ⟨("Memo", some "__len__"), "__len__", "Memo.__len__", defArgs (inClass (top 20) 4), defBody (inClass (top 20) 4), defScope (inClass (top 20) 4), [], []⟩
def d35 : He.DefD := ⟨("Frame", some "__init__"), "__init__", "Frame.__init__", defArgs (inClass (top 24) 0), defBody (inClass (top 24) 0), defScope (inClass (top 24) 0), [], []⟩
def d36 : He.DefD := ⟨("Copying", some "go_on"), "go_on", "Copying.go_on", defArgs (inClass (top 25) 14), defBody (inClass (top 25) 14), defScope (inClass (top 25) 14), [], []⟩
def d37 : He.DefD := ⟨("Copying", some "go_on_values"), "go_on_values", "Copying.go_on_values", defArgs (inClass (top 25) 15), defBody (inClass (top 25) 15), defScope (inClass (top 25) 15), [], []⟩
def d38 : He.DefD := ⟨("Copying", some "read"), "read", "Copying.read", defArgs (inClass (top 25) 11), defBody (inClass (top 25) 11), defScope (inClass (top 25) 11), [], []⟩
def d39 : He.DefD := ⟨("Copying", some "end"), "end", "Copying.end", defArgs (inClass (top 25) 13), defBody (inClass (top 25) 13), defScope (inClass (top 25) 13), [], []⟩
def d40 : He.DefD := ⟨("Memo", some "end_half"), "end_half", "Memo.end_half", defArgs (inClass (top 20) 10), defBody (inClass (top 20) 10), defScope (inClass (top 20) 10), [], []⟩
def d41 : He.DefD := ⟨("Copying", some "close"), "close", "Copying.close", defArgs (inClass (top 25) 12), defBody (inClass (top 25) 12), defScope (inClass (top 25) 12), [], []⟩
def d42 : He.DefD := ⟨("Copying", some "end_fixed"), "end_fixed", "Copying.end_fixed", defArgs (inClass (top 25) 17), defBody (inClass (top 25) 17), defScope (inClass (top 25) 17), [], []⟩
def d43 : He.DefD := ⟨("Memo", some "enter_for"), "enter_for", "Memo.enter_for", defArgs (inClass (top 20) 8), defBody (inClass (top 20) 8), defScope (inClass (top 20) 8), [], []⟩
def d44 : He.DefD := ⟨("Copying", some "enter"), "enter", "Copying.enter", defArgs (inClass (top 25) 9), defBody (inClass (top 25) 9), defScope (inClass (top 25) 9), [], []⟩
def d45 : He.DefD := ⟨("Memo", some "begin_half"), "begin_half", "Memo.begin_half", defArgs (inClass (top 20) 9), defBody (inClass (top 20) 9), defScope (inClass (top 20) 9), [], []⟩
def d46 : He.DefD := ⟨("Heap", some "__len__"), "__len__", "Heap.__len__", defArgs (inClass (top 32) 1), defBody (inClass (top 32) 1), defScope (inClass (top 32) 1), [], []⟩
def d47 : He.DefD := ⟨("_law_words", none), "_law_words", "_law_words", defArgs (top 34), defBody (top 34), defScope (top 34), [], []⟩
def d48 : He.DefD := ⟨("Copying", some "trace"), "trace", "Copying.trace", defArgs (inClass (top 25) 4), defBody (inClass (top 25) 4), defScope (inClass (top 25) 4), [], []⟩
def d49 : He.DefD := ⟨("_law_from_inside_right", none), "_law_from_inside_right", "_law_from_inside_right", defArgs (top 36), defBody (top 36), defScope (top 36), [], []⟩
def d50 : He.DefD := ⟨("_law_kept_right", none), "_law_kept_right", "_law_kept_right", defArgs (top 37), defBody (top 37), defScope (top 37), [], []⟩
def d51 : He.DefD := ⟨("Memo", some "entries"), "entries", "Memo.entries", defArgs (inClass (top 20) 11), defBody (inClass (top 20) 11), defScope (inClass (top 20) 11), [], []⟩
def d52 : He.DefD := ⟨("law", none), "law", "law", defArgs (top 38), defBody (top 38), defScope (top 38), [], []⟩
def fn : List He.DefD := [d0, d1, d2, d3, d4, d5, d6, d7, d8, d9, d10, d11, d12, d13, d14, d15, d16, d17, d18, d19, d20, d21, d22, d23, d24, d25, d26, d27, d28, d29, d30, d31, d32, d33, d34, d35, d36, d37, d38, d39, d40, d41, d42, d43, d44, d45, d46, d47, d48, d49, d50, d51, d52]
def gm (K : PySem.W.Frag) : Nat → Addr := fun k => match k with
  | 0 => He.ga K "Heap"
  | 1 => He.ga K "ROWS"
  | 2 => He.ga K "SINGLE"
  | 3 => He.ga K "Cell"
  | 4 => He.ga K "Entries"
  | 5 => He.ga K "Memo"
  | 6 => He.ga K "Copying"
  | 7 => He.ga K "Frame"
  | 8 => He.ga K "FIXED"
  | 9 => He.dflAt ("Heap", some "new_cell") 1 K
  | _ => 0
def g0 : GT where
  seq := fun k => match k with
    | 1 => some (true, [.str "list", .str "tuple", .str "set", .str "frozen"])
    | 2 => some (true, [.str "set", .str "frozen"])
    | 8 => some (true, [.str "tuple", .str "frozen"])
    | 9 => some (true, [])
    | _ => none
  fld := fun c f => match c with
    | 0 => strIn f ["shapes", "cells", "memos"]
    | 3 => strIn f ["family", "design", "held"]
    | 4 => strIn f ["entered", "open_copies", "is_busy"]
    | 5 => strIn f ["heap", "number"]
    | 6 => strIn f ["heap", "own_memo", "stack", "written", "coming", "found", "ended"]
    | 7 => strIn f ["of_cell", "size", "copy", "at", "place", "ahead", "gathered", "kept_back"]
    | _ => false
def ex0 (K : PySem.W.Frag) : Bool := tupA K (gm K 1) [.str "list", .str "tuple", .str "set", .str "frozen"]
def ex1 (K : PySem.W.Frag) : Bool := tupA K (gm K 2) [.str "set", .str "frozen"]
def ex2 (K : PySem.W.Frag) : Bool := tupA K (gm K 8) [.str "tuple", .str "frozen"]
def ex3 (K : PySem.W.Frag) : Bool := tupA K (gm K 9) []
def ex4 (K : PySem.W.Frag) : Bool := PySem.W.fnIn K (He.ma K (He.ga K "Memo") "__getitem__")
def exB (K : PySem.W.Frag) : Bool := (ex0 K && (ex1 K && (ex2 K && (ex3 K && (ex4 K && true)))))
def fa : List He.Fa := [.mkr "Heap", .glo "Heap", .glo "ROWS", .free "isinstance", .free "str", .free "len", .free "bool", .free "int", .glo "is_integer", .cls "Heap", .meth "Heap" "is_cell", .str "LETTERS" "abcdefghijklmnopqrstuvwxyz", .free "all", .int "MOST_LETTERS" 6, .glo "is_word", .glo "is_atom", .meth "Heap" "is_value", .meth "Heap" "need_value", .glo "SINGLE", .glo "without_repetitions", .free "list", .mkr "Cell", .glo "Cell", .meth "Heap" "new_cell", .meth "Heap" "make", .meth "Heap" "cell_of", .meth "Heap" "need_changeable", .meth "Heap" "append_to", .meth "Heap" "add", .mkr "Entries", .glo "Entries", .meth "Heap" "new_entries", .mkr "Memo", .glo "Memo", .cls "Memo", .meth "Memo" "is_in_use", .meth "Heap" "__contains__", .meth "Memo" "set_use", .mkr "Copying", .glo "Copying", .free "enumerate", .meth "Heap" "steps_and_values", .meth "Heap" "parts", .meth "Memo" "__contains__", .meth "Memo" "__getitem__", .cls "Copying", .meth "Copying" "be_over", .meth "Heap" "kind", .glo "attach", .meth "Copying" "deliver", .meth "Memo" "__len__", .free "any", .mkr "Frame", .glo "Frame", .glo "FIXED", .meth "Copying" "read", .meth "Memo" "end_half", .meth "Copying" "close", .meth "Copying" "end", .meth "Memo" "enter_for", .meth "Copying" "end_fixed", .meth "Copying" "go_on_values", .meth "Copying" "go_on", .meth "Memo" "begin_half", .meth "Copying" "enter", .meth "Copying" "begin", .meth "Copying" "step", .meth "Copying" "finish", .meth "Heap" "__len__", .meth "Copying" "trace", .glo "_law_words", .free "range", .meth "Memo" "entries", .glo "_law_kept_right", .glo "_law_from_inside_right", .glo "_law_ring_right", .free "abs", .free "sum", .glo "law", .noat "Heap" "memos", .noat "Heap" "cells", .noat "Heap" "shapes", .cls "Cell", .noat "Cell" "held", .noat "Cell" "design", .noat "Cell" "family", .cls "Entries", .noat "Entries" "is_busy", .noat "Entries" "open_copies", .noat "Entries" "entered", .noat "Memo" "number", .noat "Memo" "heap", .noat "Copying" "ended", .noat "Copying" "found", .noat "Copying" "coming", .noat "Copying" "written", .noat "Copying" "stack", .noat "Copying" "own_memo", .noat "Copying" "heap", .cls "Frame", .noat "Frame" "kept_back", .noat "Frame" "gathered", .noat "Frame" "ahead", .noat "Frame" "place", .noat "Frame" "at", .noat "Frame" "copy", .noat "Frame" "size", .noat "Frame" "of_cell"]
structure Bd (K : PySem.W.Frag) (h : Heap) (mg : Str → Option Value) : Prop where
  X : K.In h
  G : h.Ns mainGlobals mg
  c : He.SaysD fa fn K
  e : exB K = true
section
variable {P : Program} {w : World} {K : PySem.W.Frag} {mg : Str → Option Value} {base hh : Heap}
theorem exOk0 (B : Bd K hh mg) : ex0 K = true := (He.ba B.e).1
theorem exOk1 (B : Bd K hh mg) : ex1 K = true := (He.ba (He.ba B.e).2).1
theorem exOk2 (B : Bd K hh mg) : ex2 K = true := (He.ba (He.ba (He.ba B.e).2).2).1
theorem exOk3 (B : Bd K hh mg) : ex3 K = true := (He.ba (He.ba (He.ba (He.ba B.e).2).2).2).1
theorem exOk4 (B : Bd K hh mg) : ex4 K = true := (He.ba (He.ba (He.ba (He.ba (He.ba B.e).2).2).2).2).1
theorem fnin_Memo__getitem__ (B : Bd K hh mg) : PySem.W.fnIn K (He.ma K (He.ga K "Memo") "__getitem__") = true := exOk4 B
theorem gok (B : Bd K hh mg) : GOk K (gm K) g0 where
  seq := fun k b xs e => match k, e with
    | 1, e => by cases e; exact ⟨_, (.cons rfl (.cons rfl (.cons rfl (.cons rfl .nil)))), fun H => tupA_ok (exOk0 B) H⟩
    | 2, e => by cases e; exact ⟨_, (.cons rfl (.cons rfl .nil)), fun H => tupA_ok (exOk1 B) H⟩
    | 8, e => by cases e; exact ⟨_, (.cons rfl (.cons rfl .nil)), fun H => tupA_ok (exOk2 B) H⟩
    | 9, e => by cases e; exact ⟨_, .nil, fun H => tupA_ok (exOk3 B) H⟩
    | n + 10, e => (nomatch e)
    | 0, e => (nomatch e)
    | 3, e => (nomatch e)
    | 4, e => (nomatch e)
    | 5, e => (nomatch e)
    | 6, e => (nomatch e)
    | 7, e => (nomatch e)
  fld := fun c f h => match c, f, h with
    | 0, f, h => ⟨He.cls_ok (B.c.fact 9 rfl), (mem_cons (He.noat_ok (B.c.fact 81 rfl)) (mem_cons (He.noat_ok (B.c.fact 80 rfl)) (mem_cons (He.noat_ok (B.c.fact 79 rfl)) mem_nil))) f (strIn_ok h)⟩
    | 3, f, h => ⟨He.cls_ok (B.c.fact 82 rfl), (mem_cons (He.noat_ok (B.c.fact 85 rfl)) (mem_cons (He.noat_ok (B.c.fact 84 rfl)) (mem_cons (He.noat_ok (B.c.fact 83 rfl)) mem_nil))) f (strIn_ok h)⟩
    | 4, f, h => ⟨He.cls_ok (B.c.fact 86 rfl), (mem_cons (He.noat_ok (B.c.fact 89 rfl)) (mem_cons (He.noat_ok (B.c.fact 88 rfl)) (mem_cons (He.noat_ok (B.c.fact 87 rfl)) mem_nil))) f (strIn_ok h)⟩
    | 5, f, h => ⟨He.cls_ok (B.c.fact 34 rfl), (mem_cons (He.noat_ok (B.c.fact 91 rfl)) (mem_cons (He.noat_ok (B.c.fact 90 rfl)) mem_nil)) f (strIn_ok h)⟩
    | 6, f, h => ⟨He.cls_ok (B.c.fact 45 rfl), (mem_cons (He.noat_ok (B.c.fact 98 rfl)) (mem_cons (He.noat_ok (B.c.fact 97 rfl)) (mem_cons (He.noat_ok (B.c.fact 96 rfl)) (mem_cons (He.noat_ok (B.c.fact 95 rfl)) (mem_cons (He.noat_ok (B.c.fact 94 rfl)) (mem_cons (He.noat_ok (B.c.fact 93 rfl)) (mem_cons (He.noat_ok (B.c.fact 92 rfl)) mem_nil))))))) f (strIn_ok h)⟩
    | 7, f, h => ⟨He.cls_ok (B.c.fact 99 rfl), (mem_cons (He.noat_ok (B.c.fact 107 rfl)) (mem_cons (He.noat_ok (B.c.fact 106 rfl)) (mem_cons (He.noat_ok (B.c.fact 105 rfl)) (mem_cons (He.noat_ok (B.c.fact 104 rfl)) (mem_cons (He.noat_ok (B.c.fact 103 rfl)) (mem_cons (He.noat_ok (B.c.fact 102 rfl)) (mem_cons (He.noat_ok (B.c.fact 101 rfl)) (mem_cons (He.noat_ok (B.c.fact 100 rfl)) mem_nil)))))))) f (strIn_ok h)⟩
    | 1, f, h => (nomatch h)
    | 2, f, h => (nomatch h)
    | 8, f, h => (nomatch h)
    | 9, f, h => (nomatch h)
    | n + 10, f, h => (nomatch h)
/-! ### Heap.__init__ -/
theorem sc1 : FnScope ["self", "shapes", "shape"] ["self", "shapes"] (defScope (inClass (top 32) 0)) := ⟨rfl, rfl, rfl, by decide +kernel, rfl, by decide +kernel, by decide +kernel⟩
def m1 : MS := (mSeq (mSetF g0 "shapes" (mVar 0) (mDc g0 300 [2] (miAny g0 (mVar 1)) (mgName 2) mYes (mFld g0 "name" (mVar 2)) (mVar 2))) (mSeq (mSetF g0 "cells" (mVar 0) (mLst mNil)) (mSetF g0 "memos" (mVar 0) (mLst mNil))))
theorem b1 (B : Bd K hh mg) (cdv : Value) (A : Around) (outer : List Env) (s : Shared) (H : Hp) (hr : Room 0 (A.deeper (envOfC "Heap.__init__" (defScope (inClass (top 32) 0)) s.heap.objs.size (He.fAd K ("Heap", some "__init__")) cdv))) : SSs (gm K) W0 (cxOf CX0 P w K mg base ["self", "shapes", "shape"] "Heap.__init__" (defScope (inClass (top 32) 0)) (He.fAd K ("Heap", some "__init__")) cdv A outer s H E0).nox (defBody (inClass (top 32) 0)) m1 := by
  have G : GOk K (gm K) g0 := gok B
  exact (sss_cons (ss_setF G (se_var 0) (se_dc (own := [("shape", 2)]) 300 rfl sc1.nd (si_any G (se_var 1)) (show BlkOk ["self", "shapes", "shape"] (defScope (inClass (top 32) 0)) _ [("shape", 2)] from ⟨rfl, by decide +kernel, by decide +kernel, by decide +kernel, by decide +kernel⟩) (fun _ _ _ _ _ => (sg_name sc1.nd)) (fun _ _ _ _ _ => pts_nilM) (fun _ _ _ _ _ => (se_fld G (se_var 2))) (fun _ _ _ _ _ => (se_var 2)))) (sss_cons (ss_setF G (se_var 0) (se_lst sa_nil)) (sss_one (ss_setF G (se_var 0) (se_lst sa_nil)))))
theorem kp1 (B : Bd K hh mg) : PySem.W.keepIn K (.ref (He.fAd K ("Heap", some "__init__"))) = true := by obtain ⟨fd, F⟩ := B.c.def_ 1 (d := d1) rfl; exact F.kp
def fs1_1 : MF := mfStar 1 (mDef 2 1 m1)
theorem rs1_1 (B : Bd K hh mg) : FnR P w K mg base CX0 1 (He.fAd K ("Heap", some "__init__")) (SpM (gm K) 1 fs1_1) := by
  obtain ⟨fd, F⟩ := B.c.def_ 1 (d := d1) rfl
  exact fn_starM (ps := ["self"]) (pv := "shapes") F sc1 rfl rfl (by decide) (fun _ _ _ _ _ _ us rest hl => match us, rest, hl with | [_], [], _ => rfl | [_], _ :: _, _ => rfl) (fun cdv A outer s H hr => b1 B cdv A outer s H hr)
/-! ### is_integer -/
theorem sc6 : FnScope ["thing"] ["thing"] (defScope (top 16)) := ⟨rfl, rfl, rfl, by decide +kernel, rfl, by decide +kernel, by decide +kernel⟩
def m6 : MS := (mRet (mAndV (mIsi isInt (mVar 0)) (mNotV (mIsi isBool (mVar 0)))))
theorem b6 (B : Bd K hh mg) (cdv : Value) (A : Around) (outer : List Env) (s : Shared) (H : Hp) (hr : Room 0 (A.deeper (envOfC "is_integer" (defScope (top 16)) s.heap.objs.size (He.fAd K ("is_integer", none)) cdv))) : SSs (gm K) W0 (cxOf CX0 P w K mg base ["thing"] "is_integer" (defScope (top 16)) (He.fAd K ("is_integer", none)) cdv A outer s H E0).nox (defBody (top 16)) m6 := by
  have G : GOk K (gm K) g0 := gok B
  exact (sss_one (ss_ret (se_and (se_isi (isInt_ok K) (se_var 0) (He.free_ok B.X B.G (B.c.fact 3 rfl)) (He.free_ok B.X B.G (B.c.fact 7 rfl)) rfl) (se_one (se_not (se_isi (isBool_ok K) (se_var 0) (He.free_ok B.X B.G (B.c.fact 3 rfl)) (He.free_ok B.X B.G (B.c.fact 6 rfl)) rfl))))))
theorem kp6 (B : Bd K hh mg) : PySem.W.keepIn K (.ref (He.fAd K ("is_integer", none))) = true := by obtain ⟨fd, F⟩ := B.c.def_ 6 (d := d6) rfl; exact F.kp
def f6 : MF := mDef 1 0 m6
theorem o6 (B : Bd K hh mg) : ∃ fd, FnOk P w K mg base CX0 1 (He.fAd K ("is_integer", none)) fd ["thing"] (SpM (gm K) 1 f6) ∧ FunD K d6.name d6.qual d6.params d6.body d6.scope (d6.dvs K) (d6.kws K) (He.fAd K ("is_integer", none)) fd := by
  obtain ⟨fd, F⟩ := B.c.def_ 6 (d := d6) rfl
  exact ⟨fd, fn_okM (ps := ["thing"]) F sc6 rfl rfl (fun cdv A outer s H hr => b6 B cdv A outer s H hr), F⟩
theorem r6 (B : Bd K hh mg) : FnR P w K mg base CX0 1 (He.fAd K ("is_integer", none)) (SpM (gm K) 1 f6) := by
  obtain ⟨fd, F, D⟩ := o6 (P := P) (w := w) (base := base) B
  exact fnM_all F (FunD.bindsN (ps := ["thing"]) D fun _ _ _ _ _ _ us hl => match us, hl with | [_], _ => rfl)
/-! ### Heap.is_cell -/
theorem sc5 : FnScope ["self", "thing"] ["self", "thing"] (defScope (inClass (top 32) 4)) := ⟨rfl, rfl, rfl, by decide +kernel, rfl, by decide +kernel, by decide +kernel⟩
def m5 : MS := (mRet (mAndV (mCall f6 1 (mCons (mVar 1) mNil)) (mChain fLe fLt (mC (.int 0)) (mVar 1) (mCb (fLen g0) (mCons (mFld g0 "cells" (mVar 0)) mNil)))))
theorem b5 (B : Bd K hh mg) (cdv : Value) (A : Around) (outer : List Env) (s : Shared) (H : Hp) (hr : Room 1 (A.deeper (envOfC "Heap.is_cell" (defScope (inClass (top 32) 4)) s.heap.objs.size (He.fAd K ("Heap", some "is_cell")) cdv))) : SSs (gm K) W0 (cxOf CX0 P w K mg base ["self", "thing"] "Heap.is_cell" (defScope (inClass (top 32) 4)) (He.fAd K ("Heap", some "is_cell")) cdv A outer s H E0).nox (defBody (inClass (top 32) 4)) m5 := by
  have G : GOk K (gm K) g0 := gok B
  exact (sss_one (ss_ret (se_and (se_call (r6 B) (hr.mono (by decide)) (He.glo_ok B.X B.G (B.c.fact 8 rfl)) (kp6 B) (sa_cons (se_var 1) sa_nil)) (se_one (se_chain2 o_le o_lt se_int (se_var 1) (se_callB (id := "len") (cb_len G) (He.free_ok B.X B.G (B.c.fact 5 rfl)) rfl (sa_cons (se_fld G (se_var 0)) sa_nil)))))))
theorem kp5 (B : Bd K hh mg) : PySem.W.keepIn K (.ref (He.fAd K ("Heap", some "is_cell"))) = true := by obtain ⟨fd, F⟩ := B.c.def_ 5 (d := d5) rfl; exact F.kp
def f5 : MF := mDef 2 0 m5
theorem o5 (B : Bd K hh mg) : ∃ fd, FnOk P w K mg base CX0 2 (He.fAd K ("Heap", some "is_cell")) fd ["self", "thing"] (SpM (gm K) 2 f5) ∧ FunD K d5.name d5.qual d5.params d5.body d5.scope (d5.dvs K) (d5.kws K) (He.fAd K ("Heap", some "is_cell")) fd := by
  obtain ⟨fd, F⟩ := B.c.def_ 5 (d := d5) rfl
  exact ⟨fd, fn_okM (ps := ["self", "thing"]) F sc5 rfl rfl (fun cdv A outer s H hr => b5 B cdv A outer s H hr), F⟩
theorem r5 (B : Bd K hh mg) : FnR P w K mg base CX0 2 (He.fAd K ("Heap", some "is_cell")) (SpM (gm K) 2 f5) := by
  obtain ⟨fd, F, D⟩ := o5 (P := P) (w := w) (base := base) B
  exact fnM_all F (FunD.bindsN (ps := ["self", "thing"]) D fun _ _ _ _ _ _ us hl => match us, hl with | [_, _], _ => rfl)
/-! ### is_word -/
theorem sc8 : FnScope ["thing", "sign"] ["thing"] (defScope (top 17)) := ⟨rfl, rfl, rfl, by decide +kernel, rfl, by decide +kernel, by decide +kernel⟩
def m8 : MS := (mRet (mAndV (mIsi isStr (mVar 0)) (mAndV (mChain fLe fLe (mC (.int 1)) (mCb (fLen g0) (mCons (mVar 0) mNil)) (mC (.int 6))) (mCb (f1 (fBls g0 allT)) (mCons (mLc g0 300 [1] (miAny g0 (mVar 0)) (mgName 1) mYes (mBin (fIn g0 false) (mVar 1) (mC (.str "abcdefghijklmnopqrstuvwxyz")))) mNil)))))
theorem b8 (B : Bd K hh mg) (cdv : Value) (A : Around) (outer : List Env) (s : Shared) (H : Hp) (hr : Room 0 (A.deeper (envOfC "is_word" (defScope (top 17)) s.heap.objs.size (He.fAd K ("is_word", none)) cdv))) : SSs (gm K) W0 (cxOf CX0 P w K mg base ["thing", "sign"] "is_word" (defScope (top 17)) (He.fAd K ("is_word", none)) cdv A outer s H E0).nox (defBody (top 17)) m8 := by
  have G : GOk K (gm K) g0 := gok B
  exact (sss_one (ss_ret (se_and (se_isi (isStr_ok K) (se_var 0) (He.free_ok B.X B.G (B.c.fact 3 rfl)) (He.free_ok B.X B.G (B.c.fact 4 rfl)) rfl) (se_and (se_chain2 o_le o_le se_int (se_callB (id := "len") (cb_len G) (He.free_ok B.X B.G (B.c.fact 5 rfl)) rfl (sa_cons (se_var 0) sa_nil)) (se_gint (He.int_ok B.X B.G (B.c.fact 13 rfl)))) (se_one (se_callB (id := "all") (cb_all G rfl) (He.free_ok B.X B.G (B.c.fact 12 rfl)) rfl (sa_cons (se_lc (own := [("sign", 1)]) 300 rfl sc8.nd (si_any G (se_var 0)) (show BlkOk ["thing", "sign"] (defScope (top 17)) _ [("sign", 1)] from ⟨rfl, by decide +kernel, by decide +kernel, by decide +kernel, by decide +kernel⟩) (fun _ _ _ _ _ => (sg_name sc8.nd)) (fun _ _ _ _ _ => pts_nilM) (fun _ _ _ _ _ => (se_cmp2 (o_in G (hu1 hr)) (se_var 1) (se_gstr (He.str_ok B.X B.G (B.c.fact 11 rfl)))))) sa_nil)))))))
theorem kp8 (B : Bd K hh mg) : PySem.W.keepIn K (.ref (He.fAd K ("is_word", none))) = true := by obtain ⟨fd, F⟩ := B.c.def_ 8 (d := d8) rfl; exact F.kp
def f8 : MF := mDef 1 1 m8
theorem o8 (B : Bd K hh mg) : ∃ fd, FnOk P w K mg base CX0 1 (He.fAd K ("is_word", none)) fd ["thing"] (SpM (gm K) 1 f8) ∧ FunD K d8.name d8.qual d8.params d8.body d8.scope (d8.dvs K) (d8.kws K) (He.fAd K ("is_word", none)) fd := by
  obtain ⟨fd, F⟩ := B.c.def_ 8 (d := d8) rfl
  exact ⟨fd, fn_okM (ps := ["thing"]) F sc8 rfl rfl (fun cdv A outer s H hr => b8 B cdv A outer s H hr), F⟩
theorem r8 (B : Bd K hh mg) : FnR P w K mg base CX0 1 (He.fAd K ("is_word", none)) (SpM (gm K) 1 f8) := by
  obtain ⟨fd, F, D⟩ := o8 (P := P) (w := w) (base := base) B
  exact fnM_all F (FunD.bindsN (ps := ["thing"]) D fun _ _ _ _ _ _ us hl => match us, hl with | [_], _ => rfl)
/-! ### is_atom -/
theorem sc7 : FnScope ["thing"] ["thing"] (defScope (top 18)) := ⟨rfl, rfl, rfl, by decide +kernel, rfl, by decide +kernel, by decide +kernel⟩
def m7 : MS := (mRet (mOrV (mBin (fIsN false) (mVar 0) (mC .non)) (mCall f8 1 (mCons (mVar 0) mNil))))
theorem b7 (B : Bd K hh mg) (cdv : Value) (A : Around) (outer : List Env) (s : Shared) (H : Hp) (hr : Room 1 (A.deeper (envOfC "is_atom" (defScope (top 18)) s.heap.objs.size (He.fAd K ("is_atom", none)) cdv))) : SSs (gm K) W0 (cxOf CX0 P w K mg base ["thing"] "is_atom" (defScope (top 18)) (He.fAd K ("is_atom", none)) cdv A outer s H E0).nox (defBody (top 18)) m7 := by
  have G : GOk K (gm K) g0 := gok B
  exact (sss_one (ss_ret (se_orV (se_cmp2 o_isN (se_var 0) se_non) (se_one (se_call (r8 B) (hr.mono (by decide)) (He.glo_ok B.X B.G (B.c.fact 14 rfl)) (kp8 B) (sa_cons (se_var 0) sa_nil))))))
theorem kp7 (B : Bd K hh mg) : PySem.W.keepIn K (.ref (He.fAd K ("is_atom", none))) = true := by obtain ⟨fd, F⟩ := B.c.def_ 7 (d := d7) rfl; exact F.kp
def f7 : MF := mDef 1 0 m7
theorem o7 (B : Bd K hh mg) : ∃ fd, FnOk P w K mg base CX0 2 (He.fAd K ("is_atom", none)) fd ["thing"] (SpM (gm K) 1 f7) ∧ FunD K d7.name d7.qual d7.params d7.body d7.scope (d7.dvs K) (d7.kws K) (He.fAd K ("is_atom", none)) fd := by
  obtain ⟨fd, F⟩ := B.c.def_ 7 (d := d7) rfl
  exact ⟨fd, fn_okM (ps := ["thing"]) F sc7 rfl rfl (fun cdv A outer s H hr => b7 B cdv A outer s H hr), F⟩
theorem r7 (B : Bd K hh mg) : FnR P w K mg base CX0 2 (He.fAd K ("is_atom", none)) (SpM (gm K) 1 f7) := by
  obtain ⟨fd, F, D⟩ := o7 (P := P) (w := w) (base := base) B
  exact fnM_all F (FunD.bindsN (ps := ["thing"]) D fun _ _ _ _ _ _ us hl => match us, hl with | [_], _ => rfl)
/-! ### Heap.is_value -/
theorem sc4 : FnScope ["self", "thing"] ["self", "thing"] (defScope (inClass (top 32) 5)) := ⟨rfl, rfl, rfl, by decide +kernel, rfl, by decide +kernel, by decide +kernel⟩
def m4 : MS := (mRet (mOrV (mCall f7 1 (mCons (mVar 1) mNil)) (mMeth 0 "is_cell" f5 2 (mVar 0) (mCons (mVar 1) mNil))))
theorem b4 (B : Bd K hh mg) (cdv : Value) (A : Around) (outer : List Env) (s : Shared) (H : Hp) (hr : Room 2 (A.deeper (envOfC "Heap.is_value" (defScope (inClass (top 32) 5)) s.heap.objs.size (He.fAd K ("Heap", some "is_value")) cdv))) : SSs (gm K) W0 (cxOf CX0 P w K mg base ["self", "thing"] "Heap.is_value" (defScope (inClass (top 32) 5)) (He.fAd K ("Heap", some "is_value")) cdv A outer s H E0).nox (defBody (inClass (top 32) 5)) m4 := by
  have G : GOk K (gm K) g0 := gok B
  exact (sss_one (ss_ret (se_orV (se_call (r7 B) (hr.mono (by decide)) (He.glo_ok B.X B.G (B.c.fact 15 rfl)) (kp7 B) (sa_cons (se_var 1) sa_nil)) (se_one (se_meth (c := 0) (He.cls_ok (B.c.fact 9 rfl)) (He.meth_ok (B.c.fact 10 rfl)) (r5 B) (hr.mono (by decide)) (se_var 0) (sa_cons (se_var 1) sa_nil))))))
theorem kp4 (B : Bd K hh mg) : PySem.W.keepIn K (.ref (He.fAd K ("Heap", some "is_value"))) = true := by obtain ⟨fd, F⟩ := B.c.def_ 4 (d := d4) rfl; exact F.kp
def f4 : MF := mDef 2 0 m4
theorem o4 (B : Bd K hh mg) : ∃ fd, FnOk P w K mg base CX0 3 (He.fAd K ("Heap", some "is_value")) fd ["self", "thing"] (SpM (gm K) 2 f4) ∧ FunD K d4.name d4.qual d4.params d4.body d4.scope (d4.dvs K) (d4.kws K) (He.fAd K ("Heap", some "is_value")) fd := by
  obtain ⟨fd, F⟩ := B.c.def_ 4 (d := d4) rfl
  exact ⟨fd, fn_okM (ps := ["self", "thing"]) F sc4 rfl rfl (fun cdv A outer s H hr => b4 B cdv A outer s H hr), F⟩
theorem r4 (B : Bd K hh mg) : FnR P w K mg base CX0 3 (He.fAd K ("Heap", some "is_value")) (SpM (gm K) 2 f4) := by
  obtain ⟨fd, F, D⟩ := o4 (P := P) (w := w) (base := base) B
  exact fnM_all F (FunD.bindsN (ps := ["self", "thing"]) D fun _ _ _ _ _ _ us hl => match us, hl with | [_, _], _ => rfl)
/-! ### Heap.need_value -/
theorem sc3 : FnScope ["self", "thing"] ["self", "thing"] (defScope (inClass (top 32) 6)) := ⟨rfl, rfl, rfl, by decide +kernel, rfl, by decide +kernel, by decide +kernel⟩
def m3 : MS := (mIfS (mNot (mTest (mMeth 0 "is_value" f4 2 (mVar 0) (mCons (mVar 1) mNil)))) mDeadS mNext)
theorem b3 (B : Bd K hh mg) (cdv : Value) (A : Around) (outer : List Env) (s : Shared) (H : Hp) (hr : Room 3 (A.deeper (envOfC "Heap.need_value" (defScope (inClass (top 32) 6)) s.heap.objs.size (He.fAd K ("Heap", some "need_value")) cdv))) : SSs (gm K) W0 (cxOf CX0 P w K mg base ["self", "thing"] "Heap.need_value" (defScope (inClass (top 32) 6)) (He.fAd K ("Heap", some "need_value")) cdv A outer s H E0).nox (defBody (inClass (top 32) 6)) m3 := by
  have G : GOk K (gm K) g0 := gok B
  exact (sss_one (ss_if (st_not (st_val (se_meth (c := 0) (He.cls_ok (B.c.fact 9 rfl)) (He.meth_ok (B.c.fact 16 rfl)) (r4 B) (hr.mono (by decide)) (se_var 0) (sa_cons (se_var 1) sa_nil)))) (sss_one s_dead) sss_nil))
theorem kp3 (B : Bd K hh mg) : PySem.W.keepIn K (.ref (He.fAd K ("Heap", some "need_value"))) = true := by obtain ⟨fd, F⟩ := B.c.def_ 3 (d := d3) rfl; exact F.kp
def f3 : MF := mDef 2 0 m3
theorem o3 (B : Bd K hh mg) : ∃ fd, FnOk P w K mg base CX0 4 (He.fAd K ("Heap", some "need_value")) fd ["self", "thing"] (SpM (gm K) 2 f3) ∧ FunD K d3.name d3.qual d3.params d3.body d3.scope (d3.dvs K) (d3.kws K) (He.fAd K ("Heap", some "need_value")) fd := by
  obtain ⟨fd, F⟩ := B.c.def_ 3 (d := d3) rfl
  exact ⟨fd, fn_okM (ps := ["self", "thing"]) F sc3 rfl rfl (fun cdv A outer s H hr => b3 B cdv A outer s H hr), F⟩
theorem r3 (B : Bd K hh mg) : FnR P w K mg base CX0 4 (He.fAd K ("Heap", some "need_value")) (SpM (gm K) 2 f3) := by
  obtain ⟨fd, F, D⟩ := o3 (P := P) (w := w) (base := base) B
  exact fnM_all F (FunD.bindsN (ps := ["self", "thing"]) D fun _ _ _ _ _ _ us hl => match us, hl with | [_, _], _ => rfl)
/-! ### without_repetitions -/
theorem sc10 : FnScope ["values", "found", "value"] ["values"] (defScope (top 31)) := ⟨rfl, rfl, rfl, by decide +kernel, rfl, by decide +kernel, by decide +kernel⟩
def m10 : MS := (mSeq (mAsg (mLst mNil) (mgName 1)) (mSeq (mFor g0 300 (miAny g0 (mVar 0)) (mgName 2) (mIfS (mTest (mBin (fIn g0 true) (mVar 2) (mVar 1))) (mDrop (mMt fAppend (mVar 1) (mCons (mVar 2) mNil))) mNext)) (mRet (mVar 1))))
theorem b10 (B : Bd K hh mg) (cdv : Value) (A : Around) (outer : List Env) (s : Shared) (H : Hp) (hr : Room 0 (A.deeper (envOfC "without_repetitions" (defScope (top 31)) s.heap.objs.size (He.fAd K ("without_repetitions", none)) cdv))) : SSs (gm K) W0 (cxOf CX0 P w K mg base ["values", "found", "value"] "without_repetitions" (defScope (top 31)) (He.fAd K ("without_repetitions", none)) cdv A outer s H E0).nox (defBody (top 31)) m10 := by
  have G : GOk K (gm K) g0 := gok B
  exact (sss_cons (ss_set sc10.nd (se_lst sa_nil)) (sss_cons (ss_for 300 PassesOwn.never rfl (si_any G (se_var 0)) (sg_name sc10.nd) (sss_one (ss_if (st_cmp2 (o_nin G (hu1 hr)) (se_var 2) (se_var 1)) (sss_one (ss_expr (se_bm PySem.F.slot_list_append PySem.F.type_list_append mt2_append (se_var 1) (sa_cons (se_var 2) sa_nil)))) sss_nil))) (sss_one (ss_ret (se_var 1)))))
theorem kp10 (B : Bd K hh mg) : PySem.W.keepIn K (.ref (He.fAd K ("without_repetitions", none))) = true := by obtain ⟨fd, F⟩ := B.c.def_ 10 (d := d10) rfl; exact F.kp
def f10 : MF := mDef 1 2 m10
theorem o10 (B : Bd K hh mg) : ∃ fd, FnOk P w K mg base CX0 1 (He.fAd K ("without_repetitions", none)) fd ["values"] (SpM (gm K) 1 f10) ∧ FunD K d10.name d10.qual d10.params d10.body d10.scope (d10.dvs K) (d10.kws K) (He.fAd K ("without_repetitions", none)) fd := by
  obtain ⟨fd, F⟩ := B.c.def_ 10 (d := d10) rfl
  exact ⟨fd, fn_okM (ps := ["values"]) F sc10 rfl rfl (fun cdv A outer s H hr => b10 B cdv A outer s H hr), F⟩
theorem r10 (B : Bd K hh mg) : FnR P w K mg base CX0 1 (He.fAd K ("without_repetitions", none)) (SpM (gm K) 1 f10) := by
  obtain ⟨fd, F, D⟩ := o10 (P := P) (w := w) (base := base) B
  exact fnM_all F (FunD.bindsN (ps := ["values"]) D fun _ _ _ _ _ _ us hl => match us, hl with | [_], _ => rfl)
/-! ### Cell.__init__ -/
theorem sc11 : FnScope ["self", "kind", "shape", "parts"] ["self", "kind", "shape", "parts"] (defScope (inClass (top 29) 0)) := ⟨rfl, rfl, rfl, by decide +kernel, rfl, by decide +kernel, by decide +kernel⟩
def m11 : MS := (mSeq (mSetF g0 "family" (mVar 0) (mVar 1)) (mSeq (mSetF g0 "design" (mVar 0) (mVar 2)) (mSetF g0 "held" (mVar 0) (mVar 3))))
theorem b11 (B : Bd K hh mg) (cdv : Value) (A : Around) (outer : List Env) (s : Shared) (H : Hp) (hr : Room 0 (A.deeper (envOfC "Cell.__init__" (defScope (inClass (top 29) 0)) s.heap.objs.size (He.fAd K ("Cell", some "__init__")) cdv))) : SSs (gm K) W0 (cxOf CX0 P w K mg base ["self", "kind", "shape", "parts"] "Cell.__init__" (defScope (inClass (top 29) 0)) (He.fAd K ("Cell", some "__init__")) cdv A outer s H E0).nox (defBody (inClass (top 29) 0)) m11 := by
  have G : GOk K (gm K) g0 := gok B
  exact (sss_cons (ss_setF G (se_var 0) (se_var 1)) (sss_cons (ss_setF G (se_var 0) (se_var 2)) (sss_one (ss_setF G (se_var 0) (se_var 3)))))
theorem kp11 (B : Bd K hh mg) : PySem.W.keepIn K (.ref (He.fAd K ("Cell", some "__init__"))) = true := by obtain ⟨fd, F⟩ := B.c.def_ 11 (d := d11) rfl; exact F.kp
def f11 : MF := mDef 4 0 m11
theorem o11 (B : Bd K hh mg) : ∃ fd, FnOk P w K mg base CX0 1 (He.fAd K ("Cell", some "__init__")) fd ["self", "kind", "shape", "parts"] (SpM (gm K) 4 f11) ∧ FunD K d11.name d11.qual d11.params d11.body d11.scope (d11.dvs K) (d11.kws K) (He.fAd K ("Cell", some "__init__")) fd := by
  obtain ⟨fd, F⟩ := B.c.def_ 11 (d := d11) rfl
  exact ⟨fd, fn_okM (ps := ["self", "kind", "shape", "parts"]) F sc11 rfl rfl (fun cdv A outer s H hr => b11 B cdv A outer s H hr), F⟩
theorem r11 (B : Bd K hh mg) : FnR P w K mg base CX0 1 (He.fAd K ("Cell", some "__init__")) (SpM (gm K) 4 f11) := by
  obtain ⟨fd, F, D⟩ := o11 (P := P) (w := w) (base := base) B
  exact fnM_all F (FunD.bindsN (ps := ["self", "kind", "shape", "parts"]) D fun _ _ _ _ _ _ us hl => match us, hl with | [_, _, _, _], _ => rfl)
/-! ### Heap.new_cell -/
theorem sc9 : FnScope ["self", "kind", "shape", "values", "parts"] ["self", "kind", "shape", "values"] (defScope (inClass (top 32) 8)) := ⟨rfl, rfl, rfl, by decide +kernel, rfl, by decide +kernel, by decide +kernel⟩
def m9 : MS := (mSeq (mAsg mDict0 (mgName 4)) (mSeq (mIfS (mTest (mBin (fIn g0 false) (mVar 1) (mC (.glo 1)))) (mAsg (mIf (mTest (mBin (fIn g0 false) (mVar 1) (mC (.glo 2)))) (mCall f10 1 (mCons (mVar 3) mNil)) (mCb (fList g0) (mCons (mVar 3) mNil))) (mgName 4)) mNext) (mSeq (mDrop (mMt fAppend (mFld g0 "cells" (mVar 0)) (mCons (mMake 3 f11 4 (mCons (mVar 1) (mCons (mVar 2) (mCons (mVar 4) mNil)))) mNil))) (mRet (mBin fSub (mCb (fLen g0) (mCons (mFld g0 "cells" (mVar 0)) mNil)) (mC (.int 1)))))))
theorem b9 (B : Bd K hh mg) (cdv : Value) (A : Around) (outer : List Env) (s : Shared) (H : Hp) (hr : Room 2 (A.deeper (envOfC "Heap.new_cell" (defScope (inClass (top 32) 8)) s.heap.objs.size (He.fAd K ("Heap", some "new_cell")) cdv))) : SSs (gm K) W0 (cxOf CX0 P w K mg base ["self", "kind", "shape", "values", "parts"] "Heap.new_cell" (defScope (inClass (top 32) 8)) (He.fAd K ("Heap", some "new_cell")) cdv A outer s H E0).nox (defBody (inClass (top 32) 8)) m9 := by
  have G : GOk K (gm K) g0 := gok B
  exact (sss_cons (ss_set sc9.nd se_dict0) (sss_cons (ss_if (st_cmp2 (o_in G (hu1 hr)) (se_var 1) (se_glo (k := 1) (He.glo_ok B.X B.G (B.c.fact 2 rfl)))) (sss_one (ss_set sc9.nd (se_if (st_cmp2 (o_in G (hu1 hr)) (se_var 1) (se_glo (k := 2) (He.glo_ok B.X B.G (B.c.fact 18 rfl)))) (se_call (r10 B) (hr.mono (by decide)) (He.glo_ok B.X B.G (B.c.fact 19 rfl)) (kp10 B) (sa_cons (se_var 3) sa_nil)) (se_callTy (T := "list") (cb_list G rfl) (He.free_ok B.X B.G (B.c.fact 20 rfl)) rfl (sa_cons (se_var 3) sa_nil))))) sss_nil) (sss_cons (ss_expr (se_bm PySem.F.slot_list_append PySem.F.type_list_append mt2_append (se_fld G (se_var 0)) (sa_cons (se_make (c := 3) (He.mkr_ok (B.c.fact 21 rfl)) (r11 B) (hr.mono (by decide)) (He.glo_ok B.X B.G (B.c.fact 22 rfl)) (sa_cons (se_var 1) (sa_cons (se_var 2) (sa_cons (se_var 4) sa_nil)))) sa_nil))) (sss_one (ss_ret (se_bin2 o_sub (se_callB (id := "len") (cb_len G) (He.free_ok B.X B.G (B.c.fact 5 rfl)) rfl (sa_cons (se_fld G (se_var 0)) sa_nil)) se_int))))))
theorem kp9 (B : Bd K hh mg) : PySem.W.keepIn K (.ref (He.fAd K ("Heap", some "new_cell"))) = true := by obtain ⟨fd, F⟩ := B.c.def_ 9 (d := d9) rfl; exact F.kp
def f9 : MF := mDef 4 1 m9
theorem o9 (B : Bd K hh mg) : ∃ fd, FnOk P w K mg base CX0 3 (He.fAd K ("Heap", some "new_cell")) fd ["self", "kind", "shape", "values"] (SpM (gm K) 4 f9) ∧ FunD K d9.name d9.qual d9.params d9.body d9.scope (d9.dvs K) (d9.kws K) (He.fAd K ("Heap", some "new_cell")) fd := by
  obtain ⟨fd, F⟩ := B.c.def_ 9 (d := d9) rfl
  exact ⟨fd, fn_okM (ps := ["self", "kind", "shape", "values"]) F sc9 rfl rfl (fun cdv A outer s H hr => b9 B cdv A outer s H hr), F⟩
theorem r9 (B : Bd K hh mg) : FnR P w K mg base CX0 3 (He.fAd K ("Heap", some "new_cell")) (SpM (gm K) 4 f9) := by
  obtain ⟨fd, F, D⟩ := o9 (P := P) (w := w) (base := base) B
  obtain ⟨ds, hd, hb⟩ := FunD.binds1 (ps := ["self", "kind", "shape", "values"]) D 4 2 (by exact List.cons_ne_nil _ _) rfl fun _ _ _ _ _ _ _ us its hl hi => match us, its, hl, hi with | [_, _, _, _], [_, _], _, _ => ⟨_, rfl, rfl⟩
  cases hd
  exact fnM_all F hb
/-! ### Heap.make -/
theorem sc2 : FnScope ["self", "kind", "values", "value"] ["self", "kind", "values"] (defScope (inClass (top 32) 12)) := ⟨rfl, rfl, rfl, by decide +kernel, rfl, by decide +kernel, by decide +kernel⟩
def m2 : MS := (mSeq (mIfS (mOrT (mNot (mTest (mIsi isStr (mVar 1)))) (mTest (mBin (fIn g0 true) (mVar 1) (mC (.glo 1))))) mDeadS mNext) (mSeq (mFor g0 300 (miAny g0 (mVar 2)) (mgName 3) (mDrop (mMeth 0 "need_value" f3 2 (mVar 0) (mCons (mVar 3) mNil)))) (mRet (mMeth 0 "new_cell" f9 4 (mVar 0) (mCons (mVar 1) (mCons (mC .non) (mCons (mVar 2) mNil)))))))
theorem b2 (B : Bd K hh mg) (cdv : Value) (A : Around) (outer : List Env) (s : Shared) (H : Hp) (hr : Room 4 (A.deeper (envOfC "Heap.make" (defScope (inClass (top 32) 12)) s.heap.objs.size (He.fAd K ("Heap", some "make")) cdv))) : SSs (gm K) W0 (cxOf CX0 P w K mg base ["self", "kind", "values", "value"] "Heap.make" (defScope (inClass (top 32) 12)) (He.fAd K ("Heap", some "make")) cdv A outer s H E0).nox (defBody (inClass (top 32) 12)) m2 := by
  have G : GOk K (gm K) g0 := gok B
  exact (sss_cons (ss_if (SW.st (sw_or (st_not (st_val (se_isi (isStr_ok K) (se_var 1) (He.free_ok B.X B.G (B.c.fact 3 rfl)) (He.free_ok B.X B.G (B.c.fact 4 rfl)) rfl))) (sw_or1 (st_cmp2 (o_nin G (hu1 hr)) (se_var 1) (se_glo (k := 1) (He.glo_ok B.X B.G (B.c.fact 2 rfl))))))) (sss_one s_dead) sss_nil) (sss_cons (ss_for 300 PassesOwn.never rfl (si_any G (se_var 2)) (sg_name sc2.nd) (sss_one (ss_expr (se_meth (c := 0) (He.cls_ok (B.c.fact 9 rfl)) (He.meth_ok (B.c.fact 17 rfl)) (r3 B) (hr.mono (by decide)) (se_var 0) (sa_cons (se_var 3) sa_nil))))) (sss_one (ss_ret (se_meth (c := 0) (He.cls_ok (B.c.fact 9 rfl)) (He.meth_ok (B.c.fact 23 rfl)) (r9 B) (hr.mono (by decide)) (se_var 0) (sa_cons (se_var 1) (sa_cons se_non (sa_cons (se_var 2) sa_nil))))))))
theorem kp2 (B : Bd K hh mg) : PySem.W.keepIn K (.ref (He.fAd K ("Heap", some "make"))) = true := by obtain ⟨fd, F⟩ := B.c.def_ 2 (d := d2) rfl; exact F.kp
def f2 : MF := mDef 3 1 m2
theorem o2 (B : Bd K hh mg) : ∃ fd, FnOk P w K mg base CX0 5 (He.fAd K ("Heap", some "make")) fd ["self", "kind", "values"] (SpM (gm K) 3 f2) ∧ FunD K d2.name d2.qual d2.params d2.body d2.scope (d2.dvs K) (d2.kws K) (He.fAd K ("Heap", some "make")) fd := by
  obtain ⟨fd, F⟩ := B.c.def_ 2 (d := d2) rfl
  exact ⟨fd, fn_okM (ps := ["self", "kind", "values"]) F sc2 rfl rfl (fun cdv A outer s H hr => b2 B cdv A outer s H hr), F⟩
theorem r2 (B : Bd K hh mg) : FnR P w K mg base CX0 5 (He.fAd K ("Heap", some "make")) (SpM (gm K) 3 f2) := by
  obtain ⟨fd, F, D⟩ := o2 (P := P) (w := w) (base := base) B
  exact fnM_all F (FunD.bindsN (ps := ["self", "kind", "values"]) D fun _ _ _ _ _ _ us hl => match us, hl with | [_, _, _], _ => rfl)
/-! ### Heap.cell_of -/
theorem sc14 : FnScope ["self", "cell"] ["self", "cell"] (defScope (inClass (top 32) 7)) := ⟨rfl, rfl, rfl, by decide +kernel, rfl, by decide +kernel, by decide +kernel⟩
def m14 : MS := (mSeq (mIfS (mNot (mTest (mMeth 0 "is_cell" f5 2 (mVar 0) (mCons (mVar 1) mNil)))) mDeadS mNext) (mRet (mBin (fIx g0) (mFld g0 "cells" (mVar 0)) (mVar 1))))
theorem b14 (B : Bd K hh mg) (cdv : Value) (A : Around) (outer : List Env) (s : Shared) (H : Hp) (hr : Room 2 (A.deeper (envOfC "Heap.cell_of" (defScope (inClass (top 32) 7)) s.heap.objs.size (He.fAd K ("Heap", some "cell_of")) cdv))) : SSs (gm K) W0 (cxOf CX0 P w K mg base ["self", "cell"] "Heap.cell_of" (defScope (inClass (top 32) 7)) (He.fAd K ("Heap", some "cell_of")) cdv A outer s H E0).nox (defBody (inClass (top 32) 7)) m14 := by
  have G : GOk K (gm K) g0 := gok B
  exact (sss_cons (ss_if (st_not (st_val (se_meth (c := 0) (He.cls_ok (B.c.fact 9 rfl)) (He.meth_ok (B.c.fact 10 rfl)) (r5 B) (hr.mono (by decide)) (se_var 0) (sa_cons (se_var 1) sa_nil)))) (sss_one s_dead) sss_nil) (sss_one (ss_ret (se_ix2 (o_ix G (hu1 hr)) (se_fld G (se_var 0)) (se_var 1)))))
theorem kp14 (B : Bd K hh mg) : PySem.W.keepIn K (.ref (He.fAd K ("Heap", some "cell_of"))) = true := by obtain ⟨fd, F⟩ := B.c.def_ 14 (d := d14) rfl; exact F.kp
def f14 : MF := mDef 2 0 m14
theorem o14 (B : Bd K hh mg) : ∃ fd, FnOk P w K mg base CX0 3 (He.fAd K ("Heap", some "cell_of")) fd ["self", "cell"] (SpM (gm K) 2 f14) ∧ FunD K d14.name d14.qual d14.params d14.body d14.scope (d14.dvs K) (d14.kws K) (He.fAd K ("Heap", some "cell_of")) fd := by
  obtain ⟨fd, F⟩ := B.c.def_ 14 (d := d14) rfl
  exact ⟨fd, fn_okM (ps := ["self", "cell"]) F sc14 rfl rfl (fun cdv A outer s H hr => b14 B cdv A outer s H hr), F⟩
theorem r14 (B : Bd K hh mg) : FnR P w K mg base CX0 3 (He.fAd K ("Heap", some "cell_of")) (SpM (gm K) 2 f14) := by
  obtain ⟨fd, F, D⟩ := o14 (P := P) (w := w) (base := base) B
  exact fnM_all F (FunD.bindsN (ps := ["self", "cell"]) D fun _ _ _ _ _ _ us hl => match us, hl with | [_, _], _ => rfl)
/-! ### Heap.need_changeable -/
theorem sc13 : FnScope ["self", "cell", "kinds", "found"] ["self", "cell", "kinds"] (defScope (inClass (top 32) 18)) := ⟨rfl, rfl, rfl, by decide +kernel, rfl, by decide +kernel, by decide +kernel⟩
def m13 : MS := (mSeq (mAsg (mMeth 0 "cell_of" f14 2 (mVar 0) (mCons (mVar 1) mNil)) (mgName 3)) (mSeq (mIfS (mTest (mBin (fIn g0 true) (mFld g0 "family" (mVar 3)) (mVar 2))) mDeadS mNext) (mRet (mVar 3))))
theorem b13 (B : Bd K hh mg) (cdv : Value) (A : Around) (outer : List Env) (s : Shared) (H : Hp) (hr : Room 3 (A.deeper (envOfC "Heap.need_changeable" (defScope (inClass (top 32) 18)) s.heap.objs.size (He.fAd K ("Heap", some "need_changeable")) cdv))) : SSs (gm K) W0 (cxOf CX0 P w K mg base ["self", "cell", "kinds", "found"] "Heap.need_changeable" (defScope (inClass (top 32) 18)) (He.fAd K ("Heap", some "need_changeable")) cdv A outer s H E0).nox (defBody (inClass (top 32) 18)) m13 := by
  have G : GOk K (gm K) g0 := gok B
  exact (sss_cons (ss_set sc13.nd (se_meth (c := 0) (He.cls_ok (B.c.fact 9 rfl)) (He.meth_ok (B.c.fact 25 rfl)) (r14 B) (hr.mono (by decide)) (se_var 0) (sa_cons (se_var 1) sa_nil))) (sss_cons (ss_if (st_cmp2 (o_nin G (hu1 hr)) (se_fld G (se_var 3)) (se_var 2)) (sss_one s_dead) sss_nil) (sss_one (ss_ret (se_var 3)))))
theorem kp13 (B : Bd K hh mg) : PySem.W.keepIn K (.ref (He.fAd K ("Heap", some "need_changeable"))) = true := by obtain ⟨fd, F⟩ := B.c.def_ 13 (d := d13) rfl; exact F.kp
def f13 : MF := mDef 3 1 m13
theorem o13 (B : Bd K hh mg) : ∃ fd, FnOk P w K mg base CX0 4 (He.fAd K ("Heap", some "need_changeable")) fd ["self", "cell", "kinds"] (SpM (gm K) 3 f13) ∧ FunD K d13.name d13.qual d13.params d13.body d13.scope (d13.dvs K) (d13.kws K) (He.fAd K ("Heap", some "need_changeable")) fd := by
  obtain ⟨fd, F⟩ := B.c.def_ 13 (d := d13) rfl
  exact ⟨fd, fn_okM (ps := ["self", "cell", "kinds"]) F sc13 rfl rfl (fun cdv A outer s H hr => b13 B cdv A outer s H hr), F⟩
theorem r13 (B : Bd K hh mg) : FnR P w K mg base CX0 4 (He.fAd K ("Heap", some "need_changeable")) (SpM (gm K) 3 f13) := by
  obtain ⟨fd, F, D⟩ := o13 (P := P) (w := w) (base := base) B
  exact fnM_all F (FunD.bindsN (ps := ["self", "cell", "kinds"]) D fun _ _ _ _ _ _ us hl => match us, hl with | [_, _, _], _ => rfl)
/-! ### Heap.append_to -/
theorem sc15 : FnScope ["self", "cell", "value", "found"] ["self", "cell", "value"] (defScope (inClass (top 32) 9)) := ⟨rfl, rfl, rfl, by decide +kernel, rfl, by decide +kernel, by decide +kernel⟩
def m15 : MS := (mSeq (mAsg (mBin (fIx g0) (mFld g0 "cells" (mVar 0)) (mVar 1)) (mgName 3)) (mIfS (mOrT (mTest (mBin (fIn g0 true) (mFld g0 "family" (mVar 3)) (mC (.glo 2)))) (mTest (mBin (fIn g0 true) (mVar 2) (mFld g0 "held" (mVar 3))))) (mDrop (mMt fAppend (mFld g0 "held" (mVar 3)) (mCons (mVar 2) mNil))) mNext))
theorem b15 (B : Bd K hh mg) (cdv : Value) (A : Around) (outer : List Env) (s : Shared) (H : Hp) (hr : Room 0 (A.deeper (envOfC "Heap.append_to" (defScope (inClass (top 32) 9)) s.heap.objs.size (He.fAd K ("Heap", some "append_to")) cdv))) : SSs (gm K) W0 (cxOf CX0 P w K mg base ["self", "cell", "value", "found"] "Heap.append_to" (defScope (inClass (top 32) 9)) (He.fAd K ("Heap", some "append_to")) cdv A outer s H E0).nox (defBody (inClass (top 32) 9)) m15 := by
  have G : GOk K (gm K) g0 := gok B
  exact (sss_cons (ss_set sc15.nd (se_ix2 (o_ix G (hu1 hr)) (se_fld G (se_var 0)) (se_var 1))) (sss_one (ss_if (SW.st (sw_or (st_cmp2 (o_nin G (hu1 hr)) (se_fld G (se_var 3)) (se_glo (k := 2) (He.glo_ok B.X B.G (B.c.fact 18 rfl)))) (sw_or1 (st_cmp2 (o_nin G (hu1 hr)) (se_var 2) (se_fld G (se_var 3)))))) (sss_one (ss_expr (se_bm PySem.F.slot_list_append PySem.F.type_list_append mt2_append (se_fld G (se_var 3)) (sa_cons (se_var 2) sa_nil)))) sss_nil)))
theorem kp15 (B : Bd K hh mg) : PySem.W.keepIn K (.ref (He.fAd K ("Heap", some "append_to"))) = true := by obtain ⟨fd, F⟩ := B.c.def_ 15 (d := d15) rfl; exact F.kp
def f15 : MF := mDef 3 1 m15
theorem o15 (B : Bd K hh mg) : ∃ fd, FnOk P w K mg base CX0 1 (He.fAd K ("Heap", some "append_to")) fd ["self", "cell", "value"] (SpM (gm K) 3 f15) ∧ FunD K d15.name d15.qual d15.params d15.body d15.scope (d15.dvs K) (d15.kws K) (He.fAd K ("Heap", some "append_to")) fd := by
  obtain ⟨fd, F⟩ := B.c.def_ 15 (d := d15) rfl
  exact ⟨fd, fn_okM (ps := ["self", "cell", "value"]) F sc15 rfl rfl (fun cdv A outer s H hr => b15 B cdv A outer s H hr), F⟩
theorem r15 (B : Bd K hh mg) : FnR P w K mg base CX0 1 (He.fAd K ("Heap", some "append_to")) (SpM (gm K) 3 f15) := by
  obtain ⟨fd, F, D⟩ := o15 (P := P) (w := w) (base := base) B
  exact fnM_all F (FunD.bindsN (ps := ["self", "cell", "value"]) D fun _ _ _ _ _ _ us hl => match us, hl with | [_, _, _], _ => rfl)
/-! ### Heap.add -/
theorem sc12 : FnScope ["self", "cell", "value"] ["self", "cell", "value"] (defScope (inClass (top 32) 21)) := ⟨rfl, rfl, rfl, by decide +kernel, rfl, by decide +kernel, by decide +kernel⟩
def m12 : MS := (mSeq (mDrop (mMeth 0 "need_changeable" f13 3 (mVar 0) (mCons (mVar 1) (mCons (mTup (mCons (mC (.str "list")) (mCons (mC (.str "set")) mNil))) mNil)))) (mSeq (mDrop (mMeth 0 "need_value" f3 2 (mVar 0) (mCons (mVar 2) mNil))) (mDrop (mMeth 0 "append_to" f15 3 (mVar 0) (mCons (mVar 1) (mCons (mVar 2) mNil))))))
theorem b12 (B : Bd K hh mg) (cdv : Value) (A : Around) (outer : List Env) (s : Shared) (H : Hp) (hr : Room 4 (A.deeper (envOfC "Heap.add" (defScope (inClass (top 32) 21)) s.heap.objs.size (He.fAd K ("Heap", some "add")) cdv))) : SSs (gm K) W0 (cxOf CX0 P w K mg base ["self", "cell", "value"] "Heap.add" (defScope (inClass (top 32) 21)) (He.fAd K ("Heap", some "add")) cdv A outer s H E0).nox (defBody (inClass (top 32) 21)) m12 := by
  have G : GOk K (gm K) g0 := gok B
  exact (sss_cons (ss_expr (se_meth (c := 0) (He.cls_ok (B.c.fact 9 rfl)) (He.meth_ok (B.c.fact 26 rfl)) (r13 B) (hr.mono (by decide)) (se_var 0) (sa_cons (se_var 1) (sa_cons (se_tup (sa_cons se_str (sa_cons se_str sa_nil))) sa_nil)))) (sss_cons (ss_expr (se_meth (c := 0) (He.cls_ok (B.c.fact 9 rfl)) (He.meth_ok (B.c.fact 17 rfl)) (r3 B) (hr.mono (by decide)) (se_var 0) (sa_cons (se_var 2) sa_nil))) (sss_one (ss_expr (se_meth (c := 0) (He.cls_ok (B.c.fact 9 rfl)) (He.meth_ok (B.c.fact 27 rfl)) (r15 B) (hr.mono (by decide)) (se_var 0) (sa_cons (se_var 1) (sa_cons (se_var 2) sa_nil)))))))
theorem kp12 (B : Bd K hh mg) : PySem.W.keepIn K (.ref (He.fAd K ("Heap", some "add"))) = true := by obtain ⟨fd, F⟩ := B.c.def_ 12 (d := d12) rfl; exact F.kp
def f12 : MF := mDef 3 0 m12
theorem o12 (B : Bd K hh mg) : ∃ fd, FnOk P w K mg base CX0 5 (He.fAd K ("Heap", some "add")) fd ["self", "cell", "value"] (SpM (gm K) 3 f12) ∧ FunD K d12.name d12.qual d12.params d12.body d12.scope (d12.dvs K) (d12.kws K) (He.fAd K ("Heap", some "add")) fd := by
  obtain ⟨fd, F⟩ := B.c.def_ 12 (d := d12) rfl
  exact ⟨fd, fn_okM (ps := ["self", "cell", "value"]) F sc12 rfl rfl (fun cdv A outer s H hr => b12 B cdv A outer s H hr), F⟩
theorem r12 (B : Bd K hh mg) : FnR P w K mg base CX0 5 (He.fAd K ("Heap", some "add")) (SpM (gm K) 3 f12) := by
  obtain ⟨fd, F, D⟩ := o12 (P := P) (w := w) (base := base) B
  exact fnM_all F (FunD.bindsN (ps := ["self", "cell", "value"]) D fun _ _ _ _ _ _ us hl => match us, hl with | [_, _, _], _ => rfl)
/-! ### Entries.__init__ -/
theorem sc19 : FnScope ["self"] ["self"] (defScope (inClass (top 30) 0)) := ⟨rfl, rfl, rfl, by decide +kernel, rfl, by decide +kernel, by decide +kernel⟩
def m19 : MS := (mSeq (mSetF g0 "entered" (mVar 0) mDict0) (mSeq (mSetF g0 "open_copies" (mVar 0) (mLst mNil)) (mSetF g0 "is_busy" (mVar 0) (mC (.bl false)))))
theorem b19 (B : Bd K hh mg) (cdv : Value) (A : Around) (outer : List Env) (s : Shared) (H : Hp) (hr : Room 0 (A.deeper (envOfC "Entries.__init__" (defScope (inClass (top 30) 0)) s.heap.objs.size (He.fAd K ("Entries", some "__init__")) cdv))) : SSs (gm K) W0 (cxOf CX0 P w K mg base ["self"] "Entries.__init__" (defScope (inClass (top 30) 0)) (He.fAd K ("Entries", some "__init__")) cdv A outer s H E0).nox (defBody (inClass (top 30) 0)) m19 := by
  have G : GOk K (gm K) g0 := gok B
  exact (sss_cons (ss_setF G (se_var 0) se_dict0) (sss_cons (ss_setF G (se_var 0) (se_lst sa_nil)) (sss_one (ss_setF G (se_var 0) se_bl))))
theorem kp19 (B : Bd K hh mg) : PySem.W.keepIn K (.ref (He.fAd K ("Entries", some "__init__"))) = true := by obtain ⟨fd, F⟩ := B.c.def_ 19 (d := d19) rfl; exact F.kp
def f19 : MF := mDef 1 0 m19
theorem o19 (B : Bd K hh mg) : ∃ fd, FnOk P w K mg base CX0 1 (He.fAd K ("Entries", some "__init__")) fd ["self"] (SpM (gm K) 1 f19) ∧ FunD K d19.name d19.qual d19.params d19.body d19.scope (d19.dvs K) (d19.kws K) (He.fAd K ("Entries", some "__init__")) fd := by
  obtain ⟨fd, F⟩ := B.c.def_ 19 (d := d19) rfl
  exact ⟨fd, fn_okM (ps := ["self"]) F sc19 rfl rfl (fun cdv A outer s H hr => b19 B cdv A outer s H hr), F⟩
theorem r19 (B : Bd K hh mg) : FnR P w K mg base CX0 1 (He.fAd K ("Entries", some "__init__")) (SpM (gm K) 1 f19) := by
  obtain ⟨fd, F, D⟩ := o19 (P := P) (w := w) (base := base) B
  exact fnM_all F (FunD.bindsN (ps := ["self"]) D fun _ _ _ _ _ _ us hl => match us, hl with | [_], _ => rfl)
/-! ### Heap.new_entries -/
theorem sc18 : FnScope ["self"] ["self"] (defScope (inClass (top 32) 3)) := ⟨rfl, rfl, rfl, by decide +kernel, rfl, by decide +kernel, by decide +kernel⟩
def m18 : MS := (mSeq (mDrop (mMt fAppend (mFld g0 "memos" (mVar 0)) (mCons (mMake 4 f19 1 mNil) mNil))) (mRet (mBin fSub (mCb (fLen g0) (mCons (mFld g0 "memos" (mVar 0)) mNil)) (mC (.int 1)))))
theorem b18 (B : Bd K hh mg) (cdv : Value) (A : Around) (outer : List Env) (s : Shared) (H : Hp) (hr : Room 2 (A.deeper (envOfC "Heap.new_entries" (defScope (inClass (top 32) 3)) s.heap.objs.size (He.fAd K ("Heap", some "new_entries")) cdv))) : SSs (gm K) W0 (cxOf CX0 P w K mg base ["self"] "Heap.new_entries" (defScope (inClass (top 32) 3)) (He.fAd K ("Heap", some "new_entries")) cdv A outer s H E0).nox (defBody (inClass (top 32) 3)) m18 := by
  have G : GOk K (gm K) g0 := gok B
  exact (sss_cons (ss_expr (se_bm PySem.F.slot_list_append PySem.F.type_list_append mt2_append (se_fld G (se_var 0)) (sa_cons (se_make0 (c := 4) (He.mkr_ok (B.c.fact 29 rfl)) (r19 B) (hr.mono (by decide)) (He.glo_ok B.X B.G (B.c.fact 30 rfl))) sa_nil))) (sss_one (ss_ret (se_bin2 o_sub (se_callB (id := "len") (cb_len G) (He.free_ok B.X B.G (B.c.fact 5 rfl)) rfl (sa_cons (se_fld G (se_var 0)) sa_nil)) se_int))))
theorem kp18 (B : Bd K hh mg) : PySem.W.keepIn K (.ref (He.fAd K ("Heap", some "new_entries"))) = true := by obtain ⟨fd, F⟩ := B.c.def_ 18 (d := d18) rfl; exact F.kp
def f18 : MF := mDef 1 0 m18
theorem o18 (B : Bd K hh mg) : ∃ fd, FnOk P w K mg base CX0 3 (He.fAd K ("Heap", some "new_entries")) fd ["self"] (SpM (gm K) 1 f18) ∧ FunD K d18.name d18.qual d18.params d18.body d18.scope (d18.dvs K) (d18.kws K) (He.fAd K ("Heap", some "new_entries")) fd := by
  obtain ⟨fd, F⟩ := B.c.def_ 18 (d := d18) rfl
  exact ⟨fd, fn_okM (ps := ["self"]) F sc18 rfl rfl (fun cdv A outer s H hr => b18 B cdv A outer s H hr), F⟩
theorem r18 (B : Bd K hh mg) : FnR P w K mg base CX0 3 (He.fAd K ("Heap", some "new_entries")) (SpM (gm K) 1 f18) := by
  obtain ⟨fd, F, D⟩ := o18 (P := P) (w := w) (base := base) B
  exact fnM_all F (FunD.bindsN (ps := ["self"]) D fun _ _ _ _ _ _ us hl => match us, hl with | [_], _ => rfl)
/-! ### Memo.__init__ -/
theorem sc17 : FnScope ["self", "heap"] ["self", "heap"] (defScope (inClass (top 20) 0)) := ⟨rfl, rfl, rfl, by decide +kernel, rfl, by decide +kernel, by decide +kernel⟩
def m17 : MS := (mSeq (mSetF g0 "heap" (mVar 0) (mVar 1)) (mSetF g0 "number" (mVar 0) (mMeth 0 "new_entries" f18 1 (mVar 1) mNil)))
theorem b17 (B : Bd K hh mg) (cdv : Value) (A : Around) (outer : List Env) (s : Shared) (H : Hp) (hr : Room 3 (A.deeper (envOfC "Memo.__init__" (defScope (inClass (top 20) 0)) s.heap.objs.size (He.fAd K ("Memo", some "__init__")) cdv))) : SSs (gm K) W0 (cxOf CX0 P w K mg base ["self", "heap"] "Memo.__init__" (defScope (inClass (top 20) 0)) (He.fAd K ("Memo", some "__init__")) cdv A outer s H E0).nox (defBody (inClass (top 20) 0)) m17 := by
  have G : GOk K (gm K) g0 := gok B
  exact (sss_cons (ss_setF G (se_var 0) (se_var 1)) (sss_one (ss_setF G (se_var 0) (se_meth0 (c := 0) (He.cls_ok (B.c.fact 9 rfl)) (He.meth_ok (B.c.fact 31 rfl)) (r18 B) (hr.mono (by decide)) (se_var 1)))))
theorem kp17 (B : Bd K hh mg) : PySem.W.keepIn K (.ref (He.fAd K ("Memo", some "__init__"))) = true := by obtain ⟨fd, F⟩ := B.c.def_ 17 (d := d17) rfl; exact F.kp
def f17 : MF := mDef 2 0 m17
theorem o17 (B : Bd K hh mg) : ∃ fd, FnOk P w K mg base CX0 4 (He.fAd K ("Memo", some "__init__")) fd ["self", "heap"] (SpM (gm K) 2 f17) ∧ FunD K d17.name d17.qual d17.params d17.body d17.scope (d17.dvs K) (d17.kws K) (He.fAd K ("Memo", some "__init__")) fd := by
  obtain ⟨fd, F⟩ := B.c.def_ 17 (d := d17) rfl
  exact ⟨fd, fn_okM (ps := ["self", "heap"]) F sc17 rfl rfl (fun cdv A outer s H hr => b17 B cdv A outer s H hr), F⟩
theorem r17 (B : Bd K hh mg) : FnR P w K mg base CX0 4 (He.fAd K ("Memo", some "__init__")) (SpM (gm K) 2 f17) := by
  obtain ⟨fd, F, D⟩ := o17 (P := P) (w := w) (base := base) B
  exact fnM_all F (FunD.bindsN (ps := ["self", "heap"]) D fun _ _ _ _ _ _ us hl => match us, hl with | [_, _], _ => rfl)
/-! ### Memo.is_in_use -/
theorem sc20 : FnScope ["self"] ["self"] (defScope (inClass (top 20) 6)) := ⟨rfl, rfl, rfl, by decide +kernel, rfl, by decide +kernel, by decide +kernel⟩
def m20 : MS := (mRet (mFld g0 "is_busy" (mBin (fIx g0) (mFld g0 "memos" (mFld g0 "heap" (mVar 0))) (mFld g0 "number" (mVar 0)))))
theorem b20 (B : Bd K hh mg) (cdv : Value) (A : Around) (outer : List Env) (s : Shared) (H : Hp) (hr : Room 0 (A.deeper (envOfC "Memo.is_in_use" (defScope (inClass (top 20) 6)) s.heap.objs.size (He.fAd K ("Memo", some "is_in_use")) cdv))) : SSs (gm K) W0 (cxOf CX0 P w K mg base ["self"] "Memo.is_in_use" (defScope (inClass (top 20) 6)) (He.fAd K ("Memo", some "is_in_use")) cdv A outer s H E0).nox (defBody (inClass (top 20) 6)) m20 := by
  have G : GOk K (gm K) g0 := gok B
  exact (sss_one (ss_ret (se_fld G (se_ix2 (o_ix G (hu1 hr)) (se_fld G (se_fld G (se_var 0))) (se_fld G (se_var 0))))))
theorem kp20 (B : Bd K hh mg) : PySem.W.keepIn K (.ref (He.fAd K ("Memo", some "is_in_use"))) = true := by obtain ⟨fd, F⟩ := B.c.def_ 20 (d := d20) rfl; exact F.kp
def f20 : MF := mDef 1 0 m20
theorem o20 (B : Bd K hh mg) : ∃ fd, FnOk P w K mg base CX0 1 (He.fAd K ("Memo", some "is_in_use")) fd ["self"] (SpM (gm K) 1 f20) ∧ FunD K d20.name d20.qual d20.params d20.body d20.scope (d20.dvs K) (d20.kws K) (He.fAd K ("Memo", some "is_in_use")) fd := by
  obtain ⟨fd, F⟩ := B.c.def_ 20 (d := d20) rfl
  exact ⟨fd, fn_okM (ps := ["self"]) F sc20 rfl rfl (fun cdv A outer s H hr => b20 B cdv A outer s H hr), F⟩
theorem r20 (B : Bd K hh mg) : FnR P w K mg base CX0 1 (He.fAd K ("Memo", some "is_in_use")) (SpM (gm K) 1 f20) := by
  obtain ⟨fd, F, D⟩ := o20 (P := P) (w := w) (base := base) B
  exact fnM_all F (FunD.bindsN (ps := ["self"]) D fun _ _ _ _ _ _ us hl => match us, hl with | [_], _ => rfl)
/-! ### Heap.__contains__ -/
theorem sc21 : FnScope ["self", "cell"] ["self", "cell"] (defScope (inClass (top 32) 2)) := ⟨rfl, rfl, rfl, by decide +kernel, rfl, by decide +kernel, by decide +kernel⟩
def m21 : MS := (mRet (mMeth 0 "is_cell" f5 2 (mVar 0) (mCons (mVar 1) mNil)))
theorem b21 (B : Bd K hh mg) (cdv : Value) (A : Around) (outer : List Env) (s : Shared) (H : Hp) (hr : Room 2 (A.deeper (envOfC "Heap.__contains__" (defScope (inClass (top 32) 2)) s.heap.objs.size (He.fAd K ("Heap", some "__contains__")) cdv))) : SSs (gm K) W0 (cxOf CX0 P w K mg base ["self", "cell"] "Heap.__contains__" (defScope (inClass (top 32) 2)) (He.fAd K ("Heap", some "__contains__")) cdv A outer s H E0).nox (defBody (inClass (top 32) 2)) m21 := by
  have G : GOk K (gm K) g0 := gok B
  exact (sss_one (ss_ret (se_meth (c := 0) (He.cls_ok (B.c.fact 9 rfl)) (He.meth_ok (B.c.fact 10 rfl)) (r5 B) (hr.mono (by decide)) (se_var 0) (sa_cons (se_var 1) sa_nil))))
theorem kp21 (B : Bd K hh mg) : PySem.W.keepIn K (.ref (He.fAd K ("Heap", some "__contains__"))) = true := by obtain ⟨fd, F⟩ := B.c.def_ 21 (d := d21) rfl; exact F.kp
def f21 : MF := mDef 2 0 m21
theorem o21 (B : Bd K hh mg) : ∃ fd, FnOk P w K mg base CX0 3 (He.fAd K ("Heap", some "__contains__")) fd ["self", "cell"] (SpM (gm K) 2 f21) ∧ FunD K d21.name d21.qual d21.params d21.body d21.scope (d21.dvs K) (d21.kws K) (He.fAd K ("Heap", some "__contains__")) fd := by
  obtain ⟨fd, F⟩ := B.c.def_ 21 (d := d21) rfl
  exact ⟨fd, fn_okM (ps := ["self", "cell"]) F sc21 rfl rfl (fun cdv A outer s H hr => b21 B cdv A outer s H hr), F⟩
theorem r21 (B : Bd K hh mg) : FnR P w K mg base CX0 3 (He.fAd K ("Heap", some "__contains__")) (SpM (gm K) 2 f21) := by
  obtain ⟨fd, F, D⟩ := o21 (P := P) (w := w) (base := base) B
  exact fnM_all F (FunD.bindsN (ps := ["self", "cell"]) D fun _ _ _ _ _ _ us hl => match us, hl with | [_, _], _ => rfl)
/-! ### Memo.set_use -/
theorem sc22 : FnScope ["self", "is_used", "held"] ["self", "is_used"] (defScope (inClass (top 20) 7)) := ⟨rfl, rfl, rfl, by decide +kernel, rfl, by decide +kernel, by decide +kernel⟩
def m22 : MS := (mSeq (mAsg (mBin (fIx g0) (mFld g0 "memos" (mFld g0 "heap" (mVar 0))) (mFld g0 "number" (mVar 0))) (mgName 2)) (mSetF g0 "is_busy" (mVar 2) (mVar 1)))
theorem b22 (B : Bd K hh mg) (cdv : Value) (A : Around) (outer : List Env) (s : Shared) (H : Hp) (hr : Room 0 (A.deeper (envOfC "Memo.set_use" (defScope (inClass (top 20) 7)) s.heap.objs.size (He.fAd K ("Memo", some "set_use")) cdv))) : SSs (gm K) W0 (cxOf CX0 P w K mg base ["self", "is_used", "held"] "Memo.set_use" (defScope (inClass (top 20) 7)) (He.fAd K ("Memo", some "set_use")) cdv A outer s H E0).nox (defBody (inClass (top 20) 7)) m22 := by
  have G : GOk K (gm K) g0 := gok B
  exact (sss_cons (ss_set sc22.nd (se_ix2 (o_ix G (hu1 hr)) (se_fld G (se_fld G (se_var 0))) (se_fld G (se_var 0)))) (sss_one (ss_setF G (se_var 2) (se_var 1))))
theorem kp22 (B : Bd K hh mg) : PySem.W.keepIn K (.ref (He.fAd K ("Memo", some "set_use"))) = true := by obtain ⟨fd, F⟩ := B.c.def_ 22 (d := d22) rfl; exact F.kp
def f22 : MF := mDef 2 1 m22
theorem o22 (B : Bd K hh mg) : ∃ fd, FnOk P w K mg base CX0 1 (He.fAd K ("Memo", some "set_use")) fd ["self", "is_used"] (SpM (gm K) 2 f22) ∧ FunD K d22.name d22.qual d22.params d22.body d22.scope (d22.dvs K) (d22.kws K) (He.fAd K ("Memo", some "set_use")) fd := by
  obtain ⟨fd, F⟩ := B.c.def_ 22 (d := d22) rfl
  exact ⟨fd, fn_okM (ps := ["self", "is_used"]) F sc22 rfl rfl (fun cdv A outer s H hr => b22 B cdv A outer s H hr), F⟩
theorem r22 (B : Bd K hh mg) : FnR P w K mg base CX0 1 (He.fAd K ("Memo", some "set_use")) (SpM (gm K) 2 f22) := by
  obtain ⟨fd, F, D⟩ := o22 (P := P) (w := w) (base := base) B
  exact fnM_all F (FunD.bindsN (ps := ["self", "is_used"]) D fun _ _ _ _ _ _ us hl => match us, hl with | [_, _], _ => rfl)
/-! ### Copying.__init__ -/
theorem sc16 : FnScope ["self", "heap", "value", "memo"] ["self", "heap", "value", "memo"] (defScope (inClass (top 25) 0)) := ⟨rfl, rfl, rfl, by decide +kernel, rfl, by decide +kernel, by decide +kernel⟩
def m16 : MS := (mSeq (mIfS (mNot (mTest (mMeth 0 "is_value" f4 2 (mVar 1) (mCons (mVar 2) mNil)))) mDeadS mNext) (mSeq (mSetF g0 "heap" (mVar 0) (mVar 1)) (mSeq (mSetF g0 "own_memo" (mVar 0) (mIf (mTest (mBin (fIsN false) (mVar 3) (mC .non))) (mMake 5 f17 2 (mCons (mVar 1) mNil)) (mVar 3))) (mSeq (mIfS (mTest (mMeth 5 "is_in_use" f20 1 (mFld g0 "own_memo" (mVar 0)) mNil)) mDeadS mNext) (mSeq (mSetF g0 "stack" (mVar 0) (mLst mNil)) (mSeq (mSetF g0 "written" (mVar 0) (mLst mNil)) (mSeq (mSetF g0 "coming" (mVar 0) (mC .non)) (mSeq (mSetF g0 "found" (mVar 0) (mC .non)) (mSeq (mSetF g0 "ended" (mVar 0) (mC (.bl false))) (mIfS (mTest (mBin (fOwn2 0 f21 fun b => bif false then !b else b) (mVar 2) (mVar 1))) (mSeq (mSetF g0 "coming" (mVar 0) (mVar 2)) (mDrop (mMeth 5 "set_use" f22 2 (mFld g0 "own_memo" (mVar 0)) (mCons (mC (.bl true)) mNil)))) (mSeq (mSetF g0 "found" (mVar 0) (mVar 2)) (mSetF g0 "ended" (mVar 0) (mC (.bl true))))))))))))))
theorem b16 (B : Bd K hh mg) (cdv : Value) (A : Around) (outer : List Env) (s : Shared) (H : Hp) (hr : Room 5 (A.deeper (envOfC "Copying.__init__" (defScope (inClass (top 25) 0)) s.heap.objs.size (He.fAd K ("Copying", some "__init__")) cdv))) : SSs (gm K) W0 (cxOf CX0 P w K mg base ["self", "heap", "value", "memo"] "Copying.__init__" (defScope (inClass (top 25) 0)) (He.fAd K ("Copying", some "__init__")) cdv A outer s H E0).nox (defBody (inClass (top 25) 0)) m16 := by
  have G : GOk K (gm K) g0 := gok B
  exact (sss_cons (ss_if (st_not (st_val (se_meth (c := 0) (He.cls_ok (B.c.fact 9 rfl)) (He.meth_ok (B.c.fact 16 rfl)) (r4 B) (hr.mono (by decide)) (se_var 1) (sa_cons (se_var 2) sa_nil)))) (sss_one s_dead) sss_nil) (sss_cons (ss_setF G (se_var 0) (se_var 1)) (sss_cons (ss_setF G (se_var 0) (se_if (st_cmp2 o_isN (se_var 3) se_non) (se_make (c := 5) (He.mkr_ok (B.c.fact 32 rfl)) (r17 B) (hr.mono (by decide)) (He.glo_ok B.X B.G (B.c.fact 33 rfl)) (sa_cons (se_var 1) sa_nil)) (se_var 3))) (sss_cons (ss_if (st_val (se_meth0 (c := 5) (He.cls_ok (B.c.fact 34 rfl)) (He.meth_ok (B.c.fact 35 rfl)) (r20 B) (hr.mono (by decide)) (se_fld G (se_var 0)))) (sss_one s_dead) sss_nil) (sss_cons (ss_setF G (se_var 0) (se_lst sa_nil)) (sss_cons (ss_setF G (se_var 0) (se_lst sa_nil)) (sss_cons (ss_setF G (se_var 0) se_non) (sss_cons (ss_setF G (se_var 0) se_non) (sss_cons (ss_setF G (se_var 0) se_bl) (sss_one (ss_if (st_cmp2 (o_inOwn (c := 0) (He.meth_ok (B.c.fact 36 rfl)).at_ (He.meth_ok (B.c.fact 36 rfl)).fn (r21 B) (hr.mono (by decide))) (se_var 2) (se_var 1)) (sss_cons (ss_setF G (se_var 0) (se_var 2)) (sss_one (ss_expr (se_meth (c := 5) (He.cls_ok (B.c.fact 34 rfl)) (He.meth_ok (B.c.fact 37 rfl)) (r22 B) (hr.mono (by decide)) (se_fld G (se_var 0)) (sa_cons se_bl sa_nil))))) (sss_cons (ss_setF G (se_var 0) (se_var 2)) (sss_one (ss_setF G (se_var 0) se_bl))))))))))))))
theorem kp16 (B : Bd K hh mg) : PySem.W.keepIn K (.ref (He.fAd K ("Copying", some "__init__"))) = true := by obtain ⟨fd, F⟩ := B.c.def_ 16 (d := d16) rfl; exact F.kp
def f16 : MF := mDef 4 0 m16
theorem o16 (B : Bd K hh mg) : ∃ fd, FnOk P w K mg base CX0 6 (He.fAd K ("Copying", some "__init__")) fd ["self", "heap", "value", "memo"] (SpM (gm K) 4 f16) ∧ FunD K d16.name d16.qual d16.params d16.body d16.scope (d16.dvs K) (d16.kws K) (He.fAd K ("Copying", some "__init__")) fd := by
  obtain ⟨fd, F⟩ := B.c.def_ 16 (d := d16) rfl
  exact ⟨fd, fn_okM (ps := ["self", "heap", "value", "memo"]) F sc16 rfl rfl (fun cdv A outer s H hr => b16 B cdv A outer s H hr), F⟩
def fd16_3 : MF := mfD f16 [.non]
theorem rd16_3 (B : Bd K hh mg) : FnR P w K mg base CX0 6 (He.fAd K ("Copying", some "__init__")) (SpM (gm K) 3 fd16_3) := by
  obtain ⟨fd, F, D⟩ := o16 (P := P) (w := w) (base := base) B
  obtain ⟨ds, hd, hb⟩ := FunD.binds0 (ps := ["self", "heap", "value", "memo"]) D 3 (by exact List.cons_ne_nil _ _) rfl fun _ _ _ _ _ _ us ks hl hi => match us, ks, hl, hi with | [_, _, _], [_], _, _ => ⟨_, _, _, _, _, _, rfl, rfl, rfl⟩
  exact fnM_of F hb hd (.cons rfl .nil) rfl
/-! ### Heap.steps_and_values -/
theorem sc24 : FnScope ["self", "cell", "found", "step"] ["self", "cell"] (defScope (inClass (top 32) 11)) := ⟨rfl, rfl, rfl, by decide +kernel, rfl, by decide +kernel, by decide +kernel⟩
def m24 : MS := (mSeq (mAsg (mBin (fIx g0) (mFld g0 "cells" (mVar 0)) (mVar 1)) (mgName 2)) (mSeq (mIfS (mTest (mIsi isList (mFld g0 "held" (mVar 2)))) (mRet (mListEnum g0 (mFld g0 "held" (mVar 2)))) mNext) (mSeq (mIfS (mTest (mBin (fEq g0 false) (mFld g0 "family" (mVar 2)) (mC (.str "dict")))) (mRet (mListItems (mFld g0 "held" (mVar 2)))) mNext) (mRet (mLc g0 300 [3] (miAny g0 (mFld g0 "fields" (mFld g0 "design" (mVar 2)))) (mgName 3) (mTest (mBin (fIn g0 false) (mVar 3) (mFld g0 "held" (mVar 2)))) (mTup (mCons (mVar 3) (mCons (mBin (fIx g0) (mFld g0 "held" (mVar 2)) (mVar 3)) mNil))))))))
theorem b24 (B : Bd K hh mg) (cdv : Value) (A : Around) (outer : List Env) (s : Shared) (H : Hp) (hr : Room 0 (A.deeper (envOfC "Heap.steps_and_values" (defScope (inClass (top 32) 11)) s.heap.objs.size (He.fAd K ("Heap", some "steps_and_values")) cdv))) : SSs (gm K) W0 (cxOf CX0 P w K mg base ["self", "cell", "found", "step"] "Heap.steps_and_values" (defScope (inClass (top 32) 11)) (He.fAd K ("Heap", some "steps_and_values")) cdv A outer s H E0).nox (defBody (inClass (top 32) 11)) m24 := by
  have G : GOk K (gm K) g0 := gok B
  exact (sss_cons (ss_set sc24.nd (se_ix2 (o_ix G (hu1 hr)) (se_fld G (se_var 0)) (se_var 1))) (sss_cons (ss_if (st_val (se_isi (isList_ok K) (se_fld G (se_var 2)) (He.free_ok B.X B.G (B.c.fact 3 rfl)) (He.free_ok B.X B.G (B.c.fact 20 rfl)) rfl)) (sss_one (ss_ret (se_listEnum G rfl (se_fld G (se_var 2)) (He.free_ok B.X B.G (B.c.fact 20 rfl)) (He.free_ok B.X B.G (B.c.fact 40 rfl))))) sss_nil) (sss_cons (ss_if (st_cmp2 (o_eq G (hu64 hr)) (se_fld G (se_var 2)) se_str) (sss_one (ss_ret (se_listItems rfl (se_fld G (se_var 2)) (He.free_ok B.X B.G (B.c.fact 20 rfl))))) sss_nil) (sss_one (ss_ret (se_lc (own := [("step", 3)]) 300 rfl sc24.nd (si_any G (se_fld G (se_fld G (se_var 2)))) (show BlkOk ["self", "cell", "found", "step"] (defScope (inClass (top 32) 11)) _ [("step", 3)] from ⟨rfl, by decide +kernel, by decide +kernel, by decide +kernel, by decide +kernel⟩) (fun _ _ _ _ _ => (sg_name sc24.nd)) (fun _ _ _ _ _ => ST.pts1 (st_cmp2 (o_in G (hu1 hr)) (se_var 3) (se_fld G (se_var 2)))) (fun _ _ _ _ _ => (se_tup (sa_cons (se_var 3) (sa_cons (se_ix2 (o_ix G (hu1 hr)) (se_fld G (se_var 2)) (se_var 3)) sa_nil))))))))))
theorem kp24 (B : Bd K hh mg) : PySem.W.keepIn K (.ref (He.fAd K ("Heap", some "steps_and_values"))) = true := by obtain ⟨fd, F⟩ := B.c.def_ 24 (d := d24) rfl; exact F.kp
def f24 : MF := mDef 2 2 m24
theorem o24 (B : Bd K hh mg) : ∃ fd, FnOk P w K mg base CX0 1 (He.fAd K ("Heap", some "steps_and_values")) fd ["self", "cell"] (SpM (gm K) 2 f24) ∧ FunD K d24.name d24.qual d24.params d24.body d24.scope (d24.dvs K) (d24.kws K) (He.fAd K ("Heap", some "steps_and_values")) fd := by
  obtain ⟨fd, F⟩ := B.c.def_ 24 (d := d24) rfl
  exact ⟨fd, fn_okM (ps := ["self", "cell"]) F sc24 rfl rfl (fun cdv A outer s H hr => b24 B cdv A outer s H hr), F⟩
theorem r24 (B : Bd K hh mg) : FnR P w K mg base CX0 1 (He.fAd K ("Heap", some "steps_and_values")) (SpM (gm K) 2 f24) := by
  obtain ⟨fd, F, D⟩ := o24 (P := P) (w := w) (base := base) B
  exact fnM_all F (FunD.bindsN (ps := ["self", "cell"]) D fun _ _ _ _ _ _ us hl => match us, hl with | [_, _], _ => rfl)
/-! ### Heap.parts -/
theorem sc23 : FnScope ["self", "cell"] ["self", "cell"] (defScope (inClass (top 32) 17)) := ⟨rfl, rfl, rfl, by decide +kernel, rfl, by decide +kernel, by decide +kernel⟩
def m23 : MS := (mSeq (mDrop (mMeth 0 "cell_of" f14 2 (mVar 0) (mCons (mVar 1) mNil))) (mRet (mMeth 0 "steps_and_values" f24 2 (mVar 0) (mCons (mVar 1) mNil))))
theorem b23 (B : Bd K hh mg) (cdv : Value) (A : Around) (outer : List Env) (s : Shared) (H : Hp) (hr : Room 3 (A.deeper (envOfC "Heap.parts" (defScope (inClass (top 32) 17)) s.heap.objs.size (He.fAd K ("Heap", some "parts")) cdv))) : SSs (gm K) W0 (cxOf CX0 P w K mg base ["self", "cell"] "Heap.parts" (defScope (inClass (top 32) 17)) (He.fAd K ("Heap", some "parts")) cdv A outer s H E0).nox (defBody (inClass (top 32) 17)) m23 := by
  have G : GOk K (gm K) g0 := gok B
  exact (sss_cons (ss_expr (se_meth (c := 0) (He.cls_ok (B.c.fact 9 rfl)) (He.meth_ok (B.c.fact 25 rfl)) (r14 B) (hr.mono (by decide)) (se_var 0) (sa_cons (se_var 1) sa_nil))) (sss_one (ss_ret (se_meth (c := 0) (He.cls_ok (B.c.fact 9 rfl)) (He.meth_ok (B.c.fact 41 rfl)) (r24 B) (hr.mono (by decide)) (se_var 0) (sa_cons (se_var 1) sa_nil)))))
theorem kp23 (B : Bd K hh mg) : PySem.W.keepIn K (.ref (He.fAd K ("Heap", some "parts"))) = true := by obtain ⟨fd, F⟩ := B.c.def_ 23 (d := d23) rfl; exact F.kp
def f23 : MF := mDef 2 0 m23
theorem o23 (B : Bd K hh mg) : ∃ fd, FnOk P w K mg base CX0 4 (He.fAd K ("Heap", some "parts")) fd ["self", "cell"] (SpM (gm K) 2 f23) ∧ FunD K d23.name d23.qual d23.params d23.body d23.scope (d23.dvs K) (d23.kws K) (He.fAd K ("Heap", some "parts")) fd := by
  obtain ⟨fd, F⟩ := B.c.def_ 23 (d := d23) rfl
  exact ⟨fd, fn_okM (ps := ["self", "cell"]) F sc23 rfl rfl (fun cdv A outer s H hr => b23 B cdv A outer s H hr), F⟩
theorem r23 (B : Bd K hh mg) : FnR P w K mg base CX0 4 (He.fAd K ("Heap", some "parts")) (SpM (gm K) 2 f23) := by
  obtain ⟨fd, F, D⟩ := o23 (P := P) (w := w) (base := base) B
  exact fnM_all F (FunD.bindsN (ps := ["self", "cell"]) D fun _ _ _ _ _ _ us hl => match us, hl with | [_, _], _ => rfl)
/-! ### Memo.__contains__ -/
theorem sc28 : FnScope ["self", "cell"] ["self", "cell"] (defScope (inClass (top 20) 1)) := ⟨rfl, rfl, rfl, by decide +kernel, rfl, by decide +kernel, by decide +kernel⟩
def m28 : MS := (mRet (mAndV (mCall f6 1 (mCons (mVar 1) mNil)) (mBin (fIn g0 false) (mVar 1) (mFld g0 "entered" (mBin (fIx g0) (mFld g0 "memos" (mFld g0 "heap" (mVar 0))) (mFld g0 "number" (mVar 0)))))))
theorem b28 (B : Bd K hh mg) (cdv : Value) (A : Around) (outer : List Env) (s : Shared) (H : Hp) (hr : Room 1 (A.deeper (envOfC "Memo.__contains__" (defScope (inClass (top 20) 1)) s.heap.objs.size (He.fAd K ("Memo", some "__contains__")) cdv))) : SSs (gm K) W0 (cxOf CX0 P w K mg base ["self", "cell"] "Memo.__contains__" (defScope (inClass (top 20) 1)) (He.fAd K ("Memo", some "__contains__")) cdv A outer s H E0).nox (defBody (inClass (top 20) 1)) m28 := by
  have G : GOk K (gm K) g0 := gok B
  exact (sss_one (ss_ret (se_and (se_call (r6 B) (hr.mono (by decide)) (He.glo_ok B.X B.G (B.c.fact 8 rfl)) (kp6 B) (sa_cons (se_var 1) sa_nil)) (se_one (se_cmp2 (o_in G (hu1 hr)) (se_var 1) (se_fld G (se_ix2 (o_ix G (hu1 hr)) (se_fld G (se_fld G (se_var 0))) (se_fld G (se_var 0)))))))))
theorem kp28 (B : Bd K hh mg) : PySem.W.keepIn K (.ref (He.fAd K ("Memo", some "__contains__"))) = true := by obtain ⟨fd, F⟩ := B.c.def_ 28 (d := d28) rfl; exact F.kp
def f28 : MF := mDef 2 0 m28
theorem o28 (B : Bd K hh mg) : ∃ fd, FnOk P w K mg base CX0 2 (He.fAd K ("Memo", some "__contains__")) fd ["self", "cell"] (SpM (gm K) 2 f28) ∧ FunD K d28.name d28.qual d28.params d28.body d28.scope (d28.dvs K) (d28.kws K) (He.fAd K ("Memo", some "__contains__")) fd := by
  obtain ⟨fd, F⟩ := B.c.def_ 28 (d := d28) rfl
  exact ⟨fd, fn_okM (ps := ["self", "cell"]) F sc28 rfl rfl (fun cdv A outer s H hr => b28 B cdv A outer s H hr), F⟩
theorem r28 (B : Bd K hh mg) : FnR P w K mg base CX0 2 (He.fAd K ("Memo", some "__contains__")) (SpM (gm K) 2 f28) := by
  obtain ⟨fd, F, D⟩ := o28 (P := P) (w := w) (base := base) B
  exact fnM_all F (FunD.bindsN (ps := ["self", "cell"]) D fun _ _ _ _ _ _ us hl => match us, hl with | [_, _], _ => rfl)
/-! ### Memo.__getitem__ -/
theorem sc29 : FnScope ["self", "cell"] ["self", "cell"] (defScope (inClass (top 20) 2)) := ⟨rfl, rfl, rfl, by decide +kernel, rfl, by decide +kernel, by decide +kernel⟩
def m29 : MS := (mSeq (mIfS (mOrT (mNot (mTest (mCall f6 1 (mCons (mVar 1) mNil)))) (mTest (mBin (fIn g0 true) (mVar 1) (mFld g0 "entered" (mBin (fIx g0) (mFld g0 "memos" (mFld g0 "heap" (mVar 0))) (mFld g0 "number" (mVar 0))))))) mDeadS mNext) (mRet (mBin (fIx g0) (mFld g0 "entered" (mBin (fIx g0) (mFld g0 "memos" (mFld g0 "heap" (mVar 0))) (mFld g0 "number" (mVar 0)))) (mVar 1))))
theorem b29 (B : Bd K hh mg) (cdv : Value) (A : Around) (outer : List Env) (s : Shared) (H : Hp) (hr : Room 1 (A.deeper (envOfC "Memo.__getitem__" (defScope (inClass (top 20) 2)) s.heap.objs.size (He.fAd K ("Memo", some "__getitem__")) cdv))) : SSs (gm K) W0 (cxOf CX0 P w K mg base ["self", "cell"] "Memo.__getitem__" (defScope (inClass (top 20) 2)) (He.fAd K ("Memo", some "__getitem__")) cdv A outer s H E0).nox (defBody (inClass (top 20) 2)) m29 := by
  have G : GOk K (gm K) g0 := gok B
  exact (sss_cons (ss_if (SW.st (sw_or (st_not (st_val (se_call (r6 B) (hr.mono (by decide)) (He.glo_ok B.X B.G (B.c.fact 8 rfl)) (kp6 B) (sa_cons (se_var 1) sa_nil)))) (sw_or1 (st_cmp2 (o_nin G (hu1 hr)) (se_var 1) (se_fld G (se_ix2 (o_ix G (hu1 hr)) (se_fld G (se_fld G (se_var 0))) (se_fld G (se_var 0)))))))) (sss_one s_dead) sss_nil) (sss_one (ss_ret (se_ix2 (o_ix G (hu1 hr)) (se_fld G (se_ix2 (o_ix G (hu1 hr)) (se_fld G (se_fld G (se_var 0))) (se_fld G (se_var 0)))) (se_var 1)))))
theorem kp29 (B : Bd K hh mg) : PySem.W.keepIn K (.ref (He.fAd K ("Memo", some "__getitem__"))) = true := by obtain ⟨fd, F⟩ := B.c.def_ 29 (d := d29) rfl; exact F.kp
def f29 : MF := mDef 2 0 m29
theorem o29 (B : Bd K hh mg) : ∃ fd, FnOk P w K mg base CX0 2 (He.fAd K ("Memo", some "__getitem__")) fd ["self", "cell"] (SpM (gm K) 2 f29) ∧ FunD K d29.name d29.qual d29.params d29.body d29.scope (d29.dvs K) (d29.kws K) (He.fAd K ("Memo", some "__getitem__")) fd := by
  obtain ⟨fd, F⟩ := B.c.def_ 29 (d := d29) rfl
  exact ⟨fd, fn_okM (ps := ["self", "cell"]) F sc29 rfl rfl (fun cdv A outer s H hr => b29 B cdv A outer s H hr), F⟩
theorem r29 (B : Bd K hh mg) : FnR P w K mg base CX0 2 (He.fAd K ("Memo", some "__getitem__")) (SpM (gm K) 2 f29) := by
  obtain ⟨fd, F, D⟩ := o29 (P := P) (w := w) (base := base) B
  exact fnM_all F (FunD.bindsN (ps := ["self", "cell"]) D fun _ _ _ _ _ _ us hl => match us, hl with | [_, _], _ => rfl)
/-! ### Copying.be_over -/
theorem sc31 : FnScope ["self"] ["self"] (defScope (inClass (top 25) 6)) := ⟨rfl, rfl, rfl, by decide +kernel, rfl, by decide +kernel, by decide +kernel⟩
def m31 : MS := (mSeq (mSetF g0 "ended" (mVar 0) (mC (.bl true))) (mDrop (mMeth 5 "set_use" f22 2 (mFld g0 "own_memo" (mVar 0)) (mCons (mC (.bl false)) mNil))))
theorem b31 (B : Bd K hh mg) (cdv : Value) (A : Around) (outer : List Env) (s : Shared) (H : Hp) (hr : Room 1 (A.deeper (envOfC "Copying.be_over" (defScope (inClass (top 25) 6)) s.heap.objs.size (He.fAd K ("Copying", some "be_over")) cdv))) : SSs (gm K) W0 (cxOf CX0 P w K mg base ["self"] "Copying.be_over" (defScope (inClass (top 25) 6)) (He.fAd K ("Copying", some "be_over")) cdv A outer s H E0).nox (defBody (inClass (top 25) 6)) m31 := by
  have G : GOk K (gm K) g0 := gok B
  exact (sss_cons (ss_setF G (se_var 0) se_bl) (sss_one (ss_expr (se_meth (c := 5) (He.cls_ok (B.c.fact 34 rfl)) (He.meth_ok (B.c.fact 37 rfl)) (r22 B) (hr.mono (by decide)) (se_fld G (se_var 0)) (sa_cons se_bl sa_nil)))))
theorem kp31 (B : Bd K hh mg) : PySem.W.keepIn K (.ref (He.fAd K ("Copying", some "be_over"))) = true := by obtain ⟨fd, F⟩ := B.c.def_ 31 (d := d31) rfl; exact F.kp
def f31 : MF := mDef 1 0 m31
theorem o31 (B : Bd K hh mg) : ∃ fd, FnOk P w K mg base CX0 2 (He.fAd K ("Copying", some "be_over")) fd ["self"] (SpM (gm K) 1 f31) ∧ FunD K d31.name d31.qual d31.params d31.body d31.scope (d31.dvs K) (d31.kws K) (He.fAd K ("Copying", some "be_over")) fd := by
  obtain ⟨fd, F⟩ := B.c.def_ 31 (d := d31) rfl
  exact ⟨fd, fn_okM (ps := ["self"]) F sc31 rfl rfl (fun cdv A outer s H hr => b31 B cdv A outer s H hr), F⟩
theorem r31 (B : Bd K hh mg) : FnR P w K mg base CX0 2 (He.fAd K ("Copying", some "be_over")) (SpM (gm K) 1 f31) := by
  obtain ⟨fd, F, D⟩ := o31 (P := P) (w := w) (base := base) B
  exact fnM_all F (FunD.bindsN (ps := ["self"]) D fun _ _ _ _ _ _ us hl => match us, hl with | [_], _ => rfl)
/-! ### Heap.kind -/
theorem sc33 : FnScope ["self", "cell"] ["self", "cell"] (defScope (inClass (top 32) 15)) := ⟨rfl, rfl, rfl, by decide +kernel, rfl, by decide +kernel, by decide +kernel⟩
def m33 : MS := (mRet (mFld g0 "family" (mMeth 0 "cell_of" f14 2 (mVar 0) (mCons (mVar 1) mNil))))
theorem b33 (B : Bd K hh mg) (cdv : Value) (A : Around) (outer : List Env) (s : Shared) (H : Hp) (hr : Room 3 (A.deeper (envOfC "Heap.kind" (defScope (inClass (top 32) 15)) s.heap.objs.size (He.fAd K ("Heap", some "kind")) cdv))) : SSs (gm K) W0 (cxOf CX0 P w K mg base ["self", "cell"] "Heap.kind" (defScope (inClass (top 32) 15)) (He.fAd K ("Heap", some "kind")) cdv A outer s H E0).nox (defBody (inClass (top 32) 15)) m33 := by
  have G : GOk K (gm K) g0 := gok B
  exact (sss_one (ss_ret (se_fld G (se_meth (c := 0) (He.cls_ok (B.c.fact 9 rfl)) (He.meth_ok (B.c.fact 25 rfl)) (r14 B) (hr.mono (by decide)) (se_var 0) (sa_cons (se_var 1) sa_nil)))))
theorem kp33 (B : Bd K hh mg) : PySem.W.keepIn K (.ref (He.fAd K ("Heap", some "kind"))) = true := by obtain ⟨fd, F⟩ := B.c.def_ 33 (d := d33) rfl; exact F.kp
def f33 : MF := mDef 2 0 m33
theorem o33 (B : Bd K hh mg) : ∃ fd, FnOk P w K mg base CX0 4 (He.fAd K ("Heap", some "kind")) fd ["self", "cell"] (SpM (gm K) 2 f33) ∧ FunD K d33.name d33.qual d33.params d33.body d33.scope (d33.dvs K) (d33.kws K) (He.fAd K ("Heap", some "kind")) fd := by
  obtain ⟨fd, F⟩ := B.c.def_ 33 (d := d33) rfl
  exact ⟨fd, fn_okM (ps := ["self", "cell"]) F sc33 rfl rfl (fun cdv A outer s H hr => b33 B cdv A outer s H hr), F⟩
theorem r33 (B : Bd K hh mg) : FnR P w K mg base CX0 4 (He.fAd K ("Heap", some "kind")) (SpM (gm K) 2 f33) := by
  obtain ⟨fd, F, D⟩ := o33 (P := P) (w := w) (base := base) B
  exact fnM_all F (FunD.bindsN (ps := ["self", "cell"]) D fun _ _ _ _ _ _ us hl => match us, hl with | [_, _], _ => rfl)
/-! ### attach -/
theorem sc32 : FnScope ["heap", "cell", "step", "value"] ["heap", "cell", "step", "value"] (defScope (top 23)) := ⟨rfl, rfl, rfl, by decide +kernel, rfl, by decide +kernel, by decide +kernel⟩
def m32 : MS := (mIfS (mTest (mBin (fIn g0 false) (mMeth 0 "kind" f33 2 (mVar 0) (mCons (mVar 1) mNil)) (mTup (mCons (mC (.str "list")) (mCons (mC (.str "set")) mNil))))) (mDrop (mMeth 0 "append_to" f15 3 (mVar 0) (mCons (mVar 1) (mCons (mVar 3) mNil)))) mDeadS)
theorem b32 (B : Bd K hh mg) (cdv : Value) (A : Around) (outer : List Env) (s : Shared) (H : Hp) (hr : Room 4 (A.deeper (envOfC "attach" (defScope (top 23)) s.heap.objs.size (He.fAd K ("attach", none)) cdv))) : SSs (gm K) W0 (cxOf CX0 P w K mg base ["heap", "cell", "step", "value"] "attach" (defScope (top 23)) (He.fAd K ("attach", none)) cdv A outer s H E0).nox (defBody (top 23)) m32 := by
  have G : GOk K (gm K) g0 := gok B
  exact (sss_one (ss_if (st_cmp2 (o_in G (hu1 hr)) (se_meth (c := 0) (He.cls_ok (B.c.fact 9 rfl)) (He.meth_ok (B.c.fact 47 rfl)) (r33 B) (hr.mono (by decide)) (se_var 0) (sa_cons (se_var 1) sa_nil)) (se_tup (sa_cons se_str (sa_cons se_str sa_nil)))) (sss_one (ss_expr (se_meth (c := 0) (He.cls_ok (B.c.fact 9 rfl)) (He.meth_ok (B.c.fact 27 rfl)) (r15 B) (hr.mono (by decide)) (se_var 0) (sa_cons (se_var 1) (sa_cons (se_var 3) sa_nil))))) (sss_one s_dead)))
theorem kp32 (B : Bd K hh mg) : PySem.W.keepIn K (.ref (He.fAd K ("attach", none))) = true := by obtain ⟨fd, F⟩ := B.c.def_ 32 (d := d32) rfl; exact F.kp
def f32 : MF := mDef 4 0 m32
theorem o32 (B : Bd K hh mg) : ∃ fd, FnOk P w K mg base CX0 5 (He.fAd K ("attach", none)) fd ["heap", "cell", "step", "value"] (SpM (gm K) 4 f32) ∧ FunD K d32.name d32.qual d32.params d32.body d32.scope (d32.dvs K) (d32.kws K) (He.fAd K ("attach", none)) fd := by
  obtain ⟨fd, F⟩ := B.c.def_ 32 (d := d32) rfl
  exact ⟨fd, fn_okM (ps := ["heap", "cell", "step", "value"]) F sc32 rfl rfl (fun cdv A outer s H hr => b32 B cdv A outer s H hr), F⟩
theorem r32 (B : Bd K hh mg) : FnR P w K mg base CX0 5 (He.fAd K ("attach", none)) (SpM (gm K) 4 f32) := by
  obtain ⟨fd, F, D⟩ := o32 (P := P) (w := w) (base := base) B
  exact fnM_all F (FunD.bindsN (ps := ["heap", "cell", "step", "value"]) D fun _ _ _ _ _ _ us hl => match us, hl with | [_, _, _, _], _ => rfl)
/-! ### Copying.deliver -/
theorem sc30 : FnScope ["self", "value", "frame"] ["self", "value"] (defScope (inClass (top 25) 10)) := ⟨rfl, rfl, rfl, by decide +kernel, rfl, by decide +kernel, by decide +kernel⟩
def m30 : MS := (mSeq (mIfS (mTest (mBin (fEq g0 false) (mFld g0 "stack" (mVar 0)) (mLst mNil))) (mSeq (mSetF g0 "found" (mVar 0) (mVar 1)) (mSeq (mDrop (mMeth 6 "be_over" f31 1 (mVar 0) mNil)) mRetN)) mNext) (mSeq (mAsg (mBin (fIx g0) (mFld g0 "stack" (mVar 0)) (mC (.int (-1)))) (mgName 2)) (mIfS (mTest (mBin (fIsN true) (mFld g0 "copy" (mVar 2)) (mC .non))) (mDrop (mCall f32 4 (mCons (mFld g0 "heap" (mVar 0)) (mCons (mFld g0 "copy" (mVar 2)) (mCons (mFld g0 "place" (mVar 2)) (mCons (mVar 1) mNil)))))) (mSeq (mDrop (mMt fAppend (mFld g0 "gathered" (mVar 2)) (mCons (mVar 1) mNil))) (mAsg (mVar 1) (mgSub (mFld g0 "kept_back" (mVar 2)) (mFld g0 "place" (mVar 2))))))))
theorem b30 (B : Bd K hh mg) (cdv : Value) (A : Around) (outer : List Env) (s : Shared) (H : Hp) (hr : Room 5 (A.deeper (envOfC "Copying.deliver" (defScope (inClass (top 25) 10)) s.heap.objs.size (He.fAd K ("Copying", some "deliver")) cdv))) : SSs (gm K) W0 (cxOf CX0 P w K mg base ["self", "value", "frame"] "Copying.deliver" (defScope (inClass (top 25) 10)) (He.fAd K ("Copying", some "deliver")) cdv A outer s H E0).nox (defBody (inClass (top 25) 10)) m30 := by
  have G : GOk K (gm K) g0 := gok B
  exact (sss_cons (ss_if (st_cmp2 (o_eq G (hu64 hr)) (se_fld G (se_var 0)) (se_lst sa_nil)) (sss_cons (ss_setF G (se_var 0) (se_var 1)) (sss_cons (ss_expr (se_meth0 (c := 6) (He.cls_ok (B.c.fact 45 rfl)) (He.meth_ok (B.c.fact 46 rfl)) (r31 B) (hr.mono (by decide)) (se_var 0))) (sss_one ss_retN))) sss_nil) (sss_cons (ss_set sc30.nd (se_ix2 (o_ix G (hu1 hr)) (se_fld G (se_var 0)) se_negc)) (sss_one (ss_if (st_cmp2 o_notN (se_fld G (se_var 2)) se_non) (sss_one (ss_expr (se_call (r32 B) (hr.mono (by decide)) (He.glo_ok B.X B.G (B.c.fact 48 rfl)) (kp32 B) (sa_cons (se_fld G (se_var 0)) (sa_cons (se_fld G (se_var 2)) (sa_cons (se_fld G (se_var 2)) (sa_cons (se_var 1) sa_nil))))))) (sss_cons (ss_expr (se_bm PySem.F.slot_list_append PySem.F.type_list_append mt2_append (se_fld G (se_var 2)) (sa_cons (se_var 1) sa_nil))) (sss_one (ss_asg (se_var 1) (sg_sub (W := W0) (hu1 hr) (se_fld G (se_var 2)) (se_fld G (se_var 2))))))))))
theorem kp30 (B : Bd K hh mg) : PySem.W.keepIn K (.ref (He.fAd K ("Copying", some "deliver"))) = true := by obtain ⟨fd, F⟩ := B.c.def_ 30 (d := d30) rfl; exact F.kp
def f30 : MF := mDef 2 1 m30
theorem o30 (B : Bd K hh mg) : ∃ fd, FnOk P w K mg base CX0 6 (He.fAd K ("Copying", some "deliver")) fd ["self", "value"] (SpM (gm K) 2 f30) ∧ FunD K d30.name d30.qual d30.params d30.body d30.scope (d30.dvs K) (d30.kws K) (He.fAd K ("Copying", some "deliver")) fd := by
  obtain ⟨fd, F⟩ := B.c.def_ 30 (d := d30) rfl
  exact ⟨fd, fn_okM (ps := ["self", "value"]) F sc30 rfl rfl (fun cdv A outer s H hr => b30 B cdv A outer s H hr), F⟩
theorem r30 (B : Bd K hh mg) : FnR P w K mg base CX0 6 (He.fAd K ("Copying", some "deliver")) (SpM (gm K) 2 f30) := by
  obtain ⟨fd, F, D⟩ := o30 (P := P) (w := w) (base := base) B
  exact fnM_all F (FunD.bindsN (ps := ["self", "value"]) D fun _ _ _ _ _ _ us hl => match us, hl with | [_, _], _ => rfl)
/-! ### Memo.__len__ -/
theorem sc34 : FnScope ["self"] ["self"] (defScope (inClass (top 20) 4)) := ⟨rfl, rfl, rfl, by decide +kernel, rfl, by decide +kernel, by decide +kernel⟩
def m34 : MS := (mRet (mCb (fLen g0) (mCons (mFld g0 "entered" (mBin (fIx g0) (mFld g0 "memos" (mFld g0 "heap" (mVar 0))) (mFld g0 "number" (mVar 0)))) mNil)))
theorem b34 (B : Bd K hh mg) (cdv : Value) (A : Around) (outer : List Env) (s : Shared) (H : Hp) (hr : Room 0 (A.deeper (envOfC "Memo.__len__" (defScope (inClass (top 20) 4)) s.heap.objs.size (He.fAd K ("Memo", some "__len__")) cdv))) : SSs (gm K) W0 (cxOf CX0 P w K mg base ["self"] "Memo.__len__" (defScope (inClass (top 20) 4)) (He.fAd K ("Memo", some "__len__")) cdv A outer s H E0).nox (defBody (inClass (top 20) 4)) m34 := by
  have G : GOk K (gm K) g0 := gok B
  exact (sss_one (ss_ret (se_callB (id := "len") (cb_len G) (He.free_ok B.X B.G (B.c.fact 5 rfl)) rfl (sa_cons (se_fld G (se_ix2 (o_ix G (hu1 hr)) (se_fld G (se_fld G (se_var 0))) (se_fld G (se_var 0)))) sa_nil))))
theorem kp34 (B : Bd K hh mg) : PySem.W.keepIn K (.ref (He.fAd K ("Memo", some "__len__"))) = true := by obtain ⟨fd, F⟩ := B.c.def_ 34 (d := d34) rfl; exact F.kp
def f34 : MF := mDef 1 0 m34
theorem o34 (B : Bd K hh mg) : ∃ fd, FnOk P w K mg base CX0 1 (He.fAd K ("Memo", some "__len__")) fd ["self"] (SpM (gm K) 1 f34) ∧ FunD K d34.name d34.qual d34.params d34.body d34.scope (d34.dvs K) (d34.kws K) (He.fAd K ("Memo", some "__len__")) fd := by
  obtain ⟨fd, F⟩ := B.c.def_ 34 (d := d34) rfl
  exact ⟨fd, fn_okM (ps := ["self"]) F sc34 rfl rfl (fun cdv A outer s H hr => b34 B cdv A outer s H hr), F⟩
theorem r34 (B : Bd K hh mg) : FnR P w K mg base CX0 1 (He.fAd K ("Memo", some "__len__")) (SpM (gm K) 1 f34) := by
  obtain ⟨fd, F, D⟩ := o34 (P := P) (w := w) (base := base) B
  exact fnM_all F (FunD.bindsN (ps := ["self"]) D fun _ _ _ _ _ _ us hl => match us, hl with | [_], _ => rfl)
/-! ### Frame.__init__ -/
theorem sc35 : FnScope ["self", "cell", "size"] ["self", "cell", "size"] (defScope (inClass (top 24) 0)) := ⟨rfl, rfl, rfl, by decide +kernel, rfl, by decide +kernel, by decide +kernel⟩
def m35 : MS := (mSeq (mSetF g0 "of_cell" (mVar 0) (mVar 1)) (mSeq (mSetF g0 "size" (mVar 0) (mVar 2)) (mSeq (mSetF g0 "copy" (mVar 0) (mC .non)) (mSeq (mSetF g0 "at" (mVar 0) (mC (.int 0))) (mSeq (mSetF g0 "place" (mVar 0) (mC .non)) (mSeq (mSetF g0 "ahead" (mVar 0) (mLst mNil)) (mSeq (mSetF g0 "gathered" (mVar 0) (mLst mNil)) (mSetF g0 "kept_back" (mVar 0) mDict0))))))))
theorem b35 (B : Bd K hh mg) (cdv : Value) (A : Around) (outer : List Env) (s : Shared) (H : Hp) (hr : Room 0 (A.deeper (envOfC "Frame.__init__" (defScope (inClass (top 24) 0)) s.heap.objs.size (He.fAd K ("Frame", some "__init__")) cdv))) : SSs (gm K) W0 (cxOf CX0 P w K mg base ["self", "cell", "size"] "Frame.__init__" (defScope (inClass (top 24) 0)) (He.fAd K ("Frame", some "__init__")) cdv A outer s H E0).nox (defBody (inClass (top 24) 0)) m35 := by
  have G : GOk K (gm K) g0 := gok B
  exact (sss_cons (ss_setF G (se_var 0) (se_var 1)) (sss_cons (ss_setF G (se_var 0) (se_var 2)) (sss_cons (ss_setF G (se_var 0) se_non) (sss_cons (ss_setF G (se_var 0) se_int) (sss_cons (ss_setF G (se_var 0) se_non) (sss_cons (ss_setF G (se_var 0) (se_lst sa_nil)) (sss_cons (ss_setF G (se_var 0) (se_lst sa_nil)) (sss_one (ss_setF G (se_var 0) se_dict0)))))))))
theorem kp35 (B : Bd K hh mg) : PySem.W.keepIn K (.ref (He.fAd K ("Frame", some "__init__"))) = true := by obtain ⟨fd, F⟩ := B.c.def_ 35 (d := d35) rfl; exact F.kp
def f35 : MF := mDef 3 0 m35
theorem o35 (B : Bd K hh mg) : ∃ fd, FnOk P w K mg base CX0 1 (He.fAd K ("Frame", some "__init__")) fd ["self", "cell", "size"] (SpM (gm K) 3 f35) ∧ FunD K d35.name d35.qual d35.params d35.body d35.scope (d35.dvs K) (d35.kws K) (He.fAd K ("Frame", some "__init__")) fd := by
  obtain ⟨fd, F⟩ := B.c.def_ 35 (d := d35) rfl
  exact ⟨fd, fn_okM (ps := ["self", "cell", "size"]) F sc35 rfl rfl (fun cdv A outer s H hr => b35 B cdv A outer s H hr), F⟩
theorem r35 (B : Bd K hh mg) : FnR P w K mg base CX0 1 (He.fAd K ("Frame", some "__init__")) (SpM (gm K) 3 f35) := by
  obtain ⟨fd, F, D⟩ := o35 (P := P) (w := w) (base := base) B
  exact fnM_all F (FunD.bindsN (ps := ["self", "cell", "size"]) D fun _ _ _ _ _ _ us hl => match us, hl with | [_, _, _], _ => rfl)
/-! ### Copying.read -/
theorem sc38 : FnScope ["self", "frame", "step", "value"] ["self", "frame", "step", "value"] (defScope (inClass (top 25) 11)) := ⟨rfl, rfl, rfl, by decide +kernel, rfl, by decide +kernel, by decide +kernel⟩
def m38 : MS := (mSeq (mAugF g0 "at" (mVar 1) (mC (.int 1))) (mSeq (mSetF g0 "place" (mVar 1) (mVar 2)) (mSeq (mDrop (mMt fAppend (mFld g0 "written" (mVar 0)) (mCons (mTup (mCons (mC (.str "part")) (mCons (mFld g0 "of_cell" (mVar 1)) (mCons (mVar 2) (mCons (mVar 3) mNil))))) mNil))) (mIfS (mTest (mBin (fOwn2 0 f21 fun b => bif false then !b else b) (mVar 3) (mFld g0 "heap" (mVar 0)))) (mSetF g0 "coming" (mVar 0) (mVar 3)) (mDrop (mMeth 6 "deliver" f30 2 (mVar 0) (mCons (mVar 3) mNil)))))))
theorem b38 (B : Bd K hh mg) (cdv : Value) (A : Around) (outer : List Env) (s : Shared) (H : Hp) (hr : Room 6 (A.deeper (envOfC "Copying.read" (defScope (inClass (top 25) 11)) s.heap.objs.size (He.fAd K ("Copying", some "read")) cdv))) : SSs (gm K) W0 (cxOf CX0 P w K mg base ["self", "frame", "step", "value"] "Copying.read" (defScope (inClass (top 25) 11)) (He.fAd K ("Copying", some "read")) cdv A outer s H E0).nox (defBody (inClass (top 25) 11)) m38 := by
  have G : GOk K (gm K) g0 := gok B
  exact (sss_cons (ss_augF G (se_var 1) se_int) (sss_cons (ss_setF G (se_var 1) (se_var 2)) (sss_cons (ss_expr (se_bm PySem.F.slot_list_append PySem.F.type_list_append mt2_append (se_fld G (se_var 0)) (sa_cons (se_tup (sa_cons se_str (sa_cons (se_fld G (se_var 1)) (sa_cons (se_var 2) (sa_cons (se_var 3) sa_nil))))) sa_nil))) (sss_one (ss_if (st_cmp2 (o_inOwn (c := 0) (He.meth_ok (B.c.fact 36 rfl)).at_ (He.meth_ok (B.c.fact 36 rfl)).fn (r21 B) (hr.mono (by decide))) (se_var 3) (se_fld G (se_var 0))) (sss_one (ss_setF G (se_var 0) (se_var 3))) (sss_one (ss_expr (se_meth (c := 6) (He.cls_ok (B.c.fact 45 rfl)) (He.meth_ok (B.c.fact 49 rfl)) (r30 B) (hr.mono (by decide)) (se_var 0) (sa_cons (se_var 3) sa_nil)))))))))
theorem kp38 (B : Bd K hh mg) : PySem.W.keepIn K (.ref (He.fAd K ("Copying", some "read"))) = true := by obtain ⟨fd, F⟩ := B.c.def_ 38 (d := d38) rfl; exact F.kp
def f38 : MF := mDef 4 0 m38
theorem o38 (B : Bd K hh mg) : ∃ fd, FnOk P w K mg base CX0 7 (He.fAd K ("Copying", some "read")) fd ["self", "frame", "step", "value"] (SpM (gm K) 4 f38) ∧ FunD K d38.name d38.qual d38.params d38.body d38.scope (d38.dvs K) (d38.kws K) (He.fAd K ("Copying", some "read")) fd := by
  obtain ⟨fd, F⟩ := B.c.def_ 38 (d := d38) rfl
  exact ⟨fd, fn_okM (ps := ["self", "frame", "step", "value"]) F sc38 rfl rfl (fun cdv A outer s H hr => b38 B cdv A outer s H hr), F⟩
theorem r38 (B : Bd K hh mg) : FnR P w K mg base CX0 7 (He.fAd K ("Copying", some "read")) (SpM (gm K) 4 f38) := by
  obtain ⟨fd, F, D⟩ := o38 (P := P) (w := w) (base := base) B
  exact fnM_all F (FunD.bindsN (ps := ["self", "frame", "step", "value"]) D fun _ _ _ _ _ _ us hl => match us, hl with | [_, _, _, _], _ => rfl)
/-! ### Memo.end_half -/
theorem sc40 : FnScope ["self", "copy"] ["self", "copy"] (defScope (inClass (top 20) 10)) := ⟨rfl, rfl, rfl, by decide +kernel, rfl, by decide +kernel, by decide +kernel⟩
def m40 : MS := (mDrop (mMt fRemove (mFld g0 "open_copies" (mBin (fIx g0) (mFld g0 "memos" (mFld g0 "heap" (mVar 0))) (mFld g0 "number" (mVar 0)))) (mCons (mVar 1) mNil)))
theorem b40 (B : Bd K hh mg) (cdv : Value) (A : Around) (outer : List Env) (s : Shared) (H : Hp) (hr : Room 0 (A.deeper (envOfC "Memo.end_half" (defScope (inClass (top 20) 10)) s.heap.objs.size (He.fAd K ("Memo", some "end_half")) cdv))) : SSs (gm K) W0 (cxOf CX0 P w K mg base ["self", "copy"] "Memo.end_half" (defScope (inClass (top 20) 10)) (He.fAd K ("Memo", some "end_half")) cdv A outer s H E0).nox (defBody (inClass (top 20) 10)) m40 := by
  have G : GOk K (gm K) g0 := gok B
  exact (sss_one (ss_expr (se_bm PySem.F.slot_list_remove PySem.F.type_list_remove mt2_remove (se_fld G (se_ix2 (o_ix G (hu1 hr)) (se_fld G (se_fld G (se_var 0))) (se_fld G (se_var 0)))) (sa_cons (se_var 1) sa_nil))))
theorem kp40 (B : Bd K hh mg) : PySem.W.keepIn K (.ref (He.fAd K ("Memo", some "end_half"))) = true := by obtain ⟨fd, F⟩ := B.c.def_ 40 (d := d40) rfl; exact F.kp
def f40 : MF := mDef 2 0 m40
theorem o40 (B : Bd K hh mg) : ∃ fd, FnOk P w K mg base CX0 1 (He.fAd K ("Memo", some "end_half")) fd ["self", "copy"] (SpM (gm K) 2 f40) ∧ FunD K d40.name d40.qual d40.params d40.body d40.scope (d40.dvs K) (d40.kws K) (He.fAd K ("Memo", some "end_half")) fd := by
  obtain ⟨fd, F⟩ := B.c.def_ 40 (d := d40) rfl
  exact ⟨fd, fn_okM (ps := ["self", "copy"]) F sc40 rfl rfl (fun cdv A outer s H hr => b40 B cdv A outer s H hr), F⟩
theorem r40 (B : Bd K hh mg) : FnR P w K mg base CX0 1 (He.fAd K ("Memo", some "end_half")) (SpM (gm K) 2 f40) := by
  obtain ⟨fd, F, D⟩ := o40 (P := P) (w := w) (base := base) B
  exact fnM_all F (FunD.bindsN (ps := ["self", "copy"]) D fun _ _ _ _ _ _ us hl => match us, hl with | [_, _], _ => rfl)
/-! ### Copying.close -/
theorem sc41 : FnScope ["self", "entry", "value"] ["self", "entry", "value"] (defScope (inClass (top 25) 12)) := ⟨rfl, rfl, rfl, by decide +kernel, rfl, by decide +kernel, by decide +kernel⟩
def m41 : MS := (mSeq (mDrop (mMt fPop (mFld g0 "stack" (mVar 0)) mNil)) (mSeq (mDrop (mMt fAppend (mFld g0 "written" (mVar 0)) (mCons (mVar 1) mNil))) (mDrop (mMeth 6 "deliver" f30 2 (mVar 0) (mCons (mVar 2) mNil)))))
theorem b41 (B : Bd K hh mg) (cdv : Value) (A : Around) (outer : List Env) (s : Shared) (H : Hp) (hr : Room 6 (A.deeper (envOfC "Copying.close" (defScope (inClass (top 25) 12)) s.heap.objs.size (He.fAd K ("Copying", some "close")) cdv))) : SSs (gm K) W0 (cxOf CX0 P w K mg base ["self", "entry", "value"] "Copying.close" (defScope (inClass (top 25) 12)) (He.fAd K ("Copying", some "close")) cdv A outer s H E0).nox (defBody (inClass (top 25) 12)) m41 := by
  have G : GOk K (gm K) g0 := gok B
  exact (sss_cons (ss_expr (se_bm0 PySem.F.slot_list_pop PySem.F.type_list_pop mt2_pop (se_fld G (se_var 0)))) (sss_cons (ss_expr (se_bm PySem.F.slot_list_append PySem.F.type_list_append mt2_append (se_fld G (se_var 0)) (sa_cons (se_var 1) sa_nil))) (sss_one (ss_expr (se_meth (c := 6) (He.cls_ok (B.c.fact 45 rfl)) (He.meth_ok (B.c.fact 49 rfl)) (r30 B) (hr.mono (by decide)) (se_var 0) (sa_cons (se_var 2) sa_nil))))))
theorem kp41 (B : Bd K hh mg) : PySem.W.keepIn K (.ref (He.fAd K ("Copying", some "close"))) = true := by obtain ⟨fd, F⟩ := B.c.def_ 41 (d := d41) rfl; exact F.kp
def f41 : MF := mDef 3 0 m41
theorem o41 (B : Bd K hh mg) : ∃ fd, FnOk P w K mg base CX0 7 (He.fAd K ("Copying", some "close")) fd ["self", "entry", "value"] (SpM (gm K) 3 f41) ∧ FunD K d41.name d41.qual d41.params d41.body d41.scope (d41.dvs K) (d41.kws K) (He.fAd K ("Copying", some "close")) fd := by
  obtain ⟨fd, F⟩ := B.c.def_ 41 (d := d41) rfl
  exact ⟨fd, fn_okM (ps := ["self", "entry", "value"]) F sc41 rfl rfl (fun cdv A outer s H hr => b41 B cdv A outer s H hr), F⟩
theorem r41 (B : Bd K hh mg) : FnR P w K mg base CX0 7 (He.fAd K ("Copying", some "close")) (SpM (gm K) 3 f41) := by
  obtain ⟨fd, F, D⟩ := o41 (P := P) (w := w) (base := base) B
  exact fnM_all F (FunD.bindsN (ps := ["self", "entry", "value"]) D fun _ _ _ _ _ _ us hl => match us, hl with | [_, _, _], _ => rfl)
/-! ### Copying.end -/
theorem sc39 : FnScope ["self", "frame"] ["self", "frame"] (defScope (inClass (top 25) 13)) := ⟨rfl, rfl, rfl, by decide +kernel, rfl, by decide +kernel, by decide +kernel⟩
def m39 : MS := (mSeq (mDrop (mMeth 5 "end_half" f40 2 (mFld g0 "own_memo" (mVar 0)) (mCons (mFld g0 "copy" (mVar 1)) mNil))) (mDrop (mMeth 6 "close" f41 3 (mVar 0) (mCons (mTup (mCons (mC (.str "end")) (mCons (mFld g0 "of_cell" (mVar 1)) mNil))) (mCons (mFld g0 "copy" (mVar 1)) mNil)))))
theorem b39 (B : Bd K hh mg) (cdv : Value) (A : Around) (outer : List Env) (s : Shared) (H : Hp) (hr : Room 7 (A.deeper (envOfC "Copying.end" (defScope (inClass (top 25) 13)) s.heap.objs.size (He.fAd K ("Copying", some "end")) cdv))) : SSs (gm K) W0 (cxOf CX0 P w K mg base ["self", "frame"] "Copying.end" (defScope (inClass (top 25) 13)) (He.fAd K ("Copying", some "end")) cdv A outer s H E0).nox (defBody (inClass (top 25) 13)) m39 := by
  have G : GOk K (gm K) g0 := gok B
  exact (sss_cons (ss_expr (se_meth (c := 5) (He.cls_ok (B.c.fact 34 rfl)) (He.meth_ok (B.c.fact 56 rfl)) (r40 B) (hr.mono (by decide)) (se_fld G (se_var 0)) (sa_cons (se_fld G (se_var 1)) sa_nil))) (sss_one (ss_expr (se_meth (c := 6) (He.cls_ok (B.c.fact 45 rfl)) (He.meth_ok (B.c.fact 57 rfl)) (r41 B) (hr.mono (by decide)) (se_var 0) (sa_cons (se_tup (sa_cons se_str (sa_cons (se_fld G (se_var 1)) sa_nil))) (sa_cons (se_fld G (se_var 1)) sa_nil))))))
theorem kp39 (B : Bd K hh mg) : PySem.W.keepIn K (.ref (He.fAd K ("Copying", some "end"))) = true := by obtain ⟨fd, F⟩ := B.c.def_ 39 (d := d39) rfl; exact F.kp
def f39 : MF := mDef 2 0 m39
theorem o39 (B : Bd K hh mg) : ∃ fd, FnOk P w K mg base CX0 8 (He.fAd K ("Copying", some "end")) fd ["self", "frame"] (SpM (gm K) 2 f39) ∧ FunD K d39.name d39.qual d39.params d39.body d39.scope (d39.dvs K) (d39.kws K) (He.fAd K ("Copying", some "end")) fd := by
  obtain ⟨fd, F⟩ := B.c.def_ 39 (d := d39) rfl
  exact ⟨fd, fn_okM (ps := ["self", "frame"]) F sc39 rfl rfl (fun cdv A outer s H hr => b39 B cdv A outer s H hr), F⟩
theorem r39 (B : Bd K hh mg) : FnR P w K mg base CX0 8 (He.fAd K ("Copying", some "end")) (SpM (gm K) 2 f39) := by
  obtain ⟨fd, F, D⟩ := o39 (P := P) (w := w) (base := base) B
  exact fnM_all F (FunD.bindsN (ps := ["self", "frame"]) D fun _ _ _ _ _ _ us hl => match us, hl with | [_, _], _ => rfl)
/-! ### Memo.enter_for -/
theorem sc43 : FnScope ["self", "cell", "value", "held"] ["self", "cell", "value"] (defScope (inClass (top 20) 8)) := ⟨rfl, rfl, rfl, by decide +kernel, rfl, by decide +kernel, by decide +kernel⟩
def m43 : MS := (mSeq (mAsg (mBin (fIx g0) (mFld g0 "memos" (mFld g0 "heap" (mVar 0))) (mFld g0 "number" (mVar 0))) (mgName 3)) (mAsg (mVar 2) (mgSub (mFld g0 "entered" (mVar 3)) (mVar 1))))
theorem b43 (B : Bd K hh mg) (cdv : Value) (A : Around) (outer : List Env) (s : Shared) (H : Hp) (hr : Room 0 (A.deeper (envOfC "Memo.enter_for" (defScope (inClass (top 20) 8)) s.heap.objs.size (He.fAd K ("Memo", some "enter_for")) cdv))) : SSs (gm K) W0 (cxOf CX0 P w K mg base ["self", "cell", "value", "held"] "Memo.enter_for" (defScope (inClass (top 20) 8)) (He.fAd K ("Memo", some "enter_for")) cdv A outer s H E0).nox (defBody (inClass (top 20) 8)) m43 := by
  have G : GOk K (gm K) g0 := gok B
  exact (sss_cons (ss_set sc43.nd (se_ix2 (o_ix G (hu1 hr)) (se_fld G (se_fld G (se_var 0))) (se_fld G (se_var 0)))) (sss_one (ss_asg (se_var 2) (sg_sub (W := W0) (hu1 hr) (se_fld G (se_var 3)) (se_var 1)))))
theorem kp43 (B : Bd K hh mg) : PySem.W.keepIn K (.ref (He.fAd K ("Memo", some "enter_for"))) = true := by obtain ⟨fd, F⟩ := B.c.def_ 43 (d := d43) rfl; exact F.kp
def f43 : MF := mDef 3 1 m43
theorem o43 (B : Bd K hh mg) : ∃ fd, FnOk P w K mg base CX0 1 (He.fAd K ("Memo", some "enter_for")) fd ["self", "cell", "value"] (SpM (gm K) 3 f43) ∧ FunD K d43.name d43.qual d43.params d43.body d43.scope (d43.dvs K) (d43.kws K) (He.fAd K ("Memo", some "enter_for")) fd := by
  obtain ⟨fd, F⟩ := B.c.def_ 43 (d := d43) rfl
  exact ⟨fd, fn_okM (ps := ["self", "cell", "value"]) F sc43 rfl rfl (fun cdv A outer s H hr => b43 B cdv A outer s H hr), F⟩
theorem r43 (B : Bd K hh mg) : FnR P w K mg base CX0 1 (He.fAd K ("Memo", some "enter_for")) (SpM (gm K) 3 f43) := by
  obtain ⟨fd, F, D⟩ := o43 (P := P) (w := w) (base := base) B
  exact fnM_all F (FunD.bindsN (ps := ["self", "cell", "value"]) D fun _ _ _ _ _ _ us hl => match us, hl with | [_, _, _], _ => rfl)
/-! ### Copying.end_fixed -/
theorem sc42 : FnScope ["self", "frame", "values", "cell", "copy"] ["self", "frame", "values"] (defScope (inClass (top 25) 17)) := ⟨rfl, rfl, rfl, by decide +kernel, rfl, by decide +kernel, by decide +kernel⟩
def m42 : MS := (mSeq (mAsg (mFld g0 "of_cell" (mVar 1)) (mgName 3)) (mIfS (mTest (mBin (fOwn2 5 f28 fun b => bif false then !b else b) (mVar 3) (mFld g0 "own_memo" (mVar 0)))) (mDrop (mMeth 6 "close" f41 3 (mVar 0) (mCons (mTup (mCons (mC (.str "found")) (mCons (mVar 3) (mCons (mBin (fSelf2 5 f29) (mFld g0 "own_memo" (mVar 0)) (mVar 3)) mNil)))) (mCons (mBin (fSelf2 5 f29) (mFld g0 "own_memo" (mVar 0)) (mVar 3)) mNil)))) (mIfS (mTest (mBin (fEq g0 false) (mFld g0 "gathered" (mVar 1)) (mVar 2))) (mSeq (mDrop (mMeth 5 "enter_for" f43 3 (mFld g0 "own_memo" (mVar 0)) (mCons (mVar 3) (mCons (mVar 3) mNil)))) (mDrop (mMeth 6 "close" f41 3 (mVar 0) (mCons (mTup (mCons (mC (.str "keep")) (mCons (mVar 3) mNil))) (mCons (mVar 3) mNil))))) (mSeq (mAsg (mMeth 0 "new_cell" f9 4 (mFld g0 "heap" (mVar 0)) (mCons (mMeth 0 "kind" f33 2 (mFld g0 "heap" (mVar 0)) (mCons (mVar 3) mNil)) (mCons (mC .non) (mCons (mFld g0 "gathered" (mVar 1)) mNil)))) (mgName 4)) (mSeq (mDrop (mMeth 5 "enter_for" f43 3 (mFld g0 "own_memo" (mVar 0)) (mCons (mVar 3) (mCons (mVar 4) mNil)))) (mDrop (mMeth 6 "close" f41 3 (mVar 0) (mCons (mTup (mCons (mC (.str "make")) (mCons (mVar 3) (mCons (mVar 4) mNil)))) (mCons (mVar 4) mNil)))))))))
theorem b42 (B : Bd K hh mg) (cdv : Value) (A : Around) (outer : List Env) (s : Shared) (H : Hp) (hr : Room 7 (A.deeper (envOfC "Copying.end_fixed" (defScope (inClass (top 25) 17)) s.heap.objs.size (He.fAd K ("Copying", some "end_fixed")) cdv))) : SSs (gm K) W0 (cxOf CX0 P w K mg base ["self", "frame", "values", "cell", "copy"] "Copying.end_fixed" (defScope (inClass (top 25) 17)) (He.fAd K ("Copying", some "end_fixed")) cdv A outer s H E0).nox (defBody (inClass (top 25) 17)) m42 := by
  have G : GOk K (gm K) g0 := gok B
  exact (sss_cons (ss_set sc42.nd (se_fld G (se_var 1))) (sss_one (ss_if (st_cmp2 (o_inOwn (c := 5) (He.meth_ok (B.c.fact 43 rfl)).at_ (He.meth_ok (B.c.fact 43 rfl)).fn (r28 B) (hr.mono (by decide))) (se_var 3) (se_fld G (se_var 0))) (sss_one (ss_expr (se_meth (c := 6) (He.cls_ok (B.c.fact 45 rfl)) (He.meth_ok (B.c.fact 57 rfl)) (r41 B) (hr.mono (by decide)) (se_var 0) (sa_cons (se_tup (sa_cons se_str (sa_cons (se_var 3) (sa_cons (se_ix2 (o_ixOwn (c := 5) (He.meth_ok (B.c.fact 44 rfl)).at_ (fnin_Memo__getitem__ B) (He.meth_ok (B.c.fact 44 rfl)).fn (r29 B) (hr.mono (by decide))) (se_fld G (se_var 0)) (se_var 3)) sa_nil)))) (sa_cons (se_ix2 (o_ixOwn (c := 5) (He.meth_ok (B.c.fact 44 rfl)).at_ (fnin_Memo__getitem__ B) (He.meth_ok (B.c.fact 44 rfl)).fn (r29 B) (hr.mono (by decide))) (se_fld G (se_var 0)) (se_var 3)) sa_nil))))) (sss_one (ss_if (st_cmp2 (o_eq G (hu64 hr)) (se_fld G (se_var 1)) (se_var 2)) (sss_cons (ss_expr (se_meth (c := 5) (He.cls_ok (B.c.fact 34 rfl)) (He.meth_ok (B.c.fact 59 rfl)) (r43 B) (hr.mono (by decide)) (se_fld G (se_var 0)) (sa_cons (se_var 3) (sa_cons (se_var 3) sa_nil)))) (sss_one (ss_expr (se_meth (c := 6) (He.cls_ok (B.c.fact 45 rfl)) (He.meth_ok (B.c.fact 57 rfl)) (r41 B) (hr.mono (by decide)) (se_var 0) (sa_cons (se_tup (sa_cons se_str (sa_cons (se_var 3) sa_nil))) (sa_cons (se_var 3) sa_nil)))))) (sss_cons (ss_set sc42.nd (se_meth (c := 0) (He.cls_ok (B.c.fact 9 rfl)) (He.meth_ok (B.c.fact 23 rfl)) (r9 B) (hr.mono (by decide)) (se_fld G (se_var 0)) (sa_cons (se_meth (c := 0) (He.cls_ok (B.c.fact 9 rfl)) (He.meth_ok (B.c.fact 47 rfl)) (r33 B) (hr.mono (by decide)) (se_fld G (se_var 0)) (sa_cons (se_var 3) sa_nil)) (sa_cons se_non (sa_cons (se_fld G (se_var 1)) sa_nil))))) (sss_cons (ss_expr (se_meth (c := 5) (He.cls_ok (B.c.fact 34 rfl)) (He.meth_ok (B.c.fact 59 rfl)) (r43 B) (hr.mono (by decide)) (se_fld G (se_var 0)) (sa_cons (se_var 3) (sa_cons (se_var 4) sa_nil)))) (sss_one (ss_expr (se_meth (c := 6) (He.cls_ok (B.c.fact 45 rfl)) (He.meth_ok (B.c.fact 57 rfl)) (r41 B) (hr.mono (by decide)) (se_var 0) (sa_cons (se_tup (sa_cons se_str (sa_cons (se_var 3) (sa_cons (se_var 4) sa_nil)))) (sa_cons (se_var 4) sa_nil))))))))))))
theorem kp42 (B : Bd K hh mg) : PySem.W.keepIn K (.ref (He.fAd K ("Copying", some "end_fixed"))) = true := by obtain ⟨fd, F⟩ := B.c.def_ 42 (d := d42) rfl; exact F.kp
def f42 : MF := mDef 3 2 m42
theorem o42 (B : Bd K hh mg) : ∃ fd, FnOk P w K mg base CX0 8 (He.fAd K ("Copying", some "end_fixed")) fd ["self", "frame", "values"] (SpM (gm K) 3 f42) ∧ FunD K d42.name d42.qual d42.params d42.body d42.scope (d42.dvs K) (d42.kws K) (He.fAd K ("Copying", some "end_fixed")) fd := by
  obtain ⟨fd, F⟩ := B.c.def_ 42 (d := d42) rfl
  exact ⟨fd, fn_okM (ps := ["self", "frame", "values"]) F sc42 rfl rfl (fun cdv A outer s H hr => b42 B cdv A outer s H hr), F⟩
theorem r42 (B : Bd K hh mg) : FnR P w K mg base CX0 8 (He.fAd K ("Copying", some "end_fixed")) (SpM (gm K) 3 f42) := by
  obtain ⟨fd, F, D⟩ := o42 (P := P) (w := w) (base := base) B
  exact fnM_all F (FunD.bindsN (ps := ["self", "frame", "values"]) D fun _ _ _ _ _ _ us hl => match us, hl with | [_, _, _], _ => rfl)
/-! ### Copying.go_on_values -/
theorem sc37 : FnScope ["self", "frame", "parts", "step", "value"] ["self", "frame", "parts"] (defScope (inClass (top 25) 15)) := ⟨rfl, rfl, rfl, by decide +kernel, rfl, by decide +kernel, by decide +kernel⟩
def m37 : MS := (mIfS (mTest (mBin fLt (mFld g0 "at" (mVar 1)) (mCb (fLen g0) (mCons (mVar 2) mNil)))) (mSeq (mAsg (mBin (fIx g0) (mVar 2) (mFld g0 "at" (mVar 1))) (mgTup g0 2 (mgCons (mgName 3) (mgCons (mgName 4) mgNil)))) (mDrop (mMeth 6 "read" f38 4 (mVar 0) (mCons (mVar 1) (mCons (mVar 3) (mCons (mVar 4) mNil)))))) (mIfS (mTest (mBin (fIsN true) (mFld g0 "copy" (mVar 1)) (mC .non))) (mDrop (mMeth 6 "end" f39 2 (mVar 0) (mCons (mVar 1) mNil))) (mDrop (mMeth 6 "end_fixed" f42 3 (mVar 0) (mCons (mVar 1) (mCons (mLc g0 300 [3, 4] (miAny g0 (mVar 2)) (mgTup g0 2 (mgCons (mgName 3) (mgCons (mgName 4) mgNil))) mYes (mVar 4)) mNil))))))
theorem b37 (B : Bd K hh mg) (cdv : Value) (A : Around) (outer : List Env) (s : Shared) (H : Hp) (hr : Room 8 (A.deeper (envOfC "Copying.go_on_values" (defScope (inClass (top 25) 15)) s.heap.objs.size (He.fAd K ("Copying", some "go_on_values")) cdv))) : SSs (gm K) W0 (cxOf CX0 P w K mg base ["self", "frame", "parts", "step", "value"] "Copying.go_on_values" (defScope (inClass (top 25) 15)) (He.fAd K ("Copying", some "go_on_values")) cdv A outer s H E0).nox (defBody (inClass (top 25) 15)) m37 := by
  have G : GOk K (gm K) g0 := gok B
  exact (sss_one (ss_if (st_cmp2 o_lt (se_fld G (se_var 1)) (se_callB (id := "len") (cb_len G) (He.free_ok B.X B.G (B.c.fact 5 rfl)) rfl (sa_cons (se_var 2) sa_nil))) (sss_cons (ss_asg (se_ix2 (o_ix G (hu1 hr)) (se_var 2) (se_fld G (se_var 1))) (sg_tup G rfl (sgs_cons (sg_name sc37.nd) (sgs_cons (sg_name sc37.nd) sgs_nil)))) (sss_one (ss_expr (se_meth (c := 6) (He.cls_ok (B.c.fact 45 rfl)) (He.meth_ok (B.c.fact 55 rfl)) (r38 B) (hr.mono (by decide)) (se_var 0) (sa_cons (se_var 1) (sa_cons (se_var 3) (sa_cons (se_var 4) sa_nil))))))) (sss_one (ss_if (st_cmp2 o_notN (se_fld G (se_var 1)) se_non) (sss_one (ss_expr (se_meth (c := 6) (He.cls_ok (B.c.fact 45 rfl)) (He.meth_ok (B.c.fact 58 rfl)) (r39 B) (hr.mono (by decide)) (se_var 0) (sa_cons (se_var 1) sa_nil)))) (sss_one (ss_expr (se_meth (c := 6) (He.cls_ok (B.c.fact 45 rfl)) (He.meth_ok (B.c.fact 60 rfl)) (r42 B) (hr.mono (by decide)) (se_var 0) (sa_cons (se_var 1) (sa_cons (se_lc (own := [("step", 3), ("value", 4)]) 300 rfl sc37.nd (si_any G (se_var 2)) (show BlkOk ["self", "frame", "parts", "step", "value"] (defScope (inClass (top 25) 15)) _ [("step", 3), ("value", 4)] from ⟨rfl, by decide +kernel, by decide +kernel, by decide +kernel, by decide +kernel⟩) (fun _ _ _ _ _ => (sg_tup G rfl (sgs_cons (sg_name sc37.nd) (sgs_cons (sg_name sc37.nd) sgs_nil)))) (fun _ _ _ _ _ => pts_nilM) (fun _ _ _ _ _ => (se_var 4))) sa_nil)))))))))
theorem kp37 (B : Bd K hh mg) : PySem.W.keepIn K (.ref (He.fAd K ("Copying", some "go_on_values"))) = true := by obtain ⟨fd, F⟩ := B.c.def_ 37 (d := d37) rfl; exact F.kp
def f37 : MF := mDef 3 2 m37
theorem o37 (B : Bd K hh mg) : ∃ fd, FnOk P w K mg base CX0 9 (He.fAd K ("Copying", some "go_on_values")) fd ["self", "frame", "parts"] (SpM (gm K) 3 f37) ∧ FunD K d37.name d37.qual d37.params d37.body d37.scope (d37.dvs K) (d37.kws K) (He.fAd K ("Copying", some "go_on_values")) fd := by
  obtain ⟨fd, F⟩ := B.c.def_ 37 (d := d37) rfl
  exact ⟨fd, fn_okM (ps := ["self", "frame", "parts"]) F sc37 rfl rfl (fun cdv A outer s H hr => b37 B cdv A outer s H hr), F⟩
theorem r37 (B : Bd K hh mg) : FnR P w K mg base CX0 9 (He.fAd K ("Copying", some "go_on_values")) (SpM (gm K) 3 f37) := by
  obtain ⟨fd, F, D⟩ := o37 (P := P) (w := w) (base := base) B
  exact fnM_all F (FunD.bindsN (ps := ["self", "frame", "parts"]) D fun _ _ _ _ _ _ us hl => match us, hl with | [_, _, _], _ => rfl)
/-! ### Copying.go_on -/
theorem sc36 : FnScope ["self", "frame", "kind", "shape"] ["self", "frame"] (defScope (inClass (top 25) 14)) := ⟨rfl, rfl, rfl, by decide +kernel, rfl, by decide +kernel, by decide +kernel⟩
def m36 : MS := (mSeq (mPar [2, 3] (mCons (mMeth 0 "kind" f33 2 (mFld g0 "heap" (mVar 0)) (mCons (mFld g0 "of_cell" (mVar 1)) mNil)) (mCons (mFld g0 "design" (mBin (fIx g0) (mFld g0 "cells" (mFld g0 "heap" (mVar 0))) (mFld g0 "of_cell" (mVar 1)))) mNil))) (mIfS (mAnd (mTest (mBin (fIsN true) (mVar 3) (mC .non))) (mTest (mBin (fIsN true) (mFld g0 "deep_hook" (mVar 3)) (mC .non)))) mDeadS (mIfS (mTest (mBin (fEq g0 false) (mVar 2) (mC (.str "set")))) (mDrop (mMeth 6 "go_on_values" f37 3 (mVar 0) (mCons (mVar 1) (mCons (mListEnum g0 (mFld g0 "ahead" (mVar 1))) mNil)))) (mIfS (mAnd (mTest (mBin (fEq g0 false) (mVar 2) (mC (.str "dict")))) (mTest (mBin (fEq g0 true) (mCb (fLen g0) (mCons (mMeth 0 "parts" f23 2 (mFld g0 "heap" (mVar 0)) (mCons (mFld g0 "of_cell" (mVar 1)) mNil)) mNil)) (mCb (fLen g0) (mCons (mFld g0 "ahead" (mVar 1)) mNil))))) mDeadS (mIfS (mTest (mBin (fEq g0 false) (mVar 2) (mC (.str "object")))) mDeadS (mDrop (mMeth 6 "go_on_values" f37 3 (mVar 0) (mCons (mVar 1) (mCons (mMeth 0 "parts" f23 2 (mFld g0 "heap" (mVar 0)) (mCons (mFld g0 "of_cell" (mVar 1)) mNil)) mNil)))))))))
theorem b36 (B : Bd K hh mg) (cdv : Value) (A : Around) (outer : List Env) (s : Shared) (H : Hp) (hr : Room 9 (A.deeper (envOfC "Copying.go_on" (defScope (inClass (top 25) 14)) s.heap.objs.size (He.fAd K ("Copying", some "go_on")) cdv))) : SSs (gm K) W0 (cxOf CX0 P w K mg base ["self", "frame", "kind", "shape"] "Copying.go_on" (defScope (inClass (top 25) 14)) (He.fAd K ("Copying", some "go_on")) cdv A outer s H E0).nox (defBody (inClass (top 25) 14)) m36 := by
  have G : GOk K (gm K) g0 := gok B
  exact (sss_cons (ss_par rfl sc36.nd (sa_cons (se_meth (c := 0) (He.cls_ok (B.c.fact 9 rfl)) (He.meth_ok (B.c.fact 47 rfl)) (r33 B) (hr.mono (by decide)) (se_fld G (se_var 0)) (sa_cons (se_fld G (se_var 1)) sa_nil)) (sa_cons (se_fld G (se_ix2 (o_ix G (hu1 hr)) (se_fld G (se_fld G (se_var 0))) (se_fld G (se_var 1)))) sa_nil))) (sss_one (ss_if (SW.st (sw_and (st_cmp2 o_notN (se_var 3) se_non) (sw_and1 (st_cmp2 o_notN (se_fld G (se_var 3)) se_non)))) (sss_one s_dead) (sss_one (ss_if (st_cmp2 (o_eq G (hu64 hr)) (se_var 2) se_str) (sss_one (ss_expr (se_meth (c := 6) (He.cls_ok (B.c.fact 45 rfl)) (He.meth_ok (B.c.fact 61 rfl)) (r37 B) (hr.mono (by decide)) (se_var 0) (sa_cons (se_var 1) (sa_cons (se_listEnum G rfl (se_fld G (se_var 1)) (He.free_ok B.X B.G (B.c.fact 20 rfl)) (He.free_ok B.X B.G (B.c.fact 40 rfl))) sa_nil))))) (sss_one (ss_if (SW.st (sw_and (st_cmp2 (o_eq G (hu64 hr)) (se_var 2) se_str) (sw_and1 (st_cmp2 (o_ne G (hu64 hr)) (se_callB (id := "len") (cb_len G) (He.free_ok B.X B.G (B.c.fact 5 rfl)) rfl (sa_cons (se_meth (c := 0) (He.cls_ok (B.c.fact 9 rfl)) (He.meth_ok (B.c.fact 42 rfl)) (r23 B) (hr.mono (by decide)) (se_fld G (se_var 0)) (sa_cons (se_fld G (se_var 1)) sa_nil)) sa_nil)) (se_callB (id := "len") (cb_len G) (He.free_ok B.X B.G (B.c.fact 5 rfl)) rfl (sa_cons (se_fld G (se_var 1)) sa_nil)))))) (sss_one s_dead) (sss_one (ss_if (st_cmp2 (o_eq G (hu64 hr)) (se_var 2) se_str) (sss_one s_dead) (sss_one (ss_expr (se_meth (c := 6) (He.cls_ok (B.c.fact 45 rfl)) (He.meth_ok (B.c.fact 61 rfl)) (r37 B) (hr.mono (by decide)) (se_var 0) (sa_cons (se_var 1) (sa_cons (se_meth (c := 0) (He.cls_ok (B.c.fact 9 rfl)) (He.meth_ok (B.c.fact 42 rfl)) (r23 B) (hr.mono (by decide)) (se_fld G (se_var 0)) (sa_cons (se_fld G (se_var 1)) sa_nil)) sa_nil))))))))))))))
theorem kp36 (B : Bd K hh mg) : PySem.W.keepIn K (.ref (He.fAd K ("Copying", some "go_on"))) = true := by obtain ⟨fd, F⟩ := B.c.def_ 36 (d := d36) rfl; exact F.kp
def f36 : MF := mDef 2 2 m36
theorem o36 (B : Bd K hh mg) : ∃ fd, FnOk P w K mg base CX0 10 (He.fAd K ("Copying", some "go_on")) fd ["self", "frame"] (SpM (gm K) 2 f36) ∧ FunD K d36.name d36.qual d36.params d36.body d36.scope (d36.dvs K) (d36.kws K) (He.fAd K ("Copying", some "go_on")) fd := by
  obtain ⟨fd, F⟩ := B.c.def_ 36 (d := d36) rfl
  exact ⟨fd, fn_okM (ps := ["self", "frame"]) F sc36 rfl rfl (fun cdv A outer s H hr => b36 B cdv A outer s H hr), F⟩
theorem r36 (B : Bd K hh mg) : FnR P w K mg base CX0 10 (He.fAd K ("Copying", some "go_on")) (SpM (gm K) 2 f36) := by
  obtain ⟨fd, F, D⟩ := o36 (P := P) (w := w) (base := base) B
  exact fnM_all F (FunD.bindsN (ps := ["self", "frame"]) D fun _ _ _ _ _ _ us hl => match us, hl with | [_, _], _ => rfl)
def fd9_3 : MF := mfD f9 [.glo 9]
theorem rd9_3 (B : Bd K hh mg) : FnR P w K mg base CX0 3 (He.fAd K ("Heap", some "new_cell")) (SpM (gm K) 3 fd9_3) := by
  obtain ⟨fd, F, D⟩ := o9 (P := P) (w := w) (base := base) B
  obtain ⟨ds, hd, hb⟩ := FunD.binds1 (ps := ["self", "kind", "shape", "values"]) D 3 1 (by exact List.cons_ne_nil _ _) rfl fun _ _ _ _ _ _ _ us its hl hi => match us, its, hl, hi with | [_, _, _], [_, _], _, _ => ⟨_, rfl, rfl⟩
  exact fnM_of F hb hd (.cons rfl .nil) rfl
/-! ### Memo.begin_half -/
theorem sc45 : FnScope ["self", "copy"] ["self", "copy"] (defScope (inClass (top 20) 9)) := ⟨rfl, rfl, rfl, by decide +kernel, rfl, by decide +kernel, by decide +kernel⟩
def m45 : MS := (mDrop (mMt fAppend (mFld g0 "open_copies" (mBin (fIx g0) (mFld g0 "memos" (mFld g0 "heap" (mVar 0))) (mFld g0 "number" (mVar 0)))) (mCons (mVar 1) mNil)))
theorem b45 (B : Bd K hh mg) (cdv : Value) (A : Around) (outer : List Env) (s : Shared) (H : Hp) (hr : Room 0 (A.deeper (envOfC "Memo.begin_half" (defScope (inClass (top 20) 9)) s.heap.objs.size (He.fAd K ("Memo", some "begin_half")) cdv))) : SSs (gm K) W0 (cxOf CX0 P w K mg base ["self", "copy"] "Memo.begin_half" (defScope (inClass (top 20) 9)) (He.fAd K ("Memo", some "begin_half")) cdv A outer s H E0).nox (defBody (inClass (top 20) 9)) m45 := by
  have G : GOk K (gm K) g0 := gok B
  exact (sss_one (ss_expr (se_bm PySem.F.slot_list_append PySem.F.type_list_append mt2_append (se_fld G (se_ix2 (o_ix G (hu1 hr)) (se_fld G (se_fld G (se_var 0))) (se_fld G (se_var 0)))) (sa_cons (se_var 1) sa_nil))))
theorem kp45 (B : Bd K hh mg) : PySem.W.keepIn K (.ref (He.fAd K ("Memo", some "begin_half"))) = true := by obtain ⟨fd, F⟩ := B.c.def_ 45 (d := d45) rfl; exact F.kp
def f45 : MF := mDef 2 0 m45
theorem o45 (B : Bd K hh mg) : ∃ fd, FnOk P w K mg base CX0 1 (He.fAd K ("Memo", some "begin_half")) fd ["self", "copy"] (SpM (gm K) 2 f45) ∧ FunD K d45.name d45.qual d45.params d45.body d45.scope (d45.dvs K) (d45.kws K) (He.fAd K ("Memo", some "begin_half")) fd := by
  obtain ⟨fd, F⟩ := B.c.def_ 45 (d := d45) rfl
  exact ⟨fd, fn_okM (ps := ["self", "copy"]) F sc45 rfl rfl (fun cdv A outer s H hr => b45 B cdv A outer s H hr), F⟩
theorem r45 (B : Bd K hh mg) : FnR P w K mg base CX0 1 (He.fAd K ("Memo", some "begin_half")) (SpM (gm K) 2 f45) := by
  obtain ⟨fd, F, D⟩ := o45 (P := P) (w := w) (base := base) B
  exact fnM_all F (FunD.bindsN (ps := ["self", "copy"]) D fun _ _ _ _ _ _ us hl => match us, hl with | [_, _], _ => rfl)
/-! ### Copying.enter -/
theorem sc44 : FnScope ["self", "frame", "field", "value"] ["self", "frame"] (defScope (inClass (top 25) 9)) := ⟨rfl, rfl, rfl, by decide +kernel, rfl, by decide +kernel, by decide +kernel⟩
def m44 : MS := (mSeq (mSetF g0 "copy" (mVar 1) (mMeth 0 "new_cell" fd9_3 3 (mFld g0 "heap" (mVar 0)) (mCons (mMeth 0 "kind" f33 2 (mFld g0 "heap" (mVar 0)) (mCons (mFld g0 "of_cell" (mVar 1)) mNil)) (mCons (mFld g0 "design" (mBin (fIx g0) (mFld g0 "cells" (mFld g0 "heap" (mVar 0))) (mFld g0 "of_cell" (mVar 1)))) mNil)))) (mSeq (mFor g0 300 (miDict .items (mFld g0 "kept_back" (mVar 1))) (mgTup g0 2 (mgCons (mgName 2) (mgCons (mgName 3) mgNil))) (mDrop (mCall f32 4 (mCons (mFld g0 "heap" (mVar 0)) (mCons (mFld g0 "copy" (mVar 1)) (mCons (mVar 2) (mCons (mVar 3) mNil))))))) (mSeq (mDrop (mMeth 5 "enter_for" f43 3 (mFld g0 "own_memo" (mVar 0)) (mCons (mFld g0 "of_cell" (mVar 1)) (mCons (mFld g0 "copy" (mVar 1)) mNil)))) (mSeq (mDrop (mMeth 5 "begin_half" f45 2 (mFld g0 "own_memo" (mVar 0)) (mCons (mFld g0 "copy" (mVar 1)) mNil))) (mDrop (mMt fAppend (mFld g0 "written" (mVar 0)) (mCons (mTup (mCons (mC (.str "enter")) (mCons (mFld g0 "of_cell" (mVar 1)) (mCons (mFld g0 "copy" (mVar 1)) mNil)))) mNil)))))))
theorem b44 (B : Bd K hh mg) (cdv : Value) (A : Around) (outer : List Env) (s : Shared) (H : Hp) (hr : Room 5 (A.deeper (envOfC "Copying.enter" (defScope (inClass (top 25) 9)) s.heap.objs.size (He.fAd K ("Copying", some "enter")) cdv))) : SSs (gm K) W0 (cxOf CX0 P w K mg base ["self", "frame", "field", "value"] "Copying.enter" (defScope (inClass (top 25) 9)) (He.fAd K ("Copying", some "enter")) cdv A outer s H E0).nox (defBody (inClass (top 25) 9)) m44 := by
  have G : GOk K (gm K) g0 := gok B
  exact (sss_cons (ss_setF G (se_var 1) (se_meth (c := 0) (He.cls_ok (B.c.fact 9 rfl)) (He.meth_ok (B.c.fact 23 rfl)) (rd9_3 B) (hr.mono (by decide)) (se_fld G (se_var 0)) (sa_cons (se_meth (c := 0) (He.cls_ok (B.c.fact 9 rfl)) (He.meth_ok (B.c.fact 47 rfl)) (r33 B) (hr.mono (by decide)) (se_fld G (se_var 0)) (sa_cons (se_fld G (se_var 1)) sa_nil)) (sa_cons (se_fld G (se_ix2 (o_ix G (hu1 hr)) (se_fld G (se_fld G (se_var 0))) (se_fld G (se_var 1)))) sa_nil)))) (sss_cons (ss_for 300 PassesOwn.never rfl (si_items (se_fld G (se_var 1))) (sg_tup G rfl (sgs_cons (sg_name sc44.nd) (sgs_cons (sg_name sc44.nd) sgs_nil))) (sss_one (ss_expr (se_call (r32 B) (hr.mono (by decide)) (He.glo_ok B.X B.G (B.c.fact 48 rfl)) (kp32 B) (sa_cons (se_fld G (se_var 0)) (sa_cons (se_fld G (se_var 1)) (sa_cons (se_var 2) (sa_cons (se_var 3) sa_nil)))))))) (sss_cons (ss_expr (se_meth (c := 5) (He.cls_ok (B.c.fact 34 rfl)) (He.meth_ok (B.c.fact 59 rfl)) (r43 B) (hr.mono (by decide)) (se_fld G (se_var 0)) (sa_cons (se_fld G (se_var 1)) (sa_cons (se_fld G (se_var 1)) sa_nil)))) (sss_cons (ss_expr (se_meth (c := 5) (He.cls_ok (B.c.fact 34 rfl)) (He.meth_ok (B.c.fact 63 rfl)) (r45 B) (hr.mono (by decide)) (se_fld G (se_var 0)) (sa_cons (se_fld G (se_var 1)) sa_nil))) (sss_one (ss_expr (se_bm PySem.F.slot_list_append PySem.F.type_list_append mt2_append (se_fld G (se_var 0)) (sa_cons (se_tup (sa_cons se_str (sa_cons (se_fld G (se_var 1)) (sa_cons (se_fld G (se_var 1)) sa_nil)))) sa_nil))))))))
theorem kp44 (B : Bd K hh mg) : PySem.W.keepIn K (.ref (He.fAd K ("Copying", some "enter"))) = true := by obtain ⟨fd, F⟩ := B.c.def_ 44 (d := d44) rfl; exact F.kp
def f44 : MF := mDef 2 2 m44
theorem o44 (B : Bd K hh mg) : ∃ fd, FnOk P w K mg base CX0 6 (He.fAd K ("Copying", some "enter")) fd ["self", "frame"] (SpM (gm K) 2 f44) ∧ FunD K d44.name d44.qual d44.params d44.body d44.scope (d44.dvs K) (d44.kws K) (He.fAd K ("Copying", some "enter")) fd := by
  obtain ⟨fd, F⟩ := B.c.def_ 44 (d := d44) rfl
  exact ⟨fd, fn_okM (ps := ["self", "frame"]) F sc44 rfl rfl (fun cdv A outer s H hr => b44 B cdv A outer s H hr), F⟩
theorem r44 (B : Bd K hh mg) : FnR P w K mg base CX0 6 (He.fAd K ("Copying", some "enter")) (SpM (gm K) 2 f44) := by
  obtain ⟨fd, F, D⟩ := o44 (P := P) (w := w) (base := base) B
  exact fnM_all F (FunD.bindsN (ps := ["self", "frame"]) D fun _ _ _ _ _ _ us hl => match us, hl with | [_, _], _ => rfl)
/-! ### Copying.begin -/
theorem sc27 : FnScope ["self", "cell", "size", "frame", "kind", "shape", "step", "value"] ["self", "cell"] (defScope (inClass (top 25) 8)) := ⟨rfl, rfl, rfl, by decide +kernel, rfl, by decide +kernel, by decide +kernel⟩
def m27 : MS := (mSeq (mSetF g0 "coming" (mVar 0) (mC .non)) (mSeq (mIfS (mTest (mBin (fOwn2 5 f28 fun b => bif false then !b else b) (mVar 1) (mFld g0 "own_memo" (mVar 0)))) (mSeq (mDrop (mMt fAppend (mFld g0 "written" (mVar 0)) (mCons (mTup (mCons (mC (.str "known")) (mCons (mVar 1) (mCons (mBin (fSelf2 5 f29) (mFld g0 "own_memo" (mVar 0)) (mVar 1)) mNil)))) mNil))) (mSeq (mDrop (mMeth 6 "deliver" f30 2 (mVar 0) (mCons (mBin (fSelf2 5 f29) (mFld g0 "own_memo" (mVar 0)) (mVar 1)) mNil))) mRetN)) mNext) (mSeq (mAsg (mCb (f1 (fLenOwn 5 f34)) (mCons (mFld g0 "own_memo" (mVar 0)) mNil)) (mgName 2)) (mSeq (mIfS (mTest (mCb (f1 (fBls g0 anyB)) (mCons (mLc g0 300 [3] (miAny g0 (mFld g0 "stack" (mVar 0))) (mgName 3) mYes (mAndV (mBin (fEq g0 false) (mFld g0 "of_cell" (mVar 3)) (mVar 1)) (mBin (fEq g0 false) (mFld g0 "size" (mVar 3)) (mVar 2)))) mNil))) mDeadS mNext) (mSeq (mAsg (mMake 7 f35 3 (mCons (mVar 1) (mCons (mVar 2) mNil))) (mgName 3)) (mSeq (mDrop (mMt fAppend (mFld g0 "stack" (mVar 0)) (mCons (mVar 3) mNil))) (mSeq (mPar [4, 5] (mCons (mMeth 0 "kind" f33 2 (mFld g0 "heap" (mVar 0)) (mCons (mVar 1) mNil)) (mCons (mFld g0 "design" (mBin (fIx g0) (mFld g0 "cells" (mFld g0 "heap" (mVar 0))) (mVar 1))) mNil))) (mIfS (mTest (mBin (fIn g0 false) (mVar 4) (mC (.glo 8)))) (mDrop (mMeth 6 "go_on" f36 2 (mVar 0) (mCons (mVar 3) mNil))) (mIfS (mAnd (mTest (mBin (fIsN true) (mVar 5) (mC .non))) (mTest (mBin (fIsN true) (mFld g0 "deep_hook" (mVar 5)) (mC .non)))) (mSeq (mSetF g0 "ahead" (mVar 3) (mCb (fList g0) (mCons (mFld g0 "deep_hook" (mVar 5)) mNil))) (mDrop (mMt fAppend (mFld g0 "written" (mVar 0)) (mCons (mTup (mCons (mC (.str "hook")) (mCons (mVar 1) mNil))) mNil)))) (mSeq (mSetF g0 "ahead" (mVar 3) (mLc g0 300 [6, 7] (miAny g0 (mMeth 0 "parts" f23 2 (mFld g0 "heap" (mVar 0)) (mCons (mVar 1) mNil))) (mgTup g0 2 (mgCons (mgName 6) (mgCons (mgName 7) mgNil))) mYes (mVar 7))) (mDrop (mMeth 6 "enter" f44 2 (mVar 0) (mCons (mVar 3) mNil)))))))))))))
theorem b27 (B : Bd K hh mg) (cdv : Value) (A : Around) (outer : List Env) (s : Shared) (H : Hp) (hr : Room 10 (A.deeper (envOfC "Copying.begin" (defScope (inClass (top 25) 8)) s.heap.objs.size (He.fAd K ("Copying", some "begin")) cdv))) : SSs (gm K) W0 (cxOf CX0 P w K mg base ["self", "cell", "size", "frame", "kind", "shape", "step", "value"] "Copying.begin" (defScope (inClass (top 25) 8)) (He.fAd K ("Copying", some "begin")) cdv A outer s H E0).nox (defBody (inClass (top 25) 8)) m27 := by
  have G : GOk K (gm K) g0 := gok B
  exact (sss_cons (ss_setF G (se_var 0) se_non) (sss_cons (ss_if (st_cmp2 (o_inOwn (c := 5) (He.meth_ok (B.c.fact 43 rfl)).at_ (He.meth_ok (B.c.fact 43 rfl)).fn (r28 B) (hr.mono (by decide))) (se_var 1) (se_fld G (se_var 0))) (sss_cons (ss_expr (se_bm PySem.F.slot_list_append PySem.F.type_list_append mt2_append (se_fld G (se_var 0)) (sa_cons (se_tup (sa_cons se_str (sa_cons (se_var 1) (sa_cons (se_ix2 (o_ixOwn (c := 5) (He.meth_ok (B.c.fact 44 rfl)).at_ (fnin_Memo__getitem__ B) (He.meth_ok (B.c.fact 44 rfl)).fn (r29 B) (hr.mono (by decide))) (se_fld G (se_var 0)) (se_var 1)) sa_nil)))) sa_nil))) (sss_cons (ss_expr (se_meth (c := 6) (He.cls_ok (B.c.fact 45 rfl)) (He.meth_ok (B.c.fact 49 rfl)) (r30 B) (hr.mono (by decide)) (se_var 0) (sa_cons (se_ix2 (o_ixOwn (c := 5) (He.meth_ok (B.c.fact 44 rfl)).at_ (fnin_Memo__getitem__ B) (He.meth_ok (B.c.fact 44 rfl)).fn (r29 B) (hr.mono (by decide))) (se_fld G (se_var 0)) (se_var 1)) sa_nil))) (sss_one ss_retN))) sss_nil) (sss_cons (ss_set sc27.nd (se_callB (id := "len") (cb_lenOwn (c := 5) (He.meth_ok (B.c.fact 50 rfl)).at_ (He.meth_ok (B.c.fact 50 rfl)).fn (r34 B) (hr.mono (by decide))) (He.free_ok B.X B.G (B.c.fact 5 rfl)) rfl (sa_cons (se_fld G (se_var 0)) sa_nil))) (sss_cons (ss_if (st_val (se_callB (id := "any") (cb_any G rfl) (He.free_ok B.X B.G (B.c.fact 51 rfl)) rfl (sa_cons (se_lc (own := [("frame", 3)]) 300 rfl sc27.nd (si_any G (se_fld G (se_var 0))) (show BlkOk ["self", "cell", "size", "frame", "kind", "shape", "step", "value"] (defScope (inClass (top 25) 8)) _ [("frame", 3)] from ⟨rfl, by decide +kernel, by decide +kernel, by decide +kernel, by decide +kernel⟩) (fun _ _ _ _ _ => (sg_name sc27.nd)) (fun _ _ _ _ _ => pts_nilM) (fun _ _ _ _ _ => (se_and (se_cmp2 (o_eq G (hu64 hr)) (se_fld G (se_var 3)) (se_var 1)) (se_one (se_cmp2 (o_eq G (hu64 hr)) (se_fld G (se_var 3)) (se_var 2)))))) sa_nil))) (sss_one s_dead) sss_nil) (sss_cons (ss_set sc27.nd (se_make (c := 7) (He.mkr_ok (B.c.fact 52 rfl)) (r35 B) (hr.mono (by decide)) (He.glo_ok B.X B.G (B.c.fact 53 rfl)) (sa_cons (se_var 1) (sa_cons (se_var 2) sa_nil)))) (sss_cons (ss_expr (se_bm PySem.F.slot_list_append PySem.F.type_list_append mt2_append (se_fld G (se_var 0)) (sa_cons (se_var 3) sa_nil))) (sss_cons (ss_par rfl sc27.nd (sa_cons (se_meth (c := 0) (He.cls_ok (B.c.fact 9 rfl)) (He.meth_ok (B.c.fact 47 rfl)) (r33 B) (hr.mono (by decide)) (se_fld G (se_var 0)) (sa_cons (se_var 1) sa_nil)) (sa_cons (se_fld G (se_ix2 (o_ix G (hu1 hr)) (se_fld G (se_fld G (se_var 0))) (se_var 1))) sa_nil))) (sss_one (ss_if (st_cmp2 (o_in G (hu1 hr)) (se_var 4) (se_glo (k := 8) (He.glo_ok B.X B.G (B.c.fact 54 rfl)))) (sss_one (ss_expr (se_meth (c := 6) (He.cls_ok (B.c.fact 45 rfl)) (He.meth_ok (B.c.fact 62 rfl)) (r36 B) (hr.mono (by decide)) (se_var 0) (sa_cons (se_var 3) sa_nil)))) (sss_one (ss_if (SW.st (sw_and (st_cmp2 o_notN (se_var 5) se_non) (sw_and1 (st_cmp2 o_notN (se_fld G (se_var 5)) se_non)))) (sss_cons (ss_setF G (se_var 3) (se_callTy (T := "list") (cb_list G rfl) (He.free_ok B.X B.G (B.c.fact 20 rfl)) rfl (sa_cons (se_fld G (se_var 5)) sa_nil))) (sss_one (ss_expr (se_bm PySem.F.slot_list_append PySem.F.type_list_append mt2_append (se_fld G (se_var 0)) (sa_cons (se_tup (sa_cons se_str (sa_cons (se_var 1) sa_nil))) sa_nil))))) (sss_cons (ss_setF G (se_var 3) (se_lc (own := [("step", 6), ("value", 7)]) 300 rfl sc27.nd (si_any G (se_meth (c := 0) (He.cls_ok (B.c.fact 9 rfl)) (He.meth_ok (B.c.fact 42 rfl)) (r23 B) (hr.mono (by decide)) (se_fld G (se_var 0)) (sa_cons (se_var 1) sa_nil))) (show BlkOk ["self", "cell", "size", "frame", "kind", "shape", "step", "value"] (defScope (inClass (top 25) 8)) _ [("step", 6), ("value", 7)] from ⟨rfl, by decide +kernel, by decide +kernel, by decide +kernel, by decide +kernel⟩) (fun _ _ _ _ _ => (sg_tup G rfl (sgs_cons (sg_name sc27.nd) (sgs_cons (sg_name sc27.nd) sgs_nil)))) (fun _ _ _ _ _ => pts_nilM) (fun _ _ _ _ _ => (se_var 7)))) (sss_one (ss_expr (se_meth (c := 6) (He.cls_ok (B.c.fact 45 rfl)) (He.meth_ok (B.c.fact 64 rfl)) (r44 B) (hr.mono (by decide)) (se_var 0) (sa_cons (se_var 3) sa_nil))))))))))))))))
theorem kp27 (B : Bd K hh mg) : PySem.W.keepIn K (.ref (He.fAd K ("Copying", some "begin"))) = true := by obtain ⟨fd, F⟩ := B.c.def_ 27 (d := d27) rfl; exact F.kp
def f27 : MF := mDef 2 6 m27
theorem o27 (B : Bd K hh mg) : ∃ fd, FnOk P w K mg base CX0 11 (He.fAd K ("Copying", some "begin")) fd ["self", "cell"] (SpM (gm K) 2 f27) ∧ FunD K d27.name d27.qual d27.params d27.body d27.scope (d27.dvs K) (d27.kws K) (He.fAd K ("Copying", some "begin")) fd := by
  obtain ⟨fd, F⟩ := B.c.def_ 27 (d := d27) rfl
  exact ⟨fd, fn_okM (ps := ["self", "cell"]) F sc27 rfl rfl (fun cdv A outer s H hr => b27 B cdv A outer s H hr), F⟩
theorem r27 (B : Bd K hh mg) : FnR P w K mg base CX0 11 (He.fAd K ("Copying", some "begin")) (SpM (gm K) 2 f27) := by
  obtain ⟨fd, F, D⟩ := o27 (P := P) (w := w) (base := base) B
  exact fnM_all F (FunD.bindsN (ps := ["self", "cell"]) D fun _ _ _ _ _ _ us hl => match us, hl with | [_, _], _ => rfl)
/-! ### Copying.step -/
theorem sc26 : FnScope ["self"] ["self"] (defScope (inClass (top 25) 5)) := ⟨rfl, rfl, rfl, by decide +kernel, rfl, by decide +kernel, by decide +kernel⟩
def m26 : MS := (mSeq (mIfS (mTest (mFld g0 "ended" (mVar 0))) (mRet (mC .non)) mNext) (mSeq (mIfS (mTest (mBin (fIsN true) (mFld g0 "coming" (mVar 0)) (mC .non))) (mDrop (mMeth 6 "begin" f27 2 (mVar 0) (mCons (mFld g0 "coming" (mVar 0)) mNil))) (mDrop (mMeth 6 "go_on" f36 2 (mVar 0) (mCons (mBin (fIx g0) (mFld g0 "stack" (mVar 0)) (mC (.int (-1)))) mNil)))) (mRet (mBin (fIx g0) (mFld g0 "written" (mVar 0)) (mC (.int (-1)))))))
theorem b26 (B : Bd K hh mg) (cdv : Value) (A : Around) (outer : List Env) (s : Shared) (H : Hp) (hr : Room 11 (A.deeper (envOfC "Copying.step" (defScope (inClass (top 25) 5)) s.heap.objs.size (He.fAd K ("Copying", some "step")) cdv))) : SSs (gm K) W0 (cxOf CX0 P w K mg base ["self"] "Copying.step" (defScope (inClass (top 25) 5)) (He.fAd K ("Copying", some "step")) cdv A outer s H E0).nox (defBody (inClass (top 25) 5)) m26 := by
  have G : GOk K (gm K) g0 := gok B
  exact (sss_cons (ss_if (st_val (se_fld G (se_var 0))) (sss_one (ss_ret se_non)) sss_nil) (sss_cons (ss_try0 (fun _ _ h => h) (sss_one (ss_if (st_cmp2 o_notN (se_fld G (se_var 0)) se_non) (sss_one (ss_expr (se_meth (c := 6) (He.cls_ok (B.c.fact 45 rfl)) (He.meth_ok (B.c.fact 65 rfl)) (r27 B) (hr.mono (by decide)) (se_var 0) (sa_cons (se_fld G (se_var 0)) sa_nil)))) (sss_one (ss_expr (se_meth (c := 6) (He.cls_ok (B.c.fact 45 rfl)) (He.meth_ok (B.c.fact 62 rfl)) (r36 B) (hr.mono (by decide)) (se_var 0) (sa_cons (se_ix2 (o_ix G (hu1 hr)) (se_fld G (se_var 0)) se_negc) sa_nil))))))) (sss_one (ss_ret (se_ix2 (o_ix G (hu1 hr)) (se_fld G (se_var 0)) se_negc)))))
theorem kp26 (B : Bd K hh mg) : PySem.W.keepIn K (.ref (He.fAd K ("Copying", some "step"))) = true := by obtain ⟨fd, F⟩ := B.c.def_ 26 (d := d26) rfl; exact F.kp
def f26 : MF := mDef 1 0 m26
theorem o26 (B : Bd K hh mg) : ∃ fd, FnOk P w K mg base CX0 12 (He.fAd K ("Copying", some "step")) fd ["self"] (SpM (gm K) 1 f26) ∧ FunD K d26.name d26.qual d26.params d26.body d26.scope (d26.dvs K) (d26.kws K) (He.fAd K ("Copying", some "step")) fd := by
  obtain ⟨fd, F⟩ := B.c.def_ 26 (d := d26) rfl
  exact ⟨fd, fn_okM (ps := ["self"]) F sc26 rfl rfl (fun cdv A outer s H hr => b26 B cdv A outer s H hr), F⟩
theorem r26 (B : Bd K hh mg) : FnR P w K mg base CX0 12 (He.fAd K ("Copying", some "step")) (SpM (gm K) 1 f26) := by
  obtain ⟨fd, F, D⟩ := o26 (P := P) (w := w) (base := base) B
  exact fnM_all F (FunD.bindsN (ps := ["self"]) D fun _ _ _ _ _ _ us hl => match us, hl with | [_], _ => rfl)
/-! ### Copying.finish -/
theorem sc25 : FnScope ["self"] ["self"] (defScope (inClass (top 25) 7)) := ⟨rfl, rfl, rfl, by decide +kernel, rfl, by decide +kernel, by decide +kernel⟩
def m25 : MS := (mSeq (mWhile 300 (mNot (mTest (mFld g0 "ended" (mVar 0)))) (mDrop (mMeth 6 "step" f26 1 (mVar 0) mNil))) (mRet (mFld g0 "found" (mVar 0))))
theorem b25 (B : Bd K hh mg) (cdv : Value) (A : Around) (outer : List Env) (s : Shared) (H : Hp) (hr : Room 12 (A.deeper (envOfC "Copying.finish" (defScope (inClass (top 25) 7)) s.heap.objs.size (He.fAd K ("Copying", some "finish")) cdv))) : SSs (gm K) W0 (cxOf CX0 P w K mg base ["self"] "Copying.finish" (defScope (inClass (top 25) 7)) (He.fAd K ("Copying", some "finish")) cdv A outer s H E0).nox (defBody (inClass (top 25) 7)) m25 := by
  have G : GOk K (gm K) g0 := gok B
  exact (sss_cons (ss_while 300 PassesOwn.never (st_not (st_val (se_fld G (se_var 0)))) (sss_one (ss_expr (se_meth0 (c := 6) (He.cls_ok (B.c.fact 45 rfl)) (He.meth_ok (B.c.fact 66 rfl)) (r26 B) (hr.mono (by decide)) (se_var 0))))) (sss_one (ss_ret (se_fld G (se_var 0)))))
theorem kp25 (B : Bd K hh mg) : PySem.W.keepIn K (.ref (He.fAd K ("Copying", some "finish"))) = true := by obtain ⟨fd, F⟩ := B.c.def_ 25 (d := d25) rfl; exact F.kp
def f25 : MF := mDef 1 0 m25
theorem o25 (B : Bd K hh mg) : ∃ fd, FnOk P w K mg base CX0 13 (He.fAd K ("Copying", some "finish")) fd ["self"] (SpM (gm K) 1 f25) ∧ FunD K d25.name d25.qual d25.params d25.body d25.scope (d25.dvs K) (d25.kws K) (He.fAd K ("Copying", some "finish")) fd := by
  obtain ⟨fd, F⟩ := B.c.def_ 25 (d := d25) rfl
  exact ⟨fd, fn_okM (ps := ["self"]) F sc25 rfl rfl (fun cdv A outer s H hr => b25 B cdv A outer s H hr), F⟩
theorem r25 (B : Bd K hh mg) : FnR P w K mg base CX0 13 (He.fAd K ("Copying", some "finish")) (SpM (gm K) 1 f25) := by
  obtain ⟨fd, F, D⟩ := o25 (P := P) (w := w) (base := base) B
  exact fnM_all F (FunD.bindsN (ps := ["self"]) D fun _ _ _ _ _ _ us hl => match us, hl with | [_], _ => rfl)
/-! ### Heap.__len__ -/
theorem sc46 : FnScope ["self"] ["self"] (defScope (inClass (top 32) 1)) := ⟨rfl, rfl, rfl, by decide +kernel, rfl, by decide +kernel, by decide +kernel⟩
def m46 : MS := (mRet (mCb (fLen g0) (mCons (mFld g0 "cells" (mVar 0)) mNil)))
theorem b46 (B : Bd K hh mg) (cdv : Value) (A : Around) (outer : List Env) (s : Shared) (H : Hp) (hr : Room 0 (A.deeper (envOfC "Heap.__len__" (defScope (inClass (top 32) 1)) s.heap.objs.size (He.fAd K ("Heap", some "__len__")) cdv))) : SSs (gm K) W0 (cxOf CX0 P w K mg base ["self"] "Heap.__len__" (defScope (inClass (top 32) 1)) (He.fAd K ("Heap", some "__len__")) cdv A outer s H E0).nox (defBody (inClass (top 32) 1)) m46 := by
  have G : GOk K (gm K) g0 := gok B
  exact (sss_one (ss_ret (se_callB (id := "len") (cb_len G) (He.free_ok B.X B.G (B.c.fact 5 rfl)) rfl (sa_cons (se_fld G (se_var 0)) sa_nil))))
theorem kp46 (B : Bd K hh mg) : PySem.W.keepIn K (.ref (He.fAd K ("Heap", some "__len__"))) = true := by obtain ⟨fd, F⟩ := B.c.def_ 46 (d := d46) rfl; exact F.kp
def f46 : MF := mDef 1 0 m46
theorem o46 (B : Bd K hh mg) : ∃ fd, FnOk P w K mg base CX0 1 (He.fAd K ("Heap", some "__len__")) fd ["self"] (SpM (gm K) 1 f46) ∧ FunD K d46.name d46.qual d46.params d46.body d46.scope (d46.dvs K) (d46.kws K) (He.fAd K ("Heap", some "__len__")) fd := by
  obtain ⟨fd, F⟩ := B.c.def_ 46 (d := d46) rfl
  exact ⟨fd, fn_okM (ps := ["self"]) F sc46 rfl rfl (fun cdv A outer s H hr => b46 B cdv A outer s H hr), F⟩
theorem r46 (B : Bd K hh mg) : FnR P w K mg base CX0 1 (He.fAd K ("Heap", some "__len__")) (SpM (gm K) 1 f46) := by
  obtain ⟨fd, F, D⟩ := o46 (P := P) (w := w) (base := base) B
  exact fnM_all F (FunD.bindsN (ps := ["self"]) D fun _ _ _ _ _ _ us hl => match us, hl with | [_], _ => rfl)
/-! ### Copying.trace -/
theorem sc48 : FnScope ["self"] ["self"] (defScope (inClass (top 25) 4)) := ⟨rfl, rfl, rfl, by decide +kernel, rfl, by decide +kernel, by decide +kernel⟩
def m48 : MS := (mRet (mCb (fList g0) (mCons (mFld g0 "written" (mVar 0)) mNil)))
theorem b48 (B : Bd K hh mg) (cdv : Value) (A : Around) (outer : List Env) (s : Shared) (H : Hp) (hr : Room 0 (A.deeper (envOfC "Copying.trace" (defScope (inClass (top 25) 4)) s.heap.objs.size (He.fAd K ("Copying", some "trace")) cdv))) : SSs (gm K) W0 (cxOf CX0 P w K mg base ["self"] "Copying.trace" (defScope (inClass (top 25) 4)) (He.fAd K ("Copying", some "trace")) cdv A outer s H E0).nox (defBody (inClass (top 25) 4)) m48 := by
  have G : GOk K (gm K) g0 := gok B
  exact (sss_one (ss_ret (se_callTy (T := "list") (cb_list G rfl) (He.free_ok B.X B.G (B.c.fact 20 rfl)) rfl (sa_cons (se_fld G (se_var 0)) sa_nil))))
theorem kp48 (B : Bd K hh mg) : PySem.W.keepIn K (.ref (He.fAd K ("Copying", some "trace"))) = true := by obtain ⟨fd, F⟩ := B.c.def_ 48 (d := d48) rfl; exact F.kp
def f48 : MF := mDef 1 0 m48
theorem o48 (B : Bd K hh mg) : ∃ fd, FnOk P w K mg base CX0 1 (He.fAd K ("Copying", some "trace")) fd ["self"] (SpM (gm K) 1 f48) ∧ FunD K d48.name d48.qual d48.params d48.body d48.scope (d48.dvs K) (d48.kws K) (He.fAd K ("Copying", some "trace")) fd := by
  obtain ⟨fd, F⟩ := B.c.def_ 48 (d := d48) rfl
  exact ⟨fd, fn_okM (ps := ["self"]) F sc48 rfl rfl (fun cdv A outer s H hr => b48 B cdv A outer s H hr), F⟩
theorem r48 (B : Bd K hh mg) : FnR P w K mg base CX0 1 (He.fAd K ("Copying", some "trace")) (SpM (gm K) 1 f48) := by
  obtain ⟨fd, F, D⟩ := o48 (P := P) (w := w) (base := base) B
  exact fnM_all F (FunD.bindsN (ps := ["self"]) D fun _ _ _ _ _ _ us hl => match us, hl with | [_], _ => rfl)
/-! ### _law_words -/
theorem sc47 : FnScope ["_law_copying", "_law_entry"] ["_law_copying"] (defScope (top 34)) := ⟨rfl, rfl, rfl, by decide +kernel, rfl, by decide +kernel, by decide +kernel⟩
def m47 : MS := (mRet (mLc g0 300 [1] (miAny g0 (mMeth 6 "trace" f48 1 (mVar 0) mNil)) (mgName 1) mYes (mTup (mCons (mBin (fIx g0) (mVar 1) (mC (.int 0))) (mCons (mBin (fIx g0) (mVar 1) (mC (.int 1))) mNil)))))
theorem b47 (B : Bd K hh mg) (cdv : Value) (A : Around) (outer : List Env) (s : Shared) (H : Hp) (hr : Room 1 (A.deeper (envOfC "_law_words" (defScope (top 34)) s.heap.objs.size (He.fAd K ("_law_words", none)) cdv))) : SSs (gm K) W0 (cxOf CX0 P w K mg base ["_law_copying", "_law_entry"] "_law_words" (defScope (top 34)) (He.fAd K ("_law_words", none)) cdv A outer s H E0).nox (defBody (top 34)) m47 := by
  have G : GOk K (gm K) g0 := gok B
  exact (sss_one (ss_ret (se_lc (own := [("_law_entry", 1)]) 300 rfl sc47.nd (si_any G (se_meth0 (c := 6) (He.cls_ok (B.c.fact 45 rfl)) (He.meth_ok (B.c.fact 69 rfl)) (r48 B) (hr.mono (by decide)) (se_var 0))) (show BlkOk ["_law_copying", "_law_entry"] (defScope (top 34)) _ [("_law_entry", 1)] from ⟨rfl, by decide +kernel, by decide +kernel, by decide +kernel, by decide +kernel⟩) (fun _ _ _ _ _ => (sg_name sc47.nd)) (fun _ _ _ _ _ => pts_nilM) (fun _ _ _ _ _ => (se_tup (sa_cons (se_ix2 (o_ix G (hu1 hr)) (se_var 1) se_int) (sa_cons (se_ix2 (o_ix G (hu1 hr)) (se_var 1) se_int) sa_nil)))))))
theorem kp47 (B : Bd K hh mg) : PySem.W.keepIn K (.ref (He.fAd K ("_law_words", none))) = true := by obtain ⟨fd, F⟩ := B.c.def_ 47 (d := d47) rfl; exact F.kp
def f47 : MF := mDef 1 1 m47
theorem o47 (B : Bd K hh mg) : ∃ fd, FnOk P w K mg base CX0 2 (He.fAd K ("_law_words", none)) fd ["_law_copying"] (SpM (gm K) 1 f47) ∧ FunD K d47.name d47.qual d47.params d47.body d47.scope (d47.dvs K) (d47.kws K) (He.fAd K ("_law_words", none)) fd := by
  obtain ⟨fd, F⟩ := B.c.def_ 47 (d := d47) rfl
  exact ⟨fd, fn_okM (ps := ["_law_copying"]) F sc47 rfl rfl (fun cdv A outer s H hr => b47 B cdv A outer s H hr), F⟩
theorem r47 (B : Bd K hh mg) : FnR P w K mg base CX0 2 (He.fAd K ("_law_words", none)) (SpM (gm K) 1 f47) := by
  obtain ⟨fd, F, D⟩ := o47 (P := P) (w := w) (base := base) B
  exact fnM_all F (FunD.bindsN (ps := ["_law_copying"]) D fun _ _ _ _ _ _ us hl => match us, hl with | [_], _ => rfl)
/-! ### _law_ring_right -/
theorem sc0 : FnScope ["_law_heap", "_law_one", "_law_two", "_law_both", "_law_copying", "_law_due"] [] (defScope (top 35)) := ⟨rfl, rfl, rfl, by decide +kernel, rfl, by decide +kernel, by decide +kernel⟩
def m0 : MS := (mSeq (mAsg (mMake 0 fs1_1 1 mNil) (mgName 0)) (mSeq (mPar [1, 2] (mCons (mMeth 0 "make" f2 3 (mVar 0) (mCons (mC (.str "list")) (mCons (mLst mNil) mNil))) (mCons (mMeth 0 "make" f2 3 (mVar 0) (mCons (mC (.str "list")) (mCons (mLst mNil) mNil))) mNil))) (mSeq (mAsg (mMeth 0 "make" f2 3 (mVar 0) (mCons (mC (.str "tuple")) (mCons (mLst (mCons (mVar 1) (mCons (mVar 2) mNil))) mNil))) (mgName 3)) (mSeq (mDrop (mMeth 0 "add" f12 3 (mVar 0) (mCons (mVar 1) (mCons (mVar 3) mNil)))) (mSeq (mDrop (mMeth 0 "add" f12 3 (mVar 0) (mCons (mVar 2) (mCons (mVar 3) mNil)))) (mSeq (mAsg (mMake 6 fd16_3 3 (mCons (mVar 0) (mCons (mVar 3) mNil))) (mgName 4)) (mSeq (mIfS (mOrT (mTest (mBin (fEq g0 true) (mMeth 6 "finish" f25 1 (mVar 4) mNil) (mC (.int 5)))) (mTest (mBin (fEq g0 true) (mMeth 0 "parts" f23 2 (mVar 0) (mCons (mC (.int 5)) mNil)) (mLst (mCons (mTup (mCons (mC (.int 0)) (mCons (mC (.int 3)) mNil))) (mCons (mTup (mCons (mC (.int 1)) (mCons (mC (.int 4)) mNil))) mNil)))))) (mRet (mC (.bl false))) mNext) (mSeq (mIfS (mOrT (mTest (mBin (fEq g0 true) (mMeth 0 "parts" f23 2 (mVar 0) (mCons (mC (.int 3)) mNil)) (mLst (mCons (mTup (mCons (mC (.int 0)) (mCons (mC (.int 5)) mNil))) mNil)))) (mOrT (mTest (mBin (fEq g0 true) (mMeth 0 "parts" f23 2 (mVar 0) (mCons (mC (.int 4)) mNil)) (mLst (mCons (mTup (mCons (mC (.int 0)) (mCons (mC (.int 5)) mNil))) mNil)))) (mTest (mBin (fEq g0 true) (mCb (f1 (fLenOwn 0 f46)) (mCons (mVar 0) mNil)) (mC (.int 6)))))) (mRet (mC (.bl false))) mNext) (mSeq (mAsg (mLst (mCons (mTup (mCons (mC (.str "part")) (mCons (mC (.int 2)) mNil))) (mCons (mTup (mCons (mC (.str "enter")) (mCons (mC (.int 0)) mNil))) (mCons (mTup (mCons (mC (.str "part")) (mCons (mC (.int 0)) mNil))) (mCons (mTup (mCons (mC (.str "part")) (mCons (mC (.int 2)) mNil))) (mCons (mTup (mCons (mC (.str "known")) (mCons (mC (.int 0)) mNil))) (mCons (mTup (mCons (mC (.str "part")) (mCons (mC (.int 2)) mNil))) (mCons (mTup (mCons (mC (.str "enter")) (mCons (mC (.int 1)) mNil))) (mCons (mTup (mCons (mC (.str "part")) (mCons (mC (.int 1)) mNil))) mNil))))))))) (mgName 5)) (mSeq (mAsg (mBin fAdd (mVar 5) (mLst (mCons (mTup (mCons (mC (.str "part")) (mCons (mC (.int 2)) mNil))) (mCons (mTup (mCons (mC (.str "known")) (mCons (mC (.int 0)) mNil))) (mCons (mTup (mCons (mC (.str "part")) (mCons (mC (.int 2)) mNil))) (mCons (mTup (mCons (mC (.str "known")) (mCons (mC (.int 1)) mNil))) (mCons (mTup (mCons (mC (.str "make")) (mCons (mC (.int 2)) mNil))) (mCons (mTup (mCons (mC (.str "end")) (mCons (mC (.int 1)) mNil))) (mCons (mTup (mCons (mC (.str "found")) (mCons (mC (.int 2)) mNil))) mNil))))))))) (mgName 5)) (mRet (mBin (fEq g0 false) (mCall f47 1 (mCons (mVar 4) mNil)) (mBin fAdd (mVar 5) (mLst (mCons (mTup (mCons (mC (.str "end")) (mCons (mC (.int 0)) mNil))) (mCons (mTup (mCons (mC (.str "part")) (mCons (mC (.int 2)) mNil))) (mCons (mTup (mCons (mC (.str "known")) (mCons (mC (.int 1)) mNil))) (mCons (mTup (mCons (mC (.str "found")) (mCons (mC (.int 2)) mNil))) mNil))))))))))))))))))
theorem b0 (B : Bd K hh mg) (cdv : Value) (A : Around) (outer : List Env) (s : Shared) (H : Hp) (hr : Room 13 (A.deeper (envOfC "_law_ring_right" (defScope (top 35)) s.heap.objs.size (He.fAd K ("_law_ring_right", none)) cdv))) : SSs (gm K) W0 (cxOf CX0 P w K mg base ["_law_heap", "_law_one", "_law_two", "_law_both", "_law_copying", "_law_due"] "_law_ring_right" (defScope (top 35)) (He.fAd K ("_law_ring_right", none)) cdv A outer s H E0).nox (defBody (top 35)) m0 := by
  have G : GOk K (gm K) g0 := gok B
  exact (sss_cons (ss_set sc0.nd (se_make0 (c := 0) (He.mkr_ok (B.c.fact 0 rfl)) (rs1_1 B) (hr.mono (by decide)) (He.glo_ok B.X B.G (B.c.fact 1 rfl)))) (sss_cons (ss_par rfl sc0.nd (sa_cons (se_meth (c := 0) (He.cls_ok (B.c.fact 9 rfl)) (He.meth_ok (B.c.fact 24 rfl)) (r2 B) (hr.mono (by decide)) (se_var 0) (sa_cons se_str (sa_cons (se_lst sa_nil) sa_nil))) (sa_cons (se_meth (c := 0) (He.cls_ok (B.c.fact 9 rfl)) (He.meth_ok (B.c.fact 24 rfl)) (r2 B) (hr.mono (by decide)) (se_var 0) (sa_cons se_str (sa_cons (se_lst sa_nil) sa_nil))) sa_nil))) (sss_cons (ss_set sc0.nd (se_meth (c := 0) (He.cls_ok (B.c.fact 9 rfl)) (He.meth_ok (B.c.fact 24 rfl)) (r2 B) (hr.mono (by decide)) (se_var 0) (sa_cons se_str (sa_cons (se_lst (sa_cons (se_var 1) (sa_cons (se_var 2) sa_nil))) sa_nil)))) (sss_cons (ss_expr (se_meth (c := 0) (He.cls_ok (B.c.fact 9 rfl)) (He.meth_ok (B.c.fact 28 rfl)) (r12 B) (hr.mono (by decide)) (se_var 0) (sa_cons (se_var 1) (sa_cons (se_var 3) sa_nil)))) (sss_cons (ss_expr (se_meth (c := 0) (He.cls_ok (B.c.fact 9 rfl)) (He.meth_ok (B.c.fact 28 rfl)) (r12 B) (hr.mono (by decide)) (se_var 0) (sa_cons (se_var 2) (sa_cons (se_var 3) sa_nil)))) (sss_cons (ss_set sc0.nd (se_make (c := 6) (He.mkr_ok (B.c.fact 38 rfl)) (rd16_3 B) (hr.mono (by decide)) (He.glo_ok B.X B.G (B.c.fact 39 rfl)) (sa_cons (se_var 0) (sa_cons (se_var 3) sa_nil)))) (sss_cons (ss_if (SW.st (sw_or (st_cmp2 (o_ne G (hu64 hr)) (se_meth0 (c := 6) (He.cls_ok (B.c.fact 45 rfl)) (He.meth_ok (B.c.fact 67 rfl)) (r25 B) (hr.mono (by decide)) (se_var 4)) se_int) (sw_or1 (st_cmp2 (o_ne G (hu64 hr)) (se_meth (c := 0) (He.cls_ok (B.c.fact 9 rfl)) (He.meth_ok (B.c.fact 42 rfl)) (r23 B) (hr.mono (by decide)) (se_var 0) (sa_cons se_int sa_nil)) (se_lst (sa_cons (se_tup (sa_cons se_int (sa_cons se_int sa_nil))) (sa_cons (se_tup (sa_cons se_int (sa_cons se_int sa_nil))) sa_nil))))))) (sss_one (ss_ret se_bl)) sss_nil) (sss_cons (ss_if (SW.st (sw_or (st_cmp2 (o_ne G (hu64 hr)) (se_meth (c := 0) (He.cls_ok (B.c.fact 9 rfl)) (He.meth_ok (B.c.fact 42 rfl)) (r23 B) (hr.mono (by decide)) (se_var 0) (sa_cons se_int sa_nil)) (se_lst (sa_cons (se_tup (sa_cons se_int (sa_cons se_int sa_nil))) sa_nil))) (sw_or (st_cmp2 (o_ne G (hu64 hr)) (se_meth (c := 0) (He.cls_ok (B.c.fact 9 rfl)) (He.meth_ok (B.c.fact 42 rfl)) (r23 B) (hr.mono (by decide)) (se_var 0) (sa_cons se_int sa_nil)) (se_lst (sa_cons (se_tup (sa_cons se_int (sa_cons se_int sa_nil))) sa_nil))) (sw_or1 (st_cmp2 (o_ne G (hu64 hr)) (se_callB (id := "len") (cb_lenOwn (c := 0) (He.meth_ok (B.c.fact 68 rfl)).at_ (He.meth_ok (B.c.fact 68 rfl)).fn (r46 B) (hr.mono (by decide))) (He.free_ok B.X B.G (B.c.fact 5 rfl)) rfl (sa_cons (se_var 0) sa_nil)) se_int))))) (sss_one (ss_ret se_bl)) sss_nil) (sss_cons (ss_set sc0.nd (se_lst (sa_cons (se_tup (sa_cons se_str (sa_cons se_int sa_nil))) (sa_cons (se_tup (sa_cons se_str (sa_cons se_int sa_nil))) (sa_cons (se_tup (sa_cons se_str (sa_cons se_int sa_nil))) (sa_cons (se_tup (sa_cons se_str (sa_cons se_int sa_nil))) (sa_cons (se_tup (sa_cons se_str (sa_cons se_int sa_nil))) (sa_cons (se_tup (sa_cons se_str (sa_cons se_int sa_nil))) (sa_cons (se_tup (sa_cons se_str (sa_cons se_int sa_nil))) (sa_cons (se_tup (sa_cons se_str (sa_cons se_int sa_nil))) sa_nil)))))))))) (sss_cons (ss_set sc0.nd (se_bin2 o_add (se_var 5) (se_lst (sa_cons (se_tup (sa_cons se_str (sa_cons se_int sa_nil))) (sa_cons (se_tup (sa_cons se_str (sa_cons se_int sa_nil))) (sa_cons (se_tup (sa_cons se_str (sa_cons se_int sa_nil))) (sa_cons (se_tup (sa_cons se_str (sa_cons se_int sa_nil))) (sa_cons (se_tup (sa_cons se_str (sa_cons se_int sa_nil))) (sa_cons (se_tup (sa_cons se_str (sa_cons se_int sa_nil))) (sa_cons (se_tup (sa_cons se_str (sa_cons se_int sa_nil))) sa_nil)))))))))) (sss_one (ss_ret (se_cmp2 (o_eq G (hu64 hr)) (se_call (r47 B) (hr.mono (by decide)) (He.glo_ok B.X B.G (B.c.fact 70 rfl)) (kp47 B) (sa_cons (se_var 4) sa_nil)) (se_bin2 o_add (se_var 5) (se_lst (sa_cons (se_tup (sa_cons se_str (sa_cons se_int sa_nil))) (sa_cons (se_tup (sa_cons se_str (sa_cons se_int sa_nil))) (sa_cons (se_tup (sa_cons se_str (sa_cons se_int sa_nil))) (sa_cons (se_tup (sa_cons se_str (sa_cons se_int sa_nil))) sa_nil)))))))))))))))))))
theorem kp0 (B : Bd K hh mg) : PySem.W.keepIn K (.ref (He.fAd K ("_law_ring_right", none))) = true := by obtain ⟨fd, F⟩ := B.c.def_ 0 (d := d0) rfl; exact F.kp
def f0 : MF := mDef 0 6 m0
theorem o0 (B : Bd K hh mg) : ∃ fd, FnOk P w K mg base CX0 14 (He.fAd K ("_law_ring_right", none)) fd [] (SpM (gm K) 0 f0) ∧ FunD K d0.name d0.qual d0.params d0.body d0.scope (d0.dvs K) (d0.kws K) (He.fAd K ("_law_ring_right", none)) fd := by
  obtain ⟨fd, F⟩ := B.c.def_ 0 (d := d0) rfl
  exact ⟨fd, fn_okM (ps := []) F sc0 rfl rfl (fun cdv A outer s H hr => b0 B cdv A outer s H hr), F⟩
theorem r0 (B : Bd K hh mg) : FnR P w K mg base CX0 14 (He.fAd K ("_law_ring_right", none)) (SpM (gm K) 0 f0) := by
  obtain ⟨fd, F, D⟩ := o0 (P := P) (w := w) (base := base) B
  exact fnM_all F (FunD.bindsN (ps := []) D fun _ _ _ _ _ _ us hl => match us, hl with | [], _ => rfl)
/-! ### _law_from_inside_right -/
theorem sc49 : FnScope ["_law_heap", "_law_one", "_law_pair", "_law_copying", "_law_due"] [] (defScope (top 36)) := ⟨rfl, rfl, rfl, by decide +kernel, rfl, by decide +kernel, by decide +kernel⟩
def m49 : MS := (mSeq (mAsg (mMake 0 fs1_1 1 mNil) (mgName 0)) (mSeq (mAsg (mMeth 0 "make" f2 3 (mVar 0) (mCons (mC (.str "list")) (mCons (mLst (mCons (mC (.str "w")) mNil)) mNil))) (mgName 1)) (mSeq (mAsg (mMeth 0 "make" f2 3 (mVar 0) (mCons (mC (.str "tuple")) (mCons (mLst (mCons (mVar 1) (mCons (mC .non) mNil))) mNil))) (mgName 2)) (mSeq (mDrop (mMeth 0 "add" f12 3 (mVar 0) (mCons (mVar 1) (mCons (mMeth 0 "make" f2 3 (mVar 0) (mCons (mC (.str "frozen")) (mCons (mLst (mCons (mVar 2) (mCons (mC (.str "v")) mNil))) mNil))) mNil)))) (mSeq (mAsg (mMake 6 fd16_3 3 (mCons (mVar 0) (mCons (mVar 1) mNil))) (mgName 3)) (mSeq (mIfS (mOrT (mTest (mBin (fEq g0 true) (mMeth 6 "finish" f25 1 (mVar 3) mNil) (mC (.int 3)))) (mOrT (mTest (mBin (fEq g0 true) (mMeth 0 "parts" f23 2 (mVar 0) (mCons (mC (.int 3)) mNil)) (mLst (mCons (mTup (mCons (mC (.int 0)) (mCons (mC (.str "w")) mNil))) (mCons (mTup (mCons (mC (.int 1)) (mCons (mC (.int 5)) mNil))) mNil))))) (mTest (mBin (fEq g0 true) (mMeth 0 "parts" f23 2 (mVar 0) (mCons (mC (.int 5)) mNil)) (mLst (mCons (mTup (mCons (mC (.int 0)) (mCons (mC (.int 4)) mNil))) (mCons (mTup (mCons (mC (.int 1)) (mCons (mC (.str "v")) mNil))) mNil))))))) (mRet (mC (.bl false))) mNext) (mSeq (mIfS (mOrT (mTest (mBin (fEq g0 true) (mMeth 0 "parts" f23 2 (mVar 0) (mCons (mC (.int 4)) mNil)) (mLst (mCons (mTup (mCons (mC (.int 0)) (mCons (mC (.int 3)) mNil))) (mCons (mTup (mCons (mC (.int 1)) (mCons (mC .non) mNil))) mNil))))) (mOrT (mTest (mBin (fEq g0 true) (mMeth 0 "kind" f33 2 (mVar 0) (mCons (mC (.int 5)) mNil)) (mC (.str "frozen")))) (mTest (mBin (fEq g0 true) (mCb (f1 (fLenOwn 0 f46)) (mCons (mVar 0) mNil)) (mC (.int 6)))))) (mRet (mC (.bl false))) mNext) (mSeq (mAsg (mLst (mCons (mTup (mCons (mC (.str "enter")) (mCons (mC (.int 0)) mNil))) (mCons (mTup (mCons (mC (.str "part")) (mCons (mC (.int 0)) mNil))) (mCons (mTup (mCons (mC (.str "part")) (mCons (mC (.int 0)) mNil))) (mCons (mTup (mCons (mC (.str "part")) (mCons (mC (.int 2)) mNil))) (mCons (mTup (mCons (mC (.str "part")) (mCons (mC (.int 1)) mNil))) (mCons (mTup (mCons (mC (.str "known")) (mCons (mC (.int 0)) mNil))) (mCons (mTup (mCons (mC (.str "part")) (mCons (mC (.int 1)) mNil))) (mCons (mTup (mCons (mC (.str "make")) (mCons (mC (.int 1)) mNil))) mNil))))))))) (mgName 4)) (mRet (mBin (fEq g0 false) (mCall f47 1 (mCons (mVar 3) mNil)) (mBin fAdd (mVar 4) (mLst (mCons (mTup (mCons (mC (.str "part")) (mCons (mC (.int 2)) mNil))) (mCons (mTup (mCons (mC (.str "make")) (mCons (mC (.int 2)) mNil))) (mCons (mTup (mCons (mC (.str "end")) (mCons (mC (.int 0)) mNil))) mNil)))))))))))))))
theorem b49 (B : Bd K hh mg) (cdv : Value) (A : Around) (outer : List Env) (s : Shared) (H : Hp) (hr : Room 13 (A.deeper (envOfC "_law_from_inside_right" (defScope (top 36)) s.heap.objs.size (He.fAd K ("_law_from_inside_right", none)) cdv))) : SSs (gm K) W0 (cxOf CX0 P w K mg base ["_law_heap", "_law_one", "_law_pair", "_law_copying", "_law_due"] "_law_from_inside_right" (defScope (top 36)) (He.fAd K ("_law_from_inside_right", none)) cdv A outer s H E0).nox (defBody (top 36)) m49 := by
  have G : GOk K (gm K) g0 := gok B
  exact (sss_cons (ss_set sc49.nd (se_make0 (c := 0) (He.mkr_ok (B.c.fact 0 rfl)) (rs1_1 B) (hr.mono (by decide)) (He.glo_ok B.X B.G (B.c.fact 1 rfl)))) (sss_cons (ss_set sc49.nd (se_meth (c := 0) (He.cls_ok (B.c.fact 9 rfl)) (He.meth_ok (B.c.fact 24 rfl)) (r2 B) (hr.mono (by decide)) (se_var 0) (sa_cons se_str (sa_cons (se_lst (sa_cons se_str sa_nil)) sa_nil)))) (sss_cons (ss_set sc49.nd (se_meth (c := 0) (He.cls_ok (B.c.fact 9 rfl)) (He.meth_ok (B.c.fact 24 rfl)) (r2 B) (hr.mono (by decide)) (se_var 0) (sa_cons se_str (sa_cons (se_lst (sa_cons (se_var 1) (sa_cons se_non sa_nil))) sa_nil)))) (sss_cons (ss_expr (se_meth (c := 0) (He.cls_ok (B.c.fact 9 rfl)) (He.meth_ok (B.c.fact 28 rfl)) (r12 B) (hr.mono (by decide)) (se_var 0) (sa_cons (se_var 1) (sa_cons (se_meth (c := 0) (He.cls_ok (B.c.fact 9 rfl)) (He.meth_ok (B.c.fact 24 rfl)) (r2 B) (hr.mono (by decide)) (se_var 0) (sa_cons se_str (sa_cons (se_lst (sa_cons (se_var 2) (sa_cons se_str sa_nil))) sa_nil))) sa_nil)))) (sss_cons (ss_set sc49.nd (se_make (c := 6) (He.mkr_ok (B.c.fact 38 rfl)) (rd16_3 B) (hr.mono (by decide)) (He.glo_ok B.X B.G (B.c.fact 39 rfl)) (sa_cons (se_var 0) (sa_cons (se_var 1) sa_nil)))) (sss_cons (ss_if (SW.st (sw_or (st_cmp2 (o_ne G (hu64 hr)) (se_meth0 (c := 6) (He.cls_ok (B.c.fact 45 rfl)) (He.meth_ok (B.c.fact 67 rfl)) (r25 B) (hr.mono (by decide)) (se_var 3)) se_int) (sw_or (st_cmp2 (o_ne G (hu64 hr)) (se_meth (c := 0) (He.cls_ok (B.c.fact 9 rfl)) (He.meth_ok (B.c.fact 42 rfl)) (r23 B) (hr.mono (by decide)) (se_var 0) (sa_cons se_int sa_nil)) (se_lst (sa_cons (se_tup (sa_cons se_int (sa_cons se_str sa_nil))) (sa_cons (se_tup (sa_cons se_int (sa_cons se_int sa_nil))) sa_nil)))) (sw_or1 (st_cmp2 (o_ne G (hu64 hr)) (se_meth (c := 0) (He.cls_ok (B.c.fact 9 rfl)) (He.meth_ok (B.c.fact 42 rfl)) (r23 B) (hr.mono (by decide)) (se_var 0) (sa_cons se_int sa_nil)) (se_lst (sa_cons (se_tup (sa_cons se_int (sa_cons se_int sa_nil))) (sa_cons (se_tup (sa_cons se_int (sa_cons se_str sa_nil))) sa_nil)))))))) (sss_one (ss_ret se_bl)) sss_nil) (sss_cons (ss_if (SW.st (sw_or (st_cmp2 (o_ne G (hu64 hr)) (se_meth (c := 0) (He.cls_ok (B.c.fact 9 rfl)) (He.meth_ok (B.c.fact 42 rfl)) (r23 B) (hr.mono (by decide)) (se_var 0) (sa_cons se_int sa_nil)) (se_lst (sa_cons (se_tup (sa_cons se_int (sa_cons se_int sa_nil))) (sa_cons (se_tup (sa_cons se_int (sa_cons se_non sa_nil))) sa_nil)))) (sw_or (st_cmp2 (o_ne G (hu64 hr)) (se_meth (c := 0) (He.cls_ok (B.c.fact 9 rfl)) (He.meth_ok (B.c.fact 47 rfl)) (r33 B) (hr.mono (by decide)) (se_var 0) (sa_cons se_int sa_nil)) se_str) (sw_or1 (st_cmp2 (o_ne G (hu64 hr)) (se_callB (id := "len") (cb_lenOwn (c := 0) (He.meth_ok (B.c.fact 68 rfl)).at_ (He.meth_ok (B.c.fact 68 rfl)).fn (r46 B) (hr.mono (by decide))) (He.free_ok B.X B.G (B.c.fact 5 rfl)) rfl (sa_cons (se_var 0) sa_nil)) se_int))))) (sss_one (ss_ret se_bl)) sss_nil) (sss_cons (ss_set sc49.nd (se_lst (sa_cons (se_tup (sa_cons se_str (sa_cons se_int sa_nil))) (sa_cons (se_tup (sa_cons se_str (sa_cons se_int sa_nil))) (sa_cons (se_tup (sa_cons se_str (sa_cons se_int sa_nil))) (sa_cons (se_tup (sa_cons se_str (sa_cons se_int sa_nil))) (sa_cons (se_tup (sa_cons se_str (sa_cons se_int sa_nil))) (sa_cons (se_tup (sa_cons se_str (sa_cons se_int sa_nil))) (sa_cons (se_tup (sa_cons se_str (sa_cons se_int sa_nil))) (sa_cons (se_tup (sa_cons se_str (sa_cons se_int sa_nil))) sa_nil)))))))))) (sss_one (ss_ret (se_cmp2 (o_eq G (hu64 hr)) (se_call (r47 B) (hr.mono (by decide)) (He.glo_ok B.X B.G (B.c.fact 70 rfl)) (kp47 B) (sa_cons (se_var 3) sa_nil)) (se_bin2 o_add (se_var 4) (se_lst (sa_cons (se_tup (sa_cons se_str (sa_cons se_int sa_nil))) (sa_cons (se_tup (sa_cons se_str (sa_cons se_int sa_nil))) (sa_cons (se_tup (sa_cons se_str (sa_cons se_int sa_nil))) sa_nil))))))))))))))))
theorem kp49 (B : Bd K hh mg) : PySem.W.keepIn K (.ref (He.fAd K ("_law_from_inside_right", none))) = true := by obtain ⟨fd, F⟩ := B.c.def_ 49 (d := d49) rfl; exact F.kp
def f49 : MF := mDef 0 5 m49
theorem o49 (B : Bd K hh mg) : ∃ fd, FnOk P w K mg base CX0 14 (He.fAd K ("_law_from_inside_right", none)) fd [] (SpM (gm K) 0 f49) ∧ FunD K d49.name d49.qual d49.params d49.body d49.scope (d49.dvs K) (d49.kws K) (He.fAd K ("_law_from_inside_right", none)) fd := by
  obtain ⟨fd, F⟩ := B.c.def_ 49 (d := d49) rfl
  exact ⟨fd, fn_okM (ps := []) F sc49 rfl rfl (fun cdv A outer s H hr => b49 B cdv A outer s H hr), F⟩
theorem r49 (B : Bd K hh mg) : FnR P w K mg base CX0 14 (He.fAd K ("_law_from_inside_right", none)) (SpM (gm K) 0 f49) := by
  obtain ⟨fd, F, D⟩ := o49 (P := P) (w := w) (base := base) B
  exact fnM_all F (FunD.bindsN (ps := []) D fun _ _ _ _ _ _ us hl => match us, hl with | [], _ => rfl)
def fdK16 (K : PySem.W.Frag) : FuncData := match K.lookup (He.fAd K ("Copying", some "__init__")) with
  | some ⟨_, _, .func fd, _⟩ => fd
  | _ => default
theorem o16k_3 (B : Bd K hh mg) : FnOk P w K mg base CX0 6 (He.fAd K ("Copying", some "__init__")) (fdK16 K) ["self", "heap", "value", "memo"] (SpM (gm K) 4 f16) ∧ KBn K (fdK16 K) ["self", "heap", "value", "memo"] 3 ["memo"] (fun us ws => us ++ ws) (fun vs zs => vs ++ zs) := by
  obtain ⟨fd, F, D⟩ := o16 (P := P) (w := w) (base := base) B
  have e : fd = fdK16 K := by
    obtain ⟨oc, od, dV, kV, doc, pm, an, cdv, ct, osl, e1, lk, _⟩ := D.ex
    unfold fdK16
    rw [lk]
  obtain ⟨mv, hb⟩ := FunD.kbinds0 (ps := ["self", "heap", "value", "memo"]) D 3 ["memo"] [] (fun us mv ws => us ++ ws) (by exact List.cons_ne_nil _ _) (fun _ h => nomatch h) (fun a _ c => a.append c) fun _ _ _ _ _ _ us mv ws hl hm hw => match us, mv, ws, hl, hm, hw with | [_, _, _], [], [_], _, _, _ => rfl
  rw [← e]
  exact ⟨F, hb⟩
/-! ### Memo.entries -/
theorem sc51 : FnScope ["self"] ["self"] (defScope (inClass (top 20) 11)) := ⟨rfl, rfl, rfl, by decide +kernel, rfl, by decide +kernel, by decide +kernel⟩
def m51 : MS := (mRet (mListItems (mFld g0 "entered" (mBin (fIx g0) (mFld g0 "memos" (mFld g0 "heap" (mVar 0))) (mFld g0 "number" (mVar 0))))))
theorem b51 (B : Bd K hh mg) (cdv : Value) (A : Around) (outer : List Env) (s : Shared) (H : Hp) (hr : Room 0 (A.deeper (envOfC "Memo.entries" (defScope (inClass (top 20) 11)) s.heap.objs.size (He.fAd K ("Memo", some "entries")) cdv))) : SSs (gm K) W0 (cxOf CX0 P w K mg base ["self"] "Memo.entries" (defScope (inClass (top 20) 11)) (He.fAd K ("Memo", some "entries")) cdv A outer s H E0).nox (defBody (inClass (top 20) 11)) m51 := by
  have G : GOk K (gm K) g0 := gok B
  exact (sss_one (ss_ret (se_listItems rfl (se_fld G (se_ix2 (o_ix G (hu1 hr)) (se_fld G (se_fld G (se_var 0))) (se_fld G (se_var 0)))) (He.free_ok B.X B.G (B.c.fact 20 rfl)))))
theorem kp51 (B : Bd K hh mg) : PySem.W.keepIn K (.ref (He.fAd K ("Memo", some "entries"))) = true := by obtain ⟨fd, F⟩ := B.c.def_ 51 (d := d51) rfl; exact F.kp
def f51 : MF := mDef 1 0 m51
theorem o51 (B : Bd K hh mg) : ∃ fd, FnOk P w K mg base CX0 1 (He.fAd K ("Memo", some "entries")) fd ["self"] (SpM (gm K) 1 f51) ∧ FunD K d51.name d51.qual d51.params d51.body d51.scope (d51.dvs K) (d51.kws K) (He.fAd K ("Memo", some "entries")) fd := by
  obtain ⟨fd, F⟩ := B.c.def_ 51 (d := d51) rfl
  exact ⟨fd, fn_okM (ps := ["self"]) F sc51 rfl rfl (fun cdv A outer s H hr => b51 B cdv A outer s H hr), F⟩
theorem r51 (B : Bd K hh mg) : FnR P w K mg base CX0 1 (He.fAd K ("Memo", some "entries")) (SpM (gm K) 1 f51) := by
  obtain ⟨fd, F, D⟩ := o51 (P := P) (w := w) (base := base) B
  exact fnM_all F (FunD.bindsN (ps := ["self"]) D fun _ _ _ _ _ _ us hl => match us, hl with | [_], _ => rfl)
/-! ### _law_kept_right -/
theorem sc50 : FnScope ["_law_many", "_law_heap", "_law_last", "_law_k", "_law_book", "_law_copying", "_law_keeps", "_law_entry"] ["_law_many"] (defScope (top 37)) := ⟨rfl, rfl, rfl, by decide +kernel, rfl, by decide +kernel, by decide +kernel⟩
def m50 : MS := (mSeq (mAsg (mMake 0 fs1_1 1 mNil) (mgName 1)) (mSeq (mAsg (mMeth 0 "make" f2 3 (mVar 1) (mCons (mC (.str "tuple")) (mCons (mLst mNil) mNil))) (mgName 2)) (mSeq (mFor g0 300 (miRng1 (mVar 0)) (mgName 3) (mAsg (mMeth 0 "make" f2 3 (mVar 1) (mCons (mBin (fIx g0) (mLst (mCons (mC (.str "tuple")) (mCons (mC (.str "frozen")) mNil))) (mBin fMod (mVar 3) (mC (.int 2)))) (mCons (mLst (mCons (mVar 2) (mCons (mC (.str "a")) (mCons (mVar 2) mNil)))) mNil))) (mgName 2))) (mSeq (mAsg (mMake 5 f17 2 (mCons (mVar 1) mNil)) (mgName 4)) (mSeq (mAsg (mMakeK 6 f16 4 2 1 (fun us ws => us ++ ws) (mCons (mVar 1) (mCons (mVar 2) mNil)) (mCons (mVar 4) mNil)) (mgName 5)) (mSeq (mIfS (mOrT (mTest (mBin (fEq g0 true) (mMeth 6 "finish" f25 1 (mVar 5) mNil) (mVar 2))) (mOrT (mTest (mBin (fEq g0 true) (mCb (f1 (fLenOwn 0 f46)) (mCons (mVar 1) mNil)) (mBin fAdd (mVar 0) (mC (.int 1))))) (mTest (mBin (fEq g0 true) (mMeth 5 "entries" f51 1 (mVar 4) mNil) (mLc g0 300 [3] (miRng1 (mBin fAdd (mVar 0) (mC (.int 1)))) (mgName 3) mYes (mTup (mCons (mVar 3) (mCons (mVar 3) mNil)))))))) (mRet (mC (.bl false))) mNext) (mSeq (mAsg (mLc g0 300 [7] (miAny g0 (mMeth 6 "trace" f48 1 (mVar 5) mNil)) (mgName 7) (mTest (mBin (fEq g0 false) (mBin (fIx g0) (mVar 7) (mC (.int 0))) (mC (.str "keep")))) (mVar 7)) (mgName 6)) (mRet (mBin (fEq g0 false) (mVar 6) (mLc g0 300 [3] (miRng1 (mBin fAdd (mVar 0) (mC (.int 1)))) (mgName 3) mYes (mTup (mCons (mC (.str "keep")) (mCons (mVar 3) mNil)))))))))))))
theorem b50 (B : Bd K hh mg) (cdv : Value) (A : Around) (outer : List Env) (s : Shared) (H : Hp) (hr : Room 13 (A.deeper (envOfC "_law_kept_right" (defScope (top 37)) s.heap.objs.size (He.fAd K ("_law_kept_right", none)) cdv))) : SSs (gm K) W0 (cxOf CX0 P w K mg base ["_law_many", "_law_heap", "_law_last", "_law_k", "_law_book", "_law_copying", "_law_keeps", "_law_entry"] "_law_kept_right" (defScope (top 37)) (He.fAd K ("_law_kept_right", none)) cdv A outer s H E0).nox (defBody (top 37)) m50 := by
  have G : GOk K (gm K) g0 := gok B
  exact (sss_cons (ss_set sc50.nd (se_make0 (c := 0) (He.mkr_ok (B.c.fact 0 rfl)) (rs1_1 B) (hr.mono (by decide)) (He.glo_ok B.X B.G (B.c.fact 1 rfl)))) (sss_cons (ss_set sc50.nd (se_meth (c := 0) (He.cls_ok (B.c.fact 9 rfl)) (He.meth_ok (B.c.fact 24 rfl)) (r2 B) (hr.mono (by decide)) (se_var 1) (sa_cons se_str (sa_cons (se_lst sa_nil) sa_nil)))) (sss_cons (ss_for 300 PassesOwn.never rfl (si_rng1 (He.free_ok B.X B.G (B.c.fact 71 rfl)) (se_var 0)) (sg_name sc50.nd) (sss_one (ss_set sc50.nd (se_meth (c := 0) (He.cls_ok (B.c.fact 9 rfl)) (He.meth_ok (B.c.fact 24 rfl)) (r2 B) (hr.mono (by decide)) (se_var 1) (sa_cons (se_ix2 (o_ix G (hu1 hr)) (se_lst (sa_cons se_str (sa_cons se_str sa_nil))) (se_bin2 o_mod (se_var 3) se_int)) (sa_cons (se_lst (sa_cons (se_var 2) (sa_cons se_str (sa_cons (se_var 2) sa_nil)))) sa_nil)))))) (sss_cons (ss_set sc50.nd (se_make (c := 5) (He.mkr_ok (B.c.fact 32 rfl)) (r17 B) (hr.mono (by decide)) (He.glo_ok B.X B.G (B.c.fact 33 rfl)) (sa_cons (se_var 1) sa_nil))) (sss_cons (ss_set sc50.nd (se_makeK (c := 6) (n := 2) (nn := 4) (ks := ["memo"]) (gU := fun us ws => us ++ ws) (gV := fun vs zs => vs ++ zs) (gr := fun us ws => us ++ ws) (mf := f16) (He.mkr_ok (B.c.fact 38 rfl)) (o16k_3 B).1 (hr.mono (by decide)) (He.glo_ok B.X B.G (B.c.fact 39 rfl)) (o16k_3 (P := P) (w := w) (base := base) B).2 (fun a b => papp a b) (sa_cons (se_var 1) (sa_cons (se_var 2) sa_nil)) (sk_cons (se_var 4) sk_nil))) (sss_cons (ss_if (SW.st (sw_or (st_cmp2 (o_ne G (hu64 hr)) (se_meth0 (c := 6) (He.cls_ok (B.c.fact 45 rfl)) (He.meth_ok (B.c.fact 67 rfl)) (r25 B) (hr.mono (by decide)) (se_var 5)) (se_var 2)) (sw_or (st_cmp2 (o_ne G (hu64 hr)) (se_callB (id := "len") (cb_lenOwn (c := 0) (He.meth_ok (B.c.fact 68 rfl)).at_ (He.meth_ok (B.c.fact 68 rfl)).fn (r46 B) (hr.mono (by decide))) (He.free_ok B.X B.G (B.c.fact 5 rfl)) rfl (sa_cons (se_var 1) sa_nil)) (se_bin2 o_add (se_var 0) se_int)) (sw_or1 (st_cmp2 (o_ne G (hu64 hr)) (se_meth0 (c := 5) (He.cls_ok (B.c.fact 34 rfl)) (He.meth_ok (B.c.fact 72 rfl)) (r51 B) (hr.mono (by decide)) (se_var 4)) (se_lc (own := [("_law_k", 3)]) 300 rfl sc50.nd (si_rng1 (He.free_ok B.X B.G (B.c.fact 71 rfl)) (se_bin2 o_add (se_var 0) se_int)) (show BlkOk ["_law_many", "_law_heap", "_law_last", "_law_k", "_law_book", "_law_copying", "_law_keeps", "_law_entry"] (defScope (top 37)) _ [("_law_k", 3)] from ⟨rfl, by decide +kernel, by decide +kernel, by decide +kernel, by decide +kernel⟩) (fun _ _ _ _ _ => (sg_name sc50.nd)) (fun _ _ _ _ _ => pts_nilM) (fun _ _ _ _ _ => (se_tup (sa_cons (se_var 3) (sa_cons (se_var 3) sa_nil)))))))))) (sss_one (ss_ret se_bl)) sss_nil) (sss_cons (ss_setLc (own := [("_law_entry", 7)]) 300 rfl sc50.nd (si_any G (se_meth0 (c := 6) (He.cls_ok (B.c.fact 45 rfl)) (He.meth_ok (B.c.fact 69 rfl)) (r48 B) (hr.mono (by decide)) (se_var 5))) (show BlkOk ["_law_many", "_law_heap", "_law_last", "_law_k", "_law_book", "_law_copying", "_law_keeps", "_law_entry"] (defScope (top 37)) _ [("_law_entry", 7)] from ⟨rfl, by decide +kernel, by decide +kernel, by decide +kernel, by decide +kernel⟩) (fun _ _ _ _ _ => (sg_name sc50.nd)) (fun _ _ _ _ _ => ST.pts1 (st_cmp2 (o_eq G (hu64 hr)) (se_ix2 (o_ix G (hu1 hr)) (se_var 7) se_int) se_str)) (fun _ _ _ _ _ => (se_var 7))) (sss_one (ss_ret (se_cmp2 (o_eq G (hu64 hr)) (se_var 6) (se_lc (own := [("_law_k", 3)]) 300 rfl sc50.nd (si_rng1 (He.free_ok B.X B.G (B.c.fact 71 rfl)) (se_bin2 o_add (se_var 0) se_int)) (show BlkOk ["_law_many", "_law_heap", "_law_last", "_law_k", "_law_book", "_law_copying", "_law_keeps", "_law_entry"] (defScope (top 37)) _ [("_law_k", 3)] from ⟨rfl, by decide +kernel, by decide +kernel, by decide +kernel, by decide +kernel⟩) (fun _ _ _ _ _ => (sg_name sc50.nd)) (fun _ _ _ _ _ => pts_nilM) (fun _ _ _ _ _ => (se_tup (sa_cons se_str (sa_cons (se_var 3) sa_nil)))))))))))))))
theorem kp50 (B : Bd K hh mg) : PySem.W.keepIn K (.ref (He.fAd K ("_law_kept_right", none))) = true := by obtain ⟨fd, F⟩ := B.c.def_ 50 (d := d50) rfl; exact F.kp
def f50 : MF := mDef 1 7 m50
theorem o50 (B : Bd K hh mg) : ∃ fd, FnOk P w K mg base CX0 14 (He.fAd K ("_law_kept_right", none)) fd ["_law_many"] (SpM (gm K) 1 f50) ∧ FunD K d50.name d50.qual d50.params d50.body d50.scope (d50.dvs K) (d50.kws K) (He.fAd K ("_law_kept_right", none)) fd := by
  obtain ⟨fd, F⟩ := B.c.def_ 50 (d := d50) rfl
  exact ⟨fd, fn_okM (ps := ["_law_many"]) F sc50 rfl rfl (fun cdv A outer s H hr => b50 B cdv A outer s H hr), F⟩
theorem r50 (B : Bd K hh mg) : FnR P w K mg base CX0 14 (He.fAd K ("_law_kept_right", none)) (SpM (gm K) 1 f50) := by
  obtain ⟨fd, F, D⟩ := o50 (P := P) (w := w) (base := base) B
  exact fnM_all F (FunD.bindsN (ps := ["_law_many"]) D fun _ _ _ _ _ _ us hl => match us, hl with | [_], _ => rfl)
/-! ### law -/
theorem sc52 : FnScope ["_law_script", "_law_many"] ["_law_script"] (defScope (top 38)) := ⟨rfl, rfl, rfl, by decide +kernel, rfl, by decide +kernel, by decide +kernel⟩
def mL : ME := (mAndV (mCall f0 0 mNil) (mAndV (mCall f49 0 mNil) (mCall f50 1 (mCons (mVar 1) mNil))))
def kT : Rs U → VS → Bool := noX fun u _ => match u with
  | .bl true => true
  | _ => false
/-- many from 1 to 7, and all else by the run -/
def manyOk (k : Nat) : Bool := mL [none, some (.int (k : Nat))] vs0 kT
theorem many1 : manyOk 1 = true := by decide +kernel
theorem many2 : manyOk 2 = true := by decide +kernel
theorem many3 : manyOk 3 = true := by decide +kernel
theorem many4 : manyOk 4 = true := by decide +kernel
theorem many5 : manyOk 5 = true := by decide +kernel
theorem many6 : manyOk 6 = true := by decide +kernel
theorem many7 : manyOk 7 = true := by decide +kernel
theorem many_all (i : Int) : ∃ k : Nat, 1 + i % 7 = (k : Int) ∧ manyOk k = true := by
  have h0 : 0 ≤ i % 7 := Int.emod_nonneg i (by decide)
  have h1 : i % 7 < 7 := Int.emod_lt_of_pos i (by decide)
  rcases (show i % 7 = 0 ∨ i % 7 = 1 ∨ i % 7 = 2 ∨ i % 7 = 3 ∨ i % 7 = 4 ∨ i % 7 = 5 ∨ i % 7 = 6 by omega) with e | e | e | e | e | e | e
  · exact ⟨1, by rw [e]; rfl, many1⟩
  · exact ⟨2, by rw [e]; rfl, many2⟩
  · exact ⟨3, by rw [e]; rfl, many3⟩
  · exact ⟨4, by rw [e]; rfl, many4⟩
  · exact ⟨5, by rw [e]; rfl, many5⟩
  · exact ⟨6, by rw [e]; rfl, many6⟩
  · exact ⟨7, by rw [e]; rfl, many7⟩
def spLaw (K : PySem.W.Frag) : Sp := fun vs H Q _ => ∃ (a : Addr) (ns : List Int), vs = [.ref a] ∧ SqL K H a (ns.map V.int) ∧ ∀ H', Q (.bl true) H'
def tMany (K : PySem.W.Frag) : TE := tOp (rI0 fun i j => .int (i + j)) (tC (.int 1)) (tOp (rI (fun _ j => 0 < j) fun i j => .int (i % j)) (tCB (fun xs H Q => ∃ i, xs = [.int i] ∧ Q (.int (if i < 0 then -i else i)) H) (tCons (tCB (rSum K) (tCons (tSl (rSlL K) (tVar 0) tNoPart (tPart (tC (.int 1)))) tNil)) tNil)) (tC (.int 7)))
def tLaw (K : PySem.W.Frag) : TS := tSeq (tAsg (tMany K) (gName 1)) (tRet (tM (gm K) W0 mL))
theorem cut_map (ns : List Int) (lo hi : Option Int) : ∃ ms : List Int, cutV (ns.map V.int) lo hi = ms.map V.int := by
  unfold cutV
  exact ⟨_, by rw [← List.map_drop, ← List.map_take]⟩
theorem pure_law (vs : List V) (H : Hp) (Q : VK) (E : XK) (h : spLaw K vs H Q E) : tLaw K { nx := fun _ H' => Q .non H', rt := Q } (start ["_law_script", "_law_many"] vs) H := by
  obtain ⟨a, ns, rfl, hS, hQ⟩ := h
  refine ⟨_, rfl, 1, rfl, a, ns.map V.int, rfl, hS, fun p hp => ?_⟩
  obtain ⟨ms, em⟩ := cut_map ns none (some 1)
  refine ⟨p, ms, rfl, .inl (.inl (by rw [upd_same, em])), _, rfl, _, _, rfl, rfl, (show (0 : Int) < 7 by decide), _, _, rfl, rfl, ?_⟩
  obtain ⟨k, ek, hk⟩ := many_all (if ms.sum < 0 then -ms.sum else ms.sum)
  refine ⟨[], vs0, [none, some (.int (k : Nat))], kT, rep0, ⟨rfl, fun i u e => ?_⟩, hk, fun ρ' st' H' u v S R r kk => ?_, noX_ex⟩
  · match i, e with
    | 1, e =>
      cases e
      exact ⟨.int (k : Nat), by rw [← ek]; rfl, rfl⟩
    | i + 2, e => cases e
  · cases u <;> first | (cases kk; done) | skip
    rename_i b
    cases b with
    | false => cases kk
    | true => rw [show v = .bl true from r]; exact hQ H'
theorem okLawF (B : Bd K hh mg) {fd : FuncData} (F : FunD K d52.name d52.qual d52.params d52.body d52.scope (d52.dvs K) (d52.kws K) (He.fAd K d52.at_) fd) : FnOk P w K mg base CX0 15 (He.ga K "law") fd ["_law_script"] (spLaw K) := by
  have G : GOk K (gm K) g0 := gok B
  refine F.ok sc52 (fun vs H Q E h => by obtain ⟨a, ns, rfl, _⟩ := h; rfl) (fun cdv A outer s H vs Q E hr h => ⟨tLaw K, PSs.nox ?_, pure_law vs H Q E h⟩)
  refine pss_cons (ps_set (i := 1) sc52.nd rfl (Or.inl rfl) (pe_op op_add pe_int (pe_op op_mod (pe_callB call_abs rfl (He.free_ok B.X B.G (B.c.fact 76 rfl)) rfl (pa_cons (pe_callB (cr_sum rfl) rfl (He.free_ok B.X B.G (B.c.fact 77 rfl)) rfl (pa_cons (pe_slice sl_list (pv 0) po_none (po_some pe_int)) pa_nil)) pa_nil)) pe_int))) (pss_one (ps_ret (SE.pe ?_)))
  exact (se_and (se_call0 (r0 B) (hr.mono (by decide)) (He.glo_ok B.X B.G (B.c.fact 75 rfl)) (kp0 B)) (se_and (se_call0 (r49 B) (hr.mono (by decide)) (He.glo_ok B.X B.G (B.c.fact 74 rfl)) (kp49 B)) (se_one (se_call (r50 B) (hr.mono (by decide)) (He.glo_ok B.X B.G (B.c.fact 73 rfl)) (kp50 B) (sa_cons (se_var 1) sa_nil)))))
end

def loose0 : List PySem.Str := ["_wall", "CopyError", "BadKind", "BadValue", "WrongKind", "UnknownCell", "NoEntry", "BadStep", "Busy", "Changed", "Endless", "Failed", "is_integer", "is_word", "is_atom", "Memo", "attach", "Frame", "Copying", "Cell", "Entries", "without_repetitions", "Heap", "_law_words", "_law_ring_right", "_law_from_inside_right", "_law_kept_right", "MOST_LETTERS", "LETTERS", "FIXED"]
def loose1 : List PySem.Str := ["ROWS", "SINGLE"]
def loose : List PySem.Str := loose0 ++ loose1
def vl : List He.FnW := [d0.val, d1.val, d2.val, d3.val, d4.val, d5.val, d6.val, d7.val, d8.val, d9.val, d10.val, d11.val, d12.val, d13.val, d14.val, d15.val, d16.val, d17.val, d18.val, d19.val, d20.val, d21.val, d22.val, d23.val, d24.val, d25.val, d26.val, d27.val, d28.val, d29.val, d30.val, d31.val, d32.val, d33.val, d34.val, d35.val, d36.val, d37.val, d38.val, d39.val, d40.val, d41.val, d42.val, d43.val, d44.val, d45.val, d46.val, d47.val, d48.val, d49.val, d50.val, d51.val, d52.val]
abbrev hk : PySem.W.Hook := hookM 5 fa fn exB vl rfl
def ob (s : PySem.W.SharedT) : AlM := obsM 5 fa fn exB (HandSHeadRun.getT s)
theorem ob_eq (s : PySem.W.SharedT) : ob s = hk.obs s.abs := obsM_eq (HandSHeadRun.getT_eq s)
theorem run (w : World) : HandSHeadRun.RunEq R (PySem.W.view R.prog [38]) hk ob 12000 loose w := by
  intro os
  kernel_rfl

end C69
open PySem PySem.W PySem.Calls PyProof.Rows
theorem PySem.Challenge.cw_copymemos_k69_tuples_in_cycles_by_hand_holds : PySem.Challenge.rw_copymemos_k69_tuples_in_cycles_by_hand.Holds := by
  w_on; o_law
  refine HandSHeadRun.head_any (r := OpenLaw.row PySem.Challenge.rw_copymemos_k69_tuples_in_cycles_by_hand) (q := view (OpenLaw.row PySem.Challenge.rw_copymemos_k69_tuples_in_cycles_by_hand).prog [38]) (H := C69.hk) (ob := C69.ob) (M := 12000) (loose := C69.loose) (d := HandSHeadRun.topDef (OpenLaw.row PySem.Challenge.rw_copymemos_k69_tuples_in_cycles_by_hand).prog 38) (kwd := []) C69.ob_eq
    (by kernel_rfl) (fun s => by kernel_rfl) C69.run (by kernel_rfl) (by kernel_rfl) (by kernel_rfl) (by rfl) (by first | assumption | decide +kernel) (by decide +kernel) ⟨rfl, rfl, rfl, rfl, rfl, by decide +kernel⟩ ?hw ?hc
  case hw => w_witness2
  case hc =>
    refine L2.walk_ofE (l := PySem.Challenge.rw_copymemos_k69_tuples_in_cycles_by_hand) (n := 63) (k := 15) (x := "_law_script") (CX := L2.CX0) rfl (by decide) (by kernel_rfl) ⟨rfl, by decide, by decide⟩ ?F (fun _ _ _ _ z => z)
    intro w mg fa h Y G hmg0
    obtain ⟨K, KX, c, ce⟩ := Y
    have hmg : mg ("law" : PySem.Str) = some (.ref fa) := by
      have e : (HandSHeadRun.topDef (OpenLaw.row PySem.Challenge.rw_copymemos_k69_tuples_in_cycles_by_hand).prog 38).name = ("law" : PySem.Str) := by kernel_rfl
      rw [← e]
      exact hmg0
    have B : C69.Bd K h mg := ⟨KX, G, c, ce⟩
    have e := hmg.symm.trans (He.glo_ok KX G (c.fact 78 (f := .glo "law") rfl))
    cases e
    obtain ⟨fd, F⟩ := c.def_ 52 (d := C69.d52) rfl
    have b := L2.FunD.bindsA (ps := ["_law_script"]) F fun _ _ _ _ _ _ us hl => match us, hl with | [_], _ => rfl
    exact ⟨K, fd, C69.spLaw K, KX, fun s v => b s [v] rfl, fun H a ns hl _ hS => ⟨a, ns, rfl, hS, fun _ => rfl⟩, fun base _ _ => C69.okLawF B F⟩


