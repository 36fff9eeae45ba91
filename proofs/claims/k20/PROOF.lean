import PyProof.Rows.All
import Wide.All
import OpenK.AllK
import Wide.FinOn
import HandS.ForMost
import HandS.ForExc
import HandS.Deep
import HandS.TupAny
import HandS.TupMul
import HandS.Zip
import HandS.Flow
import HandS.Style
import HandS.IsInst
import HandS.NoneIn
import HandS.StrMore
import PyProof.Rows.StrRev
import PyProof.Rows.StrCut
import KE.SortData
import KE.KDictPairs
import HandS.Strs
import HandS.SetFor
import KE.GoesEnum
import KE.GoesMore
import KE.GoesZip
import KE.DataMinMax
import HandS.More
import HandS.TryOnly
import HandS.ExcOwn
import HandS.ExcValue
import HandS.ExcIs
import HandS.HotCalls
import HandS.Codes
import PySem.Challenge.RW_eyecuts_k20_whole_refusals
set_option Elab.async false
set_option linter.all false
set_option autoImplicit false
set_option maxRecDepth 100000
set_option maxHeartbeats 4000000
/-! the town's number bears a cursor's state, too: n % 33554432 draws, n / 33554432 the state's code -/
namespace G
open PySem
structure CurS where
  kd : PyData
  rl : PyData
  wd : PyData
  now : PyData
  bef : List PyData
  lat : List PyData
def pr (a b : Nat) : Nat := 2 ^ a * (2 * b + 1)
theorem pr_pos (a b : Nat) : 0 < pr a b := Nat.mul_pos (Nat.pow_pos (by decide)) (by omega)
theorem pr_inj : ∀ {a b c d : Nat}, pr a b = pr c d → a = c ∧ b = d
  | 0, b, 0, d, h => by
    unfold pr at h
    rw [Nat.pow_zero, Nat.one_mul, Nat.one_mul] at h
    exact ⟨rfl, by omega⟩
  | 0, b, c + 1, d, h => by
    exfalso
    unfold pr at h
    rw [Nat.pow_zero, Nat.one_mul, Nat.pow_succ, Nat.mul_comm (2 ^ c) 2, Nat.mul_assoc] at h
    omega
  | a + 1, b, 0, d, h => by
    exfalso
    unfold pr at h
    rw [Nat.pow_zero, Nat.one_mul, Nat.pow_succ, Nat.mul_comm (2 ^ a) 2, Nat.mul_assoc] at h
    omega
  | a + 1, b, c + 1, d, h => by
    have h2 : pr a b = pr c d := by
      unfold pr at h ⊢
      rw [Nat.pow_succ, Nat.mul_comm (2 ^ a) 2, Nat.mul_assoc, Nat.pow_succ, Nat.mul_comm (2 ^ c) 2, Nat.mul_assoc] at h
      omega
    obtain ⟨h3, h4⟩ := pr_inj h2
    exact ⟨by omega, h4⟩
def encL : List Nat → Nat
  | [] => 0
  | x :: r => pr x (encL r)
theorem encL_inj : ∀ {a b : List Nat}, encL a = encL b → a = b
  | [], [], _ => rfl
  | [], y :: b, h => by
    have := pr_pos y (encL b)
    unfold encL at h
    omega
  | x :: a, [], h => by
    have := pr_pos x (encL a)
    unfold encL at h
    omega
  | x :: a, y :: b, h => by
    obtain ⟨h1, h2⟩ := pr_inj (show pr x (encL a) = pr y (encL b) from h)
    rw [h1, encL_inj h2]
def encZ : Int → Nat
  | .ofNat k => 2 * k
  | .negSucc k => 2 * k + 1
theorem encZ_inj : ∀ {a b : Int}, encZ a = encZ b → a = b
  | .ofNat a, .ofNat b, h => by
    have h : 2 * a = 2 * b := h
    rw [show a = b by omega]
  | .ofNat a, .negSucc b, h => by
    have h : 2 * a = 2 * b + 1 := h
    omega
  | .negSucc a, .ofNat b, h => by
    have h : 2 * a + 1 = 2 * b := h
    omega
  | .negSucc a, .negSucc b, h => by
    have h : 2 * a + 1 = 2 * b + 1 := h
    rw [show a = b by omega]
mutual
def encD : PyData → Nat
  | .none => pr 0 0
  | .bool b => pr 1 (if b = true then 1 else 0)
  | .int i => pr 2 (encZ i)
  | .str x => pr 3 (encL x.cps.toList)
  | .list xs => pr 4 (encA xs)
  | .tuple xs => pr 5 (encA xs)
  | .dict kvs => pr 6 (encK kvs)
def encA : List PyData → Nat
  | [] => 0
  | x :: r => pr (encD x) (encA r)
def encK : List (PyData × PyData) → Nat
  | [] => 0
  | x :: r => pr (encP2 x) (encK r)
def encP2 : PyData × PyData → Nat
  | (a, b) => pr (encD a) (encD b)
end
mutual
theorem encD_inj : ∀ (a b : PyData), encD a = encD b → a = b
  | .none, b, h => by
    cases b <;> simp only [encD] at h <;> first | rfl | (obtain ⟨z, _⟩ := pr_inj h; omega)
  | .bool x, b, h => by
    cases b with
    | bool y =>
      simp only [encD] at h
      obtain ⟨_, z⟩ := pr_inj h
      cases x <;> cases y <;> simp at z <;> rfl
    | _ => simp only [encD] at h; obtain ⟨z, _⟩ := pr_inj h; omega
  | .int x, b, h => by
    cases b with
    | int y =>
      simp only [encD] at h
      obtain ⟨_, z⟩ := pr_inj h
      rw [encZ_inj z]
    | _ => simp only [encD] at h; obtain ⟨z, _⟩ := pr_inj h; omega
  | .str x, b, h => by
    cases b with
    | str y =>
      simp only [encD] at h
      obtain ⟨_, z⟩ := pr_inj h
      have e := encL_inj z
      obtain ⟨⟨u⟩⟩ := x
      obtain ⟨⟨v⟩⟩ := y
      simp only at e
      rw [e]
    | _ => simp only [encD] at h; obtain ⟨z, _⟩ := pr_inj h; omega
  | .list x, b, h => by
    cases b with
    | list y =>
      simp only [encD] at h
      obtain ⟨_, z⟩ := pr_inj h
      rw [encA_inj x y z]
    | _ => simp only [encD] at h; obtain ⟨z, _⟩ := pr_inj h; omega
  | .tuple x, b, h => by
    cases b with
    | tuple y =>
      simp only [encD] at h
      obtain ⟨_, z⟩ := pr_inj h
      rw [encA_inj x y z]
    | _ => simp only [encD] at h; obtain ⟨z, _⟩ := pr_inj h; omega
  | .dict x, b, h => by
    cases b with
    | dict y =>
      simp only [encD] at h
      obtain ⟨_, z⟩ := pr_inj h
      rw [encK_inj x y z]
    | _ => simp only [encD] at h; obtain ⟨z, _⟩ := pr_inj h; omega
theorem encA_inj : ∀ (a b : List PyData), encA a = encA b → a = b
  | [], [], _ => rfl
  | [], y :: b, h => by
    have := pr_pos (encD y) (encA b)
    simp only [encA] at h
    omega
  | x :: a, [], h => by
    have := pr_pos (encD x) (encA a)
    simp only [encA] at h
    omega
  | x :: a, y :: b, h => by
    simp only [encA] at h
    obtain ⟨h1, h2⟩ := pr_inj h
    rw [encD_inj x y h1, encA_inj a b h2]
theorem encK_inj : ∀ (a b : List (PyData × PyData)), encK a = encK b → a = b
  | [], [], _ => rfl
  | [], y :: b, h => by
    have := pr_pos (encP2 y) (encK b)
    simp only [encK] at h
    omega
  | x :: a, [], h => by
    have := pr_pos (encP2 x) (encK a)
    simp only [encK] at h
    omega
  | x :: a, y :: b, h => by
    simp only [encK] at h
    obtain ⟨h1, h2⟩ := pr_inj h
    rw [encP2_inj x y h1, encK_inj a b h2]
theorem encP2_inj : ∀ (a b : PyData × PyData), encP2 a = encP2 b → a = b
  | (a, b), (c, d), h => by
    simp only [encP2] at h
    obtain ⟨h1, h2⟩ := pr_inj h
    rw [encD_inj a c h1, encD_inj b d h2]
end
def encC (q : CurS) : Nat := encD (.tuple [q.kd, q.rl, q.wd, q.now, .list q.bef, .list q.lat])
theorem encC_inj {p q : CurS} (h : encC p = encC q) : p = q := by
  have := encD_inj _ _ h
  obtain ⟨a1, a2, a3, a4, a5, a6⟩ := p
  obtain ⟨b1, b2, b3, b4, b5, b6⟩ := q
  simp at this
  obtain ⟨h1, h2, h3, h4, h5, h6⟩ := this
  rw [h1, h2, h3, h4, h5, h6]
theorem encC_pos (q : CurS) : 0 < encC q := by unfold encC encD; exact pr_pos _ _
/-- two cursors: the one at hand, the other one -/
abbrev St2 := Option CurS × Option CurS
def oc : Option CurS → Nat
  | none => 0
  | some q => encC q
theorem oc_inj {a b : Option CurS} (h : oc a = oc b) : a = b := by
  cases a with
  | none =>
    cases b with
    | none => rfl
    | some q => have h : 0 = encC q := h; have := encC_pos q; omega
  | some p =>
    cases b with
    | none => have h : encC p = 0 := h; have := encC_pos p; omega
    | some q => rw [encC_inj (show encC p = encC q from h)]
def encS2 (s : St2) : Nat := pr (oc s.1) (oc s.2) - 1
theorem encS2_inj {a b : St2} (h : encS2 a = encS2 b) : a = b := by
  have h1 := pr_pos (oc a.1) (oc a.2)
  have h2 := pr_pos (oc b.1) (oc b.2)
  unfold encS2 at h
  obtain ⟨e1, e2⟩ := pr_inj (show pr (oc a.1) (oc a.2) = pr (oc b.1) (oc b.2) by omega)
  exact Prod.ext (oc_inj e1) (oc_inj e2)
theorem encS2_none : encS2 (none, none) = 0 := rfl
open Classical in
/-- the cursors' states in a number -/
noncomputable def st2 (n : Nat) : St2 := if h : ∃ s, encS2 s = n / 33554432 then h.choose else (none, none)
noncomputable def cq (n : Nat) : Option CurS := (st2 n).1
noncomputable def pq (n : Nat) : Option CurS := (st2 n).2
theorem st2_of {n : Nat} {s : St2} (h : n / 33554432 = encS2 s) : st2 n = s := by
  unfold st2
  have hx : ∃ s, encS2 s = n / 33554432 := ⟨s, h.symm⟩
  rw [dif_pos hx]
  exact encS2_inj (hx.choose_spec.trans h)
theorem st2_zero : st2 0 = (none, none) := st2_of (by rw [encS2_none])
theorem cq_zero : cq 0 = none := by unfold cq; rw [st2_zero]
theorem pq_zero : pq 0 = none := by unfold pq; rw [st2_zero]
theorem st2_same {n n' : Nat} (h : n' / 33554432 = n / 33554432) : st2 n' = st2 n := by
  unfold st2
  rw [h]
theorem cq_same {n n' : Nat} (h : n' / 33554432 = n / 33554432) : cq n' = cq n := by unfold cq; rw [st2_same h]
theorem pq_same {n n' : Nat} (h : n' / 33554432 = n / 33554432) : pq n' = pq n := by unfold pq; rw [st2_same h]
/-- .. set -/
def stset (n : Nat) (s : St2) : Nat := 33554432 * encS2 s + n % 33554432
theorem stset_mod (n : Nat) (s : St2) : stset n s % 33554432 = n % 33554432 := by unfold stset; omega
theorem stset_div (n : Nat) (s : St2) : stset n s / 33554432 = encS2 s := by unfold stset; omega
theorem st2_stset (n : Nat) (s : St2) : st2 (stset n s) = s := st2_of (stset_div n s)
theorem stset_stset (n : Nat) (s u : St2) : stset (stset n s) u = stset n u := by
  show 33554432 * encS2 u + stset n s % 33554432 = _
  rw [stset_mod]
  rfl
theorem stset_self {n : Nat} {s : St2} (h : st2 n = s) (h0 : s ≠ (none, none)) : stset n s = n := by
  unfold st2 at h
  split at h
  · rename_i hx
    have := hx.choose_spec
    rw [h] at this
    unfold stset
    rw [this]
    omega
  · exact absurd h.symm h0
noncomputable def cset (n : Nat) (q : CurS) : Nat := stset n (some q, pq n)
theorem cset_mod (n : Nat) (q : CurS) : cset n q % 33554432 = n % 33554432 := stset_mod _ _
theorem cq_cset (n : Nat) (q : CurS) : cq (cset n q) = some q := by unfold cq cset; rw [st2_stset]
theorem pq_cset (n : Nat) (q : CurS) : pq (cset n q) = pq n := by
  show (st2 (stset n (some q, pq n))).2 = pq n
  rw [st2_stset]
theorem cset_cset (n : Nat) (p q : CurS) : cset (cset n p) q = cset n q := by
  unfold cset
  rw [stset_stset]
  have : pq (stset n (some p, pq n)) = pq n := pq_cset n p
  rw [this]
theorem cset_self {n : Nat} {q : CurS} (h : cq n = some q) : cset n q = n := by
  unfold cset
  refine stset_self ?_ (by simp)
  unfold cq at h
  unfold pq
  rw [← h]
/-- both exchanged -/
noncomputable def cswap (n : Nat) : Nat := stset n (pq n, cq n)
theorem cswap_mod (n : Nat) : cswap n % 33554432 = n % 33554432 := stset_mod _ _
theorem cq_cswap (n : Nat) : cq (cswap n) = pq n := by
  show (st2 (stset n (pq n, cq n))).1 = pq n
  rw [st2_stset]
theorem pq_cswap (n : Nat) : pq (cswap n) = cq n := by
  show (st2 (stset n (pq n, cq n))).2 = cq n
  rw [st2_stset]
/-- a new one, the one at hand put aside -/
noncomputable def cnew (n : Nat) (q : CurS) : Nat := stset n (some q, cq n)
theorem cnew_mod (n : Nat) (q : CurS) : cnew n q % 33554432 = n % 33554432 := stset_mod _ _
theorem cq_cnew (n : Nat) (q : CurS) : cq (cnew n q) = some q := by
  show (st2 (stset n (some q, cq n))).1 = some q
  rw [st2_stset]
theorem pq_cnew (n : Nat) (q : CurS) : pq (cnew n q) = cq n := by
  show (st2 (stset n (some q, cq n))).2 = cq n
  rw [st2_stset]
theorem cq_up {n k : Nat} (h : n % 33554432 + k < 33554432) : cq (n + k) = cq n := cq_same (by omega)
theorem pq_up {n k : Nat} (h : n % 33554432 + k < 33554432) : pq (n + k) = pq n := pq_same (by omega)
theorem up_mod {n k : Nat} (h : n % 33554432 + k < 33554432) : (n + k) % 33554432 = n % 33554432 + k := by omega
end G

namespace G
open PySem PySem.Spec PyProof.Rows L2

abbrev D := PyData
/-! ### results -/
inductive Res (α : Type) where
  | ok (a : α) (n : Nat)
  | ex (c : String) (n : Nat)
  | bad
namespace Res
variable {α β : Type}
def Post (r : Res α) (P : α → Nat → Prop) (E : String → Nat → Prop) : Prop := match r with
  | .ok a n => P a n
  | .ex c n => E c n
  | .bad => False
def bind (r : Res α) (k : α → Nat → Res β) : Res β := match r with
  | .ok a n => k a n
  | .ex c n => .ex c n
  | .bad => .bad
theorem post_bind {r : Res α} {k : α → Nat → Res β} {P : β → Nat → Prop} {E : String → Nat → Prop} (h : (r.bind k).Post P E) : r.Post (fun a n => (k a n).Post P E) E := by
  cases r <;> exact h
theorem Post.mono {r : Res α} {P P' : α → Nat → Prop} {E E' : String → Nat → Prop} (h : r.Post P E) (hp : ∀ a n, P a n → P' a n) (he : ∀ c n, E c n → E' c n) : r.Post P' E' := by
  cases r with
  | ok a n => exact hp _ _ h
  | ex c n => exact he _ _ h
  | bad => exact h
/-- a pure value, or stuck -/
def lift (o : Option α) (n : Nat) : Res α := match o with
  | some a => .ok a n
  | none => .bad
theorem post_lift {o : Option α} {n : Nat} {P : α → Nat → Prop} {E : String → Nat → Prop} (h : (lift o n).Post P E) : ∃ a, o = some a ∧ P a n := by
  cases o with
  | none => exact h.elim
  | some a => exact ⟨a, rfl, h⟩
@[simp] theorem bind_ok (a : α) (n : Nat) (k : α → Nat → Res β) : (Res.ok a n).bind k = k a n := rfl
@[simp] theorem bind_ex (c : String) (n : Nat) (k : α → Nat → Res β) : (Res.ex c n : Res α).bind k = .ex c n := rfl
@[simp] theorem bind_bad (k : α → Nat → Res β) : (Res.bad : Res α).bind k = .bad := rfl
@[simp] theorem lift_some (a : α) (n : Nat) : lift (some a) n = .ok a n := rfl
@[simp] theorem lift_none (n : Nat) : lift (none : Option α) n = .bad := rfl
end Res

/-! ### local values -/
/-- other own objects -/
inductive OB : Type
inductive L where
  | d (x : D)
  | own (xs : List D)
  | dic (kvs : List (Key × D))
  | dit (kvs : List (List Key × D))
  | frk (kvs : List (Key × D))
  | town
  | scr (ns : List Int)
  | ob (o : OB)
  | cur
  | prk
  | exn (a : Addr)
  | twl
abbrev Env := List (Option L)
abbrev M (α : Type) := Env → Nat → Res α

/-! ### what a value stands for -/
/-- a tuple that bears no dict of its own -/
def PlT (K : PySem.W.Frag) (H : Hp) (a : Addr) (xs : List V) : Prop := (∃ o : Obj, H a = some (.frz o (.tup xs)) ∧ o.dict = none) ∨
  ∃ (o : Obj) (us : Array Value) (n : Nat), K.lookup a = some o ∧ o.cls = .type "tuple" ∧ o.dict = none ∧ o.data = .seq us n ∧ us.size ≤ sizeLine ∧ Vals xs us.toList
theorem PlT.sq {K : PySem.W.Frag} {H : Hp} {a : Addr} {xs : List V} (h : PlT K H a xs) : SqT K H a xs := by
  rcases h with ⟨o, h, _⟩ | ⟨o, us, n, h1, h2, _, h3, h4, h5⟩
  · exact .inl (.inr ⟨o, h⟩)
  · exact .inr ⟨o, us, n, h1, h2, h3, h4, h5⟩
theorem plT_mono {K : PySem.W.Frag} {H H' : Hp} {a : Addr} {xs : List V} (e : ∀ b o, H b = some o → H' b = some o) (h : PlT K H a xs) : PlT K H' a xs := by
  rcases h with ⟨o, h, z⟩ | h
  · exact .inl ⟨o, e _ _ h, z⟩
  · exact .inr h
mutual
inductive Rep (K : PySem.W.Frag) (H : Hp) : V → D → Prop
  | non : Rep K H .non .none
  | bl (b : Bool) : Rep K H (.bl b) (.bool b)
  | int (i : Int) : Rep K H (.int i) (.int i)
  | str (x : Str) : Rep K H (.str x) (.str x)
  | lst {a : Addr} {xs : List V} {ds : List D} : H a = some (.lst xs) → RepAll K H xs ds → Rep K H (.ref a) (.list ds)
  | tup {a : Addr} {xs : List V} {ds : List D} : PlT K H a xs → RepAll K H xs ds → Rep K H (.ref a) (.tuple ds)
inductive RepAll (K : PySem.W.Frag) (H : Hp) : List V → List D → Prop
  | nil : RepAll K H [] []
  | cons {v : V} {vs : List V} {d : D} {ds : List D} : Rep K H v d → RepAll K H vs ds → RepAll K H (v :: vs) (d :: ds)
end

theorem sqT_mono {K : PySem.W.Frag} {H H' : Hp} {a : Addr} {xs : List V} (e : ∀ b o, H b = some o → H' b = some o) (h : SqT K H a xs) : SqT K H' a xs := by
  rcases h with (h | ⟨o, h⟩) | h
  · exact .inl (.inl (e _ _ h))
  · exact .inl (.inr ⟨o, e _ _ h⟩)
  · exact .inr h
theorem sqL_mono {K : PySem.W.Frag} {H H' : Hp} {a : Addr} {xs : List V} (e : ∀ b o, H b = some o → H' b = some o) (h : SqL K H a xs) : SqL K H' a xs := by
  rcases h with (h | ⟨o, h⟩) | h
  · exact .inl (.inl (e _ _ h))
  · exact .inl (.inr ⟨o, e _ _ h⟩)
  · exact .inr h
section
variable {K : PySem.W.Frag} {H H' : Hp}
mutual
theorem Rep.mono (e : ∀ b o, H b = some o → H' b = some o) : ∀ (d : D) (v : V), Rep K H v d → Rep K H' v d
  | .none, _, h => by cases h; exact .non
  | .bool b, _, h => by cases h; exact .bl b
  | .int i, _, h => by cases h; exact .int i
  | .str x, _, h => by cases h; exact .str x
  | .list ds, _, h => by
    cases h with
    | lst h1 h2 => exact .lst (e _ _ h1) (Rep.monoAll e ds _ h2)
  | .tuple ds, _, h => by
    cases h with
    | tup h1 h2 => exact .tup (plT_mono e h1) (Rep.monoAll e ds _ h2)
  | .dict _, _, h => by cases h
theorem Rep.monoAll (e : ∀ b o, H b = some o → H' b = some o) : ∀ (ds : List D) (vs : List V), RepAll K H vs ds → RepAll K H' vs ds
  | [], _, h => by cases h; exact .nil
  | d :: ds, _, h => by
    cases h with
    | cons h1 h2 => exact .cons (Rep.mono e d _ h1) (Rep.monoAll e ds _ h2)
end
mutual
theorem Rep.dp (e : ∀ b o, H b = some o → H' b = some o) : ∀ (d : D) (v : V), Rep K H v d → Dp K H' v d
  | .none, _, h => by cases h; exact .non
  | .bool b, _, h => by cases h; exact .bl b
  | .int i, _, h => by cases h; exact .int i
  | .str x, _, h => by cases h; exact .str x
  | .list ds, _, h => by
    cases h with
    | lst h1 h2 => exact .lst (.inl (.inl (e _ _ h1))) (Rep.dpAll e ds _ h2)
  | .tuple ds, _, h => by
    cases h with
    | tup h1 h2 => exact .tup (sqT_mono e h1.sq) (Rep.dpAll e ds _ h2)
  | .dict _, _, h => by cases h
theorem Rep.dpAll (e : ∀ b o, H b = some o → H' b = some o) : ∀ (ds : List D) (vs : List V), RepAll K H vs ds → DpAll K H' vs ds
  | [], _, h => by cases h; exact .nil
  | d :: ds, _, h => by
    cases h with
    | cons h1 h2 => exact .cons (Rep.dp e d _ h1) (Rep.dpAll e ds _ h2)
end
theorem RepAll.length : ∀ {ds : List D} {vs : List V}, RepAll K H vs ds → vs.length = ds.length
  | [], _, h => by cases h; rfl
  | d :: ds, _, h => by
    cases h with
    | cons h1 h2 => simp [RepAll.length h2]
theorem RepAll.get : ∀ {ds : List D} {vs : List V} {i : Nat} {d : D}, RepAll K H vs ds → ds[i]? = some d → ∃ v, vs[i]? = some v ∧ Rep K H v d
  | [], _, _, _, _, e => by simp at e
  | d :: ds, _, 0, _, h, e => by
    cases h with
    | cons h1 h2 => simp at e; subst e; exact ⟨_, rfl, h1⟩
  | d :: ds, _, i + 1, x, h, e => by
    cases h with
    | cons h1 h2 =>
      obtain ⟨v, q1, q2⟩ := RepAll.get (i := i) (d := x) h2 (by simpa using e)
      exact ⟨v, by simpa using q1, q2⟩
theorem RepAll.append : ∀ {ds es : List D} {vs ws : List V}, RepAll K H vs ds → RepAll K H ws es → RepAll K H (vs ++ ws) (ds ++ es)
  | [], _, _, _, h, h' => by cases h; exact h'
  | d :: ds, _, _, _, h, h' => by
    cases h with
    | cons h1 h2 => exact .cons h1 (RepAll.append h2 h')
theorem RepAll.take : ∀ {ds : List D} {vs : List V} (n : Nat), RepAll K H vs ds → RepAll K H (vs.take n) (ds.take n)
  | _, _, 0, _ => by simpa using RepAll.nil
  | [], _, _ + 1, h => by cases h; exact .nil
  | d :: ds, _, n + 1, h => by
    cases h with
    | cons h1 h2 => exact .cons h1 (RepAll.take n h2)
theorem RepAll.drop : ∀ {ds : List D} {vs : List V} (n : Nat), RepAll K H vs ds → RepAll K H (vs.drop n) (ds.drop n)
  | _, _, 0, h => h
  | [], _, _ + 1, h => by cases h; exact .nil
  | d :: ds, _, n + 1, h => by
    cases h with
    | cons h1 h2 => exact RepAll.drop n h2
theorem RepAll.set {v : V} {d : D} (r : Rep K H v d) : ∀ {ds : List D} {vs : List V} (i : Nat), RepAll K H vs ds → RepAll K H (vs.set i v) (ds.set i d)
  | [], _, _, h => by cases h; exact .nil
  | _ :: _, _, 0, h => by
    cases h with
    | cons h1 h2 => exact .cons r h2
  | _ :: _, _, i + 1, h => by
    cases h with
    | cons h1 h2 => exact .cons h1 (RepAll.set r i h2)
theorem RepAll.reverse : ∀ {ds : List D} {vs : List V}, RepAll K H vs ds → RepAll K H vs.reverse ds.reverse
  | [], _, h => by cases h; exact .nil
  | d :: ds, _, h => by
    cases h with
    | cons h1 h2 =>
      rw [List.reverse_cons, List.reverse_cons]
      exact (RepAll.reverse h2).append (.cons h1 .nil)
end

/-! ### the heap without what is banned, without what bears the cursor -/
def curK : HO → Bool
  | .ins _ _ _ => true
  | .own _ => true
  | .ext _ => true
  | _ => false
def hid (B : List Addr) (H : Hp) : Hp := fun a => if a ∈ B then none else match H a with
  | some o => if curK o = true then none else some o
  | none => none
theorem hid_all {B : List Addr} {H : Hp} {a : Addr} {o : HO} (h : hid B H a = some o) : a ∉ B ∧ H a = some o ∧ curK o = false := by
  unfold hid at h
  split at h
  · cases h
  · split at h
    · rename_i hb _ u q
      split at h
      · cases h
      · rename_i hc
        cases h
        exact ⟨hb, q, by simpa using hc⟩
    · cases h
theorem hid_some {B : List Addr} {H : Hp} {a : Addr} {o : HO} (h : hid B H a = some o) : a ∉ B ∧ H a = some o := ⟨(hid_all h).1, (hid_all h).2.1⟩
theorem hid_cur {B : List Addr} {H : Hp} {a : Addr} {o : HO} (h : hid B H a = some o) : curK o = false := (hid_all h).2.2
theorem hid_of {B : List Addr} {H : Hp} {a : Addr} {o : HO} (hb : a ∉ B) (h : H a = some o) (hc : curK o = false := by first | rfl | assumption | exact hid_cur ‹_›) : hid B H a = some o := by
  unfold hid
  rw [if_neg hb, h]
  simp [hc]
/-- what is seen stays -/
def Sees (B : List Addr) (H : Hp) (B' : List Addr) (H' : Hp) : Prop := ∀ a o, hid B H a = some o → hid B' H' a = some o
theorem Sees.refl {B : List Addr} {H : Hp} : Sees B H B H := fun _ _ h => h
theorem Sees.trans {B1 B2 B3 : List Addr} {H1 H2 H3 : Hp} (a : Sees B1 H1 B2 H2) (b : Sees B2 H2 B3 H3) : Sees B1 H1 B3 H3 := fun x o h => b x o (a x o h)

def zer (n : Nat) : HO := .lst (List.replicate (n % 33554432) (.int 0))
theorem zer_mod {n n' : Nat} (h : n' % 33554432 = n % 33554432) : zer n' = zer n := by
  unfold zer
  rw [h]
/-- all that was tracked stands, but at t, and what bears the cursor -/
structure Ext (t : Addr) (H H' : Hp) : Prop where
  to : ∀ a o, H a = some o → a ≠ t → curK o = false → H' a = some o
  ck : ∀ a o, H a = some o → curK o = true → ∃ o', H' a = some o' ∧ curK o' = true
  ins : ∀ a C dx fs, H a = some (.ins C dx fs) → ∃ fs', H' a = some (.ins C dx fs')
theorem Ext.refl {t : Addr} {H : Hp} : Ext t H H := ⟨fun _ _ h _ _ => h, fun _ o h k => ⟨o, h, k⟩, fun _ _ _ fs h => ⟨fs, h⟩⟩
theorem Ext.trans {t : Addr} {H H1 H2 : Hp} (a : Ext t H H1) (b : Ext t H1 H2) : Ext t H H2 := by
  refine ⟨fun x o h n k => b.to x o (a.to x o h n k) n k, fun x o h k => ?_, fun x C dx fs h => ?_⟩
  · obtain ⟨o', h', k'⟩ := a.ck x o h k
    exact b.ck x o' h' k'
  · obtain ⟨fs', h'⟩ := a.ins x C dx fs h
    exact b.ins x C dx fs' h'
theorem Ext.of_same {t : Addr} {H H' : Hp} (h : Same H H') : Ext t H H' := ⟨fun a o e _ _ => h a o e, fun a o e k => ⟨o, h a o e, k⟩, fun a C dx fs e => ⟨fs, h a _ e⟩⟩
theorem Ext.all {t : Addr} {H H' : Hp} (e : Ext t H H') (ht : H' t ≠ none) {a : Addr} (h : H a ≠ none) : H' a ≠ none := by
  cases q : H a with
  | none => exact absurd q h
  | some o =>
    by_cases z : a = t
    · rw [z]; exact ht
    · cases k : curK o with
      | false => rw [e.to a o q z k]; simp
      | true =>
        obtain ⟨o', h', _⟩ := e.ck a o q k
        rw [h']; simp

/-! ### the cursor -/
def tupO : HO → Bool
  | .tup _ => true
  | .frz _ (.tup _) => true
  | _ => false
theorem tup_cur {o : HO} (h : tupO o = true) : curK o = false := by
  cases o <;> first | rfl | cases h
/-- the tuples of a heap -/
def tupH (H : Hp) : Hp := fun a => match H a with
  | some o => if tupO o = true then some o else none
  | none => none
theorem tupH_some {H : Hp} {a : Addr} {o : HO} (h : tupH H a = some o) : H a = some o ∧ tupO o = true := by
  unfold tupH at h
  split at h
  · rename_i u q
    split at h
    · cases h; exact ⟨q, by assumption⟩
    · cases h
  · cases h
theorem tupH_of {H : Hp} {a : Addr} {o : HO} (h : H a = some o) (k : tupO o = true) : tupH H a = some o := by
  unfold tupH
  rw [h]
  simp [k]
/-- a list that bears the cursor -/
def CurL (a : Addr) (vs : List V) (h : Heap) : Prop := vs.length ≤ sizeLine ∧ ∃ (its : List Value) (n : Nat), Vals vs its ∧ h.get? a = some { cls := .type "list", data := .seq its.toArray n }
def CurC (K : PySem.W.Frag) (C : Addr) : Prop := PySem.W.nsIn K mainGlobals "Cursor" = some (some (.ref C))
def curF (vk vr vw vn : V) (b l : Addr) : List (Str × V) := [("kinds", vk), ("rules", vr), ("words", vw), ("now", vn), ("before", .ref b), ("later", .ref l)]
def CuAt (K : PySem.W.Frag) (H : Hp) (a : Addr) (q : CurS) : Prop := ∃ (C dx b l : Addr) (vk vr vw vn : V) (us vs : List V), CurC K C ∧ b ≠ l ∧ H a = some (.ins C dx (curF vk vr vw vn b l)) ∧
  H b = some (.ext (CurL b us)) ∧ H l = some (.ext (CurL l vs)) ∧ Rep K (tupH H) vk q.kd ∧ Rep K (tupH H) vr q.rl ∧ Rep K (tupH H) vw q.wd ∧ Rep K (tupH H) vn q.now ∧ RepAll K (tupH H) us q.bef ∧ RepAll K (tupH H) vs q.lat
/-- where the cursor lies: the last that is banned -/
def cuOf : List Addr → Addr
  | [] => 0
  | [a] => a
  | _ :: b :: r => cuOf (b :: r)
theorem cuOf_cons {a : Addr} : ∀ {B : List Addr}, B ≠ [] → cuOf (a :: B) = cuOf B
  | [], h => absurd rfl h
  | _ :: _, _ => rfl
theorem cuOf_app {x : Addr} : ∀ B : List Addr, cuOf (B ++ [x]) = x
  | [] => rfl
  | [_] => rfl
  | _ :: b :: r => cuOf_app (b :: r)
/-- the other one: the last but one -/
def pkOf : List Addr → Addr
  | [] => 0
  | [_] => 0
  | [a, _] => a
  | _ :: b :: c :: r => pkOf (b :: c :: r)
theorem pkOf_app {x : Addr} : ∀ {B : List Addr}, B ≠ [] → pkOf (B ++ [x]) = cuOf B
  | [], h => absurd rfl h
  | [_], _ => rfl
  | [_, _], _ => rfl
  | _ :: b :: c :: r, _ => pkOf_app (x := x) (B := b :: c :: r) (by simp)
/-- there are two -/
def Two (B : List Addr) : Prop := 2 ≤ B.length
/-- nothing in common -/
def Dsj (H : Hp) (x y : Addr) : Prop := x ≠ y ∧ ∀ (C dx b l C' dx' b' l' : Addr) (vk vr vw vn vk' vr' vw' vn' : V), H x = some (.ins C dx (curF vk vr vw vn b l)) → H y = some (.ins C' dx' (curF vk' vr' vw' vn' b' l')) → b ≠ b' ∧ b ≠ l' ∧ l ≠ b' ∧ l ≠ l'
theorem Dsj.symm {H : Hp} {x y : Addr} (h : Dsj H x y) : Dsj H y x := ⟨h.1.symm, fun C dx b l C' dx' b' l' vk vr vw vn vk' vr' vw' vn' e e' => by
  obtain ⟨h1, h2, h3, h4⟩ := h.2 _ _ _ _ _ _ _ _ _ _ _ _ _ _ _ _ e' e
  exact ⟨h1.symm, h3.symm, h2.symm, h4.symm⟩⟩
structure CurOk (K : PySem.W.Frag) (B : List Addr) (H : Hp) (n : Nat) : Prop where
  c : ∀ q, cq n = some q → CuAt K H (cuOf B) q
  p : ∀ q, pq n = some q → CuAt K H (pkOf B) q
  d : ∀ q r, cq n = some q → pq n = some r → Dsj H (cuOf B) (pkOf B)
/-- where both lie -/
def SameC (B' B : List Addr) : Prop := cuOf B' = cuOf B ∧ pkOf B' = pkOf B
theorem SameC.refl (B : List Addr) : SameC B B := ⟨rfl, rfl⟩
theorem SameC.symm {B B' : List Addr} (h : SameC B' B) : SameC B B' := ⟨h.1.symm, h.2.symm⟩
theorem SameC.trans {A B C : List Addr} (h : SameC A B) (h' : SameC B C) : SameC A C := ⟨h.1.trans h'.1, h.2.trans h'.2⟩
theorem pkOf_cons {a : Addr} : ∀ {B : List Addr}, Two B → pkOf (a :: B) = pkOf B
  | [], h => by unfold Two at h; simp at h
  | [_], h => by unfold Two at h; simp at h
  | _ :: _ :: _, _ => rfl
theorem Two.ne {B : List Addr} (h : Two B) : B ≠ [] := fun z => by unfold Two at h; rw [z] at h; simp at h
theorem Two.cons {a : Addr} {B : List Addr} (h : Two B) : Two (a :: B) := by unfold Two at h ⊢; rw [List.length_cons]; omega
theorem SameC.cons {a : Addr} {B : List Addr} (h : Two B) : SameC (a :: B) B := ⟨cuOf_cons h.ne, pkOf_cons h⟩
section
variable {K : PySem.W.Frag} {H H' : Hp} {B B' : List Addr} {n n' : Nat}
theorem tupH_mono (h : ∀ a o, H a = some o → tupO o = true → H' a = some o) : ∀ a o, tupH H a = some o → tupH H' a = some o := fun a o q => by
  obtain ⟨q1, q2⟩ := tupH_some q
  exact tupH_of (h a o q1 q2) q2
/-- what the cursor leans on stays -/
theorem CuAt.keep {a : Addr} {q : CurS} (hk : ∀ a o, H a = some o → curK o = true ∨ tupO o = true → H' a = some o) (h : CuAt K H a q) : CuAt K H' a q := by
  obtain ⟨C, dx, b, l, vk, vr, vw, vn, us, vs, h1, h2, h3, h4, h5, r1, r2, r3, r4, r5, r6⟩ := h
  have m := tupH_mono (H := H) (H' := H') fun a o q t => hk a o q (.inr t)
  exact ⟨C, dx, b, l, vk, vr, vw, vn, us, vs, h1, h2, hk _ _ h3 (.inl rfl), hk _ _ h4 (.inl rfl), hk _ _ h5 (.inl rfl), Rep.mono m _ _ r1, Rep.mono m _ _ r2, Rep.mono m _ _ r3, Rep.mono m _ _ r4, Rep.monoAll m _ _ r5, Rep.monoAll m _ _ r6⟩
theorem CurOk.keep (h : CurOk K B H n) (hk : ∀ a o, H a = some o → curK o = true ∨ tupO o = true → H' a = some o) (hb : SameC B' B) (hn : cq n' = cq n) (hp : pq n' = pq n) : CurOk K B' H' n' := by
  refine ⟨fun q e => ?_, fun q e => ?_, fun q r e e' => ?_⟩
  · rw [hb.1]
    rw [hn] at e
    exact (h.c q e).keep hk
  · rw [hp] at e
    rw [hb.2]
    exact (h.p q e).keep hk
  · rw [hn] at e
    rw [hp] at e'
    have a := h.p r e'
    rw [hb.1, hb.2]
    obtain ⟨d1, d2⟩ := h.d q r e e'
    obtain ⟨C, dx, b, l, vk, vr, vw, vn, us, vs, h1, h2, h3, _⟩ := h.c q e
    obtain ⟨C', dx', b', l', vk', vr', vw', vn', us', vs', k1, k2, k3, _⟩ := a
    refine ⟨d1, fun C1 dx1 b1 l1 C2 dx2 b2 l2 v1 v2 v3 v4 v5 v6 v7 v8 z1 z2 => ?_⟩
    rw [hk _ _ h3 (.inl rfl)] at z1
    rw [hk _ _ k3 (.inl rfl)] at z2
    cases z1
    cases z2
    exact d2 _ _ _ _ _ _ _ _ _ _ _ _ _ _ _ _ h3 k3
end

structure Fm where
  Bo : List Addr
  t : Addr
  H0 : Hp
  B : List Addr
  R : List Addr → Hp → Nat → Prop
  fx : Bool
  pn : Option (Addr × Addr) := none

def RO (K : PySem.W.Frag) (c : Fm) (H : Hp) (v : V) : OB → Prop := fun o => nomatch o
theorem RO.nn {K : PySem.W.Frag} {c : Fm} {H : Hp} {a : Addr} : ∀ {o : OB}, RO K c H (.ref a) o → H a = none → False := fun {o} => nomatch o
theorem RO.go {K : PySem.W.Frag} {c : Fm} {H H' : Hp} {B' : List Addr} {v : V} (bad : Addr → Prop) (hb : ∀ b, b ∈ c.B → c.H0 b = none → ¬ bad b → b ∈ B' ∧ ∀ o, H b = some o → H' b = some o)
    (hv : ∀ b, v = .ref b → ¬ bad b) (se : Sees c.B H B' H') : ∀ {o : OB}, RO K c H v o → RO K { c with B := B' } H' v o := fun {o} => nomatch o
def RL (K : PySem.W.Frag) (c : Fm) (H : Hp) (v : V) : L → Prop
  | .ob o => RO K c H v o
  | .d x => Rep K (hid c.B H) v x
  | .own xs => ∃ a vs, v = .ref a ∧ a ∈ c.B ∧ c.H0 a = none ∧ H a = some (.lst vs) ∧ RepAll K (hid c.B H) vs xs
  | .dic kvs => ∃ a ws, v = .ref a ∧ a ∈ c.B ∧ c.H0 a = none ∧ H a = some (.dK ws) ∧ ws.map (·.1) = kvs.map (·.1) ∧ RepAll K (hid c.B H) (ws.map (·.2)) (kvs.map (·.2))
  | .dit kvs => ∃ a ws, v = .ref a ∧ a ∈ c.B ∧ c.H0 a = none ∧ H a = some (.dT ws) ∧ ws.map (·.1) = kvs.map (·.1) ∧ RepAll K (hid c.B H) (ws.map (·.2)) (kvs.map (·.2))
  | .frk kvs => ∃ a o ws, v = .ref a ∧ hid c.B H a = some (.frz o (.dK ws)) ∧ ws.map (·.1) = kvs.map (·.1) ∧ RepAll K (hid c.B H) (ws.map (·.2)) (kvs.map (·.2))
  | .town => v = .ref c.t
  | .scr ns => ∃ a, v = .ref a ∧ SqL K (hid c.B H) a (ns.map V.int)
  | .cur => v = .ref (cuOf c.B) ∧ ∃ C dx fs, H (cuOf c.B) = some (.ins C dx fs)
  | .prk => v = .ref (pkOf c.B) ∧ ∃ C dx fs, H (pkOf c.B) = some (.ins C dx fs)
  | .exn a => v = .ref a
  | .twl => v = .ref c.t ∧ c.fx = false ∧ c.pn = none
def isOwn : L → Bool
  | .own _ => true
  | .dic _ => true
  | .dit _ => true
  | .ob _ => true
  | _ => false

/-- where the cursor lies, if there is one -/
def CuIn (t : Addr) (B : List Addr) (H : Hp) : Prop := (cuOf B = t ∨ ∃ C dx fs, H (cuOf B) = some (.ins C dx fs)) ∧ (pkOf B = t ∨ ∃ C dx fs, H (pkOf B) = some (.ins C dx fs))
def isOut : L → Bool
  | .own _ => true
  | .dic _ => true
  | .dit _ => true
  | .ob _ => true
  | .twl => true
  | _ => false
theorem isOut_own {l : L} (h : isOut l = false) : isOwn l = false := by
  cases l <;> first | rfl | cases h
structure SR (K : PySem.W.Frag) (c : Fm) (σ : L2.St) (H : Hp) (ρ : Env) (n : Nat) : Prop where
  len : σ.length = ρ.length
  sub : ∀ b ∈ c.Bo, b ∈ c.B
  tB : c.t ∈ c.Bo
  old : ∀ b ∈ c.Bo, c.H0 b ≠ none
  all : ∀ b ∈ c.B, H b ≠ none
  keep : Ext c.t c.H0 H
  town : H c.t = some (zer n)
  rk : c.R = CurOk K
  cur : c.R c.B H n
  nt : ∀ b ∈ c.B, ∀ o, H b = some o → tupO o = false
  cb : c.fx = true → SameC c.Bo c.B
  cl : CuIn c.t c.B H
  two : Two c.B
  pin : ∀ xy, c.pn = some xy → xy = (cuOf c.B, pkOf c.B)
  slot : ∀ (i : Nat) (l : L), ρ[i]? = some (some l) → ∃ v, σ[i]? = some (some v) ∧ RL K c H v l
  dist : ∀ (i j : Nat) (l l' : L) (a : Addr), i ≠ j → ρ[i]? = some (some l) → ρ[j]? = some (some l') → isOwn l = true → isOwn l' = true → σ[i]? = some (some (.ref a)) → σ[j]? ≠ some (some (.ref a))

/-- an expression's step: the heap grows, the town may grow, the cursor may be changed -/
structure Gx (c : Fm) (H : Hp) (n' : Nat) (H' : Hp) : Prop where
  ext : Ext c.t H H'
  town : H' c.t = some (zer n')
  cur : c.R c.B H' n'
theorem Gx.trans {c : Fm} {H H1 H2 : Hp} {n1 n2 : Nat} (a : Gx c H n1 H1) (b : Gx c H1 n2 H2) : Gx c H n2 H2 := ⟨a.ext.trans b.ext, b.town, b.cur⟩
theorem Gx.sees {c : Fm} {B : List Addr} {H H' : Hp} {n' : Nat} (g : Gx c H n' H') (ht : c.t ∈ B) : Sees B H B H' := fun a o h => by
  obtain ⟨h1, h2, h3⟩ := hid_all h
  exact hid_of h1 (g.ext.to a o h2 (fun e => h1 (e ▸ ht)) h3) h3

section
variable {K : PySem.W.Frag} {c : Fm} {σ : L2.St} {H H' : Hp} {ρ : Env} {n n' : Nat}
theorem SR.tB' (S : SR K c σ H ρ n) : c.t ∈ c.B := S.sub _ S.tB
def isCur : L → Bool
  | .cur => true
  | .prk => true
  | _ => false
theorem RL.sees {v : V} : ∀ {l : L}, isOwn l = false ∧ isCur l = false → Sees c.B H c.B H' → RL K c H v l → RL K c H' v l
  | .d x, _, e, h => Rep.mono e x v h
  | .own _, z, _, _ => by cases z.1
  | .dic _, z, _, _ => by cases z.1
  | .dit _, z, _, _ => by cases z.1
  | .ob _, z, _, _ => by cases z.1
  | .frk _, _, e, ⟨a, o, ws, h1, h2, h3, h4⟩ => ⟨a, o, ws, h1, e _ _ h2, h3, Rep.monoAll e _ _ h4⟩
  | .town, _, _, h => h
  | .scr ns, _, e, ⟨a, h1, h2⟩ => ⟨a, h1, sqL_mono e h2⟩
  | .cur, z, _, _ => by cases z.2
  | .prk, z, _, _ => by cases z.2
  | .exn _, _, _, h => h
  | .twl, _, _, h => h
theorem RL.ext {v : V} (S : SR K c σ H ρ n) (g : Gx c H n' H') : ∀ {l : L}, RL K c H v l → RL K c H' v l
  | .ob o, _ => nomatch o
  | .cur, ⟨h1, C, dx, fs, h2⟩ => ⟨h1, C, dx, g.ext.ins _ _ _ _ h2⟩
  | .prk, ⟨h1, C, dx, fs, h2⟩ => ⟨h1, C, dx, g.ext.ins _ _ _ _ h2⟩
  | .exn _, h => h
  | .twl, h => h
  | .d x, h => Rep.mono (g.sees S.tB') x v h
  | .own xs, ⟨a, vs, h1, h2, h3, h4, h5⟩ => ⟨a, vs, h1, h2, h3, g.ext.to _ _ h4 (fun e => S.old _ S.tB (e ▸ h3)) rfl, Rep.monoAll (g.sees S.tB') xs vs h5⟩
  | .dic kvs, ⟨a, vs, h1, h2, h3, h4, h6, h5⟩ => ⟨a, vs, h1, h2, h3, g.ext.to _ _ h4 (fun e => S.old _ S.tB (e ▸ h3)) rfl, h6, Rep.monoAll (g.sees S.tB') _ _ h5⟩
  | .dit kvs, ⟨a, vs, h1, h2, h3, h4, h6, h5⟩ => ⟨a, vs, h1, h2, h3, g.ext.to _ _ h4 (fun e => S.old _ S.tB (e ▸ h3)) rfl, h6, Rep.monoAll (g.sees S.tB') _ _ h5⟩
  | .frk _, ⟨a, o, ws, h1, h2, h3, h4⟩ => ⟨a, o, ws, h1, g.sees S.tB' _ _ h2, h3, Rep.monoAll (g.sees S.tB') _ _ h4⟩
  | .town, h => h
  | .scr ns, ⟨a, h1, h2⟩ => ⟨a, h1, sqL_mono (g.sees S.tB') h2⟩
theorem Ext.nt {t : Addr} {H H' : Hp} (e : Ext t H H') (ht : ∀ o, H' t = some o → tupO o = false) {a : Addr} (h0 : H a ≠ none) (h : ∀ o, H a = some o → tupO o = false) : ∀ o, H' a = some o → tupO o = false := by
  intro o q
  obtain ⟨u, z⟩ := Option.ne_none_iff_exists'.mp h0
  by_cases y : a = t
  · exact ht o (y ▸ q)
  · by_cases k : curK u = true
    · obtain ⟨o', h', k'⟩ := e.ck a u z k
      have e2 := Option.some.inj (h'.symm.trans q)
      subst e2
      cases x : tupO o' with
      | false => rfl
      | true => rw [tup_cur x] at k'; cases k'
    · have e2 := Option.some.inj ((e.to a u z y (by simpa using k)).symm.trans q)
      subst e2
      exact h u z
theorem zer_nt {n : Nat} {H : Hp} {t : Addr} (h : H t = some (zer n)) : ∀ o, H t = some o → tupO o = false := fun o q => by
  have e := Option.some.inj (h.symm.trans q)
  subst e
  rfl
theorem CuIn.ext {t : Addr} {B : List Addr} {H H' : Hp} (h : CuIn t B H) (e : Ext t H H') : CuIn t B H' := ⟨h.1.imp id fun ⟨C, dx, fs, q⟩ => ⟨C, dx, e.ins _ _ _ _ q⟩, h.2.imp id fun ⟨C, dx, fs, q⟩ => ⟨C, dx, e.ins _ _ _ _ q⟩⟩
theorem SR.ext (S : SR K c σ H ρ n) (g : Gx c H n' H') : SR K c σ H' ρ n' := by
  refine ⟨S.len, S.sub, S.tB, S.old, fun b hb => g.ext.all (by rw [g.town]; simp) (S.all b hb), S.keep.trans g.ext, g.town, S.rk, g.cur, fun b hb => g.ext.nt (zer_nt g.town) (S.all b hb) (S.nt b hb), S.cb, S.cl.ext g.ext, S.two, S.pin, fun i l e => ?_, S.dist⟩
  obtain ⟨v, h1, h2⟩ := S.slot i l e
  exact ⟨v, h1, RL.ext S g h2⟩
theorem SR.gx (S : SR K c σ H ρ n) : Gx c H n H := ⟨Ext.refl, S.town, S.cur⟩
/-- a pure step -/
theorem SR.pure (S : SR K c σ H ρ n) (h : Same H H') : Gx c H n H' := ⟨Ext.of_same h, h _ _ S.town, by
  have := S.cur
  rw [S.rk] at this ⊢
  exact this.keep (fun a o q _ => h a o q) (.refl _) rfl rfl⟩
theorem SR.set_ix (S : SR K c σ H ρ n) {i : Nat} (hi : i < ρ.length) {v : V} {l : L} (r : RL K c H v l)
    (hd : isOwn l = true → ∀ (j : Nat) (l' : L) (a : Addr), i ≠ j → ρ[j]? = some (some l') → isOwn l' = true → σ[j]? = some (some (.ref a)) → v ≠ .ref a) : SR K c (σ.set i (some v)) H (ρ.set i (some l)) n := by
  refine ⟨by simp [S.len], S.sub, S.tB, S.old, S.all, S.keep, S.town, S.rk, S.cur, S.nt, S.cb, S.cl, S.two, S.pin, fun j l' e => ?_, fun j k l1 l2 a hjk e1 e2 o1 o2 s1 s2 => ?_⟩
  · by_cases hj : i = j
    · subst hj
      rw [List.getElem?_set_self hi] at e
      cases e
      exact ⟨v, by rw [List.getElem?_set_self (by rw [S.len]; exact hi)], r⟩
    · rw [List.getElem?_set_ne hj] at e
      obtain ⟨w, h1, h2⟩ := S.slot j l' e
      exact ⟨w, by rw [List.getElem?_set_ne hj]; exact h1, h2⟩
  · by_cases hj : i = j
    · subst hj
      rw [List.getElem?_set_self hi] at e1
      rw [List.getElem?_set_self (by rw [S.len]; exact hi)] at s1
      rw [List.getElem?_set_ne hjk] at e2 s2
      cases e1
      exact hd o1 k l2 a hjk e2 o2 s2 (Option.some.inj (Option.some.inj s1))
    · by_cases hk : i = k
      · subst hk
        rw [List.getElem?_set_self hi] at e2
        rw [List.getElem?_set_self (by rw [S.len]; exact hi)] at s2
        rw [List.getElem?_set_ne hj] at e1 s1
        cases e2
        exact hd o2 j l1 a hj e1 o1 s1 (Option.some.inj (Option.some.inj s2))
      · rw [List.getElem?_set_ne hj] at e1 s1
        rw [List.getElem?_set_ne hk] at e2 s2
        exact S.dist j k l1 l2 a hjk e1 e2 o1 o2 s1 s2
theorem SR.set_d (S : SR K c σ H ρ n) {i : Nat} (hi : i < ρ.length) {v : V} {x : D} (r : Rep K (hid c.B H) v x) : SR K c (σ.set i (some v)) H (ρ.set i (some (.d x))) n :=
  S.set_ix hi r fun z => by cases z
/-- a slot forgotten -/
theorem SR.drop (S : SR K c σ H ρ n) (i : Nat) : SR K c σ H (ρ.set i none) n := by
  refine ⟨by simp [S.len], S.sub, S.tB, S.old, S.all, S.keep, S.town, S.rk, S.cur, S.nt, S.cb, S.cl, S.two, S.pin, fun j l' e => ?_, fun j k l1 l2 a hjk e1 e2 o1 o2 s1 s2 => ?_⟩
  · by_cases hj : i = j
    · subst hj
      by_cases hi : i < ρ.length
      · rw [List.getElem?_set_self hi] at e; cases e
      · rw [List.getElem?_eq_none (by simpa using hi)] at e; cases e
    · rw [List.getElem?_set_ne hj] at e
      exact S.slot j l' e
  · have aux : ∀ (j : Nat) (l : L), (ρ.set i none)[j]? = some (some l) → ρ[j]? = some (some l) := fun j l e => by
      by_cases hj : i = j
      · subst hj
        by_cases hi : i < ρ.length
        · rw [List.getElem?_set_self hi] at e; cases e
        · rw [List.getElem?_eq_none (by simpa using hi)] at e; cases e
      · rw [List.getElem?_set_ne hj] at e; exact e
    exact S.dist j k l1 l2 a hjk (aux _ _ e1) (aux _ _ e2) o1 o2 s1 s2
/-- the state's slots forgotten, too -/
theorem SR.drop2 (S : SR K c σ H ρ n) (i : Nat) : SR K c (σ.set i none) H (ρ.set i none) n := by
  have T := S.drop i
  have aux : ∀ (j : Nat) (l : L), (ρ.set i none)[j]? = some (some l) → j ≠ i := fun j l e z => by
    subst z
    by_cases hi : j < ρ.length
    · rw [List.getElem?_set_self hi] at e; cases e
    · rw [List.getElem?_eq_none (by simpa using hi)] at e; cases e
  refine ⟨by simp [S.len], S.sub, S.tB, S.old, S.all, S.keep, S.town, S.rk, S.cur, S.nt, S.cb, S.cl, S.two, S.pin, fun j l' e => ?_, fun j k l1 l2 a hjk e1 e2 o1 o2 s1 s2 => ?_⟩
  · have hj := aux j l' e
    obtain ⟨v, h1, h2⟩ := T.slot j l' e
    exact ⟨v, by rw [List.getElem?_set_ne (Ne.symm hj)]; exact h1, h2⟩
  · have hj := aux j l1 e1
    have hk := aux k l2 e2
    rw [List.getElem?_set_ne (Ne.symm hj)] at s1
    rw [List.getElem?_set_ne (Ne.symm hk)] at s2
    exact T.dist j k l1 l2 a hjk e1 e2 o1 o2 s1 s2
def wipeE (ρ : Env) : List Nat → Env
  | [] => ρ
  | v :: vs => (wipeE ρ vs).set v none
theorem SR.wipe (S : SR K c σ H ρ n) : ∀ vs : List Nat, SR K c (L2.wipe σ vs) H (wipeE ρ vs) n
  | [] => S
  | v :: vs => (SR.wipe S vs).drop2 v
theorem wipeE_length (ρ : Env) : ∀ vs : List Nat, (wipeE ρ vs).length = ρ.length
  | [] => rfl
  | v :: vs => by unfold wipeE; rw [List.length_set, wipeE_length ρ vs]
end

/-! ### readings by pure functions -/
section
variable (K : PySem.W.Frag) (ca : String → Addr) (W : WX)
def exK (c : Fm) (σ : L2.St) (H : Hp) : String → Nat → Prop := fun e n' => ∀ H', Gx c H n' H' → W (.ref (ca e)) none σ H'
def tG (g : M D) : TE := fun σ H Q => ∃ c ρ n, SR K c σ H ρ n ∧
  (g ρ n).Post (fun d n' => ∀ v H', Gx c H n' H' → Rep K (hid c.B H') v d → Q v H') (exK ca W c σ H)
/-- a new list -/
def tGF (g : M (List D)) : TE := fun σ H Q => ∃ c ρ n, SR K c σ H ρ n ∧
  (g ρ n).Post (fun ds n' => ∀ a vs H', Gx c H n' H' → H a = none → H' a = some (.lst vs) → RepAll K (hid (a :: c.B) H') vs ds → Q (.ref a) H') (exK ca W c σ H)
def tGT (g : M Bool) : TT := fun σ H Q => ∃ c ρ n, SR K c σ H ρ n ∧
  (g ρ n).Post (fun b n' => ∀ H', Gx c H n' H' → Q b H') (exK ca W c σ H)
/-- what may be handed to a def -/
def RA (c : Fm) (H : Hp) (v : V) (l : L) : Prop := isOut l = false ∧ RL K c H v l
inductive RAs (c : Fm) (H : Hp) : List V → List L → Prop
  | nil : RAs c H [] []
  | cons {v : V} {vs : List V} {l : L} {ls : List L} : RA K c H v l → RAs c H vs ls → RAs c H (v :: vs) (l :: ls)
def tGA (g : M (List L)) : TA := fun σ H Q => ∃ c ρ n, SR K c σ H ρ n ∧
  (g ρ n).Post (fun ls n' => ∀ vs H', Gx c H n' H' → RAs K c H' vs ls → Q vs H') (exK ca W c σ H)
end

section
variable {K : PySem.W.Frag} {ca : String → Addr} {W : WX} {c : Fm} {σ : L2.St} {H H' : Hp} {ρ : Env} {n n' : Nat}
theorem exK.at {e : String} {m : Nat} (h : exK ca W c σ H e m) (g : Gx c H n' H') : exK ca W c σ H' e m := fun H2 g2 => h H2 (g.trans g2)
theorem PE.weak {X : Cx} {e : Expr} {t t' : TE} (h : PE X e t) (w : ∀ σ H Q, t' σ H Q → t σ H Q) : PE X e t' := ⟨fun pins s σ H Q I q => h.run pins s σ H Q I (w σ H Q q)⟩
theorem PT.weak {X : Cx} {e : Expr} {t t' : TT} (h : PT X e t) (w : ∀ σ H Q, t' σ H Q → t σ H Q) : PT X e t' := ⟨fun pins s σ H Q I q => h.run pins s σ H Q I (w σ H Q q)⟩
theorem PW.weak {X : Cx} {e : Expr} {t t' : TT} (h : PW X e t) (w : ∀ σ H Q, t' σ H Q → t σ H Q) : PW X e t' := ⟨fun wh pins s σ H Q I q => h.run wh pins s σ H Q I (w σ H Q q)⟩
theorem PA.weak {X : Cx} {e : List Expr} {t t' : TA} (h : PA X e t) (w : ∀ σ H Q, t' σ H Q → t σ H Q) : PA X e t' := ⟨fun pos pins s σ H Q I q => h.run pos pins s σ H Q I (w σ H Q q)⟩
theorem PS.weak {X : Cx} {e : Stmt} {t t' : TS} (h : PS X e t) (w : ∀ D σ H, t' D σ H → t D σ H) : PS X e t' := ⟨fun pins s σ H D I q => h.run pins s σ H D I (w D σ H q)⟩
theorem PSs.weak {X : Cx} {e : List Stmt} {t t' : TS} (h : PSs X e t) (w : ∀ D σ H, t' D σ H → t D σ H) : PSs X e t' := ⟨fun pins s σ H D I q => h.run pins s σ H D I (w D σ H q)⟩

/-! ### the pure combinators -/
def cVar (i : Nat) : M D := fun ρ n => match ρ[i]? with
  | some (some (.d x)) => .ok x n
  | _ => .bad
def cC (x : D) : M D := fun _ n => .ok x n
def c1 (f : D → Option D) (g : M D) : M D := fun ρ n => (g ρ n).bind fun a n1 => Res.lift (f a) n1
def c2 (f : D → D → Option D) (g h : M D) : M D := fun ρ n => (g ρ n).bind fun a n1 => (h ρ n1).bind fun b n2 => Res.lift (f a b) n2
def c3 (f : D → D → D → Option D) (g h k : M D) : M D := fun ρ n => (g ρ n).bind fun a n1 => (h ρ n1).bind fun b n2 => (k ρ n2).bind fun e n3 => Res.lift (f a b e) n3
def aNil : M (List L) := fun _ n => .ok [] n
def aCons (g : M D) (h : M (List L)) : M (List L) := fun ρ n => (g ρ n).bind fun a n1 => (h ρ n1).bind fun b n2 => .ok (.d a :: b) n2
/-- the town, the script -/
def aVar (i : Nat) (h : M (List L)) : M (List L) := fun ρ n => match ρ[i]? with
  | some (some .town) => (h ρ n).bind fun b n2 => .ok (.town :: b) n2
  | some (some (.scr ns)) => (h ρ n).bind fun b n2 => .ok (.scr ns :: b) n2
  | some (some (.d x)) => (h ρ n).bind fun b n2 => .ok (.d x :: b) n2
  | some (some .cur) => (h ρ n).bind fun b n2 => .ok (.cur :: b) n2
  | some (some .prk) => (h ρ n).bind fun b n2 => .ok (.prk :: b) n2
  | some (some .twl) => (h ρ n).bind fun b n2 => .ok (.town :: b) n2
  | _ => .bad
def dsOf : List L → Option (List D)
  | [] => some []
  | .d x :: r => (dsOf r).map (x :: ·)
  | _ :: _ => none
theorem RAs.length {vs : List V} : ∀ {ls : List L}, RAs K c H vs ls → vs.length = ls.length := fun {ls} h => by
  induction h with
  | nil => rfl
  | cons _ _ ih => simp [ih]
theorem RAs.ds {vs : List V} {ls : List L} (h : RAs K c H vs ls) : ∀ {ds : List D}, dsOf ls = some ds → RepAll K (hid c.B H) vs ds := by
  induction h with
  | nil => intro ds e; cases e; exact .nil
  | @cons v vs l ls h1 h2 ih =>
    intro ds e
    cases l with
    | d x =>
      cases q : dsOf ls with
      | none => simp [dsOf, q] at e
      | some es =>
        simp [dsOf, q] at e
        subst e
        exact .cons h1.2 (ih q)
    | _ => cases e
theorem RAs.ext {vs : List V} {ls : List L} (S : SR K c σ H ρ n) (g : Gx c H n' H') (h : RAs K c H vs ls) : RAs K c H' vs ls := by
  induction h with
  | nil => exact .nil
  | cons h1 _ ih => exact .cons ⟨h1.1, RL.ext S g h1.2⟩ ih
end
end G

namespace G
open PySem PySem.Spec PyProof.Rows L2

def T (l : List Nat) : D := .str ⟨l.toArray⟩

theorem fresh_back {c : Fm} {H H1 : Hp} {n1 : Nat} {p : Addr} (g : Gx c H n1 H1) (h : H1 p = none) : H p = none := by
  cases q : H p with
  | none => rfl
  | some o => exact absurd h (g.ext.all (by rw [g.town]; simp) (by rw [q]; simp))
/-! ### new objects -/
section
variable {K : PySem.W.Frag} {H : Hp} {B : List Addr} {p : Addr}
theorem same_upd {o : HO} (h : H p = none) : Same H (upd H p o) := fun b x e => by
  rw [upd_ne (ne_of_none e h)]
  exact e
theorem hid_sub {a : Addr} {o : HO} (h : hid B H a = some o) : H a = some o := (hid_some h).2
theorem hid_same {H' : Hp} (s : Same H H') : ∀ a o, hid B H a = some o → hid B H' a = some o := fun a o h => by
  obtain ⟨h1, h2⟩ := hid_some h
  exact hid_of h1 (s a o h2)
theorem hid_cons {a : Addr} : ∀ b o, hid (a :: B) H b = some o → hid B H b = some o := fun b o h => by
  obtain ⟨h1, h2⟩ := hid_some h
  exact hid_of (fun z => h1 (List.mem_cons_of_mem _ z)) h2
theorem hid_fresh {o' : HO} (h : H p = none) : ∀ b o, hid B H b = some o → hid (p :: B) (upd H p o') b = some o := fun b o q => by
  obtain ⟨h1, h2⟩ := hid_some q
  have ne : b ≠ p := ne_of_none h2 h
  refine hid_of (fun z => ?_) (by rw [upd_ne ne]; exact h2)
  rcases List.mem_cons.mp z with z | z
  · exact ne z
  · exact h1 z
theorem hid_new {o : HO} (all : ∀ b ∈ B, H b ≠ none) (h : H p = none) (hc : curK o = false := by rfl) : hid B (upd H p o) p = some o :=
  hid_of (fun z => all p z h) upd_same hc
theorem new_tup {vs : List V} {ds : List D} {o : Obj} (ho : o.dict = none) (all : ∀ b ∈ B, H b ≠ none) (h : H p = none) (r : RepAll K (hid B H) vs ds) : Rep K (hid B (upd H p (.frz o (.tup vs)))) (.ref p) (.tuple ds) :=
  .tup (.inl ⟨o, hid_new all h, ho⟩) (Rep.monoAll (hid_same (same_upd h)) _ _ r)
theorem new_lst {vs : List V} {ds : List D} (all : ∀ b ∈ B, H b ≠ none) (h : H p = none) (r : RepAll K (hid B H) vs ds) : Rep K (hid B (upd H p (.lst vs))) (.ref p) (.list ds) :=
  .lst (hid_new all h) (Rep.monoAll (hid_same (same_upd h)) _ _ r)
theorem RepAll.strs : ∀ {ys : List Str} {vs : List V}, RepAll K H vs (ys.map PyData.str) → vs = ys.map V.str
  | [], _, h => by cases h; rfl
  | y :: ys, _, h => by
    cases h with
    | cons h1 h2 => cases h1; rw [RepAll.strs h2]; rfl
theorem RepAll.of_strs : ∀ {ys : List Str}, RepAll K H (ys.map V.str) (ys.map PyData.str)
  | [] => .nil
  | y :: ys => .cons (.str y) RepAll.of_strs
theorem RepAll.ints : ∀ {ys : List Int} {vs : List V}, RepAll K H vs (ys.map PyData.int) → vs = ys.map V.int
  | [], _, h => by cases h; rfl
  | y :: ys, _, h => by
    cases h with
    | cons h1 h2 => cases h1; rw [RepAll.ints h2]; rfl
theorem RepAll.bools : ∀ {ys : List Bool} {vs : List V}, RepAll K H vs (ys.map PyData.bool) → vs = ys.map V.bl
  | [], _, h => by cases h; rfl
  | y :: ys, _, h => by
    cases h with
    | cons h1 h2 => cases h1; rw [RepAll.bools h2]; rfl
end

def strsOf : List D → Option (List Str)
  | [] => some []
  | .str x :: r => (strsOf r).map (x :: ·)
  | _ :: _ => none
theorem strsOf_eq : ∀ {ds : List D} {ys : List Str}, strsOf ds = some ys → ds = ys.map PyData.str
  | [], _, h => by cases h; rfl
  | d :: ds, ys, h => by
    cases d with
    | str x =>
      cases q : strsOf ds with
      | none => simp [strsOf, q] at h
      | some zs =>
        simp [strsOf, q] at h
        subst h
        rw [strsOf_eq q]; rfl
    | _ => cases h
def intsOf : List D → Option (List Int)
  | [] => some []
  | .int x :: r => (intsOf r).map (x :: ·)
  | _ :: _ => none
theorem intsOf_eq : ∀ {ds : List D} {ys : List Int}, intsOf ds = some ys → ds = ys.map PyData.int
  | [], _, h => by cases h; rfl
  | d :: ds, ys, h => by
    cases d with
    | int x =>
      cases q : intsOf ds with
      | none => simp [intsOf, q] at h
      | some zs =>
        simp [intsOf, q] at h
        subst h
        rw [intsOf_eq q]; rfl
    | _ => cases h
def boolsOf : List D → Option (List Bool)
  | [] => some []
  | .bool x :: r => (boolsOf r).map (x :: ·)
  | _ :: _ => none
theorem boolsOf_eq : ∀ {ds : List D} {ys : List Bool}, boolsOf ds = some ys → ds = ys.map PyData.bool
  | [], _, h => by cases h; rfl
  | d :: ds, ys, h => by
    cases d with
    | bool x =>
      cases q : boolsOf ds with
      | none => simp [boolsOf, q] at h
      | some zs =>
        simp [boolsOf, q] at h
        subst h
        rw [boolsOf_eq q]; rfl
    | _ => cases h

/-! ### operations by values -/
def Op1 (K : PySem.W.Frag) (r : V → Hp → VK → Prop) (f : D → Option D) : Prop :=
  ∀ (B : List Addr) (H : Hp) (x : V) (a d : D) (Q : VK), (∀ b ∈ B, H b ≠ none) → Rep K (hid B H) x a → f a = some d → (∀ v H', Same H H' → Rep K (hid B H') v d → Q v H') → r x H Q
def Op2 (K : PySem.W.Frag) (r : R2) (f : D → D → Option D) : Prop :=
  ∀ (B : List Addr) (H : Hp) (x y : V) (a b d : D) (Q : VK), (∀ b ∈ B, H b ≠ none) → Rep K (hid B H) x a → Rep K (hid B H) y b → f a b = some d → (∀ v H', Same H H' → Rep K (hid B H') v d → Q v H') → r x y H Q
/-- a call with values -/
def OpN (K : PySem.W.Frag) (r : List V → Hp → VK → Prop) (f : List D → Option D) : Prop :=
  ∀ (B : List Addr) (H : Hp) (xs : List V) (as : List D) (d : D) (Q : VK), (∀ b ∈ B, H b ≠ none) → RepAll K (hid B H) xs as → f as = some d → (∀ v H', Same H H' → Rep K (hid B H') v d → Q v H') → r xs H Q
/-- .. whose value is a new list -/
def OpNF (K : PySem.W.Frag) (r : List V → Hp → VK → Prop) (f : List D → Option (List D)) : Prop :=
  ∀ (B : List Addr) (H : Hp) (xs : List V) (as : List D) (ds : List D) (Q : VK), (∀ b ∈ B, H b ≠ none) → RepAll K (hid B H) xs as → f as = some ds →
    (∀ p vs H', Same H H' → H p = none → H' p = some (.lst vs) → RepAll K (hid (p :: B) H') vs ds → Q (.ref p) H') → r xs H Q

section
variable {K : PySem.W.Frag} {ca : String → Addr} {W : WX} {c : Fm} {σ : L2.St} {H H' : Hp} {ρ : Env} {n n' : Nat}
theorem tG_c1 {r : V → Hp → VK → Prop} {f : D → Option D} (hr : Op1 K r f) {ga : M D} {σ : L2.St} {H : Hp} {Q : VK} (h : tG K ca W (c1 f ga) σ H Q) : tUn r (tG K ca W ga) σ H Q := by
  obtain ⟨c, ρ, n, S, h⟩ := h
  refine ⟨c, ρ, n, S, (Res.post_bind h).mono (fun a n1 h1 x H1 g1 r1 => ?_) (fun e m h => h)⟩
  have S1 := S.ext g1
  obtain ⟨d, e, h3⟩ := Res.post_lift h1
  exact hr c.B H1 x a d Q S1.all r1 e fun v H3 s3 r3 => h3 v H3 (g1.trans (S1.pure s3)) r3
theorem tG_c2 {r : R2} {f : D → D → Option D} (hr : Op2 K r f) {ga gb : M D} {σ : L2.St} {H : Hp} {Q : VK} (h : tG K ca W (c2 f ga gb) σ H Q) : tOp r (tG K ca W ga) (tG K ca W gb) σ H Q := by
  obtain ⟨c, ρ, n, S, h⟩ := h
  refine ⟨c, ρ, n, S, (Res.post_bind h).mono (fun a n1 h1 x H1 g1 r1 => ?_) (fun e m h => h)⟩
  have S1 := S.ext g1
  refine ⟨c, ρ, n1, S1, (Res.post_bind h1).mono (fun b n2 h2 y H2 g2 r2 => ?_) (fun e m h => exK.at h g1)⟩
  obtain ⟨d, e, h3⟩ := Res.post_lift h2
  have S2 := S1.ext g2
  exact hr c.B H2 x y a b d Q S2.all (Rep.mono (g2.sees S.tB') _ _ r1) r2 e fun v H3 s3 r3 => h3 v H3 ((g1.trans g2).trans (S2.pure s3)) r3
/-- a test out of a bool -/
def asB : D → Nat → Res Bool := fun a n => match a with
  | .bool k => .ok k n
  | _ => .bad
def cB (g : M D) : M Bool := fun ρ n => (g ρ n).bind asB
theorem post_asB {a : D} {n : Nat} {P : Bool → Nat → Prop} {E : String → Nat → Prop} (h : (asB a n).Post P E) : ∃ k, a = .bool k ∧ P k n := by
  cases a with
  | bool k => exact ⟨k, rfl, h⟩
  | _ => exact h.elim
theorem tG_cB {g : M D} {σ : L2.St} {H : Hp} {Q : Bool → Hp → Prop} (h : tGT K ca W (cB g) σ H Q) : tTest (tG K ca W g) σ H Q := by
  obtain ⟨c, ρ, n, S, h⟩ := h
  refine ⟨c, ρ, n, S, (Res.post_bind h).mono (fun a n1 h1 x H1 g1 r1 => ?_) (fun e m h => h)⟩
  obtain ⟨k, rfl, h2⟩ := post_asB h1
  cases r1
  exact ⟨k, rfl, h2 H1 g1⟩
/-- a test as a value -/
def cOfB (g : M Bool) : M D := fun ρ n => (g ρ n).bind fun k n1 => .ok (.bool k) n1
def cCh (f f' : D → D → Option D) (ga gb gc : M D) : M D := fun ρ n => (ga ρ n).bind fun a n1 => (gb ρ n1).bind fun b n2 => (Res.lift (f a b) n2).bind fun z n3 => (asB z n3).bind fun k n4 =>
  if k = true then (gc ρ n4).bind fun e n5 => Res.lift (f' b e) n5 else .ok (.bool false) n4
theorem tG_ch {r r' : R2} {f f' : D → D → Option D} (hr : Op2 K r f) (hr' : Op2 K r' f') {ga gb gc : M D} {σ : L2.St} {H : Hp} {Q : VK} (h : tG K ca W (cCh f f' ga gb gc) σ H Q) :
    tChain r r' (tG K ca W ga) (tG K ca W gb) (tG K ca W gc) σ H Q := by
  obtain ⟨c, ρ, n, S, h⟩ := h
  refine ⟨c, ρ, n, S, (Res.post_bind h).mono (fun a n1 h1 x H1 g1 r1 => ?_) (fun e m h => h)⟩
  have S1 := S.ext g1
  refine ⟨c, ρ, n1, S1, (Res.post_bind h1).mono (fun b n2 h2 y H2 g2 r2 => ?_) (fun e m h => exK.at h g1)⟩
  have S2 := S1.ext g2
  obtain ⟨z, e, h3⟩ := Res.post_lift (Res.post_bind h2)
  obtain ⟨k, rfl, h4⟩ := post_asB (Res.post_bind h3)
  refine hr c.B H2 x y a b _ _ S2.all (Rep.mono (g2.sees S.tB') _ _ r1) r2 e fun v H3 s3 r3 => ?_
  cases r3
  have g3 := S2.pure s3
  have S3 := S2.ext g3
  refine ⟨k, rfl, ?_⟩
  cases k with
  | false =>
    rw [if_neg Bool.false_ne_true] at h4 ⊢
    exact h4 _ H3 ((g1.trans g2).trans g3) (.bl false)
  | true =>
    rw [if_pos rfl] at h4 ⊢
    refine ⟨c, ρ, n2, S3, (Res.post_bind h4).mono (fun u n5 h5 w H5 g5 r5 => ?_) (fun e m h => exK.at h ((g1.trans g2).trans g3))⟩
    obtain ⟨d, e', h6⟩ := Res.post_lift h5
    have S5 := S3.ext g5
    exact hr' c.B H5 y w b u d Q S5.all (Rep.mono ((g3.trans g5).sees S.tB') _ _ r2) r5 e' fun v H6 s6 r6 => h6 v H6 ((((g1.trans g2).trans g3).trans g5).trans (S5.pure s6)) r6
end

/-! ### names, constants -/
section
variable {X : Cx} {ca : String → Addr} {W : WX} {a b e : Expr} {es : List Expr} {ga gb gc g : M D} {pos : Pos}
theorem ev_var (i : Nat) {x : Str} (hN : X.N[i]? = some x := by rfl) (hv : Vis X.env.scope x := by first | exact Or.inl rfl | exact Or.inr (Or.inl rfl) | exact Or.inr (Or.inr rfl)) (hd : (x == ("__debug__" : Str)) = false := by decide)
    (hcd : (x == ("__classdict__" : Str)) = false := by decide) : PE X (.Name x pos) (tG X.K ca W (cVar i)) :=
  PE.weak (pe_var hN hv hd hcd) fun σ H Q ⟨c, ρ, n, S, h⟩ => by
    unfold cVar at h
    split at h
    · rename_i x q
      obtain ⟨v, h1, h2⟩ := S.slot i _ q
      exact ⟨v, h1, h v H S.gx h2⟩
    · exact h.elim
theorem ev_C {v : V} {d : D} (h : PE X e (tC v)) (r : ∀ H, Rep X.K H v d) : PE X e (tG X.K ca W (cC d)) :=
  PE.weak h fun σ H Q ⟨c, ρ, n, S, h⟩ => h v H S.gx (r _)
theorem ev_int {i : Int} {j : Nat} : PE X (.Constant (.int i) j pos) (tG X.K ca W (cC (.int i))) := ev_C pe_int fun _ => .int i
theorem ev_bl {b : Bool} {j : Nat} : PE X (.Constant (.bool b) j pos) (tG X.K ca W (cC (.bool b))) := ev_C pe_bl fun _ => .bl b
theorem ev_non {j : Nat} : PE X (.Constant .none j pos) (tG X.K ca W (cC .none)) := ev_C pe_non fun _ => .non
theorem ev_str {x : Str} {l : List Nat} {j : Nat} (hx : x = ⟨l.toArray⟩ := by decide +kernel) : PE X (.Constant (.str x) j pos) (tG X.K ca W (cC (T l))) := by
  subst hx
  exact ev_C pe_str fun _ => .str _
/-- a constant of the module -/
theorem ev_glob {x : Str} {v : V} {d : D} {u : Value} (hg : Gl X x) (hm : X.mg x = some u) (r : RelV v u) (h : ∀ H, Rep X.K H v d) (hd : (x == ("__debug__" : Str)) = false := by decide) : PE X (.Name x pos) (tG X.K ca W (cC d)) :=
  ev_C (pe_glob hg hm r hd) h

/-! ### operators -/
theorem ev_op1 {op : UnaryOp} {r : V → Hp → VK → Prop} {f : D → Option D} (ho : UnR X (unaryOp op) r) (hf : Op1 X.K r f) (ha : PE X a (tG X.K ca W ga)) : PE X (.UnaryOp op a pos) (tG X.K ca W (c1 f ga)) :=
  PE.weak (pe_un ho ha) fun _ _ _ h => tG_c1 hf h
theorem ev_op2 {op : Operator} {r : R2} {f : D → D → Option D} (ho : OpR X (binaryOp op) r) (hf : Op2 X.K r f) (ha : PE X a (tG X.K ca W ga)) (hb : PE X b (tG X.K ca W gb)) : PE X (.BinOp a op b pos) (tG X.K ca W (c2 f ga gb)) :=
  PE.weak (pe_op ho ha hb) fun _ _ _ h => tG_c2 hf h
theorem ev_cmp {op : CmpOp} {r : R2} {f : D → D → Option D} (ho : OpR X (compareOp op) r) (hf : Op2 X.K r f) (ha : PE X a (tG X.K ca W ga)) (hb : PE X b (tG X.K ca W gb)) (hm : behindInMarks op b = false) : PE X (.Compare a [op] [b] pos) (tG X.K ca W (c2 f ga gb)) :=
  PE.weak (pe_cmpR ho ha hb hm) fun _ _ _ h => tG_c2 hf h
theorem et_cmp {op : CmpOp} {r : R2} {f : D → D → Option D} (ho : OpR X (compareOp op) r) (hf : Op2 X.K r f) (ha : PE X a (tG X.K ca W ga)) (hb : PE X b (tG X.K ca W gb)) (hm : behindInMarks op b = false) : PT X (.Compare a [op] [b] pos) (tGT X.K ca W (cB (c2 f ga gb))) :=
  PT.weak (pt_cmpR ho ha hb hm) fun _ _ _ h => by
    obtain ⟨c, ρ, n, S, h⟩ := tG_cB h
    exact tG_c2 hf ⟨c, ρ, n, S, h⟩
theorem ev_chain {op op' : CmpOp} {r r' : R2} {f f' : D → D → Option D} {cc : Expr} (ho : OpR X (compareOp op) r) (hf : Op2 X.K r f) (ho' : OpR X (compareOp op') r') (hf' : Op2 X.K r' f') (ha : PE X a (tG X.K ca W ga)) (hb : PE X b (tG X.K ca W gb)) (hc : PE X cc (tG X.K ca W gc))
    (hm : lastMarks [op, op'] [b, cc] = false := by with_unfolding_all rfl) : PE X (.Compare a [op, op'] [b, cc] pos) (tG X.K ca W (cCh f f' ga gb gc)) :=
  PE.weak (pe_chain ho ho' ha hb hc hm) fun _ _ _ h => tG_ch hf hf' h
theorem et_chain {op op' : CmpOp} {r r' : R2} {f f' : D → D → Option D} {cc : Expr} (ho : OpR X (compareOp op) r) (hf : Op2 X.K r f) (ho' : OpR X (compareOp op') r') (hf' : Op2 X.K r' f') (ha : PE X a (tG X.K ca W ga)) (hb : PE X b (tG X.K ca W gb)) (hc : PE X cc (tG X.K ca W gc))
    (hm : lastMarks [op, op'] [b, cc] = false := by with_unfolding_all rfl) : PT X (.Compare a [op, op'] [b, cc] pos) (tGT X.K ca W (cB (cCh f f' ga gb gc))) :=
  PT.weak (pt_chain ho ho' ha hb hc hm) fun _ _ _ h => by
    obtain ⟨c, ρ, n, S, h⟩ := tG_cB h
    exact tG_ch hf hf' ⟨c, ρ, n, S, h⟩

/-! ### truth, and, or, not, if -/
def truthD : D → Option Bool
  | .none => some false
  | .bool b => some b
  | .int i => some (i != 0)
  | .str x => if x.length ≤ sizeLine then some (x.length != 0) else none
  | .list xs => some (!xs.isEmpty)
  | .tuple xs => some (!xs.isEmpty)
  | .dict _ => none
theorem empty_of {K : PySem.W.Frag} {H : Hp} {vs : List V} {ds : List D} (r : RepAll K H vs ds) : (!ds.isEmpty) = !vs.isEmpty := by
  cases r <;> rfl
theorem tru_of {K : PySem.W.Frag} {B : List Addr} {H : Hp} {v : V} {d : D} {k : Bool} (r : Rep K (hid B H) v d) (h : truthD d = some k) : TruV K v H k := by
  cases r with
  | non => cases h; rfl
  | bl b => cases h; rfl
  | int i => cases h; rfl
  | str x =>
    unfold truthD at h
    simp only at h
    split at h
    · cases h
      refine ⟨by assumption, ?_⟩
      cases x.length <;> rfl
    · cases h
  | lst h1 h2 =>
    cases h
    exact .inl ⟨_, .inl (.inl (hid_sub h1)), empty_of h2⟩
  | tup h1 h2 =>
    cases h
    exact .inr (.inl ⟨_, sqT_mono (fun _ _ => hid_sub) h1.sq, empty_of h2⟩)
def cTru (g : M D) : M Bool := fun ρ n => (g ρ n).bind fun a n1 => Res.lift (truthD a) n1
theorem et_truth (ha : PE X a (tG X.K ca W ga)) (he : ∀ whole, isTrue a X.env whole = (do let v ← whole; standAt a.pos; holding [v] (truthy v)) := by intro _; rfl) : PT X a (tGT X.K ca W (cTru ga)) :=
  PT.weak (pt_truth ha he) fun _ _ _ h => by
    obtain ⟨c, ρ, n, S, h⟩ := h
    refine ⟨c, ρ, n, S, (Res.post_bind h).mono (fun a n1 h1 x H1 g1 r1 => ?_) (fun e m h => h)⟩
    obtain ⟨k, e, h2⟩ := Res.post_lift h1
    exact ⟨k, tru_of r1 e, h2 H1 g1⟩
def bAnd (f g : M Bool) : M Bool := fun ρ n => (f ρ n).bind fun k n1 => if k = true then g ρ n1 else .ok false n1
def bOr (f g : M Bool) : M Bool := fun ρ n => (f ρ n).bind fun k n1 => if k = true then .ok true n1 else g ρ n1
def bNot (f : M Bool) : M Bool := fun ρ n => (f ρ n).bind fun k n1 => .ok (!k) n1
section
variable {fa fb : M Bool} {rest : List Expr}
theorem ew_and1 (ha : PT X a (tGT X.K ca W fa)) : PW X (.BoolOp .And [a] pos) (tGT X.K ca W fa) := pw_and1 ha
theorem ew_or1 (ha : PT X a (tGT X.K ca W fa)) : PW X (.BoolOp .Or [a] pos) (tGT X.K ca W fa) := pw_or1 ha
theorem ew_and (ha : PT X a (tGT X.K ca W fa)) (hb : PW X (.BoolOp .And (b :: rest) pos) (tGT X.K ca W fb)) : PW X (.BoolOp .And (a :: b :: rest) pos) (tGT X.K ca W (bAnd fa fb)) :=
  PW.weak (pw_and ha hb) fun _ _ _ ⟨c, ρ, n, S, h⟩ => by
    refine ⟨c, ρ, n, S, (Res.post_bind h).mono (fun k n1 h1 H1 g1 => ?_) (fun e m h => h)⟩
    cases k with
    | true =>
      rw [if_pos rfl] at h1 ⊢
      exact ⟨c, ρ, n1, S.ext g1, h1.mono (fun b n2 h2 H2 g2 => h2 H2 (g1.trans g2)) (fun e m h => exK.at h g1)⟩
    | false =>
      rw [if_neg Bool.false_ne_true] at h1 ⊢
      exact h1 H1 g1
theorem ew_or (ha : PT X a (tGT X.K ca W fa)) (hb : PW X (.BoolOp .Or (b :: rest) pos) (tGT X.K ca W fb)) : PW X (.BoolOp .Or (a :: b :: rest) pos) (tGT X.K ca W (bOr fa fb)) :=
  PW.weak (pw_or ha hb) fun _ _ _ ⟨c, ρ, n, S, h⟩ => by
    refine ⟨c, ρ, n, S, (Res.post_bind h).mono (fun k n1 h1 H1 g1 => ?_) (fun e m h => h)⟩
    cases k with
    | false =>
      rw [if_neg Bool.false_ne_true] at h1 ⊢
      exact ⟨c, ρ, n1, S.ext g1, h1.mono (fun b n2 h2 H2 g2 => h2 H2 (g1.trans g2)) (fun e m h => exK.at h g1)⟩
    | true =>
      rw [if_pos rfl] at h1 ⊢
      exact h1 H1 g1
theorem et_not (ha : PT X a (tGT X.K ca W fa)) : PT X (.UnaryOp .Not a pos) (tGT X.K ca W (bNot fa)) :=
  PT.weak (pt_not ha) fun _ _ _ ⟨c, ρ, n, S, h⟩ => ⟨c, ρ, n, S, (Res.post_bind h).mono (fun k n1 h1 H1 g1 => h1 H1 g1) (fun e m h => h)⟩
end
/-- .. as values -/
def vAnd (f g : M D) : M D := fun ρ n => (f ρ n).bind fun x n1 => (Res.lift (truthD x) n1).bind fun k n2 => if k = true then g ρ n2 else .ok x n2
def vOr (f g : M D) : M D := fun ρ n => (f ρ n).bind fun x n1 => (Res.lift (truthD x) n1).bind fun k n2 => if k = true then .ok x n2 else g ρ n2
def vNot (f : M D) : M D := fun ρ n => (f ρ n).bind fun x n1 => (Res.lift (truthD x) n1).bind fun k n2 => .ok (.bool (!k)) n2
section
variable {rest : List Expr}
theorem ev_one {op : BoolOp} (ha : PE X a (tG X.K ca W ga)) : PE X (.BoolOp op [a] pos) (tG X.K ca W ga) := pe_one ha
theorem ev_and (ha : PE X a (tG X.K ca W ga)) (hb : PE X (.BoolOp .And (b :: rest) pos) (tG X.K ca W gb)) : PE X (.BoolOp .And (a :: b :: rest) pos) (tG X.K ca W (vAnd ga gb)) :=
  PE.weak (pe_andT ha hb) fun _ _ _ ⟨c, ρ, n, S, h⟩ => by
    refine ⟨c, ρ, n, S, (Res.post_bind h).mono (fun x n1 h1 v H1 g1 r1 => ?_) (fun e m h => h)⟩
    obtain ⟨k, e, h2⟩ := Res.post_lift (Res.post_bind h1)
    refine ⟨k, tru_of r1 e, ?_⟩
    cases k with
    | true =>
      rw [if_pos rfl] at h2 ⊢
      exact ⟨c, ρ, n1, S.ext g1, h2.mono (fun b n2 h2 v H2 g2 r2 => h2 v H2 (g1.trans g2) r2) (fun e m h => exK.at h g1)⟩
    | false =>
      rw [if_neg Bool.false_ne_true] at h2 ⊢
      exact h2 v H1 g1 r1
theorem ev_or (ha : PE X a (tG X.K ca W ga)) (hb : PE X (.BoolOp .Or (b :: rest) pos) (tG X.K ca W gb)) : PE X (.BoolOp .Or (a :: b :: rest) pos) (tG X.K ca W (vOr ga gb)) :=
  PE.weak (pe_orT ha hb) fun _ _ _ ⟨c, ρ, n, S, h⟩ => by
    refine ⟨c, ρ, n, S, (Res.post_bind h).mono (fun x n1 h1 v H1 g1 r1 => ?_) (fun e m h => h)⟩
    obtain ⟨k, e, h2⟩ := Res.post_lift (Res.post_bind h1)
    refine ⟨k, tru_of r1 e, ?_⟩
    cases k with
    | false =>
      rw [if_neg Bool.false_ne_true] at h2 ⊢
      exact ⟨c, ρ, n1, S.ext g1, h2.mono (fun b n2 h2 v H2 g2 r2 => h2 v H2 (g1.trans g2) r2) (fun e m h => exK.at h g1)⟩
    | true =>
      rw [if_pos rfl] at h2 ⊢
      exact h2 v H1 g1 r1
theorem ev_not (ha : PE X a (tG X.K ca W ga)) : PE X (.UnaryOp .Not a pos) (tG X.K ca W (vNot ga)) :=
  PE.weak (pe_notT ha) fun _ _ _ ⟨c, ρ, n, S, h⟩ => by
    refine ⟨c, ρ, n, S, (Res.post_bind h).mono (fun x n1 h1 v H1 g1 r1 => ?_) (fun e m h => h)⟩
    obtain ⟨k, e, h2⟩ := Res.post_lift (Res.post_bind h1)
    exact ⟨k, tru_of r1 e, h2 _ H1 g1 (.bl _)⟩
end
def cIf (f : M Bool) (g h : M D) : M D := fun ρ n => (f ρ n).bind fun k n1 => if k = true then g ρ n1 else h ρ n1
theorem ev_if {cc : Expr} {f : M Bool} (hc : PT X cc (tGT X.K ca W f)) (ha : PE X a (tG X.K ca W ga)) (hb : PE X b (tG X.K ca W gb)) : PE X (.IfExp cc a b pos) (tG X.K ca W (cIf f ga gb)) :=
  PE.weak (pe_ifExp hc ha hb) fun _ _ _ ⟨c, ρ, n, S, h⟩ => by
    refine ⟨c, ρ, n, S, (Res.post_bind h).mono (fun k n1 h1 H1 g1 => ?_) (fun e m h => h)⟩
    cases k with
    | true =>
      rw [if_pos rfl] at h1 ⊢
      exact ⟨c, ρ, n1, S.ext g1, h1.mono (fun b n2 h2 v H2 g2 r2 => h2 v H2 (g1.trans g2) r2) (fun e m h => exK.at h g1)⟩
    | false =>
      rw [if_neg Bool.false_ne_true] at h1 ⊢
      exact ⟨c, ρ, n1, S.ext g1, h1.mono (fun b n2 h2 v H2 g2 r2 => h2 v H2 (g1.trans g2) r2) (fun e m h => exK.at h g1)⟩

/-! ### argument lists, displays, calls -/
theorem ea_nil : PA X [] (tGA X.K ca W aNil) := PA.weak pa_nil fun _ H _ ⟨c, ρ, n, S, h⟩ => h [] H S.gx .nil
theorem ea_cons {gs : M (List L)} (ha : PE X e (tG X.K ca W ga)) (hr : PA X es (tGA X.K ca W gs)) (hs : starEach (e :: es) X.env = (false, eval e X.env) :: starEach es X.env := by rfl) : PA X (e :: es) (tGA X.K ca W (aCons ga gs)) :=
  PA.weak (pa_cons ha hr hs) fun _ _ _ ⟨c, ρ, n, S, h⟩ => by
    refine ⟨c, ρ, n, S, (Res.post_bind h).mono (fun x n1 h1 v H1 g1 r1 => ?_) (fun e m h => h)⟩
    refine ⟨c, ρ, n1, S.ext g1, (Res.post_bind h1).mono (fun ls n2 h2 vs H2 g2 r2 => h2 _ H2 (g1.trans g2) (.cons ⟨rfl, ?_⟩ r2)) (fun e m h => exK.at h g1)⟩
    exact Rep.mono (g2.sees S.tB') _ _ r1
theorem ea_var (i : Nat) {x : Str} {gs : M (List L)} (hr : PA X es (tGA X.K ca W gs)) (hN : X.N[i]? = some x := by rfl) (hv : Vis X.env.scope x := by first | exact Or.inl rfl | exact Or.inr (Or.inl rfl) | exact Or.inr (Or.inr rfl)) (hd : (x == ("__debug__" : Str)) = false := by decide)
    (hcd : (x == ("__classdict__" : Str)) = false := by decide) (hs : starEach (.Name x pos :: es) X.env = (false, eval (.Name x pos) X.env) :: starEach es X.env := by rfl) : PA X (.Name x pos :: es) (tGA X.K ca W (aVar i gs)) :=
  PA.weak (pa_cons (pe_var hN hv hd hcd) hr hs) fun σ H Q ⟨c, ρ, n, S, h⟩ => by
    have key : ∀ l : L, isOut l = false → ρ[i]? = some (some l) → ((gs ρ n).bind fun b n2 => .ok (l :: b) n2).Post (fun ls n' => ∀ vs H', Gx c H n' H' → RAs X.K c H' vs ls → Q vs H') (exK ca W c σ H) →
        tCons (tVar i) (tGA X.K ca W gs) σ H Q := fun l ho q h => by
      obtain ⟨v, h1, h2⟩ := S.slot i l q
      refine ⟨v, h1, c, ρ, n, S, (Res.post_bind h).mono (fun ls n2 h3 vs H2 g2 r2 => h3 _ H2 g2 (.cons ⟨ho, RL.ext S g2 h2⟩ r2)) (fun e m h => h)⟩
    unfold aVar at h
    split at h
    · exact key _ rfl (by assumption) h
    · exact key _ rfl (by assumption) h
    · exact key _ rfl (by assumption) h
    · exact key _ rfl (by assumption) h
    · exact key _ rfl (by assumption) h
    · rename_i q
      obtain ⟨v, h1, h2⟩ := S.slot i _ q
      refine ⟨v, h1, c, ρ, n, S, (Res.post_bind h).mono (fun ls n2 h3 vs H2 g2 r2 => h3 _ H2 g2 (.cons ⟨rfl, h2.1⟩ r2)) (fun e m h => h)⟩
    · exact h.elim
def asDs : List L → Nat → Res (List D) := fun ls n => Res.lift (dsOf ls) n
/-- (a, b, ..) -/
def cTup (g : M (List L)) : M D := fun ρ n => (g ρ n).bind fun ls n1 => (asDs ls n1).bind fun ds n2 => if ds.length ≤ sizeLine then .ok (.tuple ds) n2 else .bad
def cLst (g : M (List L)) : M (List D) := fun ρ n => (g ρ n).bind fun ls n1 => (asDs ls n1).bind fun ds n2 => if ds.length ≤ sizeLine then .ok ds n2 else .bad
/-- a new list as data -/
def cF (g : M (List D)) : M D := fun ρ n => (g ρ n).bind fun ds n1 => .ok (.list ds) n1
theorem ev_F {gf : M (List D)} (h : PE X e (tGF X.K ca W gf)) : PE X e (tG X.K ca W (cF gf)) :=
  PE.weak h fun σ H Q ⟨c, ρ, n, S, h⟩ => by
    refine ⟨c, ρ, n, S, (Res.post_bind h).mono (fun ds n1 h1 a vs H1 g1 ha h2 r1 => h1 _ H1 g1 ?_) (fun e m h => h)⟩
    exact .lst (hid_of (fun z => S.all a z ha) h2) (Rep.monoAll hid_cons _ _ r1)
def tTupP (t : TA) : TE := fun σ H Q => t σ H fun xs H1 => xs.length ≤ sizeLine ∧ ∀ (p : Addr) (o : Obj), o.dict = none → H1 p = none → Q (.ref p) (upd H1 p (.frz o (.tup xs)))
theorem pe_tupP {t : TA} {x1 : Nat} (h : PA X es t) : PE X (.Tuple es x1 pos) (tTupP t) := by
  refine ⟨fun pins s σ H Q I hq => ?_⟩
  refine wpAny_Tuple_spliced (thn (h.run pos pins s σ H _ I hq) fun us s1 ⟨xs, H1, I1, r, z, q⟩ => ⟨by rw [← r.length]; exact z, ?_⟩)
  have fr : H1 s1.heap.objs.size = none := I1.hok.fresh (Nat.le_refl _)
  refine ⟨.ref s1.heap.objs.size, upd H1 s1.heap.objs.size (.frz { cls := .type "tuple", data := .seq us.toArray } (.tup xs)), I1.laid (t' := s1.toks) (fun b u e => Heap.get?_push_of_some _ e) (Nat.le_refl _) ?_, rfl, q _ _ rfl fr⟩
  exact ⟨Heap.get?_push_size _ rfl, z, us, r, ⟨_, Heap.get?_push_size _ rfl, rfl, _, rfl⟩⟩
theorem ev_tup {gs : M (List L)} {x1 : Nat} (h : PA X es (tGA X.K ca W gs)) : PE X (.Tuple es x1 pos) (tG X.K ca W (cTup gs)) :=
  PE.weak (pe_tupP h) fun σ H Q ⟨c, ρ, n, S, h⟩ => by
    refine ⟨c, ρ, n, S, (Res.post_bind h).mono (fun ls n1 h1 vs H1 g1 r1 => ?_) (fun e m h => h)⟩
    obtain ⟨ds, e, h2⟩ := Res.post_lift (Res.post_bind h1)
    have r2 := r1.ds e
    split at h2
    · rename_i hz
      have S1 := S.ext g1
      refine ⟨by rw [r2.length]; exact hz, fun p o ho hp => h2 _ _ (g1.trans (S1.pure (same_upd hp))) (new_tup ho S1.all hp r2)⟩
    · exact h2.elim
theorem ef_lst {gs : M (List L)} (h : PA X es (tGA X.K ca W gs)) : PE X (.List es pos) (tGF X.K ca W (cLst gs)) :=
  PE.weak (pe_lst h) fun σ H Q ⟨c, ρ, n, S, h⟩ => by
    refine ⟨c, ρ, n, S, (Res.post_bind h).mono (fun ls n1 h1 vs H1 g1 r1 => ?_) (fun e m h => h)⟩
    obtain ⟨ds, e, h2⟩ := Res.post_lift (Res.post_bind h1)
    have r2 := r1.ds e
    split at h2
    · rename_i hz
      have S1 := S.ext g1
      refine ⟨by rw [r2.length]; exact hz, fun p hp => h2 _ vs _ (g1.trans (S1.pure (same_upd hp))) ?_ upd_same (Rep.monoAll (hid_fresh hp) _ _ r2)⟩
      exact fresh_back g1 hp
    · exact h2.elim
/-- a built-in by its name -/
def cBt (f : List D → Option D) (g : M (List L)) : M D := fun ρ n => (g ρ n).bind fun ls n1 => (asDs ls n1).bind fun ds n2 => Res.lift (f ds) n2
def cBtF (f : List D → Option (List D)) (g : M (List L)) : M (List D) := fun ρ n => (g ρ n).bind fun ls n1 => (asDs ls n1).bind fun ds n2 => Res.lift (f ds) n2
theorem tG_bt {K : PySem.W.Frag} {r : List V → Hp → VK → Prop} {f : List D → Option D} (hr : OpN K r f) {gs : M (List L)} {σ : L2.St} {H : Hp} {Q : VK} (h : tG K ca W (cBt f gs) σ H Q) : tCB r (tGA K ca W gs) σ H Q := by
  obtain ⟨c, ρ, n, S, h⟩ := h
  refine ⟨c, ρ, n, S, (Res.post_bind h).mono (fun ls n1 h1 vs H1 g1 r1 => ?_) (fun e m h => h)⟩
  have S1 := S.ext g1
  obtain ⟨ds, e, h2⟩ := Res.post_lift (Res.post_bind h1)
  obtain ⟨d, e2, h3⟩ := Res.post_lift h2
  exact hr c.B H1 vs ds d Q S1.all (r1.ds e) e2 fun v H3 s3 r3 => h3 v H3 (g1.trans (S1.pure s3)) r3
theorem tG_btF {K : PySem.W.Frag} {r : List V → Hp → VK → Prop} {f : List D → Option (List D)} (hr : OpNF K r f) {gs : M (List L)} {σ : L2.St} {H : Hp} {Q : VK} (h : tGF K ca W (cBtF f gs) σ H Q) : tCB r (tGA K ca W gs) σ H Q := by
  obtain ⟨c, ρ, n, S, h⟩ := h
  refine ⟨c, ρ, n, S, (Res.post_bind h).mono (fun ls n1 h1 vs H1 g1 r1 => ?_) (fun e m h => h)⟩
  have S1 := S.ext g1
  obtain ⟨ds, e, h2⟩ := Res.post_lift (Res.post_bind h1)
  obtain ⟨d, e2, h3⟩ := Res.post_lift h2
  exact hr c.B H1 vs ds d Q S1.all (r1.ds e) e2 fun p ws H3 s3 hp hw r3 => h3 p ws H3 (g1.trans (S1.pure s3)) (fresh_back g1 hp) hw r3
theorem ev_bt {id : String} {x : Str} {p : Pos} {r : List V → Hp → VK → Prop} {f : List D → Option D} {gs : M (List L)} (hc : CallR X (.builtin id) r) (hf : OpN X.K r f) (hg : Gl X x) (hm : X.mg x = none) (hv : bootBuiltins x = some (.builtin id)) (ha : PA X (e :: es) (tGA X.K ca W gs)) (hn : x ≠ "__name__" := by decide) (hdb : (x == ("__debug__" : Str)) = false := by decide)
    (he : starEach (e :: es) X.env = (false, eval e X.env) :: starEach es X.env := by rfl) (hpl : (backTo pos (starEach es X.env)).any (·.1) = false := by rfl) : PE X (.Call (.Name x p) (e :: es) [] pos) (tG X.K ca W (cBt f gs)) :=
  PE.weak (pe_callB hc hg hm hv ha hn hdb he hpl) fun _ _ _ h => tG_bt hf h
theorem ev_bty {id : String} {x : Str} {p : Pos} {r : List V → Hp → VK → Prop} {f : List D → Option D} {gs : M (List L)} (hc : CallR X (.type id) r) (hf : OpN X.K r f) (hg : Gl X x) (hm : X.mg x = none) (hv : bootBuiltins x = some (.type id)) (ha : PA X (e :: es) (tGA X.K ca W gs)) (hn : x ≠ "__name__" := by decide) (hdb : (x == ("__debug__" : Str)) = false := by decide)
    (he : starEach (e :: es) X.env = (false, eval e X.env) :: starEach es X.env := by rfl) (hpl : (backTo pos (starEach es X.env)).any (·.1) = false := by rfl) : PE X (.Call (.Name x p) (e :: es) [] pos) (tG X.K ca W (cBt f gs)) :=
  PE.weak (pe_callTy hc hg hm hv ha hn hdb he hpl) fun _ _ _ h => tG_bt hf h
theorem ef_bt {id : String} {x : Str} {p : Pos} {r : List V → Hp → VK → Prop} {f : List D → Option (List D)} {gs : M (List L)} (hc : CallR X (.builtin id) r) (hf : OpNF X.K r f) (hg : Gl X x) (hm : X.mg x = none) (hv : bootBuiltins x = some (.builtin id)) (ha : PA X (e :: es) (tGA X.K ca W gs)) (hn : x ≠ "__name__" := by decide) (hdb : (x == ("__debug__" : Str)) = false := by decide)
    (he : starEach (e :: es) X.env = (false, eval e X.env) :: starEach es X.env := by rfl) (hpl : (backTo pos (starEach es X.env)).any (·.1) = false := by rfl) : PE X (.Call (.Name x p) (e :: es) [] pos) (tGF X.K ca W (cBtF f gs)) :=
  PE.weak (pe_callB hc hg hm hv ha hn hdb he hpl) fun _ _ _ h => tG_btF hf h
theorem ef_bty {id : String} {x : Str} {p : Pos} {r : List V → Hp → VK → Prop} {f : List D → Option (List D)} {gs : M (List L)} (hc : CallR X (.type id) r) (hf : OpNF X.K r f) (hg : Gl X x) (hm : X.mg x = none) (hv : bootBuiltins x = some (.type id)) (ha : PA X (e :: es) (tGA X.K ca W gs)) (hn : x ≠ "__name__" := by decide) (hdb : (x == ("__debug__" : Str)) = false := by decide)
    (he : starEach (e :: es) X.env = (false, eval e X.env) :: starEach es X.env := by rfl) (hpl : (backTo pos (starEach es X.env)).any (·.1) = false := by rfl) : PE X (.Call (.Name x p) (e :: es) [] pos) (tGF X.K ca W (cBtF f gs)) :=
  PE.weak (pe_callTy hc hg hm hv ha hn hdb he hpl) fun _ _ _ h => tG_btF hf h
end

/-! ### what a def promises -/
/-- a pure function of arguments and the town's length -/
abbrev Fn := List L → Nat → Res D
def spG (K : PySem.W.Frag) (ca : String → Addr) (k : Nat) (F : Fn) : Sp := fun vs H Q E => vs.length = k ∧ ∃ (c : Fm) (ls : List L) (n : Nat),
  (∀ b ∈ c.Bo, b ∈ c.B) ∧ c.t ∈ c.Bo ∧ (∀ b ∈ c.B, H b ≠ none) ∧ H c.t = some (zer n) ∧ c.R = CurOk K ∧ c.R c.B H n ∧ (∀ b ∈ c.B, ∀ o, H b = some o → tupO o = false) ∧ CuIn c.t c.B H ∧ Two c.B ∧ RAs K c H vs ls ∧
  (F ls n).Post (fun d n' => ∀ v H', Gx c H n' H' → Rep K (hid c.B H') v d → Q v H') (fun e n' => ∀ H', Gx c H n' H' → E (.ref (ca e)) none H')
section
variable {X : Cx} {ca : String → Addr} {W : WX} {e : Expr} {es : List Expr} {pos p : Pos} {x : Str} {k : Nat} {f : Addr} {fd : FuncData} {ps : List Str} {F : Fn} {gs : M (List L)}
def cCall (k : Nat) (F : Fn) (g : M (List L)) : M D := fun ρ n => (g ρ n).bind fun ls n1 => if ls.length = k then F ls n1 else .bad
theorem ev_call (tk : Takes X W) (Fk : FnOk X.prog X.w X.K X.mg X.base (L2.CX X.prog X.w) k f fd ps (spG X.K ca ps.length F)) (hr : Room k X.A) (hg : Gl X x) (hm : X.mg x = some (.ref f)) (hk : PySem.W.keepIn X.K (.ref f) = true) (hb : Binds X.K fd ps [])
    (ha : PA X (e :: es) (tGA X.K ca W gs)) {m : Nat} (hm2 : ps.length = m := by rfl) (hdb : (x == ("__debug__" : Str)) = false := by decide) (he : starEach (e :: es) X.env = (false, eval e X.env) :: starEach es X.env := by rfl) (hpl : (backTo pos (starEach es X.env)).any (·.1) = false := by rfl) :
    PE X (.Call (.Name x p) (e :: es) [] pos) (tG X.K ca W (cCall m F gs)) :=
  PE.weak (pe_callS Fk hr hg hm hk hb (fun σ => passAt tk σ) ha hdb he hpl) fun σ H Q ⟨c, ρ, n, S, h⟩ => by
    refine ⟨c, ρ, n, S, (Res.post_bind h).mono (fun ls n1 h1 vs H1 g1 r1 => ?_) (fun e m h => h)⟩
    subst hm2
    have S1 := S.ext g1
    split at h1
    · rename_i hz
      exact ⟨r1.length.trans hz, c, ls, n1, S.sub, S.tB, S1.all, S1.town, S1.rk, S1.cur, S1.nt, S1.cl, S1.two, r1, h1.mono (fun d n' h v H' g r => h v H' (g1.trans g) r) (fun e m h H' g => h H' (g1.trans g))⟩
    · exact h1.elim
end
end G

namespace G
open PySem PySem.Spec PyProof.Rows L2

/-! ### statements -/
inductive Out where
  | nx (ρ : Env) (n : Nat)
  | rt (d : D) (n : Nat)
  | bk (ρ : Env) (n : Nat)
  | ct (ρ : Env) (n : Nat)
  | ex (c : String) (ρ : Env) (n : Nat)
  | bad
abbrev MS := Env → Nat → Out
/-- an expression's result, then a statement's -/
def ofR {α : Type} (r : Res α) (ρ : Env) (k : α → Nat → Out) : Out := match r with
  | .ok a n => k a n
  | .ex c n => .ex c ρ n
  | .bad => .bad
@[simp] theorem ofR_ok {α : Type} (a : α) (n : Nat) (ρ : Env) (k : α → Nat → Out) : ofR (.ok a n) ρ k = k a n := rfl
@[simp] theorem ofR_bad {α : Type} (ρ : Env) (k : α → Nat → Out) : ofR .bad ρ k = .bad := rfl
@[simp] theorem ofR_ex {α : Type} (c : String) (n : Nat) (ρ : Env) (k : α → Nat → Out) : ofR (.ex c n) ρ k = .ex c ρ n := rfl

abbrev Fm.at (c : Fm) (B : List Addr) : Fm := { c with B := B }
/-- a frame's end -/
structure Gr (c : Fm) (n : Nat) (H' : Hp) : Prop where
  ext : Ext c.t c.H0 H'
  town : H' c.t = some (zer n)
  cur : c.fx = true → c.R c.Bo H' n
section
variable (K : PySem.W.Frag) (ca : String → Addr) (W : WX)
def OPost (c : Fm) (H : Hp) (o : Out) (E : Ends) : Prop := match o with
  | .nx ρ n => ∀ σ' H' B', SR K (c.at B') σ' H' ρ n → Sees c.B H B' H' → E.nx σ' H'
  | .bk ρ n => ∀ σ' H' B', SR K (c.at B') σ' H' ρ n → Sees c.B H B' H' → E.bk σ' H'
  | .ct ρ n => ∀ σ' H' B', SR K (c.at B') σ' H' ρ n → Sees c.B H B' H' → E.ct σ' H'
  | .rt d n => ∀ v H', Gr c n H' → Rep K (hid c.Bo H') v d → E.rt v H'
  | .ex e ρ n => ∀ σ' H' B', SR K (c.at B') σ' H' ρ n → Sees c.B H B' H' → W (.ref (ca e)) none σ' H'
  | .bad => False
def tS (g : MS) : TS := fun E σ H => ∃ c ρ n, SR K c σ H ρ n ∧ OPost K ca W c H (g ρ n) E
end
section
variable {K : PySem.W.Frag} {ca : String → Addr} {W : WX} {c : Fm} {σ : L2.St} {H H' : Hp} {ρ : Env} {n n' : Nat} {B' : List Addr} {E : Ends}
theorem OPost.at {o : Out} (h : OPost K ca W c H o E) (s : Sees c.B H B' H') : OPost K ca W (c.at B') H' o E := by
  cases o with
  | nx ρ n => exact fun σ2 H2 B2 S2 s2 => h σ2 H2 B2 S2 (s.trans s2)
  | bk ρ n => exact fun σ2 H2 B2 S2 s2 => h σ2 H2 B2 S2 (s.trans s2)
  | ct ρ n => exact fun σ2 H2 B2 S2 s2 => h σ2 H2 B2 S2 (s.trans s2)
  | rt d n => exact fun v H2 g => h v H2 ⟨g.ext, g.town, g.cur⟩
  | ex e ρ n => exact fun σ2 H2 B2 S2 s2 => h σ2 H2 B2 S2 (s.trans s2)
  | bad => exact h
/-- out of an expression's result -/
theorem post_ofR {α : Type} {r : Res α} {k : α → Nat → Out} (S : SR K c σ H ρ n) (h : OPost K ca W c H (ofR r ρ k) E) : r.Post (fun a n' => OPost K ca W c H (k a n') E) (exK ca W c σ H) := by
  cases r with
  | ok a n => exact h
  | ex e n =>
    exact fun H' g => h σ H' c.B (S.ext g) (g.sees S.tB')
  | bad => exact h
theorem SR.gr (S : SR K c σ H ρ n) : Gr c n H := ⟨S.keep, S.town, fun h => by
  have := S.cur
  rw [S.rk] at this ⊢
  exact this.keep (fun a o q _ => q) (S.cb h) rfl rfl⟩
theorem Gx.back {B' : List Addr} (hr : c.R = CurOk K) (hc : SameC B' c.B) (g : Gx (c.at B') H n H') : Gx c H n H' := ⟨g.ext, g.town, by
  have := g.cur
  rw [show (c.at B').R = c.R from rfl, hr] at this
  rw [hr]
  exact this.keep (fun a o q _ => q) hc.symm rfl rfl⟩
theorem Gx.fwd {B' : List Addr} (hr : c.R = CurOk K) (hc : SameC B' c.B) (g : Gx c H n H') : Gx (c.at B') H n H' := ⟨g.ext, g.town, by
  have := g.cur
  rw [hr] at this
  rw [show (c.at B').R = c.R from rfl, hr]
  exact this.keep (fun a o q _ => q) hc rfl rfl⟩
theorem SR.ne (S : SR K c σ H ρ n) : c.B ≠ [] := fun z => by
  have := S.tB'
  rw [z] at this
  cases this
theorem SR.move (S : SR K c σ H ρ n) (g : Gx c H n' H') {B' : List Addr} (hs : ∀ b ∈ c.B, b ∈ B') (ha : ∀ b ∈ B', H' b ≠ none) (hnt : ∀ b ∈ B', ∀ o, H' b = some o → tupO o = false) (hc : SameC B' c.B) (ht2 : Two B') (se : Sees c.B H B' H') : SR K (c.at B') σ H' ρ n' := by
  refine ⟨S.len, fun b hb => hs b (S.sub b hb), S.tB, S.old, ha, S.keep.trans g.ext, g.town, S.rk, ?_, hnt, fun h => (S.cb h).trans hc.symm, (by
    have := S.cl.ext g.ext
    unfold CuIn at this ⊢
    rw [hc.1, hc.2]
    exact this), ht2, fun xy h => (S.pin xy h).trans (by rw [show (c.at B').B = B' from rfl, hc.1, hc.2]), fun i l e => ?_, S.dist⟩
  · have := g.cur
    rw [S.rk] at this
    show c.R B' H' n'
    rw [S.rk]
    exact this.keep (fun a o q _ => q) hc rfl rfl
  obtain ⟨v, h1, h2⟩ := S.slot i l e
  refine ⟨v, h1, ?_⟩
  cases l with
  | ob o => exact nomatch o
  | d x => exact Rep.mono se _ _ h2
  | own xs =>
    obtain ⟨a, vs, q1, q2, q3, q4, q5⟩ := h2
    exact ⟨a, vs, q1, hs _ q2, q3, g.ext.to _ _ q4 (fun e => S.old _ S.tB (e ▸ q3)) rfl, Rep.monoAll se _ _ q5⟩
  | dic kvs =>
    obtain ⟨a, vs, q1, q2, q3, q4, q6, q5⟩ := h2
    exact ⟨a, vs, q1, hs _ q2, q3, g.ext.to _ _ q4 (fun e => S.old _ S.tB (e ▸ q3)) rfl, q6, Rep.monoAll se _ _ q5⟩
  | dit kvs =>
    obtain ⟨a, vs, q1, q2, q3, q4, q6, q5⟩ := h2
    exact ⟨a, vs, q1, hs _ q2, q3, g.ext.to _ _ q4 (fun e => S.old _ S.tB (e ▸ q3)) rfl, q6, Rep.monoAll se _ _ q5⟩
  | frk kvs =>
    obtain ⟨a1, o1, ws1, z1, z2, z3, z4⟩ := h2
    exact ⟨a1, o1, ws1, z1, se _ _ z2, z3, Rep.monoAll se _ _ z4⟩
  | town => exact h2
  | twl => exact h2
  | exn e => exact h2
  | cur =>
    obtain ⟨q1, C, dx, fs, q2⟩ := h2
    show v = .ref (cuOf B') ∧ ∃ C dx fs, H' (cuOf B') = some (.ins C dx fs)
    rw [hc.1]
    exact ⟨q1, C, dx, g.ext.ins _ _ _ _ q2⟩
  | prk =>
    obtain ⟨q1, C, dx, fs, q2⟩ := h2
    show v = .ref (pkOf B') ∧ ∃ C dx fs, H' (pkOf B') = some (.ins C dx fs)
    rw [hc.2]
    exact ⟨q1, C, dx, g.ext.ins _ _ _ _ q2⟩
  | scr ns =>
    obtain ⟨a, q1, q2⟩ := h2
    exact ⟨a, q1, sqL_mono se q2⟩
/-- a new object becomes the frame's own -/
theorem SR.adopt (S : SR K c σ H ρ n) (g : Gx c H n' H') {a : Addr} {o : HO} (hn : H a = none) (hs : H' a = some o) (ho : tupO o = false) : SR K (c.at (a :: c.B)) σ H' ρ n' ∧ Sees c.B H (a :: c.B) H' := by
  have se : Sees c.B H (a :: c.B) H' := fun b o h => by
    obtain ⟨h1, h2⟩ := hid_some h
    refine hid_of (fun z => ?_) (hid_some (g.sees S.tB' b o h)).2 (hid_cur h)
    rcases List.mem_cons.mp z with z | z
    · rw [z, hn] at h2; cases h2
    · exact h1 z
  refine ⟨S.move g (fun b hb => List.mem_cons_of_mem _ hb) (fun b hb => ?_) (fun b hb => ?_) (.cons S.two) S.two.cons se, se⟩
  · rcases List.mem_cons.mp hb with z | z
    · rw [z, hs]; simp
    · exact (S.ext g).all b z
  · rcases List.mem_cons.mp hb with z | z
    · rw [z, hs]; intro o' e; cases e; exact ho
    · exact (S.ext g).nt b z
theorem Rep.adopt {a : Addr} {v : V} {d : D} (se : Sees c.B H B' H') (h : Rep K (hid c.B H) v d) : Rep K (hid B' H') v d := Rep.mono se _ _ h
/-- an own object is changed -/
theorem own_kind {v : V} {l : L} {a : Addr} (ho : isOwn l = true) (r : RL K c H (.ref a) l) : ∃ o, H a = some o ∧ curK o = false ∧ tupO o = false := by
  cases l with
  | own xs => obtain ⟨b, vs, q1, _, _, q4, _⟩ := r; cases q1; exact ⟨_, q4, rfl, rfl⟩
  | dic xs => obtain ⟨b, vs, q1, _, _, q4, _⟩ := r; cases q1; exact ⟨_, q4, rfl, rfl⟩
  | dit xs => obtain ⟨b, vs, q1, _, _, q4, _⟩ := r; cases q1; exact ⟨_, q4, rfl, rfl⟩
  | ob o => exact nomatch o
  | _ => cases ho
theorem SR.put (S : SR K c σ H ρ n) {i : Nat} {l l' : L} {a : Addr} {o : HO} (hi : ρ[i]? = some (some l)) (ho : isOwn l = true) (ho' : isOwn l' = true) (hv : σ[i]? = some (some (.ref a))) (ha : a ∈ c.B) (h0 : c.H0 a = none)
    (r : RL K c (upd H a o) (.ref a) l') : SR K c σ (upd H a o) (ρ.set i (some l')) n ∧ Sees c.B H c.B (upd H a o) := by
  have se : Sees c.B H c.B (upd H a o) := fun b u h => by
    obtain ⟨h1, h2⟩ := hid_some h
    refine hid_of h1 ?_ (hid_cur h)
    have ne : b ≠ a := fun z => h1 (by rw [z]; exact ha)
    rw [upd_ne ne]
    exact h2
  have hlt : i < ρ.length := (List.getElem?_eq_some_iff.mp hi).1
  have nt : c.t ≠ a := fun z => S.old _ S.tB (z ▸ h0)
  obtain ⟨u0, k1, k2, k3⟩ : ∃ u, H a = some u ∧ curK u = false ∧ tupO u = false := by
    obtain ⟨v, w1, w2⟩ := S.slot i l hi
    rw [hv] at w1
    cases w1
    exact own_kind (v := .ref a) ho w2
  obtain ⟨u1, m1, m2, m3⟩ := own_kind (v := .ref a) ho' r
  rw [upd_same] at m1
  cases m1
  refine ⟨⟨by simp [S.len], S.sub, S.tB, S.old, fun b hb => ?_, ⟨fun b u h ne hc => ?_, fun b u h hc => ?_, fun b C dx fs h => ?_⟩, by rw [upd_ne nt]; exact S.town, S.rk, ?_, fun b hb u e => ?_, S.cb, ⟨S.cl.1.imp id (fun ⟨C, dx, fs, q⟩ => ⟨C, dx, fs, by
    rw [upd_ne (fun z => by rw [z, k1] at q; cases q; cases k2)]
    exact q⟩), S.cl.2.imp id (fun ⟨C, dx, fs, q⟩ => ⟨C, dx, fs, by
    rw [upd_ne (fun z => by rw [z, k1] at q; cases q; cases k2)]
    exact q⟩)⟩, S.two, S.pin, fun j l1 e => ?_, fun j k l1 l2 b hjk e1 e2 o1 o2 s1 s2 => ?_⟩, se⟩
  · by_cases e : b = a
    · subst e; rw [upd_same]; simp
    · rw [upd_ne e]; exact S.all b hb
  · rw [upd_ne (fun z => by rw [z, h0] at h; cases h)]
    exact S.keep.to b u h ne hc
  · rw [upd_ne (fun z => by rw [z, h0] at h; cases h)]
    exact S.keep.ck b u h hc
  · rw [upd_ne (fun z => by rw [z, h0] at h; cases h)]
    exact S.keep.ins b C dx fs h
  · have := S.cur
    rw [S.rk] at this ⊢
    refine this.keep (fun b u q z => ?_) (.refl _) rfl rfl
    rw [upd_ne (fun e => ?_)]
    · exact q
    · rw [e, k1] at q
      cases q
      rcases z with z | z
      · rw [k2] at z; cases z
      · rw [k3] at z; cases z
  · by_cases z : b = a
    · subst z
      rw [upd_same] at e
      cases e
      exact m3
    · rw [upd_ne z] at e
      exact S.nt b hb u e
  · by_cases hj : i = j
    · subst hj
      rw [List.getElem?_set_self hlt] at e
      cases e
      exact ⟨_, hv, r⟩
    · rw [List.getElem?_set_ne hj] at e
      obtain ⟨v, h1, h2⟩ := S.slot j l1 e
      refine ⟨v, h1, ?_⟩
      have nea : isOwn l1 = true → ∀ b, v = .ref b → b ≠ a := fun q b z z2 => by
        subst z2
        exact S.dist j i l1 l b (Ne.symm hj) e hi q ho (by rw [h1, z]) hv
      cases l1 with
      | ob o => exact nomatch o
      | d x => exact Rep.mono se _ _ h2
      | own xs =>
        obtain ⟨b, vs, q1, q2, q3, q4, q5⟩ := h2
        exact ⟨b, vs, q1, q2, q3, by rw [upd_ne (nea rfl b q1)]; exact q4, Rep.monoAll se _ _ q5⟩
      | dic kvs =>
        obtain ⟨b, vs, q1, q2, q3, q4, q6, q5⟩ := h2
        exact ⟨b, vs, q1, q2, q3, by rw [upd_ne (nea rfl b q1)]; exact q4, q6, Rep.monoAll se _ _ q5⟩
      | dit kvs =>
        obtain ⟨b, vs, q1, q2, q3, q4, q6, q5⟩ := h2
        exact ⟨b, vs, q1, q2, q3, by rw [upd_ne (nea rfl b q1)]; exact q4, q6, Rep.monoAll se _ _ q5⟩
      | frk kvs =>
        obtain ⟨a1, o1, ws1, z1, z2, z3, z4⟩ := h2
        exact ⟨a1, o1, ws1, z1, se _ _ z2, z3, Rep.monoAll se _ _ z4⟩
      | town => exact h2
      | twl => exact h2
      | exn e => exact h2
      | cur =>
        obtain ⟨q1, C, dx, fs, q2⟩ := h2
        refine ⟨q1, C, dx, fs, ?_⟩
        rw [upd_ne (fun z => by rw [z, k1] at q2; cases q2; cases k2)]
        exact q2
      | prk =>
        obtain ⟨q1, C, dx, fs, q2⟩ := h2
        refine ⟨q1, C, dx, fs, ?_⟩
        rw [upd_ne (fun z => by rw [z, k1] at q2; cases q2; cases k2)]
        exact q2
      | scr ns =>
        obtain ⟨b, q1, q2⟩ := h2
        exact ⟨b, q1, sqL_mono se q2⟩
  · have aux : ∀ (j : Nat) (l1 : L), (ρ.set i (some l'))[j]? = some (some l1) → isOwn l1 = true → ∃ l2, ρ[j]? = some (some l2) ∧ isOwn l2 = true := fun j l1 e o => by
      by_cases hj : i = j
      · subst hj; exact ⟨l, hi, ho⟩
      · rw [List.getElem?_set_ne hj] at e; exact ⟨l1, e, o⟩
    obtain ⟨m1, f1, p1⟩ := aux _ _ e1 o1
    obtain ⟨m2, f2, p2⟩ := aux _ _ e2 o2
    exact S.dist j k m1 m2 b hjk f1 f2 p1 p2 s1 s2
/-- the town grows -/
theorem SR.grow (S : SR K c σ H ρ n) (hn : n % 33554432 < 16777216) : Gx c H (n + 1) (upd H c.t (zer (n + 1))) := by
  refine ⟨⟨fun b o h ne _ => by rw [upd_ne ne]; exact h, fun b o h hk => ⟨o, by rw [upd_ne (fun z => by rw [z, S.town] at h; cases h; cases hk)]; exact h, hk⟩, fun b C dx fs h => ⟨fs, by rw [upd_ne (fun z => by rw [z, S.town] at h; cases h)]; exact h⟩⟩, upd_same, ?_⟩
  have := S.cur
  rw [S.rk] at this ⊢
  refine this.keep (fun b u q z => ?_) (.refl _) (cq_up (k := 1) (by omega)) (pq_up (k := 1) (by omega))
  rw [upd_ne (fun e => ?_)]
  · exact q
  · rw [e, S.town] at q
    cases q
    rcases z with z | z <;> cases z
end

/-! ### the rules -/
def sNx : MS := fun ρ n => .nx ρ n
def sSeq (f g : MS) : MS := fun ρ n => match f ρ n with
  | .nx ρ1 n1 => g ρ1 n1
  | o => o
def sDrop (g : M D) : MS := fun ρ n => ofR (g ρ n) ρ fun _ n1 => .nx ρ n1
def sRet (g : M D) : MS := fun ρ n => ofR (g ρ n) ρ fun d n1 => .rt d n1
def sRetN : MS := fun _ n => .rt .none n
def sSet (i : Nat) (g : M D) : MS := fun ρ n => ofR (g ρ n) ρ fun d n1 => if i < ρ.length then .nx (ρ.set i (some (.d d))) n1 else .bad
def sOwn (i : Nat) (g : M (List D)) : MS := fun ρ n => ofR (g ρ n) ρ fun ds n1 => if i < ρ.length then .nx (ρ.set i (some (.own ds))) n1 else .bad
def sIf (f : M Bool) (g h : MS) : MS := fun ρ n => ofR (f ρ n) ρ fun k n1 => if k = true then g ρ n1 else h ρ n1
def sBk : MS := fun ρ n => .bk ρ n
def sCt : MS := fun ρ n => .ct ρ n
def sBad : MS := fun _ _ => .bad
def sApp (i : Nat) (g : M D) : MS := fun ρ n => match ρ[i]? with
  | some (some (.own xs)) => ofR (g ρ n) ρ fun d n1 => if xs.length < sizeLine then .nx (ρ.set i (some (.own (xs ++ [d])))) n1 else .bad
  | _ => .bad
def sTown (i : Nat) : MS := fun ρ n => match ρ[i]? with
  | some (some .town) => if n % 33554432 < sizeLine then .nx ρ (n + 1) else .bad
  | _ => .bad
def sExt (i : Nat) (g : M D) : MS := fun ρ n => match ρ[i]? with
  | some (some (.own xs)) => ofR (g ρ n) ρ fun d n1 => match d with
    | .list ys => if xs.length + ys.length ≤ sizeLine then .nx (ρ.set i (some (.own (xs ++ ys)))) n1 else .bad
    | _ => .bad
  | _ => .bad
def sPut (i : Nat) (gi g : M D) : MS := fun ρ n => match ρ[i]? with
  | some (some (.own xs)) => ofR (g ρ n) ρ fun d n1 => ofR (gi ρ n1) ρ fun z n2 => match z with
    | .int k => match ixN xs.length k with
      | some j => .nx (ρ.set i (some (.own (xs.set j d)))) n2
      | none => .bad
    | _ => .bad
  | _ => .bad
def sPop (i : Nat) : MS := fun ρ n => match ρ[i]? with
  | some (some (.own xs)) => if xs = [] then .bad else .nx (ρ.set i (some (.own xs.dropLast))) n
  | _ => .bad

section
variable {X : Cx} {ca : String → Addr} {W : WX} {a b e : Expr} {st : Stmt} {rest sts : List Stmt} {ga gb g : M D} {f h : MS} {pos : Pos}
theorem ss_nil : PSs X [] (tS X.K ca W sNx) := PSs.weak pss_nil fun E σ H ⟨c, ρ, n, S, h⟩ => h σ H c.B S Sees.refl
theorem ss_cons (h1 : PS X st (tS X.K ca W f)) (h2 : PSs X rest (tS X.K ca W h)) : PSs X (st :: rest) (tS X.K ca W (sSeq f h)) :=
  PSs.weak (pss_cons h1 h2) fun E σ H ⟨c, ρ, n, S, h⟩ => by
    refine ⟨c, ρ, n, S, ?_⟩
    unfold sSeq at h
    cases q : f ρ n with
    | nx ρ1 n1 =>
      rw [q] at h
      exact fun σ' H' B' S' s => ⟨c.at B', ρ1, n1, S', h.at s⟩
    | _ => rw [q] at h; exact h
theorem ss_one (h1 : PS X st (tS X.K ca W f)) : PSs X [st] (tS X.K ca W f) := pss_one h1
theorem es_pass : PS X (.Pass pos) (tS X.K ca W sNx) := PS.weak ps_pass fun E σ H ⟨c, ρ, n, S, h⟩ => h σ H c.B S Sees.refl
theorem es_break : PS X (.Break pos) (tS X.K ca W sBk) := PS.weak ps_break fun E σ H ⟨c, ρ, n, S, h⟩ => h σ H c.B S Sees.refl
theorem es_continue : PS X (.Continue pos) (tS X.K ca W sCt) := PS.weak ps_continue fun E σ H ⟨c, ρ, n, S, h⟩ => h σ H c.B S Sees.refl
theorem es_never : PS X st (tS X.K ca W sBad) := PS.weak ps_never fun E σ H ⟨c, ρ, n, S, h⟩ => h
theorem es_doc {x : Str} {j : Nat} {p2 : Pos} : PS X (.Expr (.Constant (.str x) j p2) pos) (tS X.K ca W sNx) := PS.weak ps_doc fun E σ H ⟨c, ρ, n, S, h⟩ => h σ H c.B S Sees.refl
theorem es_drop (he : PE X e (tG X.K ca W g)) (hs : swapsWith e none pos.line X.env = pure false := by rfl) : PS X (.Expr e pos) (tS X.K ca W (sDrop g)) :=
  PS.weak (ps_expr he hs) fun E σ H ⟨c, ρ, n, S, h⟩ => ⟨c, ρ, n, S, (post_ofR S h).mono (fun d n1 h1 v H1 g1 r1 => h1 σ H1 c.B (S.ext g1) (g1.sees S.tB')) (fun e m h => h)⟩
theorem es_ret (he : PE X e (tG X.K ca W g)) : PS X (.Return (some e) pos) (tS X.K ca W (sRet g)) :=
  PS.weak (ps_ret he) fun E σ H ⟨c, ρ, n, S, h⟩ => ⟨c, ρ, n, S, (post_ofR S h).mono (fun d n1 h1 v H1 g1 r1 => h1 v H1 (S.ext g1).gr (Rep.mono (fun a o q => by
    obtain ⟨q1, q2⟩ := hid_some q
    exact hid_of (fun z => q1 (S.sub a z)) q2) _ _ r1)) (fun e m h => h)⟩
theorem es_retN : PS X (.Return none pos) (tS X.K ca W sRetN) :=
  PS.weak ps_retN fun E σ H ⟨c, ρ, n, S, h⟩ => h .non H S.gr .non
theorem es_set {i : Nat} {x : Str} {pos' : Pos} (hN : X.N.Nodup) (hi : X.N[i]? = some x) (hx : Loc X.env.scope x) (he : PE X e (tG X.K ca W g)) (hs : swapsWith e (some (.Name x pos')) pos.line X.env = pure false := by rfl) (hf : X.fn x = true ∨ X.env.scope.names.lookup x = some .local := by first | exact .inl rfl | exact .inr rfl | assumption) :
    PS X (.Assign [.Name x pos'] e pos) (tS X.K ca W (sSet i g)) :=
  PS.weak (ps_set hN hi hx he hs hf) fun E σ H ⟨c, ρ, n, S, h⟩ => ⟨c, ρ, n, S, (post_ofR S h).mono (fun d n1 h1 v H1 g1 r1 => by
    split at h1
    · rename_i hlt
      exact h1 _ H1 c.B ((S.ext g1).set_d hlt r1) (g1.sees S.tB')
    · exact h1.elim) (fun e m h => h)⟩
theorem own_post {i : Nat} {c : Fm} {σ : L2.St} {H H1 : Hp} {ρ : Env} {n n1 : Nat} {K : PySem.W.Frag} {ds : List D} {E : Ends} {a : Addr} {vs : List V} (S : SR K c σ H ρ n)
    (h1 : OPost K ca W c H (if i < ρ.length then .nx (ρ.set i (some (.own ds))) n1 else .bad) E) (g1 : Gx c H n1 H1) (hn : H a = none) (hv : H1 a = some (.lst vs)) (r1 : RepAll K (hid (a :: c.B) H1) vs ds) : E.nx (σ.set i (some (.ref a))) H1 := by
  split at h1
  · rename_i hlt
    obtain ⟨S1, se⟩ := S.adopt g1 hn hv rfl
    have h0 : c.H0 a = none := by
      cases q : c.H0 a with
      | none => rfl
      | some o => exact absurd hn (S.keep.all (by rw [S.town]; simp) (by rw [q]; simp))
    exact h1 _ H1 (a :: c.B) (S1.set_ix hlt ⟨a, vs, rfl, List.mem_cons_self, h0, hv, r1⟩ fun _ j l' b hj ej oj sj z => by
      cases z
      obtain ⟨v, q1, q2⟩ := S.slot j l' ej
      rw [sj] at q1
      cases q1
      cases l' with
      | own xs => obtain ⟨b, _, z, _, _, z4, _⟩ := q2; cases z; rw [hn] at z4; cases z4
      | dic xs => obtain ⟨b, _, z, _, _, z4, _⟩ := q2; cases z; rw [hn] at z4; cases z4
      | dit xs => obtain ⟨b, _, z, _, _, z4, _⟩ := q2; cases z; rw [hn] at z4; cases z4
      | ob o => exact nomatch o
      | _ => cases oj) se
  · exact h1.elim
end
end G

namespace G
open PySem PySem.Spec PyProof.Rows L2

/-! ### data without lists -/
mutual
def noList : D → Bool
  | .none => true
  | .bool _ => true
  | .int _ => true
  | .str _ => true
  | .list _ => false
  | .tuple xs => noListA xs
  | .dict _ => false
def noListA : List D → Bool
  | [] => true
  | x :: xs => noList x && noListA xs
end
/-- such data are seen whatever lists are banned -/
def TupSees (H H' : Hp) : Prop := ∀ a, (∀ xs, H a = some (.tup xs) → H' a = some (.tup xs)) ∧ ∀ o xs, H a = some (.frz o (.tup xs)) → H' a = some (.frz o (.tup xs))
theorem sqT_tup {K : PySem.W.Frag} {H H' : Hp} {a : Addr} {xs : List V} (e : TupSees H H') (h : PlT K H a xs) : PlT K H' a xs := by
  rcases h with ⟨o, h, z⟩ | h
  · exact .inl ⟨o, (e a).2 _ _ h, z⟩
  · exact .inr h
section
variable {K : PySem.W.Frag} {H H' : Hp}
mutual
theorem Rep.noList (e : TupSees H H') : ∀ (d : D) (v : V), G.noList d = true → Rep K H v d → Rep K H' v d
  | .none, _, _, h => by cases h; exact .non
  | .bool b, _, _, h => by cases h; exact .bl b
  | .int i, _, _, h => by cases h; exact .int i
  | .str x, _, _, h => by cases h; exact .str x
  | .list ds, _, z, h => by simp [G.noList] at z
  | .tuple ds, _, z, h => by
    cases h with
    | tup h1 h2 => exact .tup (sqT_tup e h1) (Rep.noListA e ds _ (by simpa [G.noList] using z) h2)
  | .dict _, _, z, h => by cases h
theorem Rep.noListA (e : TupSees H H') : ∀ (ds : List D) (vs : List V), G.noListA ds = true → RepAll K H vs ds → RepAll K H' vs ds
  | [], _, _, h => by cases h; exact .nil
  | d :: ds, _, z, h => by
    cases h with
    | cons h1 h2 =>
      have z' : G.noList d = true ∧ G.noListA ds = true := by simpa [G.noListA] using z
      exact .cons (Rep.noList e d _ z'.1 h1) (Rep.noListA e ds _ z'.2 h2)
end
end
theorem tupSees_hid {B B' : List Addr} {a : Addr} {H : Hp} {vs : List V} (ha : H a = some (.lst vs)) (h : ∀ b, b ≠ a → b ∉ B' → b ∉ B) : TupSees (hid B' H) (hid B H) := fun b => by
  refine ⟨fun xs q => ?_, fun o xs q => ?_⟩
  · obtain ⟨q1, q2⟩ := hid_some q
    exact hid_of (h b (fun z => by rw [z, ha] at q2; cases q2) q1) q2
  · obtain ⟨q1, q2⟩ := hid_some q
    exact hid_of (h b (fun z => by rw [z, ha] at q2; cases q2) q1) q2

/-! ### an own list lent, given away -/
def lend (B : List Addr) (a : Addr) : List Addr := B.filter fun b => decide (b ≠ a)
theorem mem_lend {B : List Addr} {a b : Addr} : b ∈ lend B a ↔ b ∈ B ∧ b ≠ a := by simp [lend]
section
variable {K : PySem.W.Frag} {ca : String → Addr} {W : WX} {c : Fm} {σ : L2.St} {H H' : Hp} {ρ : Env} {n n' : Nat}
theorem cuOf_mem : ∀ {B : List Addr}, B ≠ [] → cuOf B ∈ B
  | [], h => absurd rfl h
  | [a], _ => by simp [cuOf]
  | _ :: b :: r, _ => List.mem_cons_of_mem _ (cuOf_mem (B := b :: r) (by simp))
theorem cuOf_lend {a : Addr} : ∀ {B : List Addr}, B ≠ [] → a ≠ cuOf B → cuOf (G.lend B a) = cuOf B
  | [], h, _ => absurd rfl h
  | [x], _, h => by
    have : x ≠ a := fun e => h e.symm
    simp [G.lend, this]
  | x :: y :: r, _, h => by
    have ih := cuOf_lend (a := a) (B := y :: r) (by simp) h
    have hm : cuOf (y :: r) ∈ G.lend (y :: r) a := mem_lend.mpr ⟨cuOf_mem (by simp), fun e => h e.symm⟩
    have hne : G.lend (y :: r) a ≠ [] := fun z => by rw [z] at hm; cases hm
    show _ = cuOf (y :: r)
    rw [← ih]
    by_cases hx : x = a
    · have e : G.lend (x :: y :: r) a = G.lend (y :: r) a := by
        show List.filter _ _ = List.filter _ _
        rw [List.filter_cons_of_neg (by simpa using hx)]
      rw [e]
    · have e : G.lend (x :: y :: r) a = x :: G.lend (y :: r) a := by
        show List.filter _ _ = _ :: List.filter _ _
        rw [List.filter_cons_of_pos (by simpa using hx)]
      rw [e, cuOf_cons hne]
theorem pkOf_lend {a : Addr} : ∀ {B : List Addr}, Two B → a ≠ cuOf B → a ≠ pkOf B → pkOf (G.lend B a) = pkOf B ∧ Two (G.lend B a)
  | [], h, _, _ => by unfold Two at h; simp at h
  | [_], h, _, _ => by unfold Two at h; simp at h
  | [x, y], _, h, h' => by
    have h1 : y ≠ a := fun e => h e.symm
    have h2 : x ≠ a := fun e => h' e.symm
    have e : G.lend [x, y] a = [x, y] := by simp [G.lend, h1, h2]
    rw [e]
    exact ⟨rfl, by unfold Two; simp⟩
  | x :: y :: z :: r, _, h, h' => by
    obtain ⟨ih, it⟩ := pkOf_lend (a := a) (B := y :: z :: r) (by unfold Two; simp) h h'
    show pkOf _ = pkOf (y :: z :: r) ∧ _
    by_cases hx : x = a
    · have e : G.lend (x :: y :: z :: r) a = G.lend (y :: z :: r) a := by
        show List.filter _ _ = List.filter _ _
        rw [List.filter_cons_of_neg (by simpa using hx)]
      rw [e]
      exact ⟨ih, it⟩
    · have e : G.lend (x :: y :: z :: r) a = x :: G.lend (y :: z :: r) a := by
        show List.filter _ _ = _ :: List.filter _ _
        rw [List.filter_cons_of_pos (by simpa using hx)]
      rw [e]
      exact ⟨(pkOf_cons it).trans ih, it.cons⟩
theorem SR.cu_ne (S : SR K c σ H ρ n) {a : Addr} {o : HO} (h0 : c.H0 a = none) (h : H a = some o) (hk : curK o = false) : a ≠ cuOf c.B := fun e => by
  rcases S.cl.1 with z | ⟨C, dx, fs, z⟩
  · exact S.old _ S.tB (by rw [← z, ← e]; exact h0)
  · rw [← e, h] at z
    cases z
    cases hk
theorem SR.pk_ne (S : SR K c σ H ρ n) {a : Addr} {o : HO} (h0 : c.H0 a = none) (h : H a = some o) (hk : curK o = false) : a ≠ pkOf c.B := fun e => by
  rcases S.cl.2 with z | ⟨C, dx, fs, z⟩
  · exact S.old _ S.tB (by rw [← z, ← e]; exact h0)
  · rw [← e, h] at z
    cases z
    cases hk
theorem SR.lend (S : SR K c σ H ρ n) {i : Nat} {xs : List D} (hi : ρ[i]? = some (some (.own xs))) :
    ∃ a vs, a ∈ c.B ∧ c.H0 a = none ∧ H a = some (.lst vs) ∧ SR K (c.at (G.lend c.B a)) σ H (ρ.set i (some (.d (.list xs)))) n ∧ Sees c.B H (G.lend c.B a) H ∧ SameC (G.lend c.B a) c.B := by
  obtain ⟨v, hv, a, vs, rfl, ha, h0, hl, hr⟩ := S.slot i _ hi
  have se : Sees c.B H (G.lend c.B a) H := fun b o q => by
    obtain ⟨q1, q2⟩ := hid_some q
    exact hid_of (fun z => q1 (mem_lend.mp z).1) q2 (hid_cur q)
  have pke := pkOf_lend S.two (S.cu_ne h0 hl rfl) (S.pk_ne h0 hl rfl)
  have cue : SameC (G.lend c.B a) c.B := ⟨cuOf_lend S.ne (S.cu_ne h0 hl rfl), pke.1⟩
  have hlt : i < ρ.length := (List.getElem?_eq_some_iff.mp hi).1
  refine ⟨a, vs, ha, h0, hl, ⟨by simp [S.len], fun b hb => mem_lend.mpr ⟨S.sub b hb, fun z => S.old b hb (z ▸ h0)⟩, S.tB, S.old, fun b hb => S.all b (mem_lend.mp hb).1, S.keep, S.town, S.rk, (S.gx.fwd S.rk cue).cur, fun b hb => S.nt b (mem_lend.mp hb).1, fun h => (S.cb h).trans cue.symm, (by
    have := S.cl
    unfold CuIn at this ⊢
    rw [show (c.at (G.lend c.B a)).B = G.lend c.B a from rfl, cue.1, cue.2]
    exact this), pke.2, fun xy h => (S.pin xy h).trans (by rw [show (c.at (G.lend c.B a)).B = G.lend c.B a from rfl, cue.1, cue.2]), fun j l e => ?_, fun j k l1 l2 b hjk e1 e2 o1 o2 s1 s2 => ?_⟩, se, cue⟩
  · by_cases hj : i = j
    · subst hj
      rw [List.getElem?_set_self hlt] at e
      cases e
      refine ⟨_, hv, Rep.lst (hid_of (fun z => (mem_lend.mp z).2 rfl) hl) (Rep.monoAll se _ _ hr)⟩
    · rw [List.getElem?_set_ne hj] at e
      obtain ⟨v, q1, q2⟩ := S.slot j l e
      refine ⟨v, q1, ?_⟩
      have ne : ∀ b, isOwn l = true → v = .ref b → b ≠ a := fun b o z z2 => by
        subst z2
        exact S.dist j i l _ b (Ne.symm hj) e hi o rfl (by rw [q1, z]) hv
      cases l with
      | ob o => exact nomatch o
      | twl => exact q2
      | exn e => exact q2
      | cur =>
        show v = .ref (cuOf (G.lend c.B a)) ∧ ∃ C dx fs, H (cuOf (G.lend c.B a)) = some (.ins C dx fs)
        rw [cue.1]
        exact q2
      | prk =>
        show v = .ref (pkOf (G.lend c.B a)) ∧ ∃ C dx fs, H (pkOf (G.lend c.B a)) = some (.ins C dx fs)
        rw [cue.2]
        exact q2
      | d x => exact Rep.mono se _ _ q2
      | own ys =>
        obtain ⟨b, ws, z, z2, z3, z4, z5⟩ := q2
        exact ⟨b, ws, z, mem_lend.mpr ⟨z2, ne b rfl z⟩, z3, z4, Rep.monoAll se _ _ z5⟩
      | dic ys =>
        obtain ⟨b, ws, z, z2, z3, z4, z6, z5⟩ := q2
        exact ⟨b, ws, z, mem_lend.mpr ⟨z2, ne b rfl z⟩, z3, z4, z6, Rep.monoAll se _ _ z5⟩
      | dit ys =>
        obtain ⟨b, ws, z, z2, z3, z4, z6, z5⟩ := q2
        exact ⟨b, ws, z, mem_lend.mpr ⟨z2, ne b rfl z⟩, z3, z4, z6, Rep.monoAll se _ _ z5⟩
      | frk kvs =>
        obtain ⟨a1, o1, ws1, z1, z2, z3, z4⟩ := q2
        exact ⟨a1, o1, ws1, z1, se _ _ z2, z3, Rep.monoAll se _ _ z4⟩
      | town => exact q2
      | scr ns =>
        obtain ⟨b, z1, z2⟩ := q2
        exact ⟨b, z1, sqL_mono se z2⟩
  · have aux : ∀ (j : Nat) (l1 : L), (ρ.set i (some (.d (.list xs))))[j]? = some (some l1) → isOwn l1 = true → ρ[j]? = some (some l1) := fun j l1 e o => by
      by_cases hj : i = j
      · subst hj; rw [List.getElem?_set_self hlt] at e; cases e; cases o
      · rw [List.getElem?_set_ne hj] at e; exact e
    exact S.dist j k l1 l2 b hjk (aux _ _ e1 o1) (aux _ _ e2 o2) o1 o2 s1 s2
def bor {α : Type} (i : Nat) (g : M α) (k : α → Bool) : M α := fun ρ n => match ρ[i]? with
  | some (some (.own xs)) => (g (ρ.set i (some (.d (.list xs)))) n).bind fun d n1 => if k d = true then .ok d n1 else .bad
  | _ => .bad
def borrow (i : Nat) (g : M D) : M D := bor i g noList
def borrowF (i : Nat) (g : M (List D)) : M (List D) := bor i g noListA
def borrowT (i : Nat) (g : M Bool) : M Bool := bor i g fun _ => true
theorem bor_post {α : Type} {i : Nat} {g : M α} {k : α → Bool} {P : α → Nat → Prop} {E : String → Nat → Prop} (h : (bor i g k ρ n).Post P E) :
    ∃ xs, ρ[i]? = some (some (.own xs)) ∧ (g (ρ.set i (some (.d (.list xs)))) n).Post (fun d n' => k d = true ∧ P d n') E := by
  unfold bor at h
  split at h
  · rename_i xs q
    refine ⟨xs, q, (Res.post_bind h).mono (fun d n1 h1 => ?_) (fun e m h => h)⟩
    split at h1
    · exact ⟨by assumption, h1⟩
    · exact h1.elim
  · exact h.elim
end
section
variable {X : Cx} {ca : String → Addr} {W : WX} {a b e : Expr} {st : Stmt} {sts : List Stmt} {ga gb g : M D} {gf : M (List D)} {f h : MS} {pos : Pos}
theorem ev_borrow (i : Nat) (he : PE X e (tG X.K ca W g)) : PE X e (tG X.K ca W (borrow i g)) :=
  PE.weak he fun σ H Q ⟨c, ρ, n, S, h⟩ => by
    obtain ⟨xs, hi, h⟩ := bor_post h
    obtain ⟨a, vs, ha, h0, hl, S', se, cue⟩ := S.lend hi
    refine ⟨_, _, n, S', h.mono (fun d n1 ⟨hk, h1⟩ v H1 g1 r1 => h1 v H1 (g1.back S.rk cue) ?_) (fun e m h H2 g2 => h H2 (g2.back S.rk cue))⟩
    have hl1 : H1 a = some (.lst vs) := g1.ext.to a _ hl (fun z => S.old _ S.tB (z ▸ h0)) rfl
    exact Rep.noList (tupSees_hid hl1 fun b nb hb z => hb (mem_lend.mpr ⟨z, nb⟩)) _ _ hk r1
theorem et_borrow (i : Nat) {g : M Bool} (he : PT X e (tGT X.K ca W g)) : PT X e (tGT X.K ca W (borrowT i g)) :=
  PT.weak he fun σ H Q ⟨c, ρ, n, S, h⟩ => by
    obtain ⟨xs, hi, h⟩ := bor_post h
    obtain ⟨a, vs, ha, h0, hl, S', se, cue⟩ := S.lend hi
    exact ⟨_, _, n, S', h.mono (fun d n1 ⟨hk, h1⟩ H1 g1 => h1 H1 (g1.back S.rk cue)) (fun e m h H2 g2 => h H2 (g2.back S.rk cue))⟩
theorem ef_borrow (i : Nat) (he : PE X e (tGF X.K ca W gf)) : PE X e (tGF X.K ca W (borrowF i gf)) :=
  PE.weak he fun σ H Q ⟨c, ρ, n, S, h⟩ => by
    obtain ⟨xs, hi, h⟩ := bor_post h
    obtain ⟨a, vs, ha, h0, hl, S', se, cue⟩ := S.lend hi
    refine ⟨_, _, n, S', h.mono (fun d n1 ⟨hk, h1⟩ p ws H1 g1 hp hw r1 => h1 p ws H1 (g1.back S.rk cue) hp hw ?_) (fun e m h H2 g2 => h H2 (g2.back S.rk cue))⟩
    have hl1 : H1 a = some (.lst vs) := g1.ext.to a _ hl (fun z => S.old _ S.tB (z ▸ h0)) rfl
    refine Rep.noListA (tupSees_hid hl1 fun b nb hb z => ?_) _ _ hk r1
    rcases List.mem_cons.mp z with z | z
    · exact hb (List.mem_cons.mpr (.inl z))
    · exact hb (List.mem_cons_of_mem _ (mem_lend.mpr ⟨z, nb⟩))
/-- from here on slot i's list is data -/
def sRel (i : Nat) (f : MS) : MS := fun ρ n => match ρ[i]? with
  | some (some (.own xs)) => f (ρ.set i (some (.d (.list xs)))) n
  | some (some (.d x)) => f ρ n
  | _ => .bad
theorem rel_weak {K : PySem.W.Frag} {i : Nat} {f : MS} {E : Ends} {σ : L2.St} {H : Hp} (h : tS K ca W (sRel i f) E σ H) : tS K ca W f E σ H := by
  obtain ⟨c, ρ, n, S, h⟩ := h
  unfold sRel at h
  split at h
  · rename_i xs hi
    obtain ⟨a, vs, ha, h0, hl, S', se, cue⟩ := S.lend hi
    exact ⟨_, _, n, S', h.at se⟩
  · exact ⟨c, ρ, n, S, h⟩
  · exact h.elim
theorem ss_rel (i : Nat) (hs : PSs X sts (tS X.K ca W f)) : PSs X sts (tS X.K ca W (sRel i f)) := PSs.weak hs fun _ _ _ h => rel_weak h
theorem es_rel (i : Nat) (hs : PS X st (tS X.K ca W f)) : PS X st (tS X.K ca W (sRel i f)) := PS.weak hs fun _ _ _ h => rel_weak h

/-! ### own lists -/
theorem es_own {i : Nat} {x : Str} {pos' : Pos} (hN : X.N.Nodup) (hi : X.N[i]? = some x) (hx : Loc X.env.scope x) (he : PE X e (tGF X.K ca W gf)) (hs : swapsWith e (some (.Name x pos')) pos.line X.env = pure false := by rfl) (hf : X.fn x = true ∨ X.env.scope.names.lookup x = some .local := by first | exact .inl rfl | exact .inr rfl | assumption) :
    PS X (.Assign [.Name x pos'] e pos) (tS X.K ca W (sOwn i gf)) :=
  PS.weak (ps_set hN hi hx he hs hf) fun E σ H ⟨c, ρ, n, S, h⟩ => ⟨c, ρ, n, S, (post_ofR S h).mono (fun ds n1 h1 a vs H1 g1 hn hv r1 => own_post S h1 g1 hn hv r1) (fun e m h => h)⟩
abbrev tMut (i : Nat) (r : V → List V → Hp → VK → Prop) (K : PySem.W.Frag) (t : TA) : TE := tBM K "list" r (tVar i) t
theorem es_app {i : Nat} {x : Str} {p1 apos cpos : Pos} (he : PE X e (tG X.K ca W g)) (hN : X.N[i]? = some x := by rfl) (hv : Vis X.env.scope x := by first | exact Or.inl rfl | exact Or.inr (Or.inl rfl) | exact Or.inr (Or.inr rfl)) (hd : (x == ("__debug__" : Str)) = false := by decide)
    (hcd : (x == ("__classdict__" : Str)) = false := by decide)
    (hfew : ((backTo cpos (starEach [e] X.env)).all (fun x => !x.1) && (backToKw cpos (keywordEach [] X.env)).all (fun x => x.1.isSome)
      && decide ([e].length + ([] : List Keyword).length + (if ([] : List Keyword).isEmpty then 0 else 1) < 30)) = true := by rfl)
    (hline : (apos.endLine == cpos.line) = true := by rfl) (hs : starEach [e] X.env = (false, eval e X.env) :: starEach [] X.env := by rfl) (hplain : (backTo cpos (starEach [] X.env)).any (·.1) = false := by rfl)
    (hbase : attributeBase (.Name x p1) "append" X.env (eval (.Name x p1) X.env) = eval (.Name x p1) X.env := by rfl)
    (hsw : swapsWith (.Call (.Attribute (.Name x p1) "append" apos) [e] [] cpos) none pos.line X.env = pure false := by rfl) :
    PS X (.Expr (.Call (.Attribute (.Name x p1) "append" apos) [e] [] cpos) pos) (tS X.K ca W (sApp i g)) :=
  PS.weak (ps_expr (pe_bm PySem.F.plainAttrs_list PySem.F.slot_list_append PySem.F.type_list_append mt_append (pe_var hN hv hd hcd) (pa_cons he pa_nil hs) hbase hfew hline hs hplain) hsw) fun E σ H ⟨c, ρ, n, S, h⟩ => by
    unfold sApp at h
    split at h
    · rename_i xs q
      obtain ⟨v, hσ, a, vs, rfl, ha, h0, hl, hr⟩ := S.slot i _ q
      refine ⟨_, hσ, .inl ⟨rfl, _, .inl (.inl hl)⟩, c, ρ, n, S, (post_ofR S h).mono (fun d n1 h1 w H1 g1 r1 => ?_) (fun e m h => h)⟩
      have S1 := S.ext g1
      have hl1 : H1 a = some (.lst vs) := g1.ext.to a _ hl (fun z => S.old _ S.tB (z ▸ h0)) rfl
      split at h1
      · rename_i hz
        have hr1 := Rep.monoAll (g1.sees S.tB') _ _ hr
        refine ⟨a, vs, w, rfl, rfl, hl1, by rw [hr.length]; exact hz, ?_⟩
        have se : ∀ b o, hid c.B H1 b = some o → hid c.B (upd H1 a (.lst (vs ++ [w]))) b = some o := fun b o z => by
          obtain ⟨z1, z2⟩ := hid_some z
          have ne : b ≠ a := fun z => z1 (by rw [z]; exact ha)
          exact hid_of z1 (by rw [upd_ne ne]; exact z2)
        obtain ⟨S2, s2⟩ := S1.put (l' := .own (xs ++ [d])) (o := .lst (vs ++ [w])) q rfl rfl hσ ha h0 ⟨a, vs ++ [w], rfl, ha, h0, upd_same, (Rep.monoAll se _ _ hr1).append (.cons (Rep.mono se _ _ r1) .nil)⟩
        exact h1 σ _ c.B S2 ((g1.sees S.tB').trans s2)
      · exact h1.elim
    · exact h.elim
theorem es_town {i : Nat} {x : Str} {j : Nat} {p0 p1 apos cpos : Pos} (hN : X.N[i]? = some x := by rfl) (hv : Vis X.env.scope x := by first | exact Or.inl rfl | exact Or.inr (Or.inl rfl) | exact Or.inr (Or.inr rfl)) (hd : (x == ("__debug__" : Str)) = false := by decide)
    (hcd : (x == ("__classdict__" : Str)) = false := by decide)
    (hfew : ((backTo cpos (starEach [(.Constant (.int 0) j p0 : Expr)] X.env)).all (fun x => !x.1) && (backToKw cpos (keywordEach [] X.env)).all (fun x => x.1.isSome)
      && decide ([(.Constant (.int 0) j p0 : Expr)].length + ([] : List Keyword).length + (if ([] : List Keyword).isEmpty then 0 else 1) < 30)) = true := by rfl)
    (hline : (apos.endLine == cpos.line) = true := by rfl) (hs : starEach [(.Constant (.int 0) j p0 : Expr)] X.env = (false, eval (.Constant (.int 0) j p0) X.env) :: starEach [] X.env := by rfl) (hplain : (backTo cpos (starEach [] X.env)).any (·.1) = false := by rfl)
    (hbase : attributeBase (.Name x p1) "append" X.env (eval (.Name x p1) X.env) = eval (.Name x p1) X.env := by rfl)
    (hsw : swapsWith (.Call (.Attribute (.Name x p1) "append" apos) [(.Constant (.int 0) j p0 : Expr)] [] cpos) none pos.line X.env = pure false := by rfl) :
    PS X (.Expr (.Call (.Attribute (.Name x p1) "append" apos) [(.Constant (.int 0) j p0 : Expr)] [] cpos) pos) (tS X.K ca W (sTown i)) :=
  PS.weak (ps_expr (pe_bm PySem.F.plainAttrs_list PySem.F.slot_list_append PySem.F.type_list_append mt_append (pe_var hN hv hd hcd) (pa_cons pe_int pa_nil hs) hbase hfew hline hs hplain) hsw) fun E σ H ⟨c, ρ, n, S, h⟩ => by
    unfold sTown at h
    split at h
    · rename_i q
      obtain ⟨v, hσ, rfl⟩ := S.slot i _ q
      split at h
      · rename_i hz
        refine ⟨_, hσ, .inl ⟨rfl, _, .inl (.inl S.town)⟩, c.t, _, .int 0, rfl, rfl, S.town, by rw [List.length_replicate]; exact hz, ?_⟩
        have hz2 : n % 33554432 < 16777216 := by rw [sizeLine_eq] at hz; exact hz
        have e : HO.lst (List.replicate (n % 33554432) (V.int 0) ++ [V.int 0]) = zer (n + 1) := by
          unfold zer
          rw [up_mod (k := 1) (by omega), ← List.replicate_succ']
        rw [e]
        have g := S.grow hz2
        exact h σ _ c.B (S.ext g) (g.sees S.tB')
      · exact h.elim
    · exact h.elim
theorem es_ext {i : Nat} {x : Str} {p1 apos cpos : Pos} (he : PE X e (tG X.K ca W g)) (hN : X.N[i]? = some x := by rfl) (hv : Vis X.env.scope x := by first | exact Or.inl rfl | exact Or.inr (Or.inl rfl) | exact Or.inr (Or.inr rfl)) (hd : (x == ("__debug__" : Str)) = false := by decide)
    (hcd : (x == ("__classdict__" : Str)) = false := by decide)
    (hfew : ((backTo cpos (starEach [e] X.env)).all (fun x => !x.1) && (backToKw cpos (keywordEach [] X.env)).all (fun x => x.1.isSome)
      && decide ([e].length + ([] : List Keyword).length + (if ([] : List Keyword).isEmpty then 0 else 1) < 30)) = true := by rfl)
    (hline : (apos.endLine == cpos.line) = true := by rfl) (hs : starEach [e] X.env = (false, eval e X.env) :: starEach [] X.env := by rfl) (hplain : (backTo cpos (starEach [] X.env)).any (·.1) = false := by rfl)
    (hbase : attributeBase (.Name x p1) "extend" X.env (eval (.Name x p1) X.env) = eval (.Name x p1) X.env := by rfl)
    (hsw : swapsWith (.Call (.Attribute (.Name x p1) "extend" apos) [e] [] cpos) none pos.line X.env = pure false := by rfl) :
    PS X (.Expr (.Call (.Attribute (.Name x p1) "extend" apos) [e] [] cpos) pos) (tS X.K ca W (sExt i g)) :=
  PS.weak (ps_expr (pe_bm PySem.F.plainAttrs_list PySem.F.slot_list_extend PySem.F.type_list_extend mt_extend (pe_var hN hv hd hcd) (pa_cons he pa_nil hs) hbase hfew hline hs hplain) hsw) fun E σ H ⟨c, ρ, n, S, h⟩ => by
    unfold sExt at h
    split at h
    · rename_i xs q
      obtain ⟨v, hσ, a, vs, rfl, ha, h0, hl, hr⟩ := S.slot i _ q
      refine ⟨_, hσ, .inl ⟨rfl, _, .inl (.inl hl)⟩, c, ρ, n, S, (post_ofR S h).mono (fun d n1 h1 w H1 g1 r1 => ?_) (fun e m h => h)⟩
      have S1 := S.ext g1
      have hl1 : H1 a = some (.lst vs) := g1.ext.to a _ hl (fun z => S.old _ S.tB (z ▸ h0)) rfl
      split at h1
      · rename_i ys
        split at h1
        · rename_i hz
          cases r1 with
          | @lst b ws _ k1 k2 =>
            have hr1 := Rep.monoAll (g1.sees S.tB') _ _ hr
            refine ⟨a, b, vs, ws, rfl, rfl, hl1, hid_sub k1, by rw [hr.length, k2.length]; exact hz, ?_⟩
            have se : ∀ b o, hid c.B H1 b = some o → hid c.B (upd H1 a (.lst (vs ++ ws))) b = some o := fun b o z => by
              obtain ⟨z1, z2⟩ := hid_some z
              have ne : b ≠ a := fun z => z1 (by rw [z]; exact ha)
              exact hid_of z1 (by rw [upd_ne ne]; exact z2)
            obtain ⟨S2, s2⟩ := S1.put (l' := .own (xs ++ ys)) (o := .lst (vs ++ ws)) q rfl rfl hσ ha h0 ⟨a, vs ++ ws, rfl, ha, h0, upd_same, (Rep.monoAll se _ _ hr1).append (Rep.monoAll se _ _ k2)⟩
            exact h1 σ _ c.B S2 ((g1.sees S.tB').trans s2)
        · exact h1.elim
      · exact h1.elim
    · exact h.elim
theorem repAll_dropLast {K : PySem.W.Frag} {H : Hp} {vs : List V} {ds : List D} (r : RepAll K H vs ds) : RepAll K H vs.dropLast ds.dropLast := by
  rw [List.dropLast_eq_take, List.dropLast_eq_take, r.length]
  exact r.take _
theorem es_pop {i : Nat} {x : Str} {p1 apos cpos : Pos} (hN : X.N[i]? = some x := by rfl) (hv : Vis X.env.scope x := by first | exact Or.inl rfl | exact Or.inr (Or.inl rfl) | exact Or.inr (Or.inr rfl)) (hd : (x == ("__debug__" : Str)) = false := by decide)
    (hcd : (x == ("__classdict__" : Str)) = false := by decide)
    (hline : (apos.endLine == cpos.line) = true := by rfl)
    (hbase : attributeBase (.Name x p1) "pop" X.env (eval (.Name x p1) X.env) = eval (.Name x p1) X.env := by rfl)
    (hsw : swapsWith (.Call (.Attribute (.Name x p1) "pop" apos) [] [] cpos) none pos.line X.env = pure false := by rfl) :
    PS X (.Expr (.Call (.Attribute (.Name x p1) "pop" apos) [] [] cpos) pos) (tS X.K ca W (sPop i)) :=
  PS.weak (ps_expr (pe_bm0 PySem.F.plainAttrs_list PySem.F.slot_list_pop PySem.F.type_list_pop mt_pop (pe_var hN hv hd hcd) hbase hline) hsw) fun E σ H ⟨c, ρ, n, S, h⟩ => by
    unfold sPop at h
    split at h
    · rename_i xs q
      obtain ⟨v, hσ, a, vs, rfl, ha, h0, hl, hr⟩ := S.slot i _ q
      split at h
      · exact h.elim
      · rename_i hne
        have hv : vs ≠ [] := fun z => hne (by
          have := hr.length
          rw [z] at this
          exact List.eq_nil_of_length_eq_zero this.symm)
        obtain ⟨y, hy⟩ : ∃ y, vs[vs.length - 1]? = some y := ⟨_, List.getElem?_eq_getElem (by have := List.length_pos_iff.mpr hv; omega)⟩
        refine ⟨_, hσ, .inl ⟨rfl, _, .inl (.inl hl)⟩, a, vs, y, rfl, rfl, hl, hy, ?_⟩
        have se : ∀ b o, hid c.B H b = some o → hid c.B (upd H a (.lst vs.dropLast)) b = some o := fun b o z => by
          obtain ⟨z1, z2⟩ := hid_some z
          have ne : b ≠ a := fun z => z1 (by rw [z]; exact ha)
          exact hid_of z1 (by rw [upd_ne ne]; exact z2)
        obtain ⟨S2, s2⟩ := S.put (l' := .own xs.dropLast) (o := .lst vs.dropLast) q rfl rfl hσ ha h0 ⟨a, _, rfl, ha, h0, upd_same, Rep.monoAll se _ _ (repAll_dropLast hr)⟩
        exact h σ _ c.B S2 s2
    · exact h.elim
/-- x[i] = e, x an own list -/
theorem es_put {i : Nat} {x : Str} {p1 tpos : Pos} {gi : M D} {ie : Expr} (he : PE X e (tG X.K ca W g)) (hie : PE X ie (tG X.K ca W gi)) (hN : X.N[i]? = some x := by rfl) (hv : Vis X.env.scope x := by first | exact Or.inl rfl | exact Or.inr (Or.inl rfl) | exact Or.inr (Or.inr rfl)) (hd : (x == ("__debug__" : Str)) = false := by decide)
    (hcd : (x == ("__classdict__" : Str)) = false := by decide)
    (hs : swapsWithSole [.Subscript (.Name x p1) ie tpos] e pos.line X.env = pure false := by rfl) (hw : swappedStores [.Subscript (.Name x p1) ie tpos] e X.env = pure none := by rfl)
    (h1 : (assignEach [.Subscript (.Name x p1) ie tpos] X.env).map (·.2) = [assign (.Subscript (.Name x p1) ie tpos) X.env] := by rfl)
    (ha : ∀ v, assign (.Subscript (.Name x p1) ie tpos) X.env v = (do
      let ov ← holding [v] (eval (.Name x p1) X.env)
      let iv ← holding [v, ov] (eval ie X.env)
      standAt tpos
      holding [v, ov, iv] (setItem ov iv v)
      release [v, ov, iv] []) := by intro _; rfl) :
    PS X (.Assign [.Subscript (.Name x p1) ie tpos] e pos) (tS X.K ca W (sPut i gi g)) :=
  PS.weak (ps_asg he (pg_sub (pe_var hN hv hd hcd) hie set_list ha) hs hw h1) fun E σ H ⟨c, ρ, n, S, h⟩ => by
    unfold sPut at h
    split at h
    · rename_i xs q
      refine ⟨c, ρ, n, S, (post_ofR S h).mono (fun d n1 h1 w H1 g1 r1 => ?_) (fun e m h => h)⟩
      have S1 := S.ext g1
      obtain ⟨v, hσ, a, vs, rfl, ha, h0, hl, hr⟩ := S1.slot i _ q
      refine ⟨_, hσ, c, ρ, n1, S1, (post_ofR S1 (h1.at (g1.sees S.tB'))).mono (fun z n2 h2 zv H2 g2 r2 => ?_) (fun e m h => h)⟩
      have S2 := S1.ext g2
      have hl2 : H2 a = some (.lst vs) := g2.ext.to a _ hl (fun z => S.old _ S.tB (z ▸ h0)) rfl
      split at h2
      · rename_i k
        split at h2
        · rename_i j hj
          cases r2
          have hr2 := Rep.monoAll (g2.sees S.tB') _ _ hr
          refine ⟨a, vs, k, j, rfl, rfl, hl2, by rw [hr.length]; exact hj, ?_⟩
          have se : ∀ b o, hid c.B H2 b = some o → hid c.B (upd H2 a (.lst (vs.set j w))) b = some o := fun b o z => by
            obtain ⟨z1, z2⟩ := hid_some z
            have ne : b ≠ a := fun z => z1 (by rw [z]; exact ha)
            exact hid_of z1 (by rw [upd_ne ne]; exact z2)
          obtain ⟨S3, s3⟩ := S2.put (l' := .own (xs.set j d)) (o := .lst (vs.set j w)) q rfl rfl hσ ha h0 ⟨a, _, rfl, ha, h0, upd_same, RepAll.set (Rep.mono se _ _ (Rep.mono (g2.sees S.tB') _ _ r1)) j (Rep.monoAll se _ _ hr2)⟩
          exact h2 σ _ c.B S3 ((g2.sees S.tB').trans s3)
        · exact h2.elim
      · exact h2.elim
    · exact h.elim

/-! ### if, while -/
theorem es_if {cc : Expr} {as bs : List Stmt} {f : M Bool} {g h : MS} (hc : PT X cc (tGT X.K ca W f)) (ha : PSs X as (tS X.K ca W g)) (hb : PSs X bs (tS X.K ca W h)) : PS X (.If cc as bs pos) (tS X.K ca W (sIf f g h)) :=
  PS.weak (ps_if hc ha hb) fun E σ H ⟨c, ρ, n, S, h⟩ => ⟨c, ρ, n, S, (post_ofR S h).mono (fun k n1 h1 H1 g1 => by
    cases k with
    | true =>
      rw [if_pos rfl] at h1 ⊢
      exact ⟨c, ρ, n1, S.ext g1, h1.at (g1.sees S.tB')⟩
    | false =>
      rw [if_neg Bool.false_ne_true] at h1 ⊢
      exact ⟨c, ρ, n1, S.ext g1, h1.at (g1.sees S.tB')⟩) (fun e m h => h)⟩
end
end G

namespace G
open PySem PySem.Spec PyProof.Rows L2

/-! ### while -/
def whileF (f : M Bool) (g : MS) : Nat → MS
  | 0 => fun _ _ => .bad
  | k + 1 => fun ρ n => ofR (f ρ n) ρ fun b n1 => if b = true then (match g ρ n1 with
    | .nx ρ2 n2 => whileF f g k ρ2 n2
    | .ct ρ2 n2 => whileF f g k ρ2 n2
    | .bk ρ2 n2 => .nx ρ2 n2
    | o => o) else .nx ρ n1
theorem whileF_mono {f : M Bool} {g : MS} : ∀ (k j : Nat) (ρ : Env) (n : Nat), whileF f g k ρ n ≠ .bad → whileF f g (k + j) ρ n = whileF f g k ρ n
  | 0, _, _, _, h => absurd rfl h
  | k + 1, j, ρ, n, h => by
    rw [Nat.succ_add]
    unfold whileF at h ⊢
    cases q : f ρ n with
    | bad => rw [q] at h; exact absurd rfl h
    | ex c m => rfl
    | ok b n1 =>
      rw [q] at h
      cases b with
      | false => rfl
      | true =>
        simp only [ofR_ok, if_true] at h ⊢
        cases q2 : g ρ n1 with
        | nx ρ2 n2 => rw [q2] at h; exact whileF_mono k j ρ2 n2 h
        | ct ρ2 n2 => rw [q2] at h; exact whileF_mono k j ρ2 n2 h
        | _ => rfl
open Classical in
noncomputable def sWhile (f : M Bool) (g : MS) : MS := fun ρ n => if h : ∃ k, whileF f g k ρ n ≠ .bad then whileF f g (choose h) ρ n else .bad
theorem sWhile_ex {f : M Bool} {g : MS} {ρ : Env} {n : Nat} (h : sWhile f g ρ n ≠ .bad) : ∃ k, sWhile f g ρ n = whileF f g k ρ n := by
  unfold sWhile at h ⊢
  split at h
  · rename_i z
    rw [dif_pos z]
    exact ⟨_, rfl⟩
  · exact absurd rfl h
theorem sWhile_eq {f : M Bool} {g : MS} {ρ : Env} {n k : Nat} {o : Out} (h : whileF f g k ρ n = o) (ho : o ≠ .bad) : sWhile f g ρ n = o := by
  have z : ∃ k, whileF f g k ρ n ≠ .bad := ⟨k, by rw [h]; exact ho⟩
  unfold sWhile
  rw [dif_pos z]
  have h1 := Classical.choose_spec z
  have e1 := whileF_mono (Classical.choose z) k ρ n h1
  have e2 := whileF_mono k (Classical.choose z) ρ n (by rw [h]; exact ho)
  rw [← e1, Nat.add_comm, e2, h]

section
variable {X : Cx} {ca : String → Addr} {W : WX} {a b e : Expr} {st : Stmt} {sts : List Stmt} {ga gb g : M D} {gf : M (List D)} {pos : Pos}
theorem es_while {cc : Expr} {body : List Stmt} {f : M Bool} {g : MS} (hp : PassesOwn (model X.prog X.w) X.A X.env X.xe) (hc : PT X cc (tGT X.K ca W f)) (hb : PSs X body (tS X.K ca W g)) : PS X (.While cc body [] pos) (tS X.K ca W (sWhile f g)) :=
  PS.weak (ps_while hp hc hb) fun E σ H ⟨c, ρ, n, S, h⟩ => by
    have hne : sWhile f g ρ n ≠ .bad := fun z => by rw [z] at h; exact h
    obtain ⟨k, hk⟩ := sWhile_ex hne
    rw [hk] at h
    refine ⟨fun m σ H => ∃ c ρ n, SR X.K c σ H ρ n ∧ OPost X.K ca W c H (whileF f g m ρ n) E, ⟨k, c, ρ, n, S, h⟩, ?_⟩
    rintro m σ H ⟨c, ρ, n, S, h⟩
    cases m with
    | zero => exact h.elim
    | succ m =>
      refine ⟨c, ρ, n, S, (post_ofR S h).mono (fun b n1 h1 H1 g1 => ?_) (fun e m h => h)⟩
      have S1 := S.ext g1
      have h2 := h1.at (g1.sees S.tB')
      cases b with
      | false =>
        simp only [Bool.false_eq_true, if_false] at h2 ⊢
        exact h2 σ H1 c.B S1 Sees.refl
      | true =>
        simp only [if_true] at h2 ⊢
        refine ⟨fun σ' H' => ∃ c ρ n, SR X.K c σ' H' ρ n ∧ OPost X.K ca W c H' (whileF f g m ρ n) E, fun σ' H' q => ⟨m, Nat.lt_succ_self m, q⟩, c, ρ, n1, S1, ?_⟩
        cases q : g ρ n1 with
        | nx ρ2 n2 =>
          rw [q] at h2
          exact fun σ' H' B' S' s => ⟨_, ρ2, n2, S', h2.at s⟩
        | ct ρ2 n2 =>
          rw [q] at h2
          exact fun σ' H' B' S' s => ⟨_, ρ2, n2, S', h2.at s⟩
        | bk ρ2 n2 =>
          rw [q] at h2
          exact h2
        | rt d n2 =>
          rw [q] at h2
          exact h2
        | ex d ρ2 n2 =>
          rw [q] at h2
          exact h2
        | bad =>
          rw [q] at h2
          exact h2
end

/-! ### what is walked -/
/-- the iterator yields these, whatever grows -/
def ItOk (K : PySem.W.Frag) (B : List Addr) (H : Hp) (J : It) (ds : List D) : Prop := ∀ (i : Nat) (B' : List Addr) (H' : Hp), Sees B H B' H' → (∀ b ∈ B', H' b ≠ none) →
  (i < ds.length → J.go i H') ∧ (ds.length ≤ i → J.stop i H') ∧ ∀ d x H2, ds[i]? = some d → J.yld i H' x H2 → Same H' H2 ∧ Rep K (hid B' H2) x d
def iG (K : PySem.W.Frag) (ca : String → Addr) (W : WX) (g : M (List D)) : TI := fun σ H R => ∃ c ρ n, SR K c σ H ρ n ∧
  (g ρ n).Post (fun ds n' => ∀ J H', Gx c H n' H' → ItOk K c.B H' J ds → R J H') (exK ca W c σ H)
/-- a target -/
def TgOk (K : PySem.W.Frag) (gR : TG) (f : D → Env → Option Env) (ws : List Nat) : Prop := ∀ (c : Fm) (σ : L2.St) (H : Hp) (ρ : Env) (n : Nat) (v : V) (d : D) (ρ' : Env) (Q : L2.St → Hp → Prop),
  SR K c σ H ρ n → Rep K (hid c.B H) v d → f d ρ = some ρ' → (∀ σ', SR K c σ' H ρ' n → (∀ vs : List Nat, (∀ i ∈ ws, i ∈ vs) → L2.wipe σ' vs = L2.wipe σ vs) → Q σ' H) → gR v σ H Q
def forL (tg : D → Env → Option Env) (b : MS) : List D → MS
  | [] => sNx
  | d :: ds => fun ρ n => match tg d ρ with
    | none => .bad
    | some ρ1 => match b ρ1 n with
      | .nx ρ2 n2 => forL tg b ds ρ2 n2
      | .ct ρ2 n2 => forL tg b ds ρ2 n2
      | .bk ρ2 n2 => .nx ρ2 n2
      | o => o
def sFor (tg : D → Env → Option Env) (gi : M (List D)) (b : MS) : MS := fun ρ n => ofR (gi ρ n) ρ fun ds n1 => forL tg b ds ρ n1
theorem drop_at {α : Type} {xs : List α} {i : Nat} (h : i < xs.length) : ∃ x, xs[i]? = some x ∧ xs.drop i = x :: xs.drop (i + 1) := ⟨xs[i], List.getElem?_eq_getElem h, List.drop_eq_getElem_cons h⟩
section
variable {X : Cx} {ca : String → Addr} {W : WX} {a b e : Expr} {st : Stmt} {sts : List Stmt} {ga gb g : M D} {gf : M (List D)} {pos : Pos}
theorem es_for {tg iter : Expr} {body : List Stmt} {gi : M (List D)} {gR : TG} {tgf : D → Env → Option Env} {ws : List Nat} {h : MS} (hp : PassesOwn (model X.prog X.w) X.A X.env X.xe) (hc : X.calm = true) (hi : PI X tg iter (iG X.K ca W gi)) (hg : PG X tg gR) (ht : TgOk X.K gR tgf ws)
    (hb : PSs X body (tS X.K ca W h)) (hs : ∀ x, foldedSetIterable iter X.env x = pure x := by intro _; rfl) : PS X (.For tg iter body [] pos) (tS X.K ca W (sFor tgf gi h)) :=
  PS.weak (ps_for hp hc hi hg hb hs) fun E σ H ⟨c, ρ, n, S, hh⟩ => by
    refine ⟨c, ρ, n, S, (post_ofR S hh).mono (fun ds n1 h1 J H1 g1 it => ?_) (fun e m h => h)⟩
    have S1 := S.ext g1
    refine ⟨fun i m σ H => ∃ B' ρ n, SR X.K (c.at B') σ H ρ n ∧ Sees c.B H1 B' H ∧ i ≤ ds.length ∧ m = ds.length - i ∧ OPost X.K ca W (c.at B') H (forL tgf h (ds.drop i) ρ n) E, ⟨ds.length, c.B, ρ, n1, S1, Sees.refl, Nat.zero_le _, by simp, h1.at (g1.sees S.tB')⟩, ?_⟩
    rintro i m σ2 H2 ⟨B', ρ2, n2, S2, se, hi, rfl, hh2⟩
    obtain ⟨k1, k2, k3⟩ := it i B' H2 se S2.all
    by_cases hlt : i < ds.length
    · obtain ⟨d, hd, ed⟩ := drop_at hlt
      rw [ed] at hh2
      refine .inr ⟨k1 hlt, fun σ' H' => ∃ B' ρ n, SR X.K (c.at B') σ' H' ρ n ∧ Sees c.B H1 B' H' ∧ OPost X.K ca W (c.at B') H' (forL tgf h (ds.drop (i + 1)) ρ n) E, fun σ' H' ⟨B', ρ, n, q1, q2, q3⟩ => ⟨ds.length - (i + 1), by omega, B', ρ, n, q1, q2, hlt, rfl, q3⟩, fun x H3 y => ?_⟩
      obtain ⟨sm, rx⟩ := k3 d x H3 hd y
      have g3 := S2.pure sm
      have S3 := S2.ext g3
      unfold forL at hh2
      cases q : tgf d ρ2 with
      | none => simp only [q] at hh2; exact hh2.elim
      | some ρ3 =>
        simp only [q] at hh2
        refine ht (c.at B') σ2 H3 ρ2 n2 x d ρ3 _ S3 rx q fun σ4 S4 _ => ⟨c.at B', ρ3, n2, S4, ?_⟩
        have hh3 := hh2.at (g3.sees S2.tB')
        have se3 : Sees c.B H1 B' H3 := se.trans (g3.sees S2.tB')
        cases q4 : h ρ3 n2 with
        | nx ρ5 n5 =>
          rw [q4] at hh3
          exact fun σ' H' B2 S' s => ⟨B2, ρ5, n5, S', se3.trans s, hh3.at s⟩
        | ct ρ5 n5 =>
          rw [q4] at hh3
          exact fun σ' H' B2 S' s => ⟨B2, ρ5, n5, S', se3.trans s, hh3.at s⟩
        | bk ρ5 n5 =>
          rw [q4] at hh3
          exact hh3
        | rt d n5 =>
          rw [q4] at hh3
          exact hh3
        | ex d ρ5 n5 =>
          rw [q4] at hh3
          exact hh3
        | bad =>
          rw [q4] at hh3
          exact hh3
    · have e : i = ds.length := by omega
      subst e
      rw [List.drop_length] at hh2
      exact .inl ⟨k2 (Nat.le_refl _), hh2 σ2 H2 B' S2 Sees.refl⟩

/-! ### targets -/
def tgN (i : Nat) : D → Env → Option Env := fun d ρ => if i < ρ.length then some (ρ.set i (some (.d d))) else none
def tgT (fs : List (D → Env → Option Env)) : List D → Env → Option Env := match fs with
  | [] => fun ds ρ => match ds with
    | [] => some ρ
    | _ => none
  | f :: r => fun ds ρ => match ds with
    | [] => none
    | d :: es => (f d ρ).bind fun ρ1 => tgT r es ρ1
def tgP (fs : List (D → Env → Option Env)) : D → Env → Option Env := fun d ρ => match d with
  | .tuple ds => if ds.length = fs.length then tgT fs ds ρ else none
  | .list ds => if ds.length = fs.length then tgT fs ds ρ else none
  | _ => none
theorem wipe_set {σ : L2.St} {x : Option V} : ∀ {vs : List Nat} {i : Nat}, i ∈ vs → L2.wipe (σ.set i x) vs = L2.wipe σ vs
  | v :: vs, i, h => by
    unfold L2.wipe
    by_cases hi : i ∈ vs
    · rw [wipe_set hi]
    · have e : i = v := by
        rcases List.mem_cons.mp h with z | z
        · exact z
        · exact absurd z hi
      subst e
      have gen : ∀ (us : List Nat) (τ : L2.St), i ∉ us → (L2.wipe (τ.set i x) us).set i none = (L2.wipe τ us).set i none := by
        intro us
        induction us with
        | nil => intro τ _; unfold L2.wipe; rw [List.set_set]
        | cons u us ih =>
          intro τ hu
          unfold L2.wipe
          have hne : u ≠ i := fun z => hu (z ▸ List.mem_cons_self)
          rw [List.set_comm _ _ hne, ih τ (fun z => hu (List.mem_cons_of_mem _ z)), List.set_comm _ _ hne.symm]
      exact gen vs σ hi
theorem wipe_idem (σ : L2.St) : ∀ vs : List Nat, L2.wipe (L2.wipe σ vs) vs = L2.wipe σ vs := by
  have gen : ∀ (us vs : List Nat), (∀ u ∈ us, u ∈ vs) → L2.wipe (L2.wipe σ us) vs = L2.wipe σ vs := by
    intro us
    induction us with
    | nil => intro vs _; rfl
    | cons u us ih =>
      intro vs h
      show L2.wipe ((L2.wipe σ us).set u none) vs = _
      rw [wipe_set (h u List.mem_cons_self), ih vs fun w hw => h w (List.mem_cons_of_mem _ hw)]
  exact fun vs => gen vs vs fun _ h => h
theorem tok_name (i : Nat) {K : PySem.W.Frag} : TgOk K (gName i) (tgN i) [i] := fun c σ H ρ n v d ρ' Q S r e q => by
  unfold tgN at e
  split at e
  · rename_i hlt
    cases e
    exact q _ (S.set_d hlt r) fun vs h => wipe_set (h i List.mem_cons_self)
  · cases e
/-- several targets -/
def TgsOk (K : PySem.W.Frag) (gR : TGs) (f : List D → Env → Option Env) (ws : List Nat) : Prop := ∀ (c : Fm) (σ : L2.St) (H : Hp) (ρ : Env) (n : Nat) (vs : List V) (ds : List D) (ρ' : Env) (Q : L2.St → Hp → Prop),
  SR K c σ H ρ n → RepAll K (hid c.B H) vs ds → f ds ρ = some ρ' → (∀ σ', SR K c σ' H ρ' n → (∀ vs : List Nat, (∀ i ∈ ws, i ∈ vs) → L2.wipe σ' vs = L2.wipe σ vs) → Q σ' H) → gR vs σ H Q
theorem tok_nil {K : PySem.W.Frag} : TgsOk K gNil (tgT []) [] := fun c σ H ρ n vs ds ρ' Q S r e q => by
  cases r with
  | nil => cases e; exact ⟨rfl, q σ S fun _ _ => rfl⟩
  | cons _ _ => cases e
theorem tok_cons {K : PySem.W.Frag} {g1 : TG} {g2 : TGs} {f1 : D → Env → Option Env} {fs : List (D → Env → Option Env)} {ws1 ws2 : List Nat} (h1 : TgOk K g1 f1 ws1) (h2 : TgsOk K g2 (tgT fs) ws2) : TgsOk K (gCons g1 g2) (tgT (f1 :: fs)) (ws1 ++ ws2) := fun c σ H ρ n vs ds ρ' Q S r e q => by
  cases r with
  | nil => cases e
  | @cons v vs d ds r1 r2 =>
    cases z : f1 d ρ with
    | none => simp [tgT, z] at e
    | some ρ1 =>
      have e' : tgT fs ds ρ1 = some ρ' := by simpa [tgT, z] using e
      refine ⟨v, vs, rfl, h1 c σ H ρ n v d ρ1 _ S r1 z fun σ1 S1 w1 => h2 c σ1 H ρ1 n vs ds ρ' _ S1 r2 e' fun σ2 S2 w2 => q σ2 S2 fun us hu => ?_⟩
      rw [w2 us fun i hi => hu i (List.mem_append_right _ hi), w1 us fun i hi => hu i (List.mem_append_left _ hi)]
/-- a tuple, or a list -/
def gSeq (K : PySem.W.Frag) (n : Nat) (t : TGs) : TG := fun v σ H Q => gTup K n t v σ H Q ∨ gLst K n t v σ H Q
theorem pg_seq {es : List Expr} {k : Nat} {t : TGs} {n : Nat} (hc : X.calm = true) (h : PGs X es t)
    (hn : (assignEach es X.env).length = n := by rfl) (hst : (assignEach es X.env).findIdx? (·.1) = none := by rfl) : PG X (.Tuple es k pos) (gSeq X.K n t) :=
  ⟨fun pins s σ H v u Q I r hw => hw.elim ((pg_tup hc h hn hst).run pins s σ H v u Q I r) ((pg_lst hc h hn hst).run pins s σ H v u Q I r)⟩
theorem tok_tup {K : PySem.W.Frag} {g : TGs} {fs : List (D → Env → Option Env)} {ws : List Nat} {n : Nat} (h : TgsOk K g (tgT fs) ws) (hn : fs.length = n) : TgOk K (gSeq K n g) (tgP fs) ws := fun c σ H ρ m v d ρ' Q S r e q => by
  cases r with
  | tup h1 h2 =>
    unfold tgP at e
    simp only at e
    split at e
    · rename_i hl
      exact .inl ⟨_, _, rfl, sqT_mono (fun _ _ => hid_sub) h1.sq, by rw [h2.length, hl, hn], h c σ H ρ m _ _ ρ' _ S h2 e q⟩
    · cases e
  | lst h1 h2 =>
    unfold tgP at e
    simp only at e
    split at e
    · rename_i hl
      exact .inr ⟨_, _, rfl, .inl (.inl (hid_sub h1)), by rw [h2.length, hl, hn], h c σ H ρ m _ _ ρ' _ S h2 e q⟩
    · cases e
  | _ => cases e
/-- a, b = e -/
def sTup (tg : D → Env → Option Env) (g : M D) : MS := fun ρ n => ofR (g ρ n) ρ fun d n1 => match tg d ρ with
  | some ρ1 => .nx ρ1 n1
  | none => .bad
theorem es_tup {tg : Expr} {gR : TG} {tgf : D → Env → Option Env} {ws : List Nat} (he : PE X e (tG X.K ca W g)) (hg : PG X tg gR) (ht : TgOk X.K gR tgf ws) (hs : swapsWithSole [tg] e pos.line X.env = pure false := by rfl) (hw : swappedStores [tg] e X.env = pure none := by rfl)
    (h1 : (assignEach [tg] X.env).map (·.2) = [assign tg X.env] := by rfl) : PS X (.Assign [tg] e pos) (tS X.K ca W (sTup tgf g)) :=
  PS.weak (ps_asg he hg hs hw h1) fun E σ H ⟨c, ρ, n, S, h⟩ => ⟨c, ρ, n, S, (post_ofR S h).mono (fun d n1 h1 v H1 g1 r1 => by
    have S1 := S.ext g1
    cases q : tgf d ρ with
    | none => rw [q] at h1; exact h1.elim
    | some ρ1 =>
      rw [q] at h1
      exact ht c σ H1 ρ n1 v d ρ1 _ S1 r1 q fun σ' S' _ => h1 σ' H1 c.B S' (g1.sees S.tB')) (fun e m h => h)⟩
end

/-! ### list comprehensions -/
abbrev W0 : WX := fun _ _ _ _ => False
def lcL (tg : D → Env → Option Env) (tt : M Bool) (te : M D) (ρ : Env) : List D → Nat → Res (List D)
  | [], n => .ok [] n
  | d :: ds, n => match tg d ρ with
    | none => .bad
    | some ρ1 => match tt ρ1 n with
      | .ok true n1 => (match te ρ1 n1 with
        | .ok y n2 => (lcL tg tt te ρ ds n2).bind fun r n3 => .ok (y :: r) n3
        | _ => .bad)
      | .ok false n1 => lcL tg tt te ρ ds n1
      | _ => .bad
def cLc (vs : List Nat) (tg : D → Env → Option Env) (gi : M (List D)) (tt : M Bool) (te : M D) : M (List D) := fun ρ n => (gi ρ n).bind fun ds n1 =>
  if ds.length < sizeLine then lcL tg tt te (wipeE ρ vs) ds n1 else .bad
def bYes : M Bool := fun _ n => .ok true n
theorem gts_nil {X : Cx} {ca : String → Addr} : PTs X [] (tGT X.K ca W0 bYes) := ⟨fun pins s σ H Q I ⟨c, ρ, n, S, h⟩ => pts_nil.run pins s σ H Q I (h H S.gx)⟩
theorem gts_one {X : Cx} {ca : String → Addr} {c : Expr} {f : M Bool} (h : PT X c (tGT X.K ca W0 f)) : PTs X [c] (tGT X.K ca W0 f) := pts_one h
theorem Gx.own {K : PySem.W.Frag} {c : Fm} {H H' : Hp} {n : Nat} {A : Addr} {us us' : List V} (hr : c.R = CurOk K) (g : Gx c H n H') (h0 : H A = none) (hA : H' A = some (.lst us)) (ht : A ≠ c.t) : Gx c H n (upd H' A (.lst us')) := by
  have ne : ∀ {b : Addr} {o : HO}, H b = some o → b ≠ A := fun h z => by rw [z, h0] at h; cases h
  refine ⟨⟨fun b o h n k => by rw [upd_ne (ne h)]; exact g.ext.to b o h n k, fun b o h k => by rw [upd_ne (ne h)]; exact g.ext.ck b o h k, fun b C dx fs h => by rw [upd_ne (ne h)]; exact g.ext.ins b C dx fs h⟩, by rw [upd_ne (Ne.symm ht)]; exact g.town, ?_⟩
  have := g.cur
  rw [hr] at this ⊢
  refine this.keep (fun b u q z => ?_) (.refl _) rfl rfl
  rw [upd_ne (fun e => ?_)]
  · exact q
  · rw [e, hA] at q
    cases q
    rcases z with z | z <;> cases z
theorem lc_read {K : PySem.W.Frag} {ca : String → Addr} {W : WX} {gi : M (List D)} {gR : TG} {tgf : D → Env → Option Env} {ws vs : List Nat} {tt : M Bool} {te : M D} {σ : L2.St} {H : Hp} {Q : VK} (ht : TgOk K gR tgf ws) (hw : ∀ i ∈ ws, i ∈ vs)
    (h : tGF K ca W (cLc vs tgf gi tt te) σ H Q) : tLc (iG K ca W gi) gR (tGT K ca W0 tt) (tG K ca W0 te) vs σ H Q := by
  obtain ⟨c, ρ, n, S, h⟩ := h
  refine ⟨c, ρ, n, S, (Res.post_bind h).mono (fun ds n1 h1 J H1 g1 it => ?_) (fun e m h => h)⟩
  intro A hA
  have S1 := S.ext g1
  split at h1
  · rename_i hsz
    -- the new list at A; its words
    have hA0 : H A = none := fresh_back g1 hA
    refine ⟨fun i m H2 => ∃ n' acc us, i ≤ ds.length ∧ m = ds.length - i ∧ Gx c H1 n' H2 ∧ H2 A = some (.lst us) ∧ RepAll K (hid (A :: c.B) H2) us acc ∧ acc.length ≤ i ∧
      (lcL tgf tt te (wipeE ρ vs) (ds.drop i) n').Post (fun r n2 => ∀ us' H3, Gx c H1 n2 H3 → H3 A = some (.lst us') → RepAll K (hid (A :: c.B) H3) us' (acc ++ r) → Q (.ref A) H3) (fun _ _ => True), ⟨ds.length, n1, [], [], Nat.zero_le _, by simp, S1.pure (same_upd hA), upd_same, .nil, Nat.le_refl _, ?_⟩, ?_⟩
    · exact h1.mono (fun r n2 q us' H3 g3 h3 r3 => q A us' H3 (g1.trans g3) hA0 h3 r3) fun _ _ _ => trivial
    rintro i m H2 ⟨n2, acc, us, hi, rfl, g2, hA2, rA, hacc, post⟩
    have se : Sees c.B H1 (A :: c.B) H2 := fun b o q => by
      obtain ⟨q1, q2⟩ := hid_some (g2.sees S.tB' b o q)
      refine hid_of (fun z => ?_) q2
      rcases List.mem_cons.mp z with z | z
      · have q' := (hid_some q).2
        rw [z, hA] at q'; cases q'
      · exact q1 z
    have S2 : SR K (c.at (A :: c.B)) σ H2 ρ n2 := S1.move g2 (fun b hb => List.mem_cons_of_mem _ hb) (fun b hb => by
      rcases List.mem_cons.mp hb with z | z
      · rw [z, hA2]; simp
      · exact (S1.ext g2).all b z) (fun b hb => by
      rcases List.mem_cons.mp hb with z | z
      · rw [z, hA2]; intro o e; cases e; rfl
      · exact (S1.ext g2).nt b z) (.cons S1.two) S1.two.cons se
    have hAt : A ≠ c.t := fun z => by
      have := S1.all c.t S.tB'
      rw [← z, hA] at this
      exact this rfl
    obtain ⟨k1, k2, k3⟩ := it i (A :: c.B) H2 se S2.all
    by_cases hlt : i < ds.length
    · obtain ⟨d, hd, ed⟩ := drop_at hlt
      rw [ed] at post
      refine .inr ⟨k1 hlt, fun H2 => ∃ n' acc us, Gx c H1 n' H2 ∧ H2 A = some (.lst us) ∧ RepAll K (hid (A :: c.B) H2) us acc ∧ acc.length ≤ i + 1 ∧
        (lcL tgf tt te (wipeE ρ vs) (ds.drop (i + 1)) n').Post (fun r n2 => ∀ us' H3, Gx c H1 n2 H3 → H3 A = some (.lst us') → RepAll K (hid (A :: c.B) H3) us' (acc ++ r) → Q (.ref A) H3) (fun _ _ => True),
        fun H' ⟨n', acc, us, q1, q2, q3, q4, q5⟩ => ⟨ds.length - (i + 1), by omega, n', acc, us, hlt, rfl, q1, q2, q3, q4, q5⟩, fun x H3 y => ?_⟩
      obtain ⟨sm, rx⟩ := k3 d x H3 hd y
      have g3 := S2.pure sm
      have S3 := (S2.ext g3).wipe vs
      unfold lcL at post
      cases q : tgf d (wipeE ρ vs) with
      | none => rw [q] at post; exact post.elim
      | some ρ3 =>
        simp only [q] at post
        refine ht (c.at (A :: c.B)) (L2.wipe σ vs) H3 (wipeE ρ vs) n2 x d ρ3 _ S3 rx q fun σ4 S4 w4 => ⟨(w4 vs hw).trans (wipe_idem σ vs), c.at (A :: c.B), ρ3, n2, S4, ?_⟩
        cases q4 : tt ρ3 n2 with
        | bad => simp only [q4] at post; exact post.elim
        | ex e m =>
          simp only [q4] at post
          exact post.elim
        | ok k n4 =>
          rw [q4] at post
          refine fun H4 g4 => ?_
          have S5 := S4.ext g4
          have g24 : Gx c H2 n4 H4 := (g3.trans g4).back S1.rk (.cons S1.two)
          have hA4 : H4 A = some (.lst us) := g24.ext.to A _ hA2 hAt rfl
          have rA4 := Rep.monoAll (g24.sees S2.tB') _ _ rA
          cases k with
          | false =>
            simp only [Bool.false_eq_true, if_false] at post ⊢
            exact ⟨n4, acc, us, g2.trans g24, hA4, rA4, by omega, post⟩
          | true =>
            simp only [if_true] at post ⊢
            refine ⟨c.at (A :: c.B), ρ3, n4, S5, ?_⟩
            cases q5 : te ρ3 n4 with
            | bad => rw [q5] at post; exact post.elim
            | ex e m => rw [q5] at post; exact post.elim
            | ok y n5 =>
              rw [q5] at post
              refine fun yv H5 g5 r5 => ⟨us, g5.ext.to A _ hA4 hAt rfl, by rw [rA.length]; omega, n5, acc ++ [y], us ++ [yv], Gx.own S1.rk ((g2.trans g24).trans (g5.back S1.rk (.cons S1.two))) hA (g5.ext.to A _ hA4 hAt rfl) hAt, upd_same, ?_, by simp; omega, ?_⟩
              · have se5 : ∀ b o, hid (A :: c.B) H5 b = some o → hid (A :: c.B) (upd H5 A (.lst (us ++ [yv]))) b = some o := fun b o z => by
                  obtain ⟨z1, z2⟩ := hid_some z
                  have ne : b ≠ A := fun z => z1 (by rw [z]; exact List.mem_cons_self)
                  exact hid_of z1 (by rw [upd_ne ne]; exact z2)
                exact (Rep.monoAll se5 _ _ (Rep.monoAll (g5.sees S2.tB') _ _ rA4)).append (.cons (Rep.mono se5 _ _ r5) .nil)
              · exact (Res.post_bind post).mono (fun r n6 q us' H6 g6 h6 r6 => q us' H6 g6 h6 (by rw [List.append_assoc] at r6; exact r6)) fun _ _ _ => trivial
    · have e : i = ds.length := by omega
      subst e
      rw [List.drop_length] at post
      exact .inl ⟨k2 (Nat.le_refl _), post us H2 g2 hA2 (by rw [List.append_nil]; exact rA)⟩
  · exact h1.elim
section
variable {X : Cx} {ca : String → Addr} {W : WX}
theorem ef_lc {elt tg iter : Expr} {ifs : List Expr} {scope : Scope} {own : List (Str × Nat)} {pos : Pos} {gi : M (List D)} {gR : TG} {tgf : D → Env → Option Env} {ws : List Nat} {tt : M Bool} {te : M D} (hc : X.calm = true) (hN : X.N.Nodup) (hi : PI X tg iter (iG X.K ca W gi)) (ok : BlkOk X.N X.env.scope scope own)
    (hg : ∀ (s : Shared) (H : Hp) (C : Addr) (cl : List (Str × Addr)) (fp : List Addr), PG (X.blk s H scope (compEnvC scope cl C X.env) fp) tg gR) (hok : TgOk X.K gR tgf ws) (hw : ∀ i ∈ ws, i ∈ own.map (·.2))
    (ht : ∀ (s : Shared) (H : Hp) (C : Addr) (cl : List (Str × Addr)) (fp : List Addr), PTs (X.blk s H scope (compEnvC scope cl C X.env) fp) ifs (tGT X.K ca W0 tt))
    (he : ∀ (s : Shared) (H : Hp) (C : Addr) (cl : List (Str × Addr)) (fp : List Addr), PE (X.blk s H scope (compEnvC scope cl C X.env) fp) elt (tG X.K ca W0 te)) (hs : ∀ x, foldedSetIterable iter X.env x = pure x := by intro _; rfl) :
    PE X (.ListComp elt [⟨tg, iter, ifs, 0⟩] scope pos) (tGF X.K ca W (cLc (own.map (·.2)) tgf gi tt te)) :=
  PE.weak (pe_lc hc hN hi ok hg ht he hs) fun _ _ _ h => lc_read hok hw h
/-- x = [..], x data -/
theorem es_setLc {i : Nat} {y : Str} {py : Pos} {elt tg iter : Expr} {ifs : List Expr} {scope : Scope} {own : List (Str × Nat)} {pos spos : Pos} {gi : M (List D)} {gR : TG} {tgf : D → Env → Option Env} {ws : List Nat} {tt : M Bool} {te : M D} (hc : X.calm = true) (hN : X.N.Nodup) (hy : X.N[i]? = some y) (hyl : X.env.scope.names.lookup y = some .local)
    (hsw : swapsWith (.ListComp elt [⟨tg, iter, ifs, 0⟩] scope pos) (some (.Name y py)) spos.line X.env = pure true) (hi : PI X tg iter (iG X.K ca W gi)) (ok : BlkOk X.N X.env.scope scope own)
    (hg : ∀ (s : Shared) (H : Hp) (C : Addr) (cl : List (Str × Addr)) (fp : List Addr), PG (X.blk s H scope (compEnvC scope cl C X.env) fp) tg gR) (hok : TgOk X.K gR tgf ws) (hw : ∀ i ∈ ws, i ∈ own.map (·.2))
    (ht : ∀ (s : Shared) (H : Hp) (C : Addr) (cl : List (Str × Addr)) (fp : List Addr), PTs (X.blk s H scope (compEnvC scope cl C X.env) fp) ifs (tGT X.K ca W0 tt))
    (he : ∀ (s : Shared) (H : Hp) (C : Addr) (cl : List (Str × Addr)) (fp : List Addr), PE (X.blk s H scope (compEnvC scope cl C X.env) fp) elt (tG X.K ca W0 te)) (hs : ∀ x, foldedSetIterable iter X.env x = pure x := by intro _; rfl) :
    PS X (.Assign [.Name y py] (.ListComp elt [⟨tg, iter, ifs, 0⟩] scope pos) spos) (tS X.K ca W (sSet i (cF (cLc (own.map (·.2)) tgf gi tt te)))) :=
  PS.weak (ps_setLc hc hN hy hyl hsw hi ok hg ht he hs) fun E σ H ⟨c, ρ, n, S, h⟩ => by
    refine lc_read hok hw ⟨c, ρ, n, S, (Res.post_bind (post_ofR S h)).mono (fun ds n1 h1 a vs H1 g1 hn hv r1 => ?_) (fun e m h => h)⟩
    have h2 : OPost X.K ca W c H (if i < ρ.length then .nx (ρ.set i (some (.d (.list ds)))) n1 else .bad) E := h1
    split at h2
    · rename_i hlt
      exact h2 _ H1 c.B ((S.ext g1).set_d hlt (.lst (hid_of (fun z => S.all a z hn) hv) (Rep.monoAll hid_cons _ _ r1))) (g1.sees S.tB')
    · exact h2.elim
theorem es_ownLc {i : Nat} {y : Str} {py : Pos} {elt tg iter : Expr} {ifs : List Expr} {scope : Scope} {own : List (Str × Nat)} {pos spos : Pos} {gi : M (List D)} {gR : TG} {tgf : D → Env → Option Env} {ws : List Nat} {tt : M Bool} {te : M D} (hc : X.calm = true) (hN : X.N.Nodup) (hy : X.N[i]? = some y) (hyl : X.env.scope.names.lookup y = some .local)
    (hsw : swapsWith (.ListComp elt [⟨tg, iter, ifs, 0⟩] scope pos) (some (.Name y py)) spos.line X.env = pure true) (hi : PI X tg iter (iG X.K ca W gi)) (ok : BlkOk X.N X.env.scope scope own)
    (hg : ∀ (s : Shared) (H : Hp) (C : Addr) (cl : List (Str × Addr)) (fp : List Addr), PG (X.blk s H scope (compEnvC scope cl C X.env) fp) tg gR) (hok : TgOk X.K gR tgf ws) (hw : ∀ i ∈ ws, i ∈ own.map (·.2))
    (ht : ∀ (s : Shared) (H : Hp) (C : Addr) (cl : List (Str × Addr)) (fp : List Addr), PTs (X.blk s H scope (compEnvC scope cl C X.env) fp) ifs (tGT X.K ca W0 tt))
    (he : ∀ (s : Shared) (H : Hp) (C : Addr) (cl : List (Str × Addr)) (fp : List Addr), PE (X.blk s H scope (compEnvC scope cl C X.env) fp) elt (tG X.K ca W0 te)) (hs : ∀ x, foldedSetIterable iter X.env x = pure x := by intro _; rfl) :
    PS X (.Assign [.Name y py] (.ListComp elt [⟨tg, iter, ifs, 0⟩] scope pos) spos) (tS X.K ca W (sOwn i (cLc (own.map (·.2)) tgf gi tt te))) :=
  PS.weak (ps_setLc hc hN hy hyl hsw hi ok hg ht he hs) fun E σ H ⟨c, ρ, n, S, h⟩ =>
    lc_read hok hw ⟨c, ρ, n, S, (post_ofR S h).mono (fun ds n1 h1 a vs H1 g1 hn hv r1 => own_post S h1 g1 hn hv r1) (fun e m h => h)⟩
end

/-! ### a def by its body -/
def runF (m : Nat) (g : MS) : Fn := fun ls n => match g (ls.map some ++ List.replicate (m - ls.length) none) n with
  | .nx _ n1 => .ok .none n1
  | .rt d n1 => .ok d n1
  | .ex c _ n1 => .ex c n1
  | _ => .bad
section
variable {P : Program} {w : World} {K : PySem.W.Frag} {mg : Str → Option Value} {base : Heap} {ca : String → Addr}
theorem RAs.get {c : Fm} {H : Hp} {vs : List V} {ls : List L} (h : RAs K c H vs ls) : ∀ {i : Nat} {l : L}, ls[i]? = some l → ∃ v, vs[i]? = some v ∧ RA K c H v l := by
  induction h with
  | nil => intro i l e; simp at e
  | @cons v vs l ls h1 h2 ih =>
    intro i l' e
    cases i with
    | zero => simp at e; subst e; exact ⟨v, rfl, h1⟩
    | succ i =>
      obtain ⟨v', q1, q2⟩ := ih (i := i) (l := l') (by simpa using e)
      exact ⟨v', by simpa using q1, q2⟩
theorem fn_ok {x qual : Str} {st : Stmt} {f : Addr} {fd : FuncData} {N ps : List Str} {k : Nat} {g : MS} (F : Fun K x qual st f fd) (S : FnScope N ps (defScope st))
    (hbody : ∀ (cdv : Value) (A : Around) (outer : List PySem.Env) (s : Shared) (H : Hp) (E : XK), Room k (A.deeper (envOfC qual (defScope st) s.heap.objs.size f cdv)) →
      PSs (cxOf (L2.CX P w) P w K mg base N qual (defScope st) f cdv A outer s H E) (defBody st) (tS K ca (fun cls d _ H => E cls d H) g)) : FnOk P w K mg base (L2.CX P w) (k + 1) f fd ps (spG K ca ps.length (runF N.length g)) := by
  refine F.okX S (fun vs H Q E h => h.1) (fun cdv A outer s H vs Q E hr h => ⟨_, hbody cdv A outer s H E hr, ?_⟩)
  obtain ⟨hl, c, ls, n, sub, tB, all, town, rk, cur, nt, cl, two, ra, post⟩ := h
  have hps : ps.length ≤ N.length := by have := congrArg List.length S.pre; rw [List.length_take] at this; omega
  have hll : vs.length = ls.length := ra.length
  refine ⟨⟨c.B, c.t, H, c.B, c.R, true, none⟩, ls.map some ++ List.replicate (N.length - ls.length) none, n, ⟨?_, fun _ h => h, sub _ tB, all, all, Ext.refl, town, rk, cur, nt, fun _ => .refl _, cl, two, nofun, fun i l e => ?_, fun i j l l' a _ e1 e2 o1 o2 s1 => ?_⟩, ?_⟩
  · unfold L2.start
    simp [hll]
  · have hi : ls[i]? = some l := by
      by_cases hi : i < ls.length
      · rw [List.getElem?_append_left (by simpa using hi), List.getElem?_map] at e
        cases q : ls[i]? with
        | none => rw [q] at e; cases e
        | some l' => rw [q] at e; cases e; rfl
      · rw [List.getElem?_append_right (by simpa using hi), List.getElem?_replicate] at e
        split at e <;> cases e
    obtain ⟨v, hv, ho, hr⟩ := ra.get hi
    refine ⟨v, ?_, ?_⟩
    · unfold L2.start
      have : i < vs.length := (List.getElem?_eq_some_iff.mp hv).1
      rw [List.getElem?_append_left (by simpa using this), List.getElem?_map, hv]
      rfl
    · cases l with
      | d x => exact hr
      | town => exact hr
      | scr ns => exact hr
      | frk _ => exact hr
      | cur => exact hr
      | prk => exact hr
      | exn _ => exact hr
      | _ => cases ho
  · have hi : ls[i]? = some l := by
      by_cases hi : i < ls.length
      · rw [List.getElem?_append_left (by simpa using hi), List.getElem?_map] at e1
        cases q : ls[i]? with
        | none => rw [q] at e1; cases e1
        | some l' => rw [q] at e1; cases e1; rfl
      · rw [List.getElem?_append_right (by simpa using hi), List.getElem?_replicate] at e1
        split at e1 <;> cases e1
    obtain ⟨v, hv, ho, hr⟩ := ra.get hi
    rw [isOut_own ho] at o1
    cases o1
  · unfold runF at post
    cases q : g (ls.map some ++ List.replicate (N.length - ls.length) none) n with
    | nx ρ1 n1 =>
      rw [q] at post
      exact fun σ' H' B' S' s => post .non H' ⟨S'.keep, S'.town, S'.gr.cur rfl⟩ .non
    | rt d n1 =>
      rw [q] at post
      exact fun v H' g1 r1 => post v H' ⟨g1.ext, g1.town, g1.cur rfl⟩ r1
    | ex e ρ1 n1 =>
      rw [q] at post
      exact fun σ' H' B' S' s => post H' ⟨S'.keep, S'.town, S'.gr.cur rfl⟩
    | bk ρ1 n1 => rw [q] at post; exact post.elim
    | ct ρ1 n1 => rw [q] at post; exact post.elim
    | bad => rw [q] at post; exact post.elim

/-! ### the law -/
def spLaw (K : PySem.W.Frag) : Sp := fun vs H Q _ => ∃ (a : Addr) (ns : List Int), vs = [.ref a] ∧ SqL K H a (ns.map V.int) ∧ ns.length ≤ 63 ∧ ∀ H', Q (.bl true) H'
/-- the law's body behind «town = []»: m more slots -/
def LawTrue (m : Nat) (g : MS) : Prop := ∀ ns : List Int, ns.length ≤ 63 → ∃ n, g (some (.scr ns) :: some .twl :: List.replicate m none) 0 = .rt (.bool true) n
theorem law_ok {st : Stmt} {f : Addr} {fd : FuncData} {N : List Str} {k : Nat} {g : MS} {x0 x1 : Str} {p1 p2 p3 : Pos} {rest : List Stmt} (F : Fun K "law" "law" st f fd) (S : FnScope N [x0] (defScope st)) (hb : defBody st = .Assign [.Name x1 p1] (.List [] p2) p3 :: rest) (hx : N[1]? = some x1) (hL : (defScope st).names.lookup x1 = some .local ∨ (defScope st).names.lookup x1 = some .cell) {m : Nat} (hm : N.length = m + 2)
    (hsw : ∀ (cdv : Value) (A : Around) (outer : List PySem.Env) (s : Shared) (H : Hp) (E : XK), swapsWith (.List [] p2) (some (.Name x1 p1)) p3.line (cxOf (L2.CX P w) P w K mg base N "law" (defScope st) f cdv A outer s H E).env = pure false)
    (hbody : ∀ (cdv : Value) (A : Around) (outer : List PySem.Env) (s : Shared) (H : Hp) (E : XK), Room k (A.deeper (envOfC "law" (defScope st) s.heap.objs.size f cdv)) →
      PSs (cxOf (L2.CX P w) P w K mg base N "law" (defScope st) f cdv A outer s H E) rest (tS K ca (fun cls d _ H => E cls d H) g)) (law : LawTrue m g) : FnOk P w K mg base (L2.CX P w) (k + 1) f fd [x0] (spLaw K) := by
  refine F.okX S (fun vs H Q E h => ?_) (fun cdv A outer s H vs Q E hr h => ?_)
  · obtain ⟨a, ns, rfl, _⟩ := h
    rfl
  · obtain ⟨a, ns, rfl, hS, hlen, q⟩ := h
    rw [hb]
    refine ⟨_, pss_cons (ps_set (i := 1) S.nd hx hL (pe_lst pa_nil) (hsw cdv A outer s H E) (.inl rfl)) (hbody cdv A outer s H E hr), ?_⟩
    refine ⟨Nat.zero_le _, fun p hp => ?_⟩
    obtain ⟨n, e⟩ := law ns hlen
    have hp' : p ∈ [p, p] := List.mem_cons_self
    have hm1 : ∀ b : Addr, b ∈ [p, p] → b = p := fun b hb => by simpa using hb
    have hsl : SqL K (hid [p, p] (upd H p (.lst []))) a (ns.map V.int) := by
      have ne : ∀ o, H a = some o → a ≠ p := fun o h z => by rw [z, hp] at h; cases h
      rcases hS with (h | ⟨o, h⟩) | h
      · exact .inl (.inl (hid_of (fun z => ne _ h (hm1 _ z)) (by rw [upd_ne (ne _ h)]; exact h)))
      · exact .inl (.inr ⟨o, hid_of (fun z => ne _ h (hm1 _ z)) (by rw [upd_ne (ne _ h)]; exact h)⟩)
      · exact .inr h
    refine ⟨⟨[p, p], p, upd H p (.lst []), [p, p], CurOk K, false, none⟩, some (.scr ns) :: some .twl :: List.replicate m none, 0, ⟨?_, fun _ h => h, hp', fun b hb => ?_, fun b hb => ?_, Ext.refl, upd_same, rfl, ⟨(fun q e => by rw [cq_zero] at e; cases e), (fun q e => by rw [pq_zero] at e; cases e), (fun q r e => by rw [cq_zero] at e; cases e)⟩, (fun b hb o e => by
      rw [hm1 _ hb] at e
      have e : upd H p (.lst []) p = some o := e
      rw [upd_same] at e
      cases e
      rfl), nofun, ⟨.inl rfl, .inl rfl⟩, Nat.le_refl _, nofun, fun i l e => ?_, fun i j l l' b _ e1 e2 o1 o2 s1 => ?_⟩, ?_⟩
    · unfold L2.start
      simp [hm]
    · rw [hm1 _ hb]
      show upd H p (.lst []) p ≠ none
      rw [upd_same]; simp
    · rw [hm1 _ hb]
      show upd H p (.lst []) p ≠ none
      rw [upd_same]; simp
    · match i with
      | 0 =>
        simp only [List.getElem?_cons_zero, Option.some.injEq] at e
        subst e
        exact ⟨.ref a, by unfold L2.start; rfl, a, rfl, hsl⟩
      | 1 =>
        simp only [List.getElem?_cons_succ, List.getElem?_cons_zero, Option.some.injEq] at e
        subst e
        refine ⟨.ref p, ?_, rfl, rfl, rfl⟩
        unfold L2.start
        rw [List.getElem?_set_self (by simp [hm])]
      | i + 2 =>
        simp only [List.getElem?_cons_succ] at e
        rw [List.getElem?_replicate] at e
        split at e <;> cases e
    · match i with
      | 0 =>
        simp only [List.getElem?_cons_zero, Option.some.injEq] at e1
        subst e1
        cases o1
      | 1 =>
        simp only [List.getElem?_cons_succ, List.getElem?_cons_zero, Option.some.injEq] at e1
        subst e1
        cases o1
      | i + 2 =>
        simp only [List.getElem?_cons_succ] at e1
        rw [List.getElem?_replicate] at e1
        split at e1 <;> cases e1
    · rw [e]
      exact fun v H' g1 r1 => by
        cases r1
        exact q H'
end
end G

namespace G
open PySem PySem.Spec PyProof.Rows L2

/-! ### arithmetic -/
/-! ### rules that make a tuple: it bears no dict -/
abbrev plainO (us : Array Value) : Obj := { cls := .type "tuple", data := .seq us }
theorem plain_ok {P : Program} {w : World} {H : Hp} {h : Heap} {xs : List V} {us : List Value} (z : xs.length ≤ sizeLine) (r : Vals xs us) : ObjOk P w H (h.push (plainO us.toArray)) h.objs.size (.frz (plainO us.toArray) (.tup xs)) :=
  ⟨Heap.get?_push_size _ rfl, z, us, r, IsTup.new _ _⟩
def rCatP (K : PySem.W.Frag) : R2 := fun x y H Q => ∃ a b xs ys, x = .ref a ∧ y = .ref b ∧ SqT K H a xs ∧ SqT K H b ys ∧ xs.length + ys.length ≤ sizeLine ∧
  (xs = [] → Q (.ref b) H) ∧ (xs ≠ [] → ys = [] → Q (.ref a) H) ∧ (xs ≠ [] → ys ≠ [] → ∀ (p : Addr) (o : Obj), o.dict = none → H p = none → Q (.ref p) (upd H p (.frz o (.tup (xs ++ ys)))))
def rRepP (K : PySem.W.Frag) : R2 := fun x y H Q => ∃ l k xs, x = .ref l ∧ y = .int k ∧ SqT K H l xs ∧ xs ≠ [] ∧ 2 ≤ k ∧ k ≤ 1000 ∧ xs.length ≤ 1000 ∧ ∀ (p : Addr) (o : Obj), o.dict = none → H p = none → Q (.ref p) (upd H p (.frz o (.tup (List.replicate k.toNat xs).flatten)))
def rSlP (K : PySem.W.Frag) : V → Option Int → Option Int → Hp → VK → Prop := fun x lo hi H Q => ∃ a xs, x = .ref a ∧ SqT K H a xs ∧
  (HT.sIx xs.length 0 lo = 0 ∧ HT.sIx xs.length xs.length hi = xs.length → Q (.ref a) H) ∧ (¬ (HT.sIx xs.length 0 lo = 0 ∧ HT.sIx xs.length xs.length hi = xs.length) → ∀ (p : Addr) (o : Obj), o.dict = none → H p = none → Q (.ref p) (upd H p (.frz o (.tup (cutV xs lo hi)))))
def rTupP (K : PySem.W.Frag) : List V → Hp → VK → Prop := fun xs H Q => ∃ p ys, xs = [.ref p] ∧ ((SqL K H p ys ∧ ∀ (l : Addr) (o : Obj), o.dict = none → H l = none → Q (.ref l) (upd H l (.frz o (.tup ys)))) ∨ (SqT K H p ys ∧ Q (.ref p) H))
section
variable {X : Cx}
theorem op_catP : OpR X (binaryOp .Add) (rCatP X.K) := by
  intro pins s σ H x y v u Q I rx ry h
  obtain ⟨a, b, xs, ys, rfl, rfl, ha, hb, hz, q0, q1, q2⟩ := h
  cases rx
  cases ry
  obtain ⟨us, r1, p1, _⟩ := I.tuple ha
  obtain ⟨ws, r2, p2, _⟩ := I.tuple hb
  by_cases hx : xs = []
  · subst hx
    cases r1
    exact cat_tup0 p1 p2 ⟨.ref b, H, I, rfl, q0 rfl⟩
  · refine HT.cat_tup p1 p2 (fun z => hx (r1.nil_iff.mp z)) (fun z => ⟨.ref a, H, I, rfl, q1 hx (r2.nil_iff.mp z)⟩) (fun z => ?_) (by rw [← r1.length, ← r2.length]; exact hz)
    exact ⟨.ref s.heap.objs.size, _, I.laid (t' := s.toks) (fun b ob q => Heap.get?_push_of_some _ q) (Nat.le_refl _) (plain_ok (by rw [List.length_append]; exact hz) (r1.append r2)), rfl, q2 hx (fun w => z (r2.nil_iff.mpr w)) _ _ rfl (I.hok.fresh (Nat.le_refl _))⟩
theorem sl_tupP : SlR X (rSlP X.K) := by
  intro pins s σ H x v vl vu lo hi sl Q I rx hs pl pu h
  obtain ⟨a, xs, rfl, hx, q1, q2⟩ := h
  cases rx
  obtain ⟨us, r, ht, hz⟩ := I.tuple hx
  have hn : us.toArray.size = xs.length := by rw [List.size_toArray]; exact r.length.symm
  refine ⟨"tuple", _, PyProof.Rows.slot_tuple_getitem.lookup, ht.typeIs, ?_⟩
  by_cases hw : HT.sIx xs.length 0 lo = 0 ∧ HT.sIx xs.length xs.length hi = xs.length
  · exact getItem_tuple_whole ht hs pl pu (by rw [hn]; exact hw) ⟨.ref a, H, I, rfl, q1 hw⟩
  · refine HT.getItem_tuple_cut ht hs pl pu (by rw [hn]; exact hw) ?_ (by rw [hn]; exact hz)
    rw [hn]
    exact ⟨.ref s.heap.objs.size, _, I.laid (t' := s.toks) (fun b ob q => Heap.get?_push_of_some _ q) (Nat.le_refl _) (plain_ok (Nat.le_trans (cutV_length xs lo hi) hz) ((r.drop (HT.sIx xs.length 0 lo)).take (HT.sIx xs.length xs.length hi - HT.sIx xs.length 0 lo))), rfl, q2 hw _ _ rfl (I.hok.fresh (Nat.le_refl _))⟩
theorem call_tupP : CallR X (.type "tuple") (rTupP X.K) := by
  intro pins s σ H xs us Q I r h
  obtain ⟨p, ys, rfl, h⟩ := h
  obtain ⟨u, rfl, rx⟩ := vals1 r
  cases rx
  rcases h with ⟨hq, q⟩ | ⟨hq, q⟩
  · obtain ⟨ws, r', pl, hz⟩ := I.list hq
    have hn := r'.length
    refine call_tuple_list pl.isList (fun h' kp => ?_) (by simp only [List.size_toArray] <;> omega)
    have I1 : Inv X pins σ H { s with heap := h' } := I.kept (t' := s.toks) kp
    exact ⟨.ref h'.objs.size, _, I1.laid (t' := s.toks) (fun b o e => Heap.get?_push_of_some _ e) (Nat.le_refl _) (plain_ok hz r'), rfl, q _ _ rfl (I1.hok.fresh (Nat.le_refl _))⟩
  · obtain ⟨ws, r', pl, hz⟩ := I.tuple hq
    exact call_tuple_same pl ⟨.ref p, H, I, rfl, q⟩
theorem op_repP : OpR X (binaryOp .Mult) (rRepP X.K) := by
  intro pins s σ H x y v u Q I rx ry h
  obtain ⟨l, k, xs, rfl, rfl, hT, hne, h1, h2, hz, q⟩ := h
  cases rx
  obtain ⟨t, rfl⟩ := ry
  obtain ⟨us, r, ⟨⟨cls, dd, data, sl⟩, ho, hc, n, hd⟩, hs⟩ := I.tuple hT
  simp only at hc hd
  subst hc hd
  have hle : us.length = xs.length := r.length.symm
  have n0 : us.toArray.isEmpty = false := by
    cases us with
    | nil => exact absurd (List.eq_nil_of_length_eq_zero hle.symm) hne
    | cons a b => rfl
  have n1 : us.toArray.size = xs.length := by rw [List.size_toArray, hle]
  have n2 : ((us.toArray.size : Nat) : Int) * k ≤ 1000000 := by
    rw [n1]
    have a1 : ((xs.length : Nat) : Int) * k ≤ 1000 * k := Int.mul_le_mul_of_nonneg_right (by omega) (by omega)
    omega
  have n3 : k.toNat * xs.length ≤ 1000 * 1000 := Nat.mul_le_mul (by omega) hz
  have n4 : (List.replicate k.toNat us).flatten.length ≤ sizeLine := by
    rw [PyProof.Rows.lm_len_rep_flat, hle, sizeLine_eq]
    omega
  have b0 : (decide (k < -(2 ^ 63)) || decide (k ≥ 2 ^ 63)) = false := by
    rw [decide_eq_false (by omega), decide_eq_false (by omega)] <;> rfl
  have b1 : (us.toArray.isEmpty || k == 1) = false := by
    rw [n0, Bool.false_or]
    exact beq_eq_false_iff_ne.mpr (by omega)
  have b2 : (decide (k ≤ 0) || us.toArray.isEmpty) = false := by
    rw [n0, Bool.or_false]
    exact decide_eq_false (by omega)
  have b4 : Builtin.Tuple.tupleTooMany (((us.toArray.size : Nat) : Int) * k) = false := by
    unfold Builtin.Tuple.tupleTooMany
    rw [sizeLine_eq]
    exact decide_eq_false (by omega)
  refine wpAny_binaryOp_repeat_ref (T := "tuple") (U := "int") (by decide) ⟨_, ho, rfl⟩ (fun s' => typeIs_int s' k t) noFill_tuple_mul F.fills_int_mul F.slot_int_rmul repeat_tuple F.slot_int_index.lookup
    (call_meets F.slot_int_rmul (typeIs_int s k t) F.entry_int_rmul (F.args_int_rmul_2 _ _) (int_rmul_tuple k t l us.toArray n dd sl)
      ⟨ho, rfl, ⟨_, ho, rfl⟩, call_meets F.slot_tuple_mul ⟨_, ho, rfl⟩ F.entry_tuple_mul (F.args_tuple_mul_2 _ _) (tuple_mulW l us.toArray n dd sl k t b0 b1 b2 (by omega) b4 (by rw [size_rep, List.size_toArray]; exact n4)) ⟨ho, ?_⟩⟩)
  rw [size_rep]
  exact ⟨.ref s.heap.objs.size, _, I.laid (t' := s.toks) (fun b ob q => Heap.get?_push_of_some _ q) (Nat.le_refl _) (plain_ok (by rw [PyProof.Rows.lm_len_rep_flat, sizeLine_eq]; omega) (r.rep k.toNat)), rfl, q _ _ rfl (I.hok.fresh (Nat.le_refl _))⟩
end
def opAdd : D → D → Option D
  | .int i, .int j => some (.int (i + j))
  | .str x, .str y => if x.length + y.length ≤ sizeLine then some (.str (x ++ y)) else none
  | .tuple xs, .tuple ys => if xs.length + ys.length ≤ sizeLine then some (.tuple (xs ++ ys)) else none
  | .list xs, .list ys => if xs.length + ys.length ≤ sizeLine then some (.list (xs ++ ys)) else none
  | _, _ => none
def rAdd (K : PySem.W.Frag) : R2 := fun x y H Q => ((∃ i j, x = .int i ∧ y = .int j ∧ Q (.int (i + j)) H) ∨ (∃ i j, x = .str i ∧ y = .str j ∧ i.length + j.length ≤ sizeLine ∧ Q (.str (i ++ j)) H)) ∨ (rCatP K x y H Q ∨ rCat x y H Q)
section
variable {X : Cx} {K : PySem.W.Frag}
theorem or_add : OpR X (binaryOp .Add) (rAdd X.K) := OpR.or (OpR.or op_add op_add_str) (OpR.or op_catP op_cat)
theorem o_add : Op2 K (rAdd K) opAdd := by
  intro B H x y a b d Q all ra rb e q
  cases ra with
  | int i =>
    cases rb with
    | int j => cases e; exact .inl (.inl ⟨i, j, rfl, rfl, q _ H (Same.refl H) (.int _)⟩)
    | _ => cases e
  | str i =>
    cases rb with
    | str j =>
      unfold opAdd at e
      simp only at e
      split at e
      · cases e
        exact .inl (.inr ⟨i, j, rfl, rfl, by assumption, q _ H (Same.refl H) (.str _)⟩)
      · cases e
    | _ => cases e
  | @tup a xs ds h1 h2 =>
    cases rb with
    | @tup b ys es k1 k2 =>
      unfold opAdd at e
      simp only at e
      split at e
      · rename_i hz
        cases e
        refine .inr (.inl ⟨a, b, xs, ys, rfl, rfl, sqT_mono (fun _ _ => hid_sub) h1.sq, sqT_mono (fun _ _ => hid_sub) k1.sq, by rw [h2.length, k2.length]; exact hz, fun z => ?_, fun _ z => ?_, fun _ _ p o ho hp => ?_⟩)
        · subst z
          cases h2
          exact q _ H (Same.refl H) (.tup k1 k2)
        · subst z
          cases k2
          refine q _ H (Same.refl H) ?_
          rw [List.append_nil]
          exact .tup h1 h2
        · exact q _ _ (same_upd hp) (new_tup (by assumption) all hp (h2.append k2))
      · cases e
    | _ => cases e
  | @lst a xs ds h1 h2 =>
    cases rb with
    | @lst b ys es k1 k2 =>
      unfold opAdd at e
      simp only at e
      split at e
      · rename_i hz
        cases e
        exact .inr (.inr ⟨a, b, xs, ys, rfl, rfl, hid_sub h1, hid_sub k1, by rw [h2.length, k2.length]; exact hz, fun p hp => q _ _ (same_upd hp) (new_lst all hp (h2.append k2))⟩)
      · cases e
    | _ => cases e
  | _ => cases rb <;> cases e
def opSub : D → D → Option D
  | .int i, .int j => some (.int (i - j))
  | _, _ => none
theorem o_sub : Op2 K (rI0 fun i j => .int (i - j)) opSub := by
  intro B H x y a b d Q all ra rb e q
  cases ra with
  | int i =>
    cases rb with
    | int j => cases e; exact ⟨i, j, rfl, rfl, q _ H (Same.refl H) (.int _)⟩
    | _ => cases e
  | _ => cases rb <;> cases e
noncomputable def mulOk (i j : Int) : Bool := @decide (((-(2 ^ 64) < i) ∧ (i < 2 ^ 64)) ∨ ((-(2 ^ 64) < j) ∧ (j < 2 ^ 64))) (Classical.propDecidable _)
theorem mulOk_iff {i j : Int} : mulOk i j = true ↔ ((-(2 ^ 64) < i) ∧ (i < 2 ^ 64)) ∨ ((-(2 ^ 64) < j) ∧ (j < 2 ^ 64)) := @decide_eq_true_iff _ (Classical.propDecidable _)

theorem tuple_mul1 (l : Addr) (items : Array Value) (n : Nat) (dd : Option Addr) (sl : Array (Option Value)) (u : Tok) :
    Meets (Builtin.«tuple.__mul__» ⟨[.ref l, .int 1 u], []⟩) (fun _ R s => s.heap.get? l = some { cls := .type "tuple", dict := dd, data := .seq items n, slots := sl } ∧
      R (.ok (.ret (Value.ref l))) s) :=
  .of_wp fun prog w A R s h => by
    obtain ⟨hp, g, d, tk, os⟩ := s
    obtain ⟨hl, h⟩ := h
    have f1 := AutoSeq1.idx_int
    wp_walk using wpAny_loadPart' hl
    exact ⟨_, rfl, h⟩
def rRep1 (K : PySem.W.Frag) : R2 := fun x y H Q => ∃ l xs, x = .ref l ∧ y = .int 1 ∧ SqT K H l xs ∧ Q (.ref l) H
theorem op_rep1 : OpR X (binaryOp .Mult) (rRep1 X.K) := by
  intro pins s σ H x y v u Q I rx ry h
  obtain ⟨l, xs, rfl, rfl, hT, q⟩ := h
  cases rx
  obtain ⟨t, rfl⟩ := ry
  obtain ⟨its, r, ⟨⟨cls, dd, data, sl⟩, ho, hc, n, hd⟩, hs⟩ := I.tuple hT
  simp only at hc hd
  subst hc hd
  exact wpAny_binaryOp_repeat_ref (T := "tuple") (U := "int") (by decide) ⟨_, ho, rfl⟩ (fun s' => typeIs_int s' 1 t) noFill_tuple_mul F.fills_int_mul F.slot_int_rmul repeat_tuple F.slot_int_index.lookup
    (call_meets F.slot_int_rmul (typeIs_int s 1 t) F.entry_int_rmul (F.args_int_rmul_2 _ _) (int_rmul_tuple 1 t l its.toArray n dd sl)
      ⟨ho, rfl, ⟨_, ho, rfl⟩, call_meets F.slot_tuple_mul ⟨_, ho, rfl⟩ F.entry_tuple_mul (F.args_tuple_mul_2 _ _) (tuple_mul1 l its.toArray n dd sl t) ⟨ho, ⟨.ref l, H, I, rfl, q⟩⟩⟩)
noncomputable def opMul : D → D → Option D
  | .int i, .int j => if mulOk i j = true then some (.int (i * j)) else none
  | .tuple xs, .int k => if 1 ≤ k ∧ k ≤ 1000 ∧ xs.length ≤ 1000 ∧ xs ≠ [] then some (.tuple (List.replicate k.toNat xs).flatten) else none
  | .list xs, .int k => if 0 ≤ k ∧ k ≤ 1000 ∧ xs.length ≤ 1000 then some (.list (List.replicate k.toNat xs).flatten) else none
  | _, _ => none
def rMul (K : PySem.W.Frag) : R2 := fun x y H Q => rI CMul (fun i j => .int (i * j)) x y H Q ∨ (rRep1 K x y H Q ∨ (rRepP K x y H Q ∨ rRep x y H Q))
theorem or_mul : OpR X (binaryOp .Mult) (rMul X.K) := OpR.or op_mul (OpR.or op_rep1 (OpR.or op_repP op_rep))
theorem RepAll.rep {H : Hp} {vs : List V} {ds : List D} (r : RepAll K H vs ds) : ∀ k : Nat, RepAll K H (List.replicate k vs).flatten (List.replicate k ds).flatten
  | 0 => .nil
  | k + 1 => by
    rw [List.replicate_succ, List.replicate_succ, List.flatten_cons, List.flatten_cons]
    exact r.append (RepAll.rep r k)
theorem o_mul : Op2 K (rMul K) opMul := by
  intro B H x y a b d Q all ra rb e q
  cases ra with
  | int i =>
    cases rb with
    | int j =>
      unfold opMul at e
      simp only at e
      split at e
      · rename_i hm
        cases e
        refine .inl ⟨i, j, rfl, rfl, ?_, q _ H (Same.refl H) (.int _)⟩
        exact mulOk_iff.mp hm
      · cases e
    | _ => cases e
  | @tup a xs ds h1 h2 =>
    cases rb with
    | int k =>
      unfold opMul at e
      simp only at e
      split at e
      · rename_i hz
        obtain ⟨z1, z2, z3, z4⟩ := hz
        cases e
        by_cases hk : k = 1
        · subst hk
          refine .inr (.inl ⟨a, xs, rfl, rfl, sqT_mono (fun _ _ => hid_sub) h1.sq, q _ H (Same.refl H) ?_⟩)
          show Rep K (hid B H) (.ref a) (.tuple (List.replicate 1 ds).flatten)
          simp only [List.replicate_succ, List.replicate_zero, List.flatten_cons, List.flatten_nil, List.append_nil]
          exact .tup h1 h2
        · refine .inr (.inr (.inl ⟨a, k, xs, rfl, rfl, sqT_mono (fun _ _ => hid_sub) h1.sq, fun z => ?_, by omega, z2, by rw [h2.length]; exact z3, fun p o ho hp => q _ _ (same_upd hp) (new_tup ho all hp (h2.rep _))⟩))
          subst z
          cases h2
          exact z4 rfl
      · cases e
    | _ => cases e
  | @lst a xs ds h1 h2 =>
    cases rb with
    | int k =>
      unfold opMul at e
      simp only at e
      split at e
      · rename_i hz
        obtain ⟨z1, z2, z3⟩ := hz
        cases e
        have hb : xs.length * k.toNat ≤ 1000 * 1000 := Nat.mul_le_mul (by rw [h2.length]; exact z3) (by omega)
        exact .inr (.inr (.inr ⟨a, k, xs, rfl, rfl, hid_sub h1, by omega, by omega, by rw [sizeLine_eq]; omega, fun p hp => q _ _ (same_upd hp) (new_lst all hp (h2.rep _))⟩))
      · cases e
    | _ => cases e
  | _ => cases rb <;> cases e
def opMod : D → D → Option D
  | .int i, .int j => if 0 < j then some (.int (i % j)) else none
  | _, _ => none
theorem o_mod : Op2 K (rI (fun _ j => 0 < j) fun i j => .int (i % j)) opMod := by
  intro B H x y a b d Q all ra rb e q
  cases ra with
  | int i =>
    cases rb with
    | int j =>
      unfold opMod at e
      simp only at e
      split at e
      · cases e; exact ⟨i, j, rfl, rfl, by assumption, q _ H (Same.refl H) (.int _)⟩
      · cases e
    | _ => cases e
  | _ => cases rb <;> cases e
def opDiv : D → D → Option D
  | .int i, .int j => if 0 < j ∧ j < 1073741824 then some (.int (i / j)) else none
  | _, _ => none
theorem o_div : Op2 K (rI CDiv fun i j => .int (i / j)) opDiv := by
  intro B H x y a b d Q all ra rb e q
  cases ra with
  | int i =>
    cases rb with
    | int j =>
      unfold opDiv at e
      simp only at e
      split at e
      · cases e; exact ⟨i, j, rfl, rfl, by assumption, q _ H (Same.refl H) (.int _)⟩
      · cases e
    | _ => cases e
  | _ => cases rb <;> cases e
def opNeg : D → Option D
  | .int i => some (.int (-i))
  | _ => none
theorem o_neg : Op1 K (rU fun i => .int (-i)) opNeg := by
  intro B H x a d Q all ra e q
  cases ra with
  | int i => cases e; exact ⟨i, rfl, q _ H (Same.refl H) (.int _)⟩
  | _ => cases e

/-! ### comparisons -/
/-- equal data, where the model tells -/
def opEq (a b : D) : Option D := if SeqAt.shaped a = true ∧ SeqAt.shaped b = true then some (.bool (PyData.eqv a b)) else none
def opNe (a b : D) : Option D := if SeqAt.shaped a = true ∧ SeqAt.shaped b = true then some (.bool (!PyData.eqv a b)) else none
theorem o_eq : Op2 K (rEqD K) opEq := by
  intro B H x y a b d Q all ra rb e q
  unfold opEq at e
  split at e
  · rename_i h
    cases e
    exact ⟨a, b, Rep.dp (fun _ _ => hid_sub) _ _ ra, Rep.dp (fun _ _ => hid_sub) _ _ rb, h.1, h.2, q _ H (Same.refl H) (.bl _)⟩
  · cases e
theorem o_ne : Op2 K (rNeD K) opNe := by
  intro B H x y a b d Q all ra rb e q
  unfold opNe at e
  split at e
  · rename_i h
    cases e
    exact ⟨a, b, Rep.dp (fun _ _ => hid_sub) _ _ ra, Rep.dp (fun _ _ => hid_sub) _ _ rb, h.1, h.2, q _ H (Same.refl H) (.bl _)⟩
  · cases e
def opLt : D → D → Option D
  | .int i, .int j => some (.bool (decide (i < j)))
  | .str x, .str y => some (.bool (decide (x.cps.toList < y.cps.toList)))
  | _, _ => none
def opLe : D → D → Option D
  | .int i, .int j => some (.bool (decide (i ≤ j)))
  | .str x, .str y => some (.bool (!decide (y.cps.toList < x.cps.toList)))
  | _, _ => none
def opGt : D → D → Option D
  | .int i, .int j => some (.bool (decide (j < i)))
  | .str x, .str y => some (.bool (decide (y.cps.toList < x.cps.toList)))
  | _, _ => none
def opGe : D → D → Option D
  | .int i, .int j => some (.bool (decide (j ≤ i)))
  | .str x, .str y => some (.bool (!decide (x.cps.toList < y.cps.toList)))
  | _, _ => none
def rCmp (fi : Int → Int → Bool) (fs : Str → Str → Bool) : R2 := fun x y H Q => rI0 (fun i j => .bl (fi i j)) x y H Q ∨ ∃ i j, x = .str i ∧ y = .str j ∧ Q (.bl (fs i j)) H
theorem o_cmp {f : D → D → Option D} {fi : Int → Int → Bool} {fs : Str → Str → Bool} (h1 : ∀ i j, f (.int i) (.int j) = some (.bool (fi i j))) (h2 : ∀ i j, f (.str i) (.str j) = some (.bool (fs i j)))
    (h3 : ∀ a b d, f a b = some d → (∃ i j, a = .int i ∧ b = .int j) ∨ ∃ i j, a = .str i ∧ b = .str j) : Op2 K (rCmp fi fs) f := by
  intro B H x y a b d Q all ra rb e q
  rcases h3 a b d e with ⟨i, j, rfl, rfl⟩ | ⟨i, j, rfl, rfl⟩
  · cases ra; cases rb
    rw [h1] at e; cases e
    exact .inl ⟨i, j, rfl, rfl, q _ H (Same.refl H) (.bl _)⟩
  · cases ra; cases rb
    rw [h2] at e; cases e
    exact .inr ⟨i, j, rfl, rfl, q _ H (Same.refl H) (.bl _)⟩
theorem or_lt : OpR X (compareOp .Lt) (rCmp (fun i j => decide (i < j)) fun x y => decide (x.cps.toList < y.cps.toList)) := OpR.or op_lt op_lt_str
theorem or_le : OpR X (compareOp .LtE) (rCmp (fun i j => decide (i ≤ j)) fun x y => !decide (y.cps.toList < x.cps.toList)) := OpR.or op_le op_le_str
theorem or_gt : OpR X (compareOp .Gt) (rCmp (fun i j => decide (j < i)) fun x y => decide (y.cps.toList < x.cps.toList)) := OpR.or op_gt op_gt_str
theorem or_ge : OpR X (compareOp .GtE) (rCmp (fun i j => decide (j ≤ i)) fun x y => !decide (x.cps.toList < y.cps.toList)) := OpR.or op_ge op_ge_str
theorem o_lt : Op2 K (rCmp (fun i j => decide (i < j)) fun x y => decide (x.cps.toList < y.cps.toList)) opLt := o_cmp (fun _ _ => rfl) (fun _ _ => rfl) fun a b d e => by
  cases a <;> cases b <;> first | (cases e; done) | exact .inl ⟨_, _, rfl, rfl⟩ | exact .inr ⟨_, _, rfl, rfl⟩
theorem o_le : Op2 K (rCmp (fun i j => decide (i ≤ j)) fun x y => !decide (y.cps.toList < x.cps.toList)) opLe := o_cmp (fun _ _ => rfl) (fun _ _ => rfl) fun a b d e => by
  cases a <;> cases b <;> first | (cases e; done) | exact .inl ⟨_, _, rfl, rfl⟩ | exact .inr ⟨_, _, rfl, rfl⟩
theorem o_gt : Op2 K (rCmp (fun i j => decide (j < i)) fun x y => decide (y.cps.toList < x.cps.toList)) opGt := o_cmp (fun _ _ => rfl) (fun _ _ => rfl) fun a b d e => by
  cases a <;> cases b <;> first | (cases e; done) | exact .inl ⟨_, _, rfl, rfl⟩ | exact .inr ⟨_, _, rfl, rfl⟩
theorem o_ge : Op2 K (rCmp (fun i j => decide (j ≤ i)) fun x y => !decide (x.cps.toList < y.cps.toList)) opGe := o_cmp (fun _ _ => rfl) (fun _ _ => rfl) fun a b d e => by
  cases a <;> cases b <;> first | (cases e; done) | exact .inl ⟨_, _, rfl, rfl⟩ | exact .inr ⟨_, _, rfl, rfl⟩
def isNoneD : D → Bool
  | .none => true
  | _ => false
def opIsN (a b : D) : Option D := if isNoneD b = true then some (.bool (isNoneD a)) else none
def opNotN (a b : D) : Option D := if isNoneD b = true then some (.bool (!isNoneD a)) else none
theorem isNone_rep {H : Hp} {x : V} {a : D} (r : Rep K H x a) : decide (x = V.non) = isNoneD a := by
  cases r <;> first | rfl | simp [isNoneD]
theorem o_isN : Op2 K (fun x y H Q => y = .non ∧ Q (.bl (decide (x = .non))) H) opIsN := by
  intro B H x y a b d Q all ra rb e q
  unfold opIsN at e
  split at e
  · rename_i h
    cases e
    cases rb with
    | non => exact ⟨rfl, by rw [isNone_rep ra]; exact q _ H (Same.refl H) (.bl _)⟩
    | _ => cases h
  · cases e
theorem o_notN : Op2 K (fun x y H Q => y = .non ∧ Q (.bl (!decide (x = .non))) H) opNotN := by
  intro B H x y a b d Q all ra rb e q
  unfold opNotN at e
  split at e
  · rename_i h
    cases e
    cases rb with
    | non => exact ⟨rfl, by rw [isNone_rep ra]; exact q _ H (Same.refl H) (.bl _)⟩
    | _ => cases h
  · cases e
/-- one of flat things, or a text within a text -/
def flatD : D → Bool
  | .none => true
  | .bool _ => true
  | .int _ => true
  | .str _ => true
  | _ => false
theorem flat_rep {H : Hp} {x : V} {a : D} (r : Rep K H x a) (h : flatD a = true) : flatV x = true := by
  cases r <;> first | rfl | cases h
theorem eqV_rep {H : Hp} {x y : V} {a b : D} (ra : Rep K H x a) (rb : Rep K H y b) (ha : flatD a = true) (hb : flatD b = true) : eqV x y = PyData.eqv a b := by
  cases ra <;> cases rb <;> first | rfl | (cases ha; done) | (cases hb; done) | skip
  all_goals simp [eqV, PyData.eqv]
theorem flat_all {H : Hp} : ∀ {ds : List D} {vs : List V}, RepAll K H vs ds → ds.all flatD = true → vs.all flatV = true
  | [], _, h, _ => by cases h; rfl
  | d :: ds, _, h, e => by
    cases h with
    | cons h1 h2 =>
      simp only [List.all_cons, Bool.and_eq_true] at e ⊢
      exact ⟨flat_rep h1 e.1, flat_all h2 e.2⟩
theorem inV_rep {H : Hp} {x : V} {a : D} (ra : Rep K H x a) (ha : flatD a = true) : ∀ {ds : List D} {vs : List V}, RepAll K H vs ds → ds.all flatD = true → inV x vs = ds.any fun z => PyData.eqv z a
  | [], _, h, _ => by cases h; rfl
  | d :: ds, _, h, e => by
    cases h with
    | cons h1 h2 =>
      simp only [List.all_cons, Bool.and_eq_true] at e
      have ih := inV_rep ra ha h2 e.2
      unfold inV at ih ⊢
      rw [List.any_cons, List.any_cons, ih, eqV_rep h1 ra e.1 ha]
def opIn : D → D → Option D
  | .str x, .str y => some (.bool (PySem.Txt.contains y x))
  | a, .tuple ds => if flatD a = true ∧ ds.all flatD = true then some (.bool (ds.any fun z => PyData.eqv z a)) else none
  | a, .list ds => if flatD a = true ∧ ds.all flatD = true then some (.bool (ds.any fun z => PyData.eqv z a)) else
      if SeqAt.shaped a = true ∧ SeqAt.shaped (.list ds) = true then some (.bool (ds.any fun z => PyData.eqv z a)) else none
  | _, _ => none
def opNotIn (a b : D) : Option D := match opIn a b with
  | some (.bool k) => some (.bool (!k))
  | _ => none
def rInA (K : PySem.W.Frag) (neg : Bool) : R2 := fun x y H Q => (∃ i j, x = .str i ∧ y = .str j ∧ Q (.bl (if neg then !PySem.Txt.contains j i else PySem.Txt.contains j i)) H) ∨
  (rIn K neg x y H Q ∨ (∃ d ds, Dp K H x d ∧ Dp K H y (.list ds) ∧ SeqAt.shaped d = true ∧ SeqAt.shaped (.list ds) = true ∧ Q (.bl (if neg then !(ds.any fun z => PyData.eqv z d) else ds.any fun z => PyData.eqv z d)) H))
theorem or_in {k : Nat} (hr : Room k X.A) : OpR X (compareOp .In) (rInA X.K false) := OpR.or op_in_str (OpR.or op_in_seq (op_inD (by have := hr.un; omega)))
theorem or_notIn {k : Nat} (hr : Room k X.A) : OpR X (compareOp .NotIn) (rInA X.K true) := OpR.or L2.op_notin_str (OpR.or op_notIn_seq (op_notInD (by have := hr.un; omega)))
theorem in_core {neg : Bool} {B : List Addr} {H : Hp} {x y : V} {a b : D} {k : Bool} {Q : VK} (ra : Rep K (hid B H) x a) (rb : Rep K (hid B H) y b) (e : opIn a b = some (.bool k)) (q : Q (.bl (if neg then !k else k)) H) : rInA K neg x y H Q := by
  cases rb with
  | str z =>
    cases ra with
    | str w => cases e; exact .inl ⟨w, z, rfl, rfl, q⟩
    | _ => cases e
  | @tup c ys es k1 k2 =>
    have e' : (if flatD a = true ∧ es.all flatD = true then some (PyData.bool (es.any fun z => PyData.eqv z a)) else none) = some (.bool k) := by cases a <;> exact e
    split at e'
    · rename_i h
      cases e'
      exact .inr (.inl ⟨c, ys, rfl, .inr (sqT_mono (fun _ _ => hid_sub) k1.sq), flat_rep ra h.1, flat_all k2 h.2, by rw [inV_rep ra h.1 k2 h.2]; exact q⟩)
    · cases e'
  | @lst c ys es k1 k2 =>
    have e' : (if flatD a = true ∧ es.all flatD = true then some (PyData.bool (es.any fun z => PyData.eqv z a)) else
      if SeqAt.shaped a = true ∧ SeqAt.shaped (.list es) = true then some (PyData.bool (es.any fun z => PyData.eqv z a)) else none) = some (.bool k) := by cases a <;> exact e
    split at e'
    · rename_i h
      cases e'
      exact .inr (.inl ⟨c, ys, rfl, .inl (.inl (.inl (hid_sub k1))), flat_rep ra h.1, flat_all k2 h.2, by rw [inV_rep ra h.1 k2 h.2]; exact q⟩)
    · split at e'
      · rename_i h
        cases e'
        exact .inr (.inr ⟨a, es, Rep.dp (fun _ _ => hid_sub) _ _ ra, Rep.dp (fun _ _ => hid_sub) _ _ (.lst k1 k2), h.1, h.2, q⟩)
      · cases e'
  | _ => cases a <;> cases e
theorem opIn_bool {a b d : D} (e : opIn a b = some d) : ∃ k, d = .bool k := by
  cases b with
  | str z => cases a <;> first | (cases e; done) | (cases e; exact ⟨_, rfl⟩)
  | tuple es =>
    have e' : (if flatD a = true ∧ es.all flatD = true then some (PyData.bool (es.any fun z => PyData.eqv z a)) else none) = some d := by cases a <;> exact e
    split at e' <;> cases e'
    exact ⟨_, rfl⟩
  | list es =>
    have e' : (if flatD a = true ∧ es.all flatD = true then some (PyData.bool (es.any fun z => PyData.eqv z a)) else
      if SeqAt.shaped a = true ∧ SeqAt.shaped (.list es) = true then some (PyData.bool (es.any fun z => PyData.eqv z a)) else none) = some d := by cases a <;> exact e
    split at e'
    · cases e'; exact ⟨_, rfl⟩
    · split at e' <;> cases e'
      exact ⟨_, rfl⟩
  | _ => cases a <;> cases e
theorem o_in : Op2 K (rInA K false) opIn := by
  intro B H x y a b d Q all ra rb e q
  obtain ⟨k, rfl⟩ := opIn_bool e
  exact in_core ra rb e (q _ H (Same.refl H) (.bl _))
theorem o_notIn : Op2 K (rInA K true) opNotIn := by
  intro B H x y a b d Q all ra rb e q
  unfold opNotIn at e
  split at e
  · rename_i k h
    cases e
    exact in_core ra rb h (q _ H (Same.refl H) (.bl _))
  · cases e

/-! ### subscripts, slices -/
def opIx : D → D → Option D
  | .list ds, .int i => atI ds i
  | .tuple ds, .int i => atI ds i
  | .str z, .int i => if z.length ≤ sizeLine then (atI z.cps.toList i).map fun c => T [c] else none
  | _, _ => none
theorem atI_rep {H : Hp} {vs : List V} {ds : List D} {i : Int} {d : D} (r : RepAll K H vs ds) (h : atI ds i = some d) : ∃ v, atI vs i = some v ∧ Rep K H v d := by
  unfold atI at h ⊢
  rw [r.length]
  cases q : ixN ds.length i with
  | none => rw [q] at h; cases h
  | some j =>
    rw [q] at h
    exact r.get h
theorem o_ix : Op2 K (rIx K) opIx := by
  intro B H x y a b d Q all ra rb e q
  cases rb with
  | int i =>
    cases ra with
    | str z =>
      unfold opIx at e
      simp only at e
      split at e
      · rename_i hz
        cases h : atI z.cps.toList i with
        | none => rw [h] at e; cases e
        | some c =>
          rw [h] at e
          cases e
          exact .inr (.inr ⟨z, i, c, rfl, rfl, hz, h, q _ H (Same.refl H) (.str _)⟩)
      · cases e
    | @lst p xs ds h1 h2 =>
      obtain ⟨v, h3, h4⟩ := atI_rep h2 (show atI ds i = some d from e)
      exact .inl ⟨p, xs, i, v, rfl, rfl, .inl (.inl (hid_sub h1)), h3, q _ H (Same.refl H) h4⟩
    | @tup p xs ds h1 h2 =>
      obtain ⟨v, h3, h4⟩ := atI_rep h2 (show atI ds i = some d from e)
      exact .inr (.inl ⟨p, xs, i, v, rfl, rfl, sqT_mono (fun _ _ => hid_sub) h1.sq, h3, q _ H (Same.refl H) h4⟩)
    | _ => cases e
  | _ => cases ra <;> cases e
theorem ev_ix {a b : Expr} {ga gb : M D} {ca : String → Addr} {W : WX} {pos : Pos} (ha : PE X a (tG X.K ca W ga)) (hb : PE X b (tG X.K ca W gb)) (hs : PlainIx b := by exact fun _ _ => rfl) : PE X (.Subscript a b pos) (tG X.K ca W (c2 opIx ga gb)) :=
  PE.weak (pe_ix ix_seq ha hb hs) fun _ _ _ h => tG_c2 o_ix h
/-- l[lo:hi] -/
def cutL {α : Type} (l : List α) (lo hi : Option Int) : List α := (l.drop (HT.sIx l.length 0 lo)).take (HT.sIx l.length l.length hi - HT.sIx l.length 0 lo)
def opSl : D → Option Int → Option Int → Option D
  | .str z, lo, hi => if z.length ≤ sizeLine then some (T (cutL z.cps.toList lo hi)) else none
  | .list ds, lo, hi => some (.list (cutL ds lo hi))
  | .tuple ds, lo, hi => some (.tuple (cutL ds lo hi))
  | _, _, _ => none
def partD : D → Option (Option Int)
  | .int i => some (some i)
  | _ => none
def gPart (g : M D) : M (Option Int) := fun ρ n => (g ρ n).bind fun d n1 => Res.lift (partD d) n1
def gNoPart : M (Option Int) := fun _ n => .ok none n
def cSl (g : M D) (lo hi : M (Option Int)) : M D := fun ρ n => (g ρ n).bind fun a n1 => (lo ρ n1).bind fun l n2 => (hi ρ n2).bind fun h n3 => Res.lift (opSl a l h) n3
def tGO (K : PySem.W.Frag) (ca : String → Addr) (W : WX) (g : M (Option Int)) : TO := fun σ H Q => ∃ c ρ n, SR K c σ H ρ n ∧ (g ρ n).Post (fun o n' => ∀ H', Gx c H n' H' → Q o H') (exK ca W c σ H)
theorem PO.weak {e : Option Expr} {t t' : TO} (h : PO X e t) (w : ∀ σ H Q, t' σ H Q → t σ H Q) : PO X e t' := ⟨fun pins s σ H Q I q => h.run pins s σ H Q I (w σ H Q q)⟩
theorem eo_none {ca : String → Addr} {W : WX} : PO X none (tGO X.K ca W gNoPart) := PO.weak po_none fun σ H Q ⟨c, ρ, n, S, h⟩ => h H S.gx
theorem eo_some {ca : String → Addr} {W : WX} {e : Expr} {g : M D} (h : PE X e (tG X.K ca W g)) : PO X (some e) (tGO X.K ca W (gPart g)) := PO.weak (po_some h) fun σ H Q ⟨c, ρ, n, S, h⟩ => by
  refine ⟨c, ρ, n, S, (Res.post_bind h).mono (fun a n1 h1 x H1 g1 r1 => ?_) (fun e m h => h)⟩
  obtain ⟨o, e, h2⟩ := Res.post_lift h1
  cases r1 with
  | int i => cases e; exact ⟨i, rfl, h2 H1 g1⟩
  | _ => cases e
def rSlG (K : PySem.W.Frag) : V → Option Int → Option Int → Hp → VK → Prop := fun x lo hi H Q => rSlS x lo hi H Q ∨ (rSlL K x lo hi H Q ∨ rSlP K x lo hi H Q)
theorem cutV_rep {H : Hp} {vs : List V} {ds : List D} (r : RepAll K H vs ds) (lo hi : Option Int) : RepAll K H (cutV vs lo hi) (cutL ds lo hi) := by
  unfold cutV cutL
  rw [r.length]
  exact (r.drop _).take _
theorem ev_sl {e : Expr} {lo hi : Option Expr} {g : M D} {gl gh : M (Option Int)} {ca : String → Addr} {W : WX} {p2 pos : Pos} (he : PE X e (tG X.K ca W g)) (hl : PO X lo (tGO X.K ca W gl)) (hh : PO X hi (tGO X.K ca W gh)) : PE X (.Subscript e (.Slice lo hi none p2) pos) (tG X.K ca W (cSl g gl gh)) :=
  PE.weak (pe_slice (r := rSlG X.K) (SlR.or sl_str (SlR.or sl_list sl_tupP)) he hl hh) fun σ H Q ⟨c, ρ, n, S, h⟩ => by
    refine ⟨c, ρ, n, S, (Res.post_bind h).mono (fun a n1 h1 x H1 g1 r1 => ?_) (fun e m h => h)⟩
    have S1 := S.ext g1
    refine ⟨c, ρ, n1, S1, (Res.post_bind h1).mono (fun l n2 h2 H2 g2 => ?_) (fun e m h => exK.at h g1)⟩
    have S2 := S1.ext g2
    refine ⟨c, ρ, n2, S2, (Res.post_bind h2).mono (fun u n3 h3 H3 g3 => ?_) (fun e m h => exK.at h (g1.trans g2))⟩
    have S3 := S2.ext g3
    obtain ⟨d, ed, h4⟩ := Res.post_lift h3
    have g13 := (g1.trans g2).trans g3
    have r3 := Rep.mono ((g2.trans g3).sees S.tB') _ _ r1
    cases r3 with
    | str z =>
      unfold opSl at ed
      simp only at ed
      split at ed
      · rename_i hz
        cases ed
        exact .inl ⟨z, rfl, hz, h4 _ H3 g13 (.str _)⟩
      · cases ed
    | @lst p xs ds k1 k2 =>
      cases ed
      refine .inr (.inl ⟨p, xs, rfl, .inl (.inl (hid_sub k1)), fun q hq => h4 _ _ (g13.trans (S3.pure (same_upd hq))) (new_lst S3.all hq (cutV_rep k2 l u))⟩)
    | @tup p xs ds k1 k2 =>
      cases ed
      refine .inr (.inr ⟨p, xs, rfl, sqT_mono (fun _ _ => hid_sub) k1.sq, fun ⟨z1, z2⟩ => ?_, fun _ q o ho hq => h4 _ _ (g13.trans (S3.pure (same_upd hq))) (new_tup ho S3.all hq (cutV_rep k2 l u))⟩)
      refine h4 _ H3 g13 ?_
      rw [k2.length] at z1 z2
      unfold cutL
      rw [z1, z2, List.drop_zero, Nat.sub_zero, List.take_length]
      exact .tup k1 k2
    | _ => cases ed

/-! ### built-ins -/
def fLen : List D → Option D
  | [.str z] => if z.length ≤ sizeLine then some (.int z.length) else none
  | [.list ds] => some (.int ds.length)
  | [.tuple ds] => some (.int ds.length)
  | _ => none
theorem o_len : OpN K (fun xs H Q => ∃ x n, xs = [x] ∧ LenV K x H n ∧ Q (.int n) H) fLen := by
  intro B H xs as d Q all r e q
  cases r with
  | nil => cases e
  | @cons v vs a as r1 r2 =>
    cases r2 with
    | nil =>
      cases r1 with
      | str z =>
        unfold fLen at e
        simp only at e
        split at e
        · cases e; exact ⟨_, z.length, rfl, ⟨by assumption, rfl⟩, q _ H (Same.refl H) (.int _)⟩
        · cases e
      | @lst p xs ds h1 h2 => cases e; exact ⟨_, xs.length, rfl, .inl ⟨xs, .inl (.inl (hid_sub h1)), rfl⟩, by rw [h2.length]; exact q _ H (Same.refl H) (.int _)⟩
      | @tup p xs ds h1 h2 => cases e; exact ⟨_, xs.length, rfl, .inr ⟨xs, sqT_mono (fun _ _ => hid_sub) h1.sq, rfl⟩, by rw [h2.length]; exact q _ H (Same.refl H) (.int _)⟩
      | _ => cases e
    | cons _ _ => unfold fLen at e; cases r1 <;> cases e
def fTuple : List D → Option D
  | [.list ds] => some (.tuple ds)
  | [.tuple ds] => some (.tuple ds)
  | _ => none
theorem o_tuple : OpN K (rTupP K) fTuple := by
  intro B H xs as d Q all r e q
  cases r with
  | nil => cases e
  | @cons v vs a as r1 r2 =>
    cases r2 with
    | nil =>
      cases r1 with
      | @lst p xs ds h1 h2 => cases e; exact ⟨p, xs, rfl, .inl ⟨.inl (.inl (hid_sub h1)), fun l o ho hl => q _ _ (same_upd hl) (new_tup ho all hl h2)⟩⟩
      | @tup p xs ds h1 h2 => cases e; exact ⟨p, xs, rfl, .inr ⟨sqT_mono (fun _ _ => hid_sub) h1.sq, q _ H (Same.refl H) (.tup h1 h2)⟩⟩
      | _ => cases e
    | cons _ _ => unfold fTuple at e; cases r1 <;> cases e
def fList : List D → Option (List D)
  | [.list ds] => some ds
  | [.tuple ds] => some ds
  | _ => none
theorem o_list : OpNF K (fun xs H Q => ∃ p ys, xs = [.ref p] ∧ (SqL K H p ys ∨ SqT K H p ys) ∧ ∀ l, H l = none → Q (.ref l) (upd H l (.lst ys))) fList := by
  intro B H xs as ds' Q all r e q
  cases r with
  | nil => cases e
  | @cons v vs a as r1 r2 =>
    cases r2 with
    | nil =>
      cases r1 with
      | @lst p xs ds h1 h2 => cases e; exact ⟨p, xs, rfl, .inl (.inl (.inl (hid_sub h1))), fun l hl => q l xs _ (same_upd hl) hl upd_same (Rep.monoAll (hid_fresh hl) _ _ h2)⟩
      | @tup p xs ds h1 h2 => cases e; exact ⟨p, xs, rfl, .inr (sqT_mono (fun _ _ => hid_sub) h1.sq), fun l hl => q l xs _ (same_upd hl) hl upd_same (Rep.monoAll (hid_fresh hl) _ _ h2)⟩
      | _ => cases e
    | cons _ _ => unfold fList at e; cases r1 <;> cases e
def fAny : List D → Option D
  | [.list ds] => (boolsOf ds).map fun bs => .bool (bs.any id)
  | _ => none
def fAll : List D → Option D
  | [.list ds] => (boolsOf ds).map fun bs => .bool (bs.all id)
  | _ => none
def fSum : List D → Option D
  | [.list ds] => (intsOf ds).map fun bs => .int bs.sum
  | _ => none
theorem o_any : OpN K (rAny K) fAny := by
  intro B H xs as d Q all r e q
  cases r with
  | nil => cases e
  | @cons v vs a as r1 r2 =>
    cases r2 with
    | nil =>
      cases r1 with
      | @lst p xs ds h1 h2 =>
        cases z : boolsOf ds with
        | none => simp [fAny, z] at e
        | some bs =>
          simp [fAny, z] at e
          subst e
          rw [boolsOf_eq z] at h2
          rw [h2.bools] at h1
          exact ⟨p, bs, rfl, .inl (.inl (hid_sub h1)), q _ H (Same.refl H) (.bl _)⟩
      | _ => cases e
    | cons _ _ => unfold fAny at e; cases r1 <;> cases e
theorem o_all : OpN K (rAll K) fAll := by
  intro B H xs as d Q all r e q
  cases r with
  | nil => cases e
  | @cons v vs a as r1 r2 =>
    cases r2 with
    | nil =>
      cases r1 with
      | @lst p xs ds h1 h2 =>
        cases z : boolsOf ds with
        | none => simp [fAll, z] at e
        | some bs =>
          simp [fAll, z] at e
          subst e
          rw [boolsOf_eq z] at h2
          rw [h2.bools] at h1
          exact ⟨p, bs, rfl, .inl (.inl (hid_sub h1)), q _ H (Same.refl H) (.bl _)⟩
      | _ => cases e
    | cons _ _ => unfold fAll at e; cases r1 <;> cases e
theorem o_sum : OpN K (rSum K) fSum := by
  intro B H xs as d Q all r e q
  cases r with
  | nil => cases e
  | @cons v vs a as r1 r2 =>
    cases r2 with
    | nil =>
      cases r1 with
      | @lst p xs ds h1 h2 =>
        cases z : intsOf ds with
        | none => simp [fSum, z] at e
        | some bs =>
          simp [fSum, z] at e
          subst e
          rw [intsOf_eq z] at h2
          rw [h2.ints] at h1
          exact ⟨p, bs, rfl, .inl (.inl (hid_sub h1)), q _ H (Same.refl H) (.int _)⟩
      | _ => cases e
    | cons _ _ => unfold fSum at e; cases r1 <;> cases e
def fAbs : List D → Option D
  | [.int i] => some (.int (if i < 0 then -i else i))
  | _ => none
def fMax2 : List D → Option D
  | [.int i, .int j] => some (.int (if j > i then j else i))
  | _ => none
def fMin2 : List D → Option D
  | [.int i, .int j] => some (.int (if j < i then j else i))
  | _ => none
def fInt : List D → Option D
  | [.int i] => some (.int i)
  | [.bool k] => some (.int (if k then 1 else 0))
  | _ => none
def fOrd : List D → Option D
  | [.str x] => if x.length = 1 then some (.int (x.cps.getD 0 0 : Nat)) else none
  | _ => none
theorem o_abs : OpN K (fun xs H Q => ∃ i, xs = [.int i] ∧ Q (.int (if i < 0 then -i else i)) H) fAbs := by
  intro B H xs as d Q all r e q
  cases r with
  | nil => cases e
  | @cons v vs a as r1 r2 =>
    cases r2 with
    | nil =>
      cases r1 with
      | int i => cases e; exact ⟨i, rfl, q _ H (Same.refl H) (.int _)⟩
      | _ => cases e
    | cons _ _ => unfold fAbs at e; cases r1 <;> cases e
theorem o_int : OpN K (fun xs H Q => (∃ i, xs = [.int i] ∧ Q (.int i) H) ∨ ∃ k, xs = [.bl k] ∧ Q (.int (if k then 1 else 0)) H) fInt := by
  intro B H xs as d Q all r e q
  cases r with
  | nil => cases e
  | @cons v vs a as r1 r2 =>
    cases r2 with
    | nil =>
      cases r1 with
      | int i => cases e; exact .inl ⟨i, rfl, q _ H (Same.refl H) (.int _)⟩
      | bl k => cases e; exact .inr ⟨k, rfl, q _ H (Same.refl H) (.int _)⟩
      | _ => cases e
    | cons _ _ => unfold fInt at e; cases r1 <;> cases e
theorem o_ord : OpN K (fun xs H Q => ∃ x, xs = [.str x] ∧ x.length = 1 ∧ Q (.int (x.cps.getD 0 0 : Nat)) H) fOrd := by
  intro B H xs as d Q all r e q
  cases r with
  | nil => cases e
  | @cons v vs a as r1 r2 =>
    cases r2 with
    | nil =>
      cases r1 with
      | str x =>
        unfold fOrd at e
        simp only at e
        split at e
        · cases e; exact ⟨x, rfl, by assumption, q _ H (Same.refl H) (.int _)⟩
        · cases e
      | _ => cases e
    | cons _ _ => unfold fOrd at e; cases r1 <;> cases e
theorem o_max2 : OpN K (fun xs H Q => ∃ i j, xs = [.int i, .int j] ∧ Q (.int (if j > i then j else i)) H) fMax2 := by
  intro B H xs as d Q all r e q
  cases r with
  | nil => cases e
  | @cons v vs a as r1 r2 =>
    cases r2 with
    | nil => cases r1 <;> cases e
    | @cons v2 vs2 a2 as2 r3 r4 =>
      cases r4 with
      | nil =>
        cases r1 with
        | int i =>
          cases r3 with
          | int j => cases e; exact ⟨i, j, rfl, q _ H (Same.refl H) (.int _)⟩
          | _ => cases e
        | _ => cases r3 <;> cases e
      | cons _ _ => unfold fMax2 at e; cases r1 <;> cases r3 <;> cases e
theorem o_min2 : OpN K (fun xs H Q => ∃ i j, xs = [.int i, .int j] ∧ Q (.int (if j < i then j else i)) H) fMin2 := by
  intro B H xs as d Q all r e q
  cases r with
  | nil => cases e
  | @cons v vs a as r1 r2 =>
    cases r2 with
    | nil => cases r1 <;> cases e
    | @cons v2 vs2 a2 as2 r3 r4 =>
      cases r4 with
      | nil =>
        cases r1 with
        | int i =>
          cases r3 with
          | int j => cases e; exact ⟨i, j, rfl, q _ H (Same.refl H) (.int _)⟩
          | _ => cases e
        | _ => cases r3 <;> cases e
      | cons _ _ => unfold fMin2 at e; cases r1 <;> cases r3 <;> cases e
end
end G

namespace G
open PySem PySem.Spec PyProof.Rows L2

/-! ### what is walked -/
def itemsD : D → Option (List D)
  | .list ds => some ds
  | .tuple ds => some ds
  | .str z => some (z.cps.toList.map fun c => T [c])
  | _ => none
def gItems (g : M D) : M (List D) := fun ρ n => (g ρ n).bind fun d n1 => Res.lift (itemsD d) n1
section
variable {X : Cx} {K : PySem.W.Frag} {ca : String → Addr} {W : WX} {tg e : Expr} {g : M D}
def iAny (K : PySem.W.Frag) (te : TE) : TI := fun σ H R => te σ H fun x H1 => (∃ a, x = .ref a ∧ (∃ xs, SqL K H1 a xs) ∧ R (Itl K a) H1) ∨ (∃ a, x = .ref a ∧ (∃ xs, SqT K H1 a xs) ∧ R (Itt K a) H1) ∨ ∃ z, x = .str z ∧ R (Its z) H1
theorem pi_any {te : TE} (he : PE X e te) : PI X tg e (iAny X.K te) := by
  refine ⟨fun pins s σ H R I h => ?_⟩
  refine thn (he.run pins s σ H _ I h) fun v s1 ⟨x, H1, I1, r1, q1⟩ => ?_
  rcases q1 with ⟨a, rfl, ⟨xs, hq⟩, q⟩ | ⟨a, rfl, ⟨xs, hq⟩, q⟩ | ⟨x, rfl, q⟩
  · cases r1
    obtain ⟨its, rv, p, hz⟩ := I1.list hq
    refine wpAny_pyIter_list p.isList ?_
    refine ⟨s1.heap.objs.size, [s1.heap.objs.size], _, _, H1, rfl, I1.kept (t' := s1.toks) fun b o e => Heap.get?_push_of_some _ e, turn_list a _, ⟨_, Heap.get?_push_size _ rfl, rfl, rfl⟩, fun b hb => ?_, q⟩
    have e : b = s1.heap.objs.size := by simpa using hb
    subst e
    exact I1.fpOk (Nat.le_refl _) (I1.hok.fresh (Nat.le_refl _))
  · cases r1
    obtain ⟨its, rv, p, hz⟩ := I1.tuple hq
    refine wpAny_pyIter_tuple (show s1.heap.IsTuple a its.toArray from p) ?_
    refine ⟨s1.heap.objs.size, [s1.heap.objs.size], _, _, H1, rfl, I1.kept (t' := s1.toks) fun b o e => Heap.get?_push_of_some _ e, turn_tuple a _, ⟨_, Heap.get?_push_size _ rfl, rfl, rfl⟩, fun b hb => ?_, q⟩
    have e : b = s1.heap.objs.size := by simpa using hb
    subst e
    exact I1.fpOk (Nat.le_refl _) (I1.hok.fresh (Nat.le_refl _))
  · obtain ⟨t, rfl⟩ := r1
    cases ha : x.cps.all (· < 128)
    · exact wpAny_pyIter_wide ha (pi_one (tk := s1.toks) I1 _ (turn_str _ x t "str_iterator" (.inr rfl)) ⟨_, Heap.get?_push_size _ rfl, rfl, rfl⟩ q)
    · exact wpAny_pyIter_ascii ha (pi_one (tk := s1.toks) I1 _ (turn_str _ x t "str_ascii_iterator" (.inl rfl)) ⟨_, Heap.get?_push_size _ rfl, rfl, rfl⟩ q)
theorem it_list {B : List Addr} {H : Hp} {a : Addr} {xs : List V} {ds : List D} (h : hid B H a = some (.lst xs)) (r : RepAll K (hid B H) xs ds) : ItOk K B H (Itl K a) ds := fun i B' H' se all => by
  have h' : H' a = some (.lst xs) := hid_sub (se _ _ h)
  have sq : SqL K H' a xs := .inl (.inl h')
  have r' := Rep.monoAll se _ _ r
  refine ⟨fun hi => ⟨xs, xs[i]'(by rw [r.length]; exact hi), sq, List.getElem?_eq_getElem _⟩, fun hi => ⟨xs, sq, by rw [r.length]; exact hi⟩, fun d x H2 hd y => ?_⟩
  obtain ⟨rfl, y⟩ := y
  obtain ⟨v, hv, rv⟩ := r'.get hd
  have e := (y xs sq).symm.trans hv
  cases e
  exact ⟨Same.refl _, rv⟩
theorem it_str {B : List Addr} {H : Hp} (z : Str) : ItOk K B H (Its z) (z.cps.toList.map fun c => T [c]) := fun i B' H' se all => by
  refine ⟨fun hi => by (show i < z.cps.size; simpa using hi), fun hi => by (show z.cps.size ≤ i; simpa using hi), fun d x H2 hd y => ?_⟩
  obtain ⟨rfl, c, hc, rfl⟩ := y
  have e : z.cps.toList[i]? = some c := by simpa using hc
  rw [List.getElem?_map, e] at hd
  cases hd
  exact ⟨Same.refl _, .str _⟩
theorem ig_any (he : PE X e (tG X.K ca W g)) : PI X tg e (iG X.K ca W (gItems g)) := ⟨fun pins s σ H R I ⟨c, ρ, n, S, h⟩ => by
  refine (pi_any he).run pins s σ H R I ⟨c, ρ, n, S, (Res.post_bind h).mono (fun d n1 h1 x H1 g1 r1 => ?_) (fun e m h => h)⟩
  obtain ⟨ds, e, h2⟩ := Res.post_lift h1
  cases r1 with
  | @lst a xs es k1 k2 => cases e; exact .inl ⟨a, rfl, ⟨xs, .inl (.inl (hid_sub k1))⟩, h2 _ H1 g1 (it_list k1 k2)⟩
  | @tup a xs es k1 k2 =>
    cases e
    refine .inr (.inl ⟨a, rfl, ⟨xs, sqT_mono (fun _ _ => hid_sub) k1.sq⟩, h2 _ H1 g1 fun i B' H' se all => ?_⟩)
    have sq : SqT X.K H' a xs := sqT_mono (fun b o q => hid_sub (se b o q)) k1.sq
    have r' := Rep.monoAll se _ _ k2
    refine ⟨fun hi => ⟨xs, xs[i]'(by rw [k2.length]; exact hi), sq, List.getElem?_eq_getElem _⟩, fun hi => ⟨xs, sq, by rw [k2.length]; exact hi⟩, fun d x H2 hd y => ?_⟩
    obtain ⟨rfl, y⟩ := y
    obtain ⟨v, hv, rv⟩ := r'.get hd
    have e := (y xs sq).symm.trans hv
    cases e
    exact ⟨Same.refl _, rv⟩
  | str z => cases e; exact .inr (.inr ⟨z, rfl, h2 _ H1 g1 (it_str z)⟩)
  | _ => cases e⟩
/-- range -/
def rngL (lo : Int) (n : Nat) : List D := (List.range n).map fun i : Nat => PyData.int (lo + ((i : Nat) : Int))
theorem it_rng {B : List Addr} {H : Hp} (lo : Int) (n : Nat) : ItOk K B H (Itr lo n) (rngL lo n) := fun i B' H' se all => by
  refine ⟨fun hi => by (show i < n; simpa [rngL] using hi), fun hi => by (show n ≤ i; simpa [rngL] using hi), fun d x H2 hd y => ?_⟩
  obtain ⟨rfl, rfl⟩ := y
  unfold rngL at hd
  rw [List.getElem?_map] at hd
  by_cases hi : i < n
  · rw [List.getElem?_range hi] at hd
    cases hd
    exact ⟨Same.refl _, .int _⟩
  · rw [List.getElem?_eq_none (by simpa using hi)] at hd
    cases hd
noncomputable def small62 (j : Int) : Bool := @decide (-(2 ^ 62) ≤ j ∧ j < 2 ^ 62) (Classical.propDecidable _)
theorem small62_iff {j : Int} : small62 j = true ↔ -(2 ^ 62) ≤ j ∧ j < 2 ^ 62 := @decide_eq_true_iff _ (Classical.propDecidable _)
theorem small62_of {j : Int} (h : small62 j = true) : -(2 ^ 62) ≤ j ∧ j < 2 ^ 62 := small62_iff.mp h
noncomputable def fRng1 : List D → Option (List D)
  | [.int j] => if small62 j = true then some (rngL 0 j.toNat) else none
  | _ => none
noncomputable def fRng2 : List D → Option (List D)
  | [.int i, .int j] => if small62 i = true ∧ small62 j = true then some (rngL i (j - i).toNat) else none
  | _ => none
def gRng (f : List D → Option (List D)) (g : M (List L)) : M (List D) := fun ρ n => (g ρ n).bind fun ls n1 => (asDs ls n1).bind fun ds n2 => Res.lift (f ds) n2
theorem ig_rng1 {a : Expr} {ga : M (List L)} {p pos : Pos} (hg : Gl X "range") (hm : X.mg "range" = none) (ha : PA X [a] (tGA X.K ca W ga)) (hs : starEach [a] X.env = [(false, eval a X.env)] := by rfl) : PI X tg (.Call (.Name "range" p) [a] [] pos) (iG X.K ca W (gRng fRng1 ga)) :=
  ⟨fun pins s σ H R I ⟨c, ρ, n, S, h⟩ => by
    refine (pi_range1 hg hm ha hs).run pins s σ H R I ⟨c, ρ, n, S, (Res.post_bind h).mono (fun ls n1 h1 vs H1 g1 r1 => ?_) (fun e m h => h)⟩
    obtain ⟨ds, e, h2⟩ := Res.post_lift (Res.post_bind h1)
    obtain ⟨is, e2, h3⟩ := Res.post_lift h2
    have r2 := r1.ds e
    cases r2 with
    | nil => cases e2
    | @cons v vs d ds k1 k2 =>
      cases k2 with
      | nil =>
        cases k1 with
        | int j =>
          unfold fRng1 at e2
          simp only at e2
          split at e2
          · rename_i hz
            cases e2
            obtain ⟨z1, z2⟩ := small62_of hz
            exact ⟨j, rfl, z1, z2, h3 _ H1 g1 (it_rng 0 _)⟩
          · cases e2
        | _ => cases e2
      | cons _ _ => unfold fRng1 at e2; cases k1 <;> cases e2⟩
theorem ig_rng2 {a b : Expr} {ga : M (List L)} {p pos : Pos} (hg : Gl X "range") (hm : X.mg "range" = none) (ha : PA X [a, b] (tGA X.K ca W ga)) (hs : starEach [a, b] X.env = [(false, eval a X.env), (false, eval b X.env)] := by rfl) (hs2 : starEach [b] X.env = [(false, eval b X.env)] := by rfl) :
    PI X tg (.Call (.Name "range" p) [a, b] [] pos) (iG X.K ca W (gRng fRng2 ga)) :=
  ⟨fun pins s σ H R I ⟨c, ρ, n, S, h⟩ => by
    refine (pi_range2 hg hm ha hs hs2).run pins s σ H R I ⟨c, ρ, n, S, (Res.post_bind h).mono (fun ls n1 h1 vs H1 g1 r1 => ?_) (fun e m h => h)⟩
    obtain ⟨ds, e, h2⟩ := Res.post_lift (Res.post_bind h1)
    obtain ⟨is, e2, h3⟩ := Res.post_lift h2
    have r2 := r1.ds e
    cases r2 with
    | nil => cases e2
    | @cons v vs d ds k1 k2 =>
      cases k2 with
      | nil => cases k1 <;> cases e2
      | @cons v2 vs2 d2 ds2 k3 k4 =>
        cases k4 with
        | nil =>
          cases k1 with
          | int i =>
            cases k3 with
            | int j =>
              unfold fRng2 at e2
              simp only at e2
              split at e2
              · rename_i hz
                cases e2
                obtain ⟨z1, z2⟩ := small62_of hz.1
                obtain ⟨z3, z4⟩ := small62_of hz.2
                exact ⟨i, j, rfl, ⟨z1, z2, z3, z4⟩, h3 _ H1 g1 (it_rng i _)⟩
              · cases e2
            | _ => cases e2
          | _ => cases k3 <;> cases e2
        | cons _ _ => unfold fRng2 at e2; cases k1 <;> cases k3 <;> cases e2⟩

/-! ### the script, the town -/
def cScrT (i : Nat) : M Bool := fun ρ n => match ρ[i]? with
  | some (some (.scr ns)) => .ok (!ns.isEmpty) n
  | _ => .bad
def cScrIx (i : Nat) (g : M D) : M D := fun ρ n => match ρ[i]? with
  | some (some (.scr ns)) => (g ρ n).bind fun z n1 => match z with
    | .int k => Res.lift ((atI ns k).map PyData.int) n1
    | _ => .bad
  | _ => .bad
def cLenV (i : Nat) : M D := fun ρ n => match ρ[i]? with
  | some (some (.scr ns)) => .ok (.int ns.length) n
  | some (some .town) => .ok (.int (n % 33554432 : Nat)) n
  | _ => .bad
variable {pos : Pos}
theorem et_scr (i : Nat) {x : Str} (hN : X.N[i]? = some x := by rfl) (hv : Vis X.env.scope x := by first | exact Or.inl rfl | exact Or.inr (Or.inl rfl) | exact Or.inr (Or.inr rfl)) (hd : (x == ("__debug__" : Str)) = false := by decide)
    (hcd : (x == ("__classdict__" : Str)) = false := by decide) (he : ∀ whole, isTrue (.Name x pos) X.env whole = (do let v ← whole; standAt pos; holding [v] (truthy v)) := by intro _; rfl) : PT X (.Name x pos) (tGT X.K ca W (cScrT i)) :=
  PT.weak (pt_truth (pe_var hN hv hd hcd) he) fun σ H Q ⟨c, ρ, n, S, h⟩ => by
    unfold cScrT at h
    split at h
    · rename_i ns q
      obtain ⟨v, h1, a, rfl, h2⟩ := S.slot i _ q
      refine ⟨_, h1, !ns.isEmpty, .inl ⟨_, sqL_mono (fun _ _ => hid_sub) h2, by cases ns <;> rfl⟩, h H S.gx⟩
    · exact h.elim
theorem atI_map {α β : Type} (f : α → β) (xs : List α) (i : Int) : atI (xs.map f) i = (atI xs i).map f := by
  unfold atI
  rw [List.length_map]
  cases ixN xs.length i with
  | none => rfl
  | some j => simp
theorem ev_scrIx (i : Nat) {x : Str} {b : Expr} {p : Pos} (hb : PE X b (tG X.K ca W g)) (hs : PlainIx b := by exact fun _ _ => rfl) (hN : X.N[i]? = some x := by rfl) (hv : Vis X.env.scope x := by first | exact Or.inl rfl | exact Or.inr (Or.inl rfl) | exact Or.inr (Or.inr rfl)) (hd : (x == ("__debug__" : Str)) = false := by decide)
    (hcd : (x == ("__classdict__" : Str)) = false := by decide) : PE X (.Subscript (.Name x p) b pos) (tG X.K ca W (cScrIx i g)) :=
  PE.weak (pe_ix ix_list (pe_var hN hv hd hcd) hb hs) fun σ H Q ⟨c, ρ, n, S, h⟩ => by
    unfold cScrIx at h
    split at h
    · rename_i ns q
      obtain ⟨v, h1, a, rfl, h2⟩ := S.slot i _ q
      refine ⟨_, h1, c, ρ, n, S, (Res.post_bind h).mono (fun z n1 h3 y H1 g1 r1 => ?_) (fun e m h => h)⟩
      split at h3
      · rename_i k
        cases r1
        obtain ⟨d, e, h4⟩ := Res.post_lift h3
        cases z : atI ns k with
        | none => rw [z] at e; cases e
        | some j =>
          rw [z] at e
          cases e
          exact ⟨a, _, k, .int j, rfl, rfl, sqL_mono (fun b o q => hid_sub (g1.sees S.tB' b o q)) h2, by rw [atI_map, z]; rfl, h4 _ H1 g1 (.int j)⟩
      · exact h3.elim
    · exact h.elim
theorem ev_lenV (i : Nat) {x : Str} {p p2 : Pos} (hg : Gl X "len") (hm : X.mg "len" = none) (hN : X.N[i]? = some x := by rfl) (hv : Vis X.env.scope x := by first | exact Or.inl rfl | exact Or.inr (Or.inl rfl) | exact Or.inr (Or.inr rfl)) (hd : (x == ("__debug__" : Str)) = false := by decide)
    (hcd : (x == ("__classdict__" : Str)) = false := by decide) (hs : starEach [(.Name x p2 : Expr)] X.env = (false, eval (.Name x p2) X.env) :: starEach [] X.env := by rfl) (hpl : (backTo pos (starEach [] X.env)).any (·.1) = false := by rfl) : PE X (.Call (.Name "len" p) [.Name x p2] [] pos) (tG X.K ca W (cLenV i)) :=
  PE.weak (pe_callB call_len_seq hg hm PySem.boot_len (pa_cons (pe_var hN hv hd hcd) pa_nil hs) (by decide) (by decide) hs hpl) fun σ H Q ⟨c, ρ, n, S, h⟩ => by
    unfold cLenV at h
    split at h
    · rename_i ns q
      obtain ⟨v, h1, a, rfl, h2⟩ := S.slot i _ q
      refine ⟨_, h1, a, _, rfl, .inl (sqL_mono (fun _ _ => hid_sub) h2), ?_⟩
      rw [List.length_map]
      exact h _ H S.gx (.int _)
    · rename_i q
      obtain ⟨v, h1, rfl⟩ := S.slot i _ q
      refine ⟨_, h1, c.t, _, rfl, .inl (.inl (.inl S.town)), ?_⟩
      rw [List.length_replicate]
      exact h _ H S.gx (.int _)
    · exact h.elim

/-! ### a text's methods -/
def cM1 (f : D → D → Option D) (go ge : M D) : M D := fun ρ n => (go ρ n).bind fun a n1 => match a with
  | .str z => (ge ρ n1).bind fun b n2 => Res.lift (f (.str z) b) n2
  | _ => .bad
def cM0 (f : D → Option D) (go : M D) : M D := fun ρ n => (go ρ n).bind fun a n1 => match a with
  | .str z => Res.lift (f (.str z)) n1
  | _ => .bad
def cM1F (f : D → D → Option (List D)) (go ge : M D) : M (List D) := fun ρ n => (go ρ n).bind fun a n1 => match a with
  | .str z => (ge ρ n1).bind fun b n2 => Res.lift (f (.str z) b) n2
  | _ => .bad
def OpM1 (K : PySem.W.Frag) (r : V → List V → Hp → VK → Prop) (f : D → D → Option D) : Prop :=
  ∀ (B : List Addr) (H : Hp) (z : Str) (y : V) (b d : D) (Q : VK), (∀ b ∈ B, H b ≠ none) → Rep K (hid B H) y b → f (.str z) b = some d → (∀ v H', Same H H' → Rep K (hid B H') v d → Q v H') → r (.str z) [y] H Q
def OpM0 (K : PySem.W.Frag) (r : V → List V → Hp → VK → Prop) (f : D → Option D) : Prop :=
  ∀ (B : List Addr) (H : Hp) (z : Str) (d : D) (Q : VK), (∀ b ∈ B, H b ≠ none) → f (.str z) = some d → (∀ v H', Same H H' → Rep K (hid B H') v d → Q v H') → r (.str z) [] H Q
def OpM1F (K : PySem.W.Frag) (r : V → List V → Hp → VK → Prop) (f : D → D → Option (List D)) : Prop :=
  ∀ (B : List Addr) (H : Hp) (z : Str) (y : V) (b : D) (ds : List D) (Q : VK), (∀ b ∈ B, H b ≠ none) → Rep K (hid B H) y b → f (.str z) b = some ds →
    (∀ p vs H', Same H H' → H p = none → H' p = some (.lst vs) → RepAll K (hid (p :: B) H') vs ds → Q (.ref p) H') → r (.str z) [y] H Q
theorem ev_m1 {o : Expr} {go ge : M D} {id : String} {name : Str} {apos : Pos} {r : V → List V → Hp → VK → Prop} {f : D → D → Option D} (slot : Slot "str" name id) (ty : typeOf (.builtin id) = pure (.type "method_descriptor")) (rule : MtR X id r) (hf : OpM1 X.K r f) (ho : PE X o (tG X.K ca W go)) (he : PE X e (tG X.K ca W ge))
    (hs : starEach [e] X.env = [(false, eval e X.env)] := by rfl) (hbase : attributeBase o name X.env (eval o X.env) = eval o X.env := by rfl) (hline : (apos.endLine == pos.line) = true := by rfl) :
    PE X (.Call (.Attribute o name apos) [e] [] pos) (tG X.K ca W (cM1 f go ge)) :=
  PE.weak (pe_m1 slot ty rule ho he hs hbase hline) fun σ H Q ⟨c, ρ, n, S, h⟩ => by
    refine ⟨c, ρ, n, S, (Res.post_bind h).mono (fun a n1 h1 x H1 g1 r1 => ?_) (fun e m h => h)⟩
    have S1 := S.ext g1
    split at h1
    · rename_i z
      cases r1
      refine ⟨⟨z, rfl⟩, c, ρ, n1, S1, (Res.post_bind h1).mono (fun b n2 h2 y H2 g2 r2 => ?_) (fun e m h => exK.at h g1)⟩
      obtain ⟨d, ed, h3⟩ := Res.post_lift h2
      have S2 := S1.ext g2
      exact hf c.B H2 z y b d Q S2.all r2 ed fun v H3 s3 r3 => h3 v H3 ((g1.trans g2).trans (S2.pure s3)) r3
    · exact h1.elim
theorem ev_m0 {o : Expr} {go : M D} {id : String} {name : Str} {apos : Pos} {r : V → List V → Hp → VK → Prop} {f : D → Option D} (slot : Slot "str" name id) (ty : typeOf (.builtin id) = pure (.type "method_descriptor")) (rule : MtR X id r) (hf : OpM0 X.K r f) (ho : PE X o (tG X.K ca W go))
    (hbase : attributeBase o name X.env (eval o X.env) = eval o X.env := by rfl) (hline : (apos.endLine == pos.line) = true := by rfl) :
    PE X (.Call (.Attribute o name apos) [] [] pos) (tG X.K ca W (cM0 f go)) :=
  PE.weak (pe_m0 slot ty rule ho hbase hline) fun σ H Q ⟨c, ρ, n, S, h⟩ => by
    refine ⟨c, ρ, n, S, (Res.post_bind h).mono (fun a n1 h1 x H1 g1 r1 => ?_) (fun e m h => h)⟩
    have S1 := S.ext g1
    split at h1
    · rename_i z
      cases r1
      obtain ⟨d, ed, h3⟩ := Res.post_lift h1
      exact ⟨⟨z, rfl⟩, hf c.B H1 z d Q S1.all ed fun v H3 s3 r3 => h3 v H3 (g1.trans (S1.pure s3)) r3⟩
    · exact h1.elim
theorem ef_m1 {o : Expr} {go ge : M D} {id : String} {name : Str} {apos : Pos} {r : V → List V → Hp → VK → Prop} {f : D → D → Option (List D)} (slot : Slot "str" name id) (ty : typeOf (.builtin id) = pure (.type "method_descriptor")) (rule : MtR X id r) (hf : OpM1F X.K r f) (ho : PE X o (tG X.K ca W go)) (he : PE X e (tG X.K ca W ge))
    (hs : starEach [e] X.env = [(false, eval e X.env)] := by rfl) (hbase : attributeBase o name X.env (eval o X.env) = eval o X.env := by rfl) (hline : (apos.endLine == pos.line) = true := by rfl) :
    PE X (.Call (.Attribute o name apos) [e] [] pos) (tGF X.K ca W (cM1F f go ge)) :=
  PE.weak (pe_m1 slot ty rule ho he hs hbase hline) fun σ H Q ⟨c, ρ, n, S, h⟩ => by
    refine ⟨c, ρ, n, S, (Res.post_bind h).mono (fun a n1 h1 x H1 g1 r1 => ?_) (fun e m h => h)⟩
    have S1 := S.ext g1
    split at h1
    · rename_i z
      cases r1
      refine ⟨⟨z, rfl⟩, c, ρ, n1, S1, (Res.post_bind h1).mono (fun b n2 h2 y H2 g2 r2 => ?_) (fun e m h => exK.at h g1)⟩
      obtain ⟨d, ed, h3⟩ := Res.post_lift h2
      have S2 := S1.ext g2
      exact hf c.B H2 z y b d Q S2.all r2 ed fun p vs H3 s3 hp hv r3 => h3 p vs H3 ((g1.trans g2).trans (S2.pure s3)) (fresh_back (g1.trans g2) hp) hv r3
    · exact h1.elim
/-- sep.join -/
def joinFit (a : Str) (ys : List Str) : Bool := decide ((ys.map (·.length)).sum + ys.length * a.length ≤ 16777216)
def mJoin : D → D → Option D
  | .str a, .list ds => (strsOf ds).bind fun ys => if joinFit a ys = true then some (.str (PySem.Txt.join a ys)) else none
  | .str a, .tuple ds => (strsOf ds).bind fun ys => if joinFit a ys = true then some (.str (PySem.Txt.join a ys)) else none
  | _, _ => none
theorem om_join : OpM1 K (fun x xs H Q => ∃ a p, ∃ ys : List Str, x = .str a ∧ xs = [.ref p] ∧ (SqL K H p (ys.map V.str) ∨ SqT K H p (ys.map V.str)) ∧
    (ys.map (·.length)).sum + ys.length * a.length ≤ 16777216 ∧ Q (.str (PySem.Txt.join a ys)) H) mJoin := by
  intro B H z y b d Q all r e q
  cases r with
  | @lst p xs ds k1 k2 =>
    cases s : strsOf ds with
    | none => simp [mJoin, s] at e
    | some ys =>
      simp [mJoin, s] at e
      obtain ⟨e1, rfl⟩ := e
      rw [strsOf_eq s] at k2
      rw [k2.strs] at k1
      exact ⟨z, p, ys, rfl, rfl, .inl (.inl (.inl (hid_sub k1))), of_decide_eq_true e1, q _ H (Same.refl H) (.str _)⟩
  | @tup p xs ds k1 k2 =>
    cases s : strsOf ds with
    | none => simp [mJoin, s] at e
    | some ys =>
      simp [mJoin, s] at e
      obtain ⟨e1, rfl⟩ := e
      rw [strsOf_eq s] at k2
      rw [k2.strs] at k1
      exact ⟨z, p, ys, rfl, rfl, .inr (sqT_mono (fun _ _ => hid_sub) k1.sq), of_decide_eq_true e1, q _ H (Same.refl H) (.str _)⟩
  | _ => cases e
def mRstrip : D → D → Option D
  | .str a, .str b => if a.length ≤ sizeLine then some (.str (PySem.Txt.rstripChars a b)) else none
  | _, _ => none
theorem om_rstrip : OpM1 K (fun x xs H Q => ∃ a b, x = .str a ∧ xs = [.str b] ∧ a.length ≤ sizeLine ∧ Q (.str (PySem.Txt.rstripChars a b)) H) mRstrip := by
  intro B H z y b d Q all r e q
  cases r with
  | str w =>
    unfold mRstrip at e
    simp only at e
    split at e
    · cases e; exact ⟨z, w, rfl, rfl, by assumption, q _ H (Same.refl H) (.str _)⟩
    · cases e
  | _ => cases e
def mEnds : D → D → Option D
  | .str a, .str b => some (.bool (PySem.Txt.endswith a b))
  | _, _ => none
theorem om_ends : OpM1 K (fun x xs H Q => ∃ a b, x = .str a ∧ xs = [.str b] ∧ Q (.bl (PySem.Txt.endswith a b)) H) mEnds := by
  intro B H z y b d Q all r e q
  cases r with
  | str w => cases e; exact ⟨z, w, rfl, rfl, q _ H (Same.refl H) (.bl _)⟩
  | _ => cases e
def mSplit : D → D → Option (List D)
  | .str a, .str b => if (b.length == 0) = false ∧ a.length + 2 ≤ sizeLine then some ((PySem.Txt.split a b).map PyData.str) else none
  | _, _ => none
theorem om_split : OpM1F K (fun x xs H Q => ∃ a b, x = .str a ∧ xs = [.str b] ∧ (b.length == 0) = false ∧ a.length + 2 ≤ sizeLine ∧ rNewStrs (PySem.Txt.split a b) H Q) mSplit := by
  intro B H z y b ds Q all r e q
  cases r with
  | str w =>
    unfold mSplit at e
    simp only at e
    split at e
    · rename_i h
      cases e
      exact ⟨z, w, rfl, rfl, h.1, h.2, fun p hp => q p _ _ (same_upd hp) hp upd_same RepAll.of_strs⟩
    · cases e
  | _ => cases e

/-! ### l[::-1] -/
def opRevL : D → Option (List D)
  | .list ds => some ds.reverse
  | _ => none
end
end G

namespace G
open PySem PySem.Spec PyProof.Rows L2

/-! ### a, b = x, y -/
def sParDD (i j : Nat) (ga gb : M D) : MS := fun ρ n => ofR (ga ρ n) ρ fun a n1 => ofR (gb ρ n1) ρ fun b n2 => if i < ρ.length ∧ j < ρ.length then .nx ((ρ.set i (some (.d a))).set j (some (.d b))) n2 else .bad
def sParDF (i j : Nat) (ga : M D) (gb : M (List D)) : MS := fun ρ n => ofR (ga ρ n) ρ fun a n1 => ofR (gb ρ n1) ρ fun b n2 => if i < ρ.length ∧ j < ρ.length ∧ i ≠ j then .nx ((ρ.set i (some (.d a))).set j (some (.own b))) n2 else .bad
def sParFD (i j : Nat) (ga : M (List D)) (gb : M D) : MS := fun ρ n => ofR (ga ρ n) ρ fun a n1 => ofR (gb ρ n1) ρ fun b n2 => if i < ρ.length ∧ j < ρ.length ∧ i ≠ j then .nx ((ρ.set i (some (.own a))).set j (some (.d b))) n2 else .bad
def sParFF (i j : Nat) (ga gb : M (List D)) : MS := fun ρ n => ofR (ga ρ n) ρ fun a n1 => ofR (gb ρ n1) ρ fun b n2 => if i < ρ.length ∧ j < ρ.length ∧ i ≠ j then .nx ((ρ.set i (some (.own a))).set j (some (.own b))) n2 else .bad
def sPar3 (i j k : Nat) (ga gb gc : M D) : MS := fun ρ n => ofR (ga ρ n) ρ fun a n1 => ofR (gb ρ n1) ρ fun b n2 => ofR (gc ρ n2) ρ fun e n3 => if i < ρ.length ∧ j < ρ.length ∧ k < ρ.length then .nx (((ρ.set i (some (.d a))).set j (some (.d b))).set k (some (.d e))) n3 else .bad
section
variable {K : PySem.W.Frag} {ca : String → Addr} {W : WX} {c : Fm} {σ : L2.St} {H H' H1 : Hp} {ρ : Env} {n n' n1 : Nat} {B' : List Addr} {E : Ends}
theorem h0_none (S : SR K c σ H ρ n) {a : Addr} (hn : H a = none) : c.H0 a = none := by
  cases q : c.H0 a with
  | none => rfl
  | some o => exact absurd hn (S.keep.all (by rw [S.town]; simp) (by rw [q]; simp))
/-- no own object stands at a new address -/
theorem no_own (S : SR K c σ H ρ n) {a : Addr} (hn : H a = none) : ∀ (j : Nat) (l' : L), ρ[j]? = some (some l') → isOwn l' = true → σ[j]? ≠ some (some (.ref a)) := fun j l' ej oj sj => by
  obtain ⟨v, q1, q2⟩ := S.slot j l' ej
  rw [sj] at q1
  cases q1
  cases l' with
  | own xs => obtain ⟨b, _, z, _, _, z4, _⟩ := q2; cases z; rw [hn] at z4; cases z4
  | dic xs => obtain ⟨b, _, z, _, _, z4, _⟩ := q2; cases z; rw [hn] at z4; cases z4
  | dit xs => obtain ⟨b, _, z, _, _, z4, _⟩ := q2; cases z; rw [hn] at z4; cases z4
  | ob o => exact nomatch o
  | _ => cases oj
/-- a new list stored -/
theorem SR.set_own (S : SR K c σ H ρ n) {i : Nat} (hi : i < ρ.length) {a : Addr} {vs : List V} {ds : List D} (ha : a ∈ c.B) (h0 : c.H0 a = none) (hv : H a = some (.lst vs)) (r : RepAll K (hid c.B H) vs ds)
    (no : ∀ (j : Nat) (l' : L), ρ[j]? = some (some l') → isOwn l' = true → σ[j]? ≠ some (some (.ref a))) : SR K c (σ.set i (some (.ref a))) H (ρ.set i (some (.own ds))) n :=
  S.set_ix hi ⟨a, vs, rfl, ha, h0, hv, r⟩ fun _ j l' b hj ej oj sj z => by
    cases z
    exact no j l' ej oj sj
end
section
variable {X : Cx} {ca : String → Addr} {W : WX} {a b e : Expr} {ga gb gc : M D} {fa fb : M (List D)} {pos : Pos}
theorem es_parDD {i j : Nat} {x y : Str} {px py pt : Pos} {kt k2 : Nat} {pt2 : Pos} (hc : X.calm = true) (hN : X.N.Nodup) (hi : X.N[i]? = some x) (hj : X.N[j]? = some y) (hij : i ≠ j)
    (hx : X.env.scope.names.lookup x = some .local) (hy : X.env.scope.names.lookup y = some .local) (ha : PE X a (tG X.K ca W ga)) (hb : PE X b (tG X.K ca W gb))
    (hw : swappedStores [.Tuple [.Name x px, .Name y py] kt pt] (.Tuple [a, b] k2 pt2) X.env = pure (some [x, y]))
    (hs1 : starEach [a, b] X.env = (false, eval a X.env) :: starEach [b] X.env := by rfl) (hs2 : starEach [b] X.env = (false, eval b X.env) :: starEach [] X.env := by rfl)
    (hs : swapsWithSole [.Tuple [.Name x px, .Name y py] kt pt] (.Tuple [a, b] k2 pt2) pos.line X.env = pure false := by rfl) :
    PS X (.Assign [.Tuple [.Name x px, .Name y py] kt pt] (.Tuple [a, b] k2 pt2) pos) (tS X.K ca W (sParDD i j ga gb)) :=
  PS.weak (ps_par hc hN hi hj hij hx hy (pa_cons ha (pa_cons hb pa_nil hs2) hs1) hw hs) fun E σ H ⟨c, ρ, n, S, h⟩ => by
    refine ⟨c, ρ, n, S, (post_ofR S h).mono (fun d n1 h1 v H1 g1 r1 => ?_) (fun e m h => h)⟩
    have S1 := S.ext g1
    refine ⟨c, ρ, n1, S1, (post_ofR S1 (h1.at (g1.sees S.tB'))).mono (fun d2 n2 h2 w H2 g2 r2 => ⟨v, w, rfl, ?_⟩) (fun e m h => h)⟩
    split at h2
    · rename_i hlt
      exact h2 _ H2 c.B (((S1.ext g2).set_d hlt.1 (Rep.mono (g2.sees S.tB') _ _ r1)).set_d (by simpa using hlt.2) r2) (g2.sees S.tB')
    · exact h2.elim
theorem es_parDF {i j : Nat} {x y : Str} {px py pt : Pos} {kt k2 : Nat} {pt2 : Pos} (hc : X.calm = true) (hN : X.N.Nodup) (hi : X.N[i]? = some x) (hj : X.N[j]? = some y) (hij : i ≠ j)
    (hx : X.env.scope.names.lookup x = some .local) (hy : X.env.scope.names.lookup y = some .local) (ha : PE X a (tG X.K ca W ga)) (hb : PE X b (tGF X.K ca W fb))
    (hw : swappedStores [.Tuple [.Name x px, .Name y py] kt pt] (.Tuple [a, b] k2 pt2) X.env = pure (some [x, y]))
    (hs1 : starEach [a, b] X.env = (false, eval a X.env) :: starEach [b] X.env := by rfl) (hs2 : starEach [b] X.env = (false, eval b X.env) :: starEach [] X.env := by rfl)
    (hs : swapsWithSole [.Tuple [.Name x px, .Name y py] kt pt] (.Tuple [a, b] k2 pt2) pos.line X.env = pure false := by rfl) :
    PS X (.Assign [.Tuple [.Name x px, .Name y py] kt pt] (.Tuple [a, b] k2 pt2) pos) (tS X.K ca W (sParDF i j ga fb)) :=
  PS.weak (ps_par hc hN hi hj hij hx hy (pa_cons ha (pa_cons hb pa_nil hs2) hs1) hw hs) fun E σ H ⟨c, ρ, n, S, h⟩ => by
    refine ⟨c, ρ, n, S, (post_ofR S h).mono (fun d n1 h1 v H1 g1 r1 => ?_) (fun e m h => h)⟩
    have S1 := S.ext g1
    refine ⟨c, ρ, n1, S1, (post_ofR S1 (h1.at (g1.sees S.tB'))).mono (fun ds n2 h2 p vs H2 g2 hn hv r2 => ⟨v, .ref p, rfl, ?_⟩) (fun e m h => h)⟩
    split at h2
    · rename_i hlt
      obtain ⟨S2, se⟩ := S1.adopt g2 hn hv rfl
      have S3 := S2.set_d (i := i) hlt.1 (Rep.mono se _ _ r1)
      refine h2 _ H2 _ (S3.set_own (by simpa using hlt.2.1) List.mem_cons_self (h0_none S1 hn) hv r2 fun k l' ek ok sk => ?_) se
      by_cases hk : i = k
      · subst hk
        rw [List.getElem?_set_self hlt.1] at ek
        cases ek
        cases ok
      · rw [List.getElem?_set_ne hk] at ek sk
        exact no_own S1 hn k l' ek ok sk
    · exact h2.elim
theorem es_parFD {i j : Nat} {x y : Str} {px py pt : Pos} {kt k2 : Nat} {pt2 : Pos} (hc : X.calm = true) (hN : X.N.Nodup) (hi : X.N[i]? = some x) (hj : X.N[j]? = some y) (hij : i ≠ j)
    (hx : X.env.scope.names.lookup x = some .local) (hy : X.env.scope.names.lookup y = some .local) (ha : PE X a (tGF X.K ca W fa)) (hb : PE X b (tG X.K ca W gb))
    (hw : swappedStores [.Tuple [.Name x px, .Name y py] kt pt] (.Tuple [a, b] k2 pt2) X.env = pure (some [x, y]))
    (hs1 : starEach [a, b] X.env = (false, eval a X.env) :: starEach [b] X.env := by rfl) (hs2 : starEach [b] X.env = (false, eval b X.env) :: starEach [] X.env := by rfl)
    (hs : swapsWithSole [.Tuple [.Name x px, .Name y py] kt pt] (.Tuple [a, b] k2 pt2) pos.line X.env = pure false := by rfl) :
    PS X (.Assign [.Tuple [.Name x px, .Name y py] kt pt] (.Tuple [a, b] k2 pt2) pos) (tS X.K ca W (sParFD i j fa gb)) :=
  PS.weak (ps_par hc hN hi hj hij hx hy (pa_cons ha (pa_cons hb pa_nil hs2) hs1) hw hs) fun E σ H ⟨c, ρ, n, S, h⟩ => by
    refine ⟨c, ρ, n, S, (post_ofR S h).mono (fun ds n1 h1 p vs H1 g1 hn hv r1 => ?_) (fun e m h => h)⟩
    obtain ⟨S1, se⟩ := S.adopt g1 hn hv rfl
    refine ⟨c.at (p :: c.B), ρ, n1, S1, (post_ofR S1 (h1.at se)).mono (fun d2 n2 h2 w H2 g2 r2 => ⟨.ref p, w, rfl, ?_⟩) (fun e m h => h)⟩
    split at h2
    · rename_i hlt
      have S2 := S1.ext g2
      have hv2 : H2 p = some (.lst vs) := g2.ext.to p _ hv (fun z => by
        have := S.all c.t S.tB'
        rw [← z, hn] at this
        exact this rfl) rfl
      have S3 := S2.set_own (i := i) hlt.1 List.mem_cons_self (h0_none S hn) hv2 (Rep.monoAll (g2.sees S1.tB') _ _ r1) (no_own S hn)
      exact h2 _ H2 _ (S3.set_d (by simpa using hlt.2.1) r2) (g2.sees S1.tB')
    · exact h2.elim
theorem es_parFF {i j : Nat} {x y : Str} {px py pt : Pos} {kt k2 : Nat} {pt2 : Pos} (hc : X.calm = true) (hN : X.N.Nodup) (hi : X.N[i]? = some x) (hj : X.N[j]? = some y) (hij : i ≠ j)
    (hx : X.env.scope.names.lookup x = some .local) (hy : X.env.scope.names.lookup y = some .local) (ha : PE X a (tGF X.K ca W fa)) (hb : PE X b (tGF X.K ca W fb))
    (hw : swappedStores [.Tuple [.Name x px, .Name y py] kt pt] (.Tuple [a, b] k2 pt2) X.env = pure (some [x, y]))
    (hs1 : starEach [a, b] X.env = (false, eval a X.env) :: starEach [b] X.env := by rfl) (hs2 : starEach [b] X.env = (false, eval b X.env) :: starEach [] X.env := by rfl)
    (hs : swapsWithSole [.Tuple [.Name x px, .Name y py] kt pt] (.Tuple [a, b] k2 pt2) pos.line X.env = pure false := by rfl) :
    PS X (.Assign [.Tuple [.Name x px, .Name y py] kt pt] (.Tuple [a, b] k2 pt2) pos) (tS X.K ca W (sParFF i j fa fb)) :=
  PS.weak (ps_par hc hN hi hj hij hx hy (pa_cons ha (pa_cons hb pa_nil hs2) hs1) hw hs) fun E σ H ⟨c, ρ, n, S, h⟩ => by
    refine ⟨c, ρ, n, S, (post_ofR S h).mono (fun ds n1 h1 p vs H1 g1 hn hv r1 => ?_) (fun e m h => h)⟩
    obtain ⟨S1, se⟩ := S.adopt g1 hn hv rfl
    refine ⟨c.at (p :: c.B), ρ, n1, S1, (post_ofR S1 (h1.at se)).mono (fun d2 n2 h2 q us H2 g2 hq hu r2 => ⟨.ref p, .ref q, rfl, ?_⟩) (fun e m h => h)⟩
    split at h2
    · rename_i hlt
      obtain ⟨S2, se2⟩ := S1.adopt g2 hq hu rfl
      have hv2 : H2 p = some (.lst vs) := g2.ext.to p _ hv (fun z => by
        have := S.all c.t S.tB'
        rw [← z, hn] at this
        exact this rfl) rfl
      have hpq : q ≠ p := fun z => by rw [z, hv] at hq; cases hq
      have S3 := S2.set_own (i := i) hlt.1 (List.mem_cons_of_mem _ List.mem_cons_self) (h0_none S hn) hv2 (Rep.monoAll se2 _ _ r1) (no_own S hn)
      refine h2 _ H2 _ (S3.set_own (by simpa using hlt.2.1) List.mem_cons_self (h0_none S1 hq) hu r2 fun k l' ek ok sk => ?_) se2
      by_cases hk : i = k
      · subst hk
        rw [List.getElem?_set_self (by rw [S1.len]; exact hlt.1)] at sk
        exact hpq (by cases sk; rfl)
      · rw [List.getElem?_set_ne hk] at ek sk
        exact no_own S1 hq k l' ek ok sk
    · exact h2.elim
theorem es_par3 {i j l : Nat} {x y z : Str} {px py pz pt : Pos} {kt k2 : Nat} {pt2 : Pos} {e : Expr} (hc : X.calm = true) (hN : X.N.Nodup) (hi : X.N[i]? = some x) (hj : X.N[j]? = some y) (hl : X.N[l]? = some z) (hij : i ≠ j) (hil : i ≠ l) (hjl : j ≠ l)
    (hx : X.env.scope.names.lookup x = some .local) (hy : X.env.scope.names.lookup y = some .local) (hz : X.env.scope.names.lookup z = some .local) (ha : PE X a (tG X.K ca W ga)) (hb : PE X b (tG X.K ca W gb)) (he : PE X e (tG X.K ca W gc))
    (hw : swappedStores [.Tuple [.Name x px, .Name y py, .Name z pz] kt pt] (.Tuple [a, b, e] k2 pt2) X.env = pure (some [x, y, z]))
    (hs1 : starEach [a, b, e] X.env = (false, eval a X.env) :: starEach [b, e] X.env := by rfl) (hs2 : starEach [b, e] X.env = (false, eval b X.env) :: starEach [e] X.env := by rfl) (hs3 : starEach [e] X.env = (false, eval e X.env) :: starEach [] X.env := by rfl)
    (hs : swapsWithSole [.Tuple [.Name x px, .Name y py, .Name z pz] kt pt] (.Tuple [a, b, e] k2 pt2) pos.line X.env = pure false := by rfl) :
    PS X (.Assign [.Tuple [.Name x px, .Name y py, .Name z pz] kt pt] (.Tuple [a, b, e] k2 pt2) pos) (tS X.K ca W (sPar3 i j l ga gb gc)) :=
  PS.weak (ps_par3 hc hN hi hj hl hij hil hjl hx hy hz (pa_cons ha (pa_cons hb (pa_cons he pa_nil hs3) hs2) hs1) hw hs) fun E σ H ⟨c, ρ, n, S, h⟩ => by
    refine ⟨c, ρ, n, S, (post_ofR S h).mono (fun d n1 h1 v H1 g1 r1 => ?_) (fun e m h => h)⟩
    have S1 := S.ext g1
    refine ⟨c, ρ, n1, S1, (post_ofR S1 (h1.at (g1.sees S.tB'))).mono (fun d2 n2 h2 w H2 g2 r2 => ?_) (fun e m h => h)⟩
    have S2 := S1.ext g2
    refine ⟨c, ρ, n2, S2, (post_ofR S2 (h2.at (g2.sees S.tB'))).mono (fun d3 n3 h3 u H3 g3 r3 => ⟨v, w, u, rfl, ?_⟩) (fun e m h => h)⟩
    split at h3
    · rename_i hlt
      exact h3 _ H3 c.B ((((S2.ext g3).set_d hlt.1 (Rep.mono ((g2.trans g3).sees S.tB') _ _ r1)).set_d (by simpa using hlt.2.1) (Rep.mono (g3.sees S.tB') _ _ r2)).set_d (by simpa using hlt.2.2) r3) (g3.sees S.tB')
    · exact h3.elim
end
end G
namespace G
open PySem PySem.Spec PyProof.Rows L2
section
variable {P : Program} {w : World} {K : PySem.W.Frag} {mg : Str → Option Value} {base : Heap} {ca : String → Addr}
theorem fn_ok2 {x qual : Str} {st : Stmt} {f : Addr} {fd : FuncData} {N ps : List Str} {k : Nat} {g : MS} (F : Fun K x qual st f fd) (S : FnScope N ps (defScope st))
    (hbody : ∀ (cdv : Value) (A : Around) (outer : List PySem.Env) (s : Shared) (H : Hp) (E : XK), Room k (A.deeper (envOfC qual (defScope st) s.heap.objs.size f cdv)) →
      Takes (cxOf (L2.CX P w) P w K mg base N qual (defScope st) f cdv A outer s H E) (fun cls d _ H => E cls d H) →
      PassesOwn (model P w) (A.deeper (envOfC qual (defScope st) s.heap.objs.size f cdv)) (envOfC qual (defScope st) s.heap.objs.size f cdv) (cxOf (L2.CX P w) P w K mg base N qual (defScope st) f cdv A outer s H E).xe →
      PSs (cxOf (L2.CX P w) P w K mg base N qual (defScope st) f cdv A outer s H E) (defBody st) (tS K ca (fun cls d _ H => E cls d H) g)) : FnOk P w K mg base (L2.CX P w) (k + 1) f fd ps (spG K ca ps.length (runF N.length g)) :=
  fn_ok F S fun cdv A outer s H E hr => hbody cdv A outer s H E hr (takes_of rfl rfl rfl rfl) (passes_of rfl)
theorem law_ok2 {st : Stmt} {f : Addr} {fd : FuncData} {N : List Str} {k : Nat} {g : MS} {x0 x1 : Str} {p1 p2 p3 : Pos} {rest : List Stmt} (F : Fun K "law" "law" st f fd) (S : FnScope N [x0] (defScope st)) (hb : defBody st = .Assign [.Name x1 p1] (.List [] p2) p3 :: rest) (hx : N[1]? = some x1) (hL : (defScope st).names.lookup x1 = some .local ∨ (defScope st).names.lookup x1 = some .cell) {m : Nat} (hm : N.length = m + 2)
    (hbody : ∀ (cdv : Value) (A : Around) (outer : List PySem.Env) (s : Shared) (H : Hp) (E : XK), Room k (A.deeper (envOfC "law" (defScope st) s.heap.objs.size f cdv)) →
      Takes (cxOf (L2.CX P w) P w K mg base N "law" (defScope st) f cdv A outer s H E) (fun cls d _ H => E cls d H) →
      PassesOwn (model P w) (A.deeper (envOfC "law" (defScope st) s.heap.objs.size f cdv)) (envOfC "law" (defScope st) s.heap.objs.size f cdv) (cxOf (L2.CX P w) P w K mg base N "law" (defScope st) f cdv A outer s H E).xe →
      PSs (cxOf (L2.CX P w) P w K mg base N "law" (defScope st) f cdv A outer s H E) rest (tS K ca (fun cls d _ H => E cls d H) g)) (law : LawTrue m g) : FnOk P w K mg base (L2.CX P w) (k + 1) f fd [x0] (spLaw K) :=
  law_ok (ca := ca) F S hb hx hL hm (fun _ _ _ _ _ _ => rfl) (fun cdv A outer s H E hr => hbody cdv A outer s H E hr (takes_of rfl rfl rfl rfl) (passes_of rfl)) law
/-- a def behind the top, by what the head tells -/
structure DefAt (K : PySem.W.Frag) (mg : Str → Option Value) (x : Str) (st : Stmt) (ps : List Str) (f : Addr) (fd : FuncData) : Prop where
  F : Fun K x x st f fd
  g : mg x = some (.ref f)
  b : Binds K fd ps []
theorem def_at {h : Heap} (X : K.In h) (G : h.Ns mainGlobals mg) {x : Str} {st : Stmt} {ps : List Str} {f : Addr} {oc : Value} {od an : Option Addr} {osl : Array (Option Value)} {kV doc pm cdv ct : Value}
    (a : PySem.W.nsIn K mainGlobals x = some (some (.ref f))) (l : K.lookup f = some ⟨oc, od, .func (PySem.W.fnOf x x (defArgs st) (defBody st) (defScope st) .none kV doc pm an cdv ct), osl⟩) (c : PySem.W.codeIn K cdv x = true) (k : PySem.W.keepIn K (.ref f) = true)
    (hb : ∀ (kV doc pm : Value) (an : Option Addr) (cdv ct : Value) (us : List Value), us.length = ps.length → bindArgs (PySem.W.fnOf x x (defArgs st) (defBody st) (defScope st) .none kV doc pm an cdv ct) ⟨us, []⟩ = pure (ps.zip us)) :
    DefAt K mg x st ps f (PySem.W.fnOf x x (defArgs st) (defBody st) (defScope st) .none kV doc pm an cdv ct) :=
  have F := fun_mk (st := st) l c k
  ⟨F, PySem.W.mg_of X G a, F.binds hb⟩
theorem no_exc {w : World} {P : Program} {H : Hp} {s : Shared} {e : Value} {s' : Shared} (h : L2.CX P w [] H s (fun _ _ _ => False) e s') : False := by
  obtain ⟨_, _, _, _, _, _, _, _, _, _, _, _, z⟩ := h
  exact z
end
end G

namespace G
open PySem PySem.Spec PyProof.Rows L2
section
variable {prog : Program} {w : World} {A : Around} {E : Value → Shared → Prop} {s : Shared}
theorem adjust_rev (n : Nat) : Builtin.Slice.sliceAdjust none none (-1) (n : Int) = ((n : Int) - 1, -1) := rfl
theorem places_rev (n : Nat) : Builtin.Slice.slicePlaces ((n : Int) - 1) (-1) (-1) = n := by
  unfold Builtin.Slice.slicePlaces
  have h1 : ¬ ((-1 : Int) > 0) := by omega
  simp only [h1, if_false]
  split
  · rw [show (-(-1) : Int) = 1 from rfl, Int.ediv_one]; omega
  · omega
theorem sliceApplied_rev {sl : Addr} {tk : Tok} {n : Nat} {Q : Int × Int × Nat → Shared → Prop} (hs : s.heap.IsSliceOf sl .none .none (.int (-1) tk)) (h : Q ((n : Int) - 1, -1, n) s) :
    wpAny (model prog w) A (Builtin.Slice.sliceApplied (.ref sl) (pure (n : Int))) Q E s := by
  obtain ⟨os, hos, hcs, hds⟩ := id hs
  unfold Builtin.Slice.sliceApplied Builtin.Slice.sliceFields
  refine wpAny_bind (wpAny_bind (wpAny_field hos hds (x := .none) rfl (wpAny_bind (wpAny_field hos hds (x := .none) rfl (wpAny_bind (wpAny_field hos hds (x := .int (-1) tk) rfl (wpAny_pure ?_)))))))
  refine wpAny_bind (slicePart_int ?_)
  show wpAny _ _ (if ((-1 : Int) == 0) = true then _ else _) _ _ s
  rw [if_neg (by decide)]
  refine wpAny_bind (slicePart_none (wpAny_bind (slicePart_none (wpAny_bind (wpAny_pure ?_)))))
  show wpAny _ _ (match Builtin.Slice.sliceAdjust none none (-1) (n : Int) with | (lo, hi) => pure (lo, (-1 : Int), Builtin.Slice.slicePlaces lo hi (-1))) _ _ s
  rw [adjust_rev n]
  show wpAny _ _ (pure ((n : Int) - 1, (-1 : Int), Builtin.Slice.slicePlaces ((n : Int) - 1) (-1) (-1))) _ _ s
  rw [places_rev]
  exact wpAny_pure h
theorem fm_congr {α β : Type} {f g : α → Option β} : ∀ {l : List α}, (∀ x ∈ l, f x = g x) → l.filterMap f = l.filterMap g
  | [], _ => rfl
  | a :: l, h => by
    rw [List.filterMap_cons, List.filterMap_cons, h a List.mem_cons_self, fm_congr fun x hx => h x (List.mem_cons_of_mem _ hx)]
theorem fm_some {α β : Type} {f : α → β} : ∀ {l : List α}, l.filterMap (fun x => some (f x)) = l.map f
  | [] => rfl
  | a :: l => by rw [List.filterMap_cons, List.map_cons, fm_some]
theorem pick_rev (xs : Array Value) : ((List.range xs.size).filterMap fun (m : Nat) => xs[(((xs.size : Nat) : Int) - 1 + (m : Int) * (-1)).toNat]?).toArray = xs.toList.reverse.toArray := by
  congr 1
  have e : ∀ m ∈ List.range xs.size, (fun (m : Nat) => xs[(((xs.size : Nat) : Int) - 1 + (m : Int) * (-1)).toNat]?) m = (fun m => xs[xs.size - 1 - m]?) m := fun m hm => by
    have hm' := List.mem_range.mp hm
    have : (((xs.size : Nat) : Int) - 1 + (m : Int) * (-1)).toNat = xs.size - 1 - m := by omega
    show xs[_]? = xs[_]?
    rw [this]
  have e2 : (List.range xs.size).filterMap (fun (m : Nat) => xs[(((xs.size : Nat) : Int) - 1 + (m : Int) * (-1)).toNat]?) = (List.range xs.size).filterMap fun m => xs[xs.size - 1 - m]? :=
    fm_congr e
  rw [e2]
  have := PySem.W.krv_pick xs
  apply List.ext_getElem?
  intro i
  have key : ∀ m ∈ List.range xs.size, (fun m => xs[xs.size - 1 - m]?) m = some ((fun m => xs.toList.getD (xs.size - 1 - m) .none) m) := fun m hm => by
    have hm' := List.mem_range.mp hm
    have : xs.size - 1 - m < xs.size := by omega
    simp [List.getD, this]
  rw [fm_congr (g := fun m => some (xs.toList.getD (xs.size - 1 - m) .none)) key, fm_some]
  rw [List.getElem?_map]
  by_cases hi : i < xs.size
  · rw [List.getElem?_range hi, List.getElem?_reverse (by simpa using hi)]
    have : xs.size - 1 - i < xs.toList.length := by simp; omega
    simp only [Option.map_some, Array.length_toList]
    rw [List.getD_eq_getElem?_getD, List.getElem?_eq_getElem this]
    rfl
  · rw [List.getElem?_eq_none (by simpa using hi), List.getElem?_eq_none (by simpa using hi)]
    rfl
theorem getItem_tuple_rev {t sl : Addr} {items : Array Value} {tk : Tok} {Q : Value → Shared → Prop} (ht : IsTup s.heap t items) (hs : s.heap.IsSliceOf sl .none .none (.int (-1) tk))
    (h : Q (.ref s.heap.objs.size) { s with heap := s.heap.push { cls := .type "tuple", data := .seq items.toList.reverse.toArray } })
    (hsz : items.size ≤ sizeLine) : wpAny (model prog w) A (getItem (.ref t) (.ref sl)) Q E s := by
  have htake : sizeOk (.seq items.toList.reverse.toArray) := by
    show items.toList.reverse.toArray.size ≤ sizeLine
    simpa using hsz
  obtain ⟨os, hos, hcs, hds⟩ := id hs
  have hTs : s.TypeIs (.ref sl) "slice" := ⟨os, hos, hcs⟩
  unfold getItem
  try with_reducible refine wpAny_holding ?_
  first | refine wpAny_bind (wpAny_pure ?_) | skip
  refine wpAny_bind (wpAny_sequenceKey ht.typeIs (by decide) ?_)
  refine wpAny_bind (wpAny_callSpecial?_slot (name := Str.ofString "__getitem__") ht.typeIs PyProof.Rows.slot_tuple_getitem
    (wpAny_call_entry PyProof.Rows.slot_tuple_getitem ht.typeIs entry_tuple_getitem ?_ (args_tuple_getitem _ _)))
  show wpAny _ _ (Builtin.Tuple.tupleItemsOf (.ref t) >>= _) _ _ s
  refine wpAny_bind (tupleItemsOf_ ht ?_)
  refine wpAny_bind (wpAny_typeOf hTs ?_)
  rw [if_pos (by decide)]
  refine wpAny_bind (sliceApplied_rev hs ?_)
  have hno : ¬ (((((items.size : Nat) : Int) - 1) == 0 && (-1 : Int) == 1 && items.size == items.size) = true) := by
    intro q
    rw [Bool.and_eq_true, Bool.and_eq_true] at q
    exact absurd q.1.2 (by decide)
  show wpAny _ _ (if ((((items.size : Nat) : Int) - 1) == 0 && (-1 : Int) == 1 && items.size == items.size) = true then _ else _) _ _ s
  rw [if_neg hno, pick_rev]
  first
    | exact wpAny_bind (m := Builtin.Tuple.tupleExact _) (wpAny_newObj_type (wpAny_pure ⟨_, rfl, wpAny_pure h⟩) htake)
    | exact wpAny_bind (m := Builtin.Tuple.tupleExact _) (wpAny_newObj_type (wpAny_bind (wpAny_pure (wpAny_pure ⟨_, rfl, wpAny_pure h⟩))) htake)
    | exact wpAny_bind (wpAny_bind (m := Builtin.Tuple.tupleExact _) (wpAny_newObj_type (wpAny_pure (wpAny_pure ⟨_, rfl, wpAny_pure h⟩)) htake))
    | exact wpAny_bind (wpAny_bind (m := Builtin.Tuple.tupleExact _) (wpAny_newObj_type (wpAny_pure ⟨_, rfl, wpAny_pure h⟩) htake))
end
theorem sliceBy_rev (x : Str) (u : Tok) : Txt.sliceBy x none none (-1, u) = ⟨x.cps.toList.reverse.toArray⟩ := by
  apply Str.ext'
  apply Array.toList_inj.mp
  rw [step_rev_list, List.toList_toArray]
  apply List.ext_getElem?
  intro i
  rw [List.getElem?_map]
  by_cases hi : i < x.length
  · have hi' : i < x.cps.toList.length := by simpa [Str.length] using hi
    rw [List.getElem?_range hi, List.getElem?_reverse hi']
    have : x.length - 1 - i < x.cps.size := by unfold Str.length at hi ⊢; omega
    simp only [Option.map_some, Array.length_toList]
    show some (x.cps.getD (x.length - 1 - i) 0) = x.cps.toList[x.cps.size - 1 - i]?
    rw [Array.getElem?_toList]
    unfold Str.length at this ⊢
    simp [Array.getD, this]
  · have hi' : ¬ i < x.cps.toList.length := by simpa [Str.length] using hi
    rw [List.getElem?_eq_none (by simpa using hi), List.getElem?_eq_none (by simpa using hi')]
    rfl
def opRev : D → Option D
  | .list ds => some (.list ds.reverse)
  | .tuple ds => some (.tuple ds.reverse)
  | .str z => if z.length ≤ sizeLine then some (T z.cps.toList.reverse) else none
  | _ => none
def rRev (K : PySem.W.Frag) : V → Hp → VK → Prop := fun x H Q => (∃ a xs, x = .ref a ∧ SqL K H a xs ∧ ∀ p, H p = none → Q (.ref p) (upd H p (.lst xs.reverse))) ∨
  (∃ a xs, x = .ref a ∧ SqT K H a xs ∧ ∀ (p : Addr) (o : Obj), o.dict = none → H p = none → Q (.ref p) (upd H p (.frz o (.tup xs.reverse)))) ∨ ∃ z, x = .str z ∧ z.length ≤ sizeLine ∧ Q (.str ⟨z.cps.toList.reverse.toArray⟩) H
section
variable {X : Cx} {K : PySem.W.Frag} {ca : String → Addr} {W : WX} {e : Expr} {g : M D}
theorem pe_rev {te : TE} {k : Nat} {p1 p2 p3 pos : Pos} (he : PE X e te) : PE X (.Subscript e (.Slice none none (some (.UnaryOp .USub (.Constant (.int 1) k p1) p2)) p3) pos) (tUn (rRev X.K) te) := by
  refine ⟨fun pins s σ H Q I h => ?_⟩
  refine Subscript_ (thn (he.run pins s σ H _ I h) fun v s1 ⟨x, H1, I1, r1, q1⟩ => ?_)
  have hst : PO X (some (.UnaryOp .USub (.Constant (.int 1) k p1) p2)) (tPart (tUn (rU fun i => .int (-i)) (tC (.int 1)))) := po_some (pe_un un_neg pe_int)
  refine wpAny_Slice (thn (po_none.run pins s1 σ H1 (fun o H2 => o = none ∧ H2 = H1) I1 ⟨rfl, rfl⟩) fun vl s2 ⟨l, H2, I2, pl, el, e2⟩ => ?_)
  subst el e2
  refine thn (po_none.run pins s2 σ H2 (fun o H3 => o = none ∧ H3 = H2) I2 ⟨rfl, rfl⟩) fun vu s3 ⟨u, H3, I3, pu, eu, e3⟩ => ?_
  subst eu e3
  refine thn (hst.run pins s3 σ H3 (fun o H4 => o = some (-1) ∧ H4 = H3) I3 ⟨1, rfl, -1, rfl, rfl, rfl⟩) fun vs s4 ⟨o, H4, I4, ps, eo, e4⟩ => ?_
  subst eo e4
  have I5 : Inv X pins σ H4 { s4 with heap := s4.heap.push { cls := .type "slice", data := .fields #[vl, vu, vs] } } := I4.kept (t' := s4.toks) fun b ob q => Heap.get?_push_of_some _ q
  cases pl
  cases pu
  cases ps with
  | int i tk =>
  rcases q1 with ⟨a, xs, rfl, hx, q⟩ | ⟨a, xs, rfl, hx, q⟩ | ⟨z, rfl, hz, q⟩
  · cases r1
    obtain ⟨its, r, ht, hz⟩ := I5.list hx
    have hlen := r.length
    show wpAny (model X.prog X.w) X.A (subscriptTail e (.Slice none none (some (.UnaryOp .USub (.Constant (.int 1) k p1) p2)) p3) (.ref a) (.ref s4.heap.objs.size)) (EP X pins σ Q) X.xe { s4 with heap := s4.heap.push { cls := .type "slice", data := .fields #[.none, .none, .int (-1) tk] } }
    refine tail_any (ops := [.ref a, .ref s4.heap.objs.size]) ht.isList.typeIs (PySem.slot_list_getitem.lookup) ?_ (by with_unfolding_all rfl)
    refine wpAny_getItem_list_slice ht.isList (Heap.IsSliceOf.new _ .none .none (.int (-1) tk)) .none .none (.int (-1) tk) (by decide) ?_ (by rw [List.size_toArray]; omega)
    rw [PySem.W.krv_pick]
    refine ⟨.ref _, _, I5.laid (t' := s4.toks) (o := .lst xs.reverse) (fun b ob q => Heap.get?_push_of_some _ q) (Nat.le_refl _) ?_, rfl, q _ (I5.hok.fresh (Nat.le_refl _))⟩
    exact ⟨by rw [List.length_reverse]; exact hz, _, 0, r.reverse, Heap.get?_push_size _ rfl⟩
  · cases r1
    obtain ⟨its, r, ht, hz⟩ := I5.tuple hx
    have hlen := r.length
    show wpAny (model X.prog X.w) X.A (subscriptTail e (.Slice none none (some (.UnaryOp .USub (.Constant (.int 1) k p1) p2)) p3) (.ref a) (.ref s4.heap.objs.size)) (EP X pins σ Q) X.xe { s4 with heap := s4.heap.push { cls := .type "slice", data := .fields #[.none, .none, .int (-1) tk] } }
    refine tail_any (ops := [.ref a, .ref s4.heap.objs.size]) ht.typeIs (PyProof.Rows.slot_tuple_getitem.lookup) ?_ (by with_unfolding_all rfl)
    refine getItem_tuple_rev ht (Heap.IsSliceOf.new _ .none .none (.int (-1) tk)) ?_ (by rw [List.size_toArray]; omega)
    rw [List.toList_toArray]
    exact ⟨.ref _, _, I5.laid (t' := s4.toks) (fun b ob q => Heap.get?_push_of_some _ q) (Nat.le_refl _) (plain_ok (by rw [List.length_reverse]; exact hz) r.reverse), rfl, q _ _ rfl (I5.hok.fresh (Nat.le_refl _))⟩
  · obtain ⟨t, rfl⟩ := r1
    show wpAny (model X.prog X.w) X.A (subscriptTail e (.Slice none none (some (.UnaryOp .USub (.Constant (.int 1) k p1) p2)) p3) (.str z t) (.ref s4.heap.objs.size)) (EP X pins σ Q) X.xe { s4 with heap := s4.heap.push { cls := .type "slice", data := .fields #[.none, .none, .int (-1) tk] } }
    refine tail_any (ops := [.ref s4.heap.objs.size, .str z t]) (typeIs_str _ _ _) (F.slot_str_getitem.lookup) ?_ (by with_unfolding_all rfl)
    refine wpAny_getItem_str_slice (l := none) (u := none) (st := some (-1, tk)) ⟨_, Heap.get?_push_size _ rfl, rfl, rfl⟩ rfl ?_
    have e := sliceBy_rev z tk
    have hl : (Txt.sliceBy z none none (-1, tk)).length ≤ sizeLine := by rw [step_rev_len]; exact hz
    rw [← e] at q
    unfold Txt.sliceBy slicePicked at q hl
    show Made.post (if ((-1 : Int) == 1 && (Builtin.Str.strSliceIndices none none (-1) z.length).length == z.length) = true then Made.val (.str z t)
      else Made.str ⟨((Builtin.Str.strSliceIndices none none (-1) z.length).filterMap (z.cps[·]?)).toArray⟩) (EP X pins σ Q) _
    have c : ¬ (((-1 : Int) == 1 && (Builtin.Str.strSliceIndices none none (-1) z.length).length == z.length) = true) := by
      intro h; rw [Bool.and_eq_true] at h; exact absurd h.1 (by decide)
    rw [if_neg c]
    have c' : ¬ ((((some ((-1 : Int), tk)).map (·.1)).getD 1 == 1 && (Builtin.Str.strSliceIndices ((none : Option (Int × Tok)).map (·.1)) ((none : Option (Int × Tok)).map (·.1)) (((some ((-1 : Int), tk)).map (·.1)).getD 1) z.length).length == z.length) = true) := c
    rw [if_neg c'] at q hl
    exact ⟨hl, .str _, H4, I5.tok _, ⟨_, rfl⟩, q⟩
theorem o_rev : Op1 K (rRev K) opRev := by
  intro B H x a d Q all ra e q
  cases ra with
  | @lst p xs ds h1 h2 => cases e; exact .inl ⟨p, xs, rfl, .inl (.inl (hid_sub h1)), fun p hp => q _ _ (same_upd hp) (new_lst all hp h2.reverse)⟩
  | @tup p xs ds h1 h2 => cases e; exact .inr (.inl ⟨p, xs, rfl, sqT_mono (fun _ _ => hid_sub) h1.sq, fun p o ho hp => q _ _ (same_upd hp) (new_tup ho all hp h2.reverse)⟩)
  | str z =>
    unfold opRev at e
    simp only at e
    split at e
    · cases e; exact .inr (.inr ⟨z, rfl, by assumption, q _ H (Same.refl H) (.str _)⟩)
    · cases e
  | _ => cases e
theorem ev_rev {k : Nat} {p1 p2 p3 pos : Pos} (he : PE X e (tG X.K ca W g)) : PE X (.Subscript e (.Slice none none (some (.UnaryOp .USub (.Constant (.int 1) k p1) p2)) p3) pos) (tG X.K ca W (c1 opRev g)) :=
  PE.weak (pe_rev he) fun _ _ _ h => tG_c1 o_rev h
end
end G

/-! plain evaluation of the combinators -/
namespace G
open PySem PySem.Spec PyProof.Rows L2
section
variable {ρ : Env} {n : Nat} {f g h : MS} {ga gb gc : M D} {fa fb : M (List D)} {ba bb : M Bool} {gl : M (List L)} {i j k : Nat}
@[simp] theorem e_sNx : sNx ρ n = .nx ρ n := rfl
theorem e_sSeq : sSeq f g ρ n = match f ρ n with | .nx ρ1 n1 => g ρ1 n1 | o => o := rfl
@[simp] theorem e_sDrop : sDrop ga ρ n = ofR (ga ρ n) ρ fun _ n1 => .nx ρ n1 := rfl
@[simp] theorem e_sRet : sRet ga ρ n = ofR (ga ρ n) ρ fun d n1 => .rt d n1 := rfl
@[simp] theorem e_sRetN : sRetN ρ n = .rt .none n := rfl
@[simp] theorem e_sSet : sSet i ga ρ n = ofR (ga ρ n) ρ fun d n1 => if i < ρ.length then .nx (ρ.set i (some (.d d))) n1 else .bad := rfl
@[simp] theorem e_sOwn : sOwn i fa ρ n = ofR (fa ρ n) ρ fun ds n1 => if i < ρ.length then .nx (ρ.set i (some (.own ds))) n1 else .bad := rfl
theorem e_sIf : sIf ba g h ρ n = ofR (ba ρ n) ρ fun k n1 => if k = true then g ρ n1 else h ρ n1 := rfl
@[simp] theorem e_sBk : sBk ρ n = .bk ρ n := rfl
@[simp] theorem e_sCt : sCt ρ n = .ct ρ n := rfl
@[simp] theorem e_sBad : sBad ρ n = .bad := rfl
@[simp] theorem e_sApp : sApp i ga ρ n = match ρ[i]? with
  | some (some (.own xs)) => ofR (ga ρ n) ρ fun d n1 => if xs.length < sizeLine then .nx (ρ.set i (some (.own (xs ++ [d])))) n1 else .bad
  | _ => .bad := rfl
@[simp] theorem e_sTown : sTown i ρ n = match ρ[i]? with
  | some (some .town) => if n % 33554432 < sizeLine then .nx ρ (n + 1) else .bad
  | _ => .bad := rfl
@[simp] theorem e_sExt : sExt i ga ρ n = match ρ[i]? with
  | some (some (.own xs)) => ofR (ga ρ n) ρ fun d n1 => match d with
    | .list ys => if xs.length + ys.length ≤ sizeLine then .nx (ρ.set i (some (.own (xs ++ ys)))) n1 else .bad
    | _ => .bad
  | _ => .bad := rfl
@[simp] theorem e_sPut : sPut i ga gb ρ n = match ρ[i]? with
  | some (some (.own xs)) => ofR (gb ρ n) ρ fun d n1 => ofR (ga ρ n1) ρ fun z n2 => match z with
    | .int k => match ixN xs.length k with
      | some j => .nx (ρ.set i (some (.own (xs.set j d)))) n2
      | none => .bad
    | _ => .bad
  | _ => .bad := rfl
@[simp] theorem e_sPop : sPop i ρ n = match ρ[i]? with
  | some (some (.own xs)) => if xs = [] then .bad else .nx (ρ.set i (some (.own xs.dropLast))) n
  | _ => .bad := rfl
@[simp] theorem e_sRel : sRel i f ρ n = match ρ[i]? with
  | some (some (.own xs)) => f (ρ.set i (some (.d (.list xs)))) n
  | some (some (.d x)) => f ρ n
  | _ => .bad := rfl
@[simp] theorem e_sTup {tg : D → Env → Option Env} : sTup tg ga ρ n = ofR (ga ρ n) ρ fun d n1 => match tg d ρ with
  | some ρ1 => .nx ρ1 n1
  | none => .bad := rfl
@[simp] theorem e_sParDD : sParDD i j ga gb ρ n = ofR (ga ρ n) ρ fun a n1 => ofR (gb ρ n1) ρ fun b n2 => if i < ρ.length ∧ j < ρ.length then .nx ((ρ.set i (some (.d a))).set j (some (.d b))) n2 else .bad := rfl
@[simp] theorem e_sParDF : sParDF i j ga fb ρ n = ofR (ga ρ n) ρ fun a n1 => ofR (fb ρ n1) ρ fun b n2 => if i < ρ.length ∧ j < ρ.length ∧ i ≠ j then .nx ((ρ.set i (some (.d a))).set j (some (.own b))) n2 else .bad := rfl
@[simp] theorem e_sParFD : sParFD i j fa gb ρ n = ofR (fa ρ n) ρ fun a n1 => ofR (gb ρ n1) ρ fun b n2 => if i < ρ.length ∧ j < ρ.length ∧ i ≠ j then .nx ((ρ.set i (some (.own a))).set j (some (.d b))) n2 else .bad := rfl
@[simp] theorem e_sParFF : sParFF i j fa fb ρ n = ofR (fa ρ n) ρ fun a n1 => ofR (fb ρ n1) ρ fun b n2 => if i < ρ.length ∧ j < ρ.length ∧ i ≠ j then .nx ((ρ.set i (some (.own a))).set j (some (.own b))) n2 else .bad := rfl
@[simp] theorem e_sPar3 : sPar3 i j k ga gb gc ρ n = ofR (ga ρ n) ρ fun a n1 => ofR (gb ρ n1) ρ fun b n2 => ofR (gc ρ n2) ρ fun e n3 => if i < ρ.length ∧ j < ρ.length ∧ k < ρ.length then .nx (((ρ.set i (some (.d a))).set j (some (.d b))).set k (some (.d e))) n3 else .bad := rfl
@[simp] theorem e_sFor {tg : D → Env → Option Env} : sFor tg fa g ρ n = ofR (fa ρ n) ρ fun ds n1 => forL tg g ds ρ n1 := rfl
@[simp] theorem e_cVar : cVar i ρ n = match ρ[i]? with
  | some (some (.d x)) => .ok x n
  | _ => .bad := rfl
@[simp] theorem e_cC {x : D} : cC x ρ n = .ok x n := rfl
@[simp] theorem e_c1 {o : D → Option D} : c1 o ga ρ n = (ga ρ n).bind fun a n1 => Res.lift (o a) n1 := rfl
@[simp] theorem e_c2 {o : D → D → Option D} : c2 o ga gb ρ n = (ga ρ n).bind fun a n1 => (gb ρ n1).bind fun b n2 => Res.lift (o a b) n2 := rfl
@[simp] theorem e_aNil : aNil ρ n = .ok [] n := rfl
@[simp] theorem e_aCons : aCons ga gl ρ n = (ga ρ n).bind fun a n1 => (gl ρ n1).bind fun b n2 => .ok (.d a :: b) n2 := rfl
@[simp] theorem e_aVar : aVar i gl ρ n = match ρ[i]? with
  | some (some .town) => (gl ρ n).bind fun b n2 => .ok (.town :: b) n2
  | some (some (.scr ns)) => (gl ρ n).bind fun b n2 => .ok (.scr ns :: b) n2
  | some (some (.d x)) => (gl ρ n).bind fun b n2 => .ok (.d x :: b) n2
  | some (some .cur) => (gl ρ n).bind fun b n2 => .ok (.cur :: b) n2
  | some (some .prk) => (gl ρ n).bind fun b n2 => .ok (.prk :: b) n2
  | some (some .twl) => (gl ρ n).bind fun b n2 => .ok (.town :: b) n2
  | _ => .bad := rfl
@[simp] theorem e_cB : cB ga ρ n = (ga ρ n).bind asB := rfl
@[simp] theorem e_asB {b : Bool} : asB (.bool b) n = .ok b n := rfl
@[simp] theorem e_cCh {o o' : D → D → Option D} : cCh o o' ga gb gc ρ n = (ga ρ n).bind fun a n1 => (gb ρ n1).bind fun b n2 => (Res.lift (o a b) n2).bind fun z n3 => (asB z n3).bind fun k n4 =>
  if k = true then (gc ρ n4).bind fun e n5 => Res.lift (o' b e) n5 else .ok (.bool false) n4 := rfl
@[simp] theorem e_cTru : cTru ga ρ n = (ga ρ n).bind fun a n1 => Res.lift (truthD a) n1 := rfl
@[simp] theorem e_bAnd : bAnd ba bb ρ n = (ba ρ n).bind fun k n1 => if k = true then bb ρ n1 else .ok false n1 := rfl
@[simp] theorem e_bOr : bOr ba bb ρ n = (ba ρ n).bind fun k n1 => if k = true then .ok true n1 else bb ρ n1 := rfl
@[simp] theorem e_bNot : bNot ba ρ n = (ba ρ n).bind fun k n1 => .ok (!k) n1 := rfl
@[simp] theorem e_bYes : bYes ρ n = .ok true n := rfl
@[simp] theorem e_vAnd : vAnd ga gb ρ n = (ga ρ n).bind fun x n1 => (Res.lift (truthD x) n1).bind fun k n2 => if k = true then gb ρ n2 else .ok x n2 := rfl
@[simp] theorem e_vOr : vOr ga gb ρ n = (ga ρ n).bind fun x n1 => (Res.lift (truthD x) n1).bind fun k n2 => if k = true then .ok x n2 else gb ρ n2 := rfl
@[simp] theorem e_vNot : vNot ga ρ n = (ga ρ n).bind fun x n1 => (Res.lift (truthD x) n1).bind fun k n2 => .ok (.bool (!k)) n2 := rfl
@[simp] theorem e_cIf : cIf ba ga gb ρ n = (ba ρ n).bind fun k n1 => if k = true then ga ρ n1 else gb ρ n1 := rfl
@[simp] theorem e_asDs {ls : List L} : asDs ls n = Res.lift (dsOf ls) n := rfl
@[simp] theorem e_dsNil : dsOf [] = some [] := rfl
@[simp] theorem e_dsCons {x : D} {r : List L} : dsOf (.d x :: r) = (dsOf r).map (x :: ·) := rfl
@[simp] theorem e_cTup : cTup gl ρ n = (gl ρ n).bind fun ls n1 => (asDs ls n1).bind fun ds n2 => if ds.length ≤ sizeLine then .ok (.tuple ds) n2 else .bad := rfl
@[simp] theorem e_cLst : cLst gl ρ n = (gl ρ n).bind fun ls n1 => (asDs ls n1).bind fun ds n2 => if ds.length ≤ sizeLine then .ok ds n2 else .bad := rfl
@[simp] theorem e_cF : cF fa ρ n = (fa ρ n).bind fun ds n1 => .ok (.list ds) n1 := rfl
@[simp] theorem e_cBt {o : List D → Option D} : cBt o gl ρ n = (gl ρ n).bind fun ls n1 => (asDs ls n1).bind fun ds n2 => Res.lift (o ds) n2 := rfl
@[simp] theorem e_cBtF {o : List D → Option (List D)} : cBtF o gl ρ n = (gl ρ n).bind fun ls n1 => (asDs ls n1).bind fun ds n2 => Res.lift (o ds) n2 := rfl
@[simp] theorem e_cCall {F : Fn} : cCall k F gl ρ n = (gl ρ n).bind fun ls n1 => if ls.length = k then F ls n1 else .bad := rfl
@[simp] theorem e_cSl {l u : M (Option Int)} : cSl ga l u ρ n = (ga ρ n).bind fun a n1 => (l ρ n1).bind fun x n2 => (u ρ n2).bind fun y n3 => Res.lift (opSl a x y) n3 := rfl
@[simp] theorem e_gPart : gPart ga ρ n = (ga ρ n).bind fun d n1 => Res.lift (partD d) n1 := rfl
@[simp] theorem e_gNoPart : gNoPart ρ n = .ok none n := rfl
@[simp] theorem e_gItems : gItems ga ρ n = (ga ρ n).bind fun d n1 => Res.lift (itemsD d) n1 := rfl
@[simp] theorem e_gRng {o : List D → Option (List D)} : gRng o gl ρ n = (gl ρ n).bind fun ls n1 => (asDs ls n1).bind fun ds n2 => Res.lift (o ds) n2 := rfl
@[simp] theorem e_cScrT : cScrT i ρ n = match ρ[i]? with
  | some (some (.scr ns)) => .ok (!ns.isEmpty) n
  | _ => .bad := rfl
@[simp] theorem e_cScrIx : cScrIx i ga ρ n = match ρ[i]? with
  | some (some (.scr ns)) => (ga ρ n).bind fun z n1 => match z with
    | .int k => Res.lift ((atI ns k).map PyData.int) n1
    | _ => .bad
  | _ => .bad := rfl
@[simp] theorem e_cLenV : cLenV i ρ n = match ρ[i]? with
  | some (some (.scr ns)) => .ok (.int ns.length) n
  | some (some .town) => .ok (.int (n % 33554432 : Nat)) n
  | _ => .bad := rfl
def onT {β : Type} (a : D) (f : D → Res β) : Res β := match a with
  | .str z => f (.str z)
  | _ => .bad
@[simp] theorem onT_T {β : Type} {l : List Nat} {f : D → Res β} : onT (T l) f = f (T l) := rfl
@[simp] theorem e_cM1 {o : D → D → Option D} : cM1 o ga gb ρ n = (ga ρ n).bind fun a n1 => onT a fun a => (gb ρ n1).bind fun b n2 => Res.lift (o a b) n2 := by
  show (ga ρ n).bind _ = _
  congr 1
@[simp] theorem e_cM0 {o : D → Option D} : cM0 o ga ρ n = (ga ρ n).bind fun a n1 => onT a fun a => Res.lift (o a) n1 := by
  show (ga ρ n).bind _ = _
  congr 1
@[simp] theorem e_cM1F {o : D → D → Option (List D)} : cM1F o ga gb ρ n = (ga ρ n).bind fun a n1 => onT a fun a => (gb ρ n1).bind fun b n2 => Res.lift (o a b) n2 := by
  show (ga ρ n).bind _ = _
  congr 1
@[simp] theorem e_bor {α : Type} {gx : M α} {kk : α → Bool} : bor i gx kk ρ n = match ρ[i]? with
  | some (some (.own xs)) => (gx (ρ.set i (some (.d (.list xs)))) n).bind fun d n1 => if kk d = true then .ok d n1 else .bad
  | _ => .bad := rfl
@[simp] theorem e_borrow : borrow i ga ρ n = bor i ga noList ρ n := rfl
@[simp] theorem e_borrowF : borrowF i fa ρ n = bor i fa noListA ρ n := rfl
@[simp] theorem e_borrowT : borrowT i ba ρ n = bor i ba (fun _ => true) ρ n := rfl
theorem e_cLc {vs : List Nat} {tg : D → Env → Option Env} : cLc vs tg fa ba ga ρ n = (fa ρ n).bind fun ds n1 =>
  if ds.length < sizeLine then lcL tg ba ga (wipeE ρ vs) ds n1 else .bad := rfl
@[simp] theorem e_tgN {d : D} : tgN i d ρ = if i < ρ.length then some (ρ.set i (some (.d d))) else none := rfl
@[simp] theorem e_tgPt {fs : List (D → Env → Option Env)} {ds : List D} : tgP fs (.tuple ds) ρ = if ds.length = fs.length then tgT fs ds ρ else none := rfl
@[simp] theorem e_tgPl {fs : List (D → Env → Option Env)} {ds : List D} : tgP fs (.list ds) ρ = if ds.length = fs.length then tgT fs ds ρ else none := rfl
@[simp] theorem e_tgT0 : tgT [] [] ρ = some ρ := rfl
@[simp] theorem e_tgT1 {fx : D → Env → Option Env} {r : List (D → Env → Option Env)} {d : D} {es : List D} : tgT (fx :: r) (d :: es) ρ = (fx d ρ).bind fun ρ1 => tgT r es ρ1 := rfl
@[simp] theorem e_wipe0 : wipeE ρ [] = ρ := rfl
@[simp] theorem e_wipe1 {v : Nat} {vs : List Nat} : wipeE ρ (v :: vs) = (wipeE ρ vs).set v none := rfl
end
/-! the operations on their own kinds -/
@[simp] theorem x_add_int {i j : Int} : opAdd (.int i) (.int j) = some (.int (i + j)) := rfl
@[simp] theorem x_add_tup {xs ys : List D} : opAdd (.tuple xs) (.tuple ys) = if xs.length + ys.length ≤ sizeLine then some (.tuple (xs ++ ys)) else none := rfl
@[simp] theorem x_add_lst {xs ys : List D} : opAdd (.list xs) (.list ys) = if xs.length + ys.length ≤ sizeLine then some (.list (xs ++ ys)) else none := rfl
theorem T_append (a b : List Nat) : (⟨a.toArray⟩ : Str) ++ ⟨b.toArray⟩ = ⟨(a ++ b).toArray⟩ := by
  show Str.append _ _ = _
  unfold Str.append
  simp
theorem T_len (a : List Nat) : (⟨a.toArray⟩ : Str).length = a.length := by simp [Str.length]
@[simp] theorem x_add_T {a b : List Nat} : opAdd (T a) (T b) = if a.length + b.length ≤ sizeLine then some (T (a ++ b)) else none := by
  unfold T opAdd
  simp only [T_append, T_len]
@[simp] theorem x_sub {i j : Int} : opSub (.int i) (.int j) = some (.int (i - j)) := rfl
theorem x_mul {i j : Int} : opMul (.int i) (.int j) = if mulOk i j = true then some (.int (i * j)) else none := rfl
@[simp] theorem x_mul_tup {xs : List D} {k : Int} : opMul (.tuple xs) (.int k) = if 1 ≤ k ∧ k ≤ 1000 ∧ xs.length ≤ 1000 ∧ xs ≠ [] then some (.tuple (List.replicate k.toNat xs).flatten) else none := rfl
@[simp] theorem x_mul_lst {xs : List D} {k : Int} : opMul (.list xs) (.int k) = if 0 ≤ k ∧ k ≤ 1000 ∧ xs.length ≤ 1000 then some (.list (List.replicate k.toNat xs).flatten) else none := rfl
@[simp] theorem x_mod {i j : Int} : opMod (.int i) (.int j) = if 0 < j then some (.int (i % j)) else none := rfl
@[simp] theorem x_div {i j : Int} : opDiv (.int i) (.int j) = if 0 < j ∧ j < 1073741824 then some (.int (i / j)) else none := rfl
@[simp] theorem x_neg {i : Int} : opNeg (.int i) = some (.int (-i)) := rfl
@[simp] theorem x_lt {i j : Int} : opLt (.int i) (.int j) = some (.bool (decide (i < j))) := rfl
@[simp] theorem x_le {i j : Int} : opLe (.int i) (.int j) = some (.bool (decide (i ≤ j))) := rfl
@[simp] theorem x_gt {i j : Int} : opGt (.int i) (.int j) = some (.bool (decide (j < i))) := rfl
@[simp] theorem x_ge {i j : Int} : opGe (.int i) (.int j) = some (.bool (decide (j ≤ i))) := rfl
@[simp] theorem x_lt_T {a b : List Nat} : opLt (T a) (T b) = some (.bool (decide (a < b))) := rfl
@[simp] theorem x_gt_T {a b : List Nat} : opGt (T a) (T b) = some (.bool (decide (b < a))) := rfl
@[simp] theorem x_le_T {a b : List Nat} : opLe (T a) (T b) = some (.bool (!decide (b < a))) := rfl
@[simp] theorem x_ge_T {a b : List Nat} : opGe (T a) (T b) = some (.bool (!decide (a < b))) := rfl
@[simp] theorem x_ix_lst {ds : List D} {i : Int} : opIx (.list ds) (.int i) = atI ds i := rfl
@[simp] theorem x_ix_tup {ds : List D} {i : Int} : opIx (.tuple ds) (.int i) = atI ds i := rfl
@[simp] theorem x_ix_T {l : List Nat} {i : Int} : opIx (T l) (.int i) = if l.length ≤ sizeLine then (atI l i).map fun c => T [c] else none := by
  unfold T opIx
  simp only [T_len]
  rfl
@[simp] theorem x_sl_tup {ds : List D} {a b : Option Int} : opSl (.tuple ds) a b = some (.tuple (cutL ds a b)) := rfl
@[simp] theorem x_sl_lst {ds : List D} {a b : Option Int} : opSl (.list ds) a b = some (.list (cutL ds a b)) := rfl
@[simp] theorem x_sl_T {l : List Nat} {a b : Option Int} : opSl (T l) a b = if l.length ≤ sizeLine then some (T (cutL l a b)) else none := by
  unfold T opSl
  simp only [T_len]
  rfl
@[simp] theorem x_part {i : Int} : partD (.int i) = some (some i) := rfl
@[simp] theorem x_it_lst {ds : List D} : itemsD (.list ds) = some ds := rfl
@[simp] theorem x_it_tup {ds : List D} : itemsD (.tuple ds) = some ds := rfl
@[simp] theorem x_it_T {l : List Nat} : itemsD (T l) = some (l.map fun c => T [c]) := rfl
@[simp] theorem x_rev_tup {ds : List D} : opRev (.tuple ds) = some (.tuple ds.reverse) := rfl
@[simp] theorem x_rev_lst {ds : List D} : opRev (.list ds) = some (.list ds.reverse) := rfl
@[simp] theorem x_rev_T {l : List Nat} : opRev (T l) = if l.length ≤ sizeLine then some (T l.reverse) else none := by
  unfold T opRev
  simp only [T_len]
  rfl
@[simp] theorem x_len_T {l : List Nat} : fLen [T l] = if l.length ≤ sizeLine then some (.int l.length) else none := by
  unfold T fLen
  simp only [T_len]
@[simp] theorem x_len_lst {ds : List D} : fLen [.list ds] = some (.int ds.length) := rfl
@[simp] theorem x_len_tup {ds : List D} : fLen [.tuple ds] = some (.int ds.length) := rfl
@[simp] theorem x_tup_lst {ds : List D} : fTuple [.list ds] = some (.tuple ds) := rfl
@[simp] theorem x_tup_tup {ds : List D} : fTuple [.tuple ds] = some (.tuple ds) := rfl
@[simp] theorem x_lst_lst {ds : List D} : fList [.list ds] = some ds := rfl
@[simp] theorem x_lst_tup {ds : List D} : fList [.tuple ds] = some ds := rfl
@[simp] theorem x_rng1 {j : Int} : fRng1 [.int j] = if small62 j = true then some (rngL 0 j.toNat) else none := rfl
@[simp] theorem x_rng2 {i j : Int} : fRng2 [.int i, .int j] = if small62 i = true ∧ small62 j = true then some (rngL i (j - i).toNat) else none := rfl
@[simp] theorem x_tru_T {l : List Nat} : truthD (T l) = if l.length ≤ sizeLine then some (l.length != 0) else none := by
  unfold T truthD
  simp only [T_len]
@[simp] theorem x_tru_n : truthD .none = some false := rfl
@[simp] theorem x_tru_b {b : Bool} : truthD (.bool b) = some b := rfl
@[simp] theorem x_tru_i {i : Int} : truthD (.int i) = some (i != 0) := rfl
@[simp] theorem x_tru_l {ds : List D} : truthD (.list ds) = some (!ds.isEmpty) := rfl
@[simp] theorem x_tru_t {ds : List D} : truthD (.tuple ds) = some (!ds.isEmpty) := rfl
theorem boolsOf_map (bs : List Bool) : boolsOf (bs.map PyData.bool) = some bs := by
  induction bs with
  | nil => rfl
  | cons b r ih => simp [boolsOf, ih]
theorem intsOf_map (bs : List Int) : intsOf (bs.map PyData.int) = some bs := by
  induction bs with
  | nil => rfl
  | cons b r ih => simp [intsOf, ih]
theorem strsOf_map (bs : List Str) : strsOf (bs.map PyData.str) = some bs := by
  induction bs with
  | nil => rfl
  | cons b r ih => simp [strsOf, ih]
theorem strsOf_T (ls : List (List Nat)) : strsOf (ls.map T) = some (ls.map fun l => ⟨l.toArray⟩) := by
  induction ls with
  | nil => rfl
  | cons b r ih => simp [strsOf, ih, T]
@[simp] theorem x_any {bs : List Bool} : fAny [.list (bs.map PyData.bool)] = some (.bool (bs.any id)) := by simp [fAny, boolsOf_map]
@[simp] theorem x_all {bs : List Bool} : fAll [.list (bs.map PyData.bool)] = some (.bool (bs.all id)) := by simp [fAll, boolsOf_map]
@[simp] theorem x_sum {bs : List Int} : fSum [.list (bs.map PyData.int)] = some (.int bs.sum) := by simp [fSum, intsOf_map]

theorem join_flat (ls : List (List Nat)) : PySem.Txt.join ⟨#[]⟩ (ls.map fun l => ⟨l.toArray⟩) = ⟨ls.flatten.toArray⟩ := by
  rw [TL.join_eq]
  apply TL.ext_tl
  rw [TL.tl_join, List.map_map]
  have e : (TL.tl ∘ fun l : List Nat => (⟨l.toArray⟩ : Str)) = id := by funext l; rfl
  rw [e, List.map_id, TL.tl_mk]
  have key : ∀ ls : List (List Nat), TL.joinL [] ls = ls.flatten := by
    intro ls
    induction ls with
    | nil => rfl
    | cons a r ih =>
      cases r with
      | nil => simp [TL.joinL]
      | cons b r =>
        show a ++ ([] ++ TL.joinL [] (b :: r)) = _
        rw [ih]
        simp
  exact key ls
theorem fit_T (l : List Nat) (ls : List (List Nat)) : joinFit ⟨l.toArray⟩ (ls.map fun l => ⟨l.toArray⟩) = decide ((ls.map List.length).sum + ls.length * l.length ≤ 16777216) := by
  unfold joinFit
  rw [List.map_map, List.length_map]
  have e : (Str.length ∘ fun l : List Nat => (⟨l.toArray⟩ : Str)) = List.length := by funext l; exact T_len l
  rw [e, T_len]
/-- ''.join of texts -/
theorem x_join_l {ls : List (List Nat)} (h : (ls.map List.length).sum ≤ 16777216) : mJoin (T []) (.list (ls.map T)) = some (T ls.flatten) := by
  have e : mJoin (T []) (.list (ls.map T)) = (strsOf (ls.map T)).bind fun ys => if joinFit ⟨#[]⟩ ys = true then some (.str (PySem.Txt.join ⟨#[]⟩ ys)) else none := rfl
  have f := fit_T [] ls
  have f' : joinFit ⟨#[]⟩ (ls.map fun l => ⟨l.toArray⟩) = true := by
    rw [show (⟨#[]⟩ : Str) = ⟨([] : List Nat).toArray⟩ from rfl, f]
    simpa using h
  rw [e, strsOf_T, Option.bind_some, if_pos f', join_flat]
  rfl
theorem x_join_t {ls : List (List Nat)} (h : (ls.map List.length).sum ≤ 16777216) : mJoin (T []) (.tuple (ls.map T)) = some (T ls.flatten) := x_join_l h
end G

/-! what a pure statement reaches -/
namespace G
open PySem PySem.Spec PyProof.Rows L2
inductive Out.Sat (N : Env → Nat → Prop) (R : D → Nat → Prop) (B C : Env → Nat → Prop) : Out → Prop
  | nx {ρ : Env} {n : Nat} : N ρ n → Out.Sat N R B C (.nx ρ n)
  | rt {d : D} {n : Nat} : R d n → Out.Sat N R B C (.rt d n)
  | bk {ρ : Env} {n : Nat} : B ρ n → Out.Sat N R B C (.bk ρ n)
  | ct {ρ : Env} {n : Nat} : C ρ n → Out.Sat N R B C (.ct ρ n)
abbrev no2 : Env → Nat → Prop := fun _ _ => False
section
variable {N N' B C B' C' : Env → Nat → Prop} {R R' : D → Nat → Prop} {ρ : Env} {n : Nat} {f g : MS}
@[simp] theorem sat_nx : (Out.nx ρ n).Sat N R B C ↔ N ρ n := ⟨fun h => by cases h; assumption, .nx⟩
@[simp] theorem sat_rt {d : D} : (Out.rt d n).Sat N R B C ↔ R d n := ⟨fun h => by cases h; assumption, .rt⟩
@[simp] theorem sat_bk : (Out.bk ρ n).Sat N R B C ↔ B ρ n := ⟨fun h => by cases h; assumption, .bk⟩
@[simp] theorem sat_ct : (Out.ct ρ n).Sat N R B C ↔ C ρ n := ⟨fun h => by cases h; assumption, .ct⟩
@[simp] theorem sat_bad : Out.bad.Sat N R B C ↔ False := ⟨(fun h => by cases h), False.elim⟩
@[simp] theorem sat_exc {c : String} : (Out.ex c ρ n).Sat N R B C ↔ False := ⟨(fun h => by cases h), False.elim⟩
theorem Out.Sat.mono {o : Out} (h : o.Sat N R B C) (hN : ∀ ρ n, N ρ n → N' ρ n) (hR : ∀ d n, R d n → R' d n) (hB : ∀ ρ n, B ρ n → B' ρ n) (hC : ∀ ρ n, C ρ n → C' ρ n) : o.Sat N' R' B' C' := by
  cases h with
  | nx h => exact .nx (hN _ _ h)
  | rt h => exact .rt (hR _ _ h)
  | bk h => exact .bk (hB _ _ h)
  | ct h => exact .ct (hC _ _ h)
theorem sat_seq (h : (f ρ n).Sat (fun ρ1 n1 => (g ρ1 n1).Sat N R B C) R B C) : (sSeq f g ρ n).Sat N R B C := by
  rw [e_sSeq]
  cases q : f ρ n with
  | nx ρ1 n1 => rw [q] at h; exact sat_nx.mp h
  | rt d n1 => rw [q] at h; exact .rt (sat_rt.mp h)
  | bk d n1 => rw [q] at h; exact .bk (sat_bk.mp h)
  | ct d n1 => rw [q] at h; exact .ct (sat_ct.mp h)
  | ex c d n1 => rw [q] at h; exact (sat_exc.mp h).elim
  | bad => rw [q] at h; exact (sat_bad.mp h).elim
theorem sat_to {o : Out} {ρ1 : Env} {n1 : Nat} (e : o = .nx ρ1 n1) (h : N ρ1 n1) : o.Sat N R B C := e ▸ .nx h
theorem sat_sq (ρ1 : Env) (n1 : Nat) (e : f ρ n = .nx ρ1 n1) (h : (g ρ1 n1).Sat N R B C) : (sSeq f g ρ n).Sat N R B C := sat_seq (e ▸ .nx h)
theorem sat_no (n1 : Nat) {t : M Bool} (e : t ρ n = .ok false n1) (h : (g ρ n1).Sat N R B C) : (sSeq (sIf t f sNx) g ρ n).Sat N R B C := sat_sq ρ n1 (by rw [e_sIf, e]; rfl) h
theorem sat_noE (n1 : Nat) {t : M Bool} (e : t ρ n = .ok false n1) (h : N ρ n1) : (sIf t f sNx ρ n).Sat N R B C := sat_to (ρ1 := ρ) (n1 := n1) (by rw [e_sIf, e]; rfl) h
theorem sat_ofR {α : Type} {r : Res α} {k : α → Nat → Out} (h : ∃ a n1, r = .ok a n1 ∧ (k a n1).Sat N R B C) : (ofR r ρ k).Sat N R B C := by
  obtain ⟨a, n1, e, h⟩ := h
  rw [e]
  exact h
theorem sat_if {t : M Bool} (k : Bool) (n1 : Nat) (e : t ρ n = .ok k n1) (h1 : k = true → (f ρ n1).Sat N R B C) (h2 : k = false → (g ρ n1).Sat N R B C) : (sIf t f g ρ n).Sat N R B C := by
  rw [e_sIf, e]
  cases k with
  | true => exact h1 rfl
  | false => exact h2 rfl
theorem sat_forL {α : Type} (enc : α → D) {tg : D → Env → Option Env} {body : MS} (I : List α → Env → Nat → Prop) (all : List α)
    (hs : ∀ pre a post ρ n, all = pre ++ a :: post → I pre ρ n → ∃ ρ1, tg (enc a) ρ = some ρ1 ∧ (body ρ1 n).Sat (I (pre ++ [a])) R N (I (pre ++ [a]))) (hN : ∀ ρ n, I all ρ n → N ρ n) :
    ∀ (xs pre : List α) (ρ : Env) (n : Nat), all = pre ++ xs → I pre ρ n → (forL tg body (xs.map enc) ρ n).Sat N R B C := by
  intro xs
  induction xs with
  | nil =>
    intro pre ρ n e h
    rw [List.append_nil] at e
    subst e
    exact .nx (hN _ _ h)
  | cons a r ih =>
    intro pre ρ n e h
    obtain ⟨ρ1, e1, h1⟩ := hs pre a r ρ n e h
    show (match tg (enc a) ρ with | none => Out.bad | some ρ1 => _ : Out).Sat N R B C
    rw [e1]
    have e' : all = (pre ++ [a]) ++ r := by rw [e]; simp
    show (match body ρ1 n with | .nx ρ2 n2 => forL tg body (r.map enc) ρ2 n2 | .ct ρ2 n2 => forL tg body (r.map enc) ρ2 n2 | .bk ρ2 n2 => .nx ρ2 n2 | o => o : Out).Sat N R B C
    cases q : body ρ1 n with
    | nx ρ2 n2 => rw [q] at h1; exact ih _ _ _ e' (sat_nx.mp h1)
    | ct ρ2 n2 => rw [q] at h1; exact ih _ _ _ e' (sat_ct.mp h1)
    | bk ρ2 n2 => rw [q] at h1; exact .nx (sat_bk.mp h1)
    | rt d n2 => rw [q] at h1; exact .rt (sat_rt.mp h1)
    | ex => rw [q] at h1; exact (sat_exc.mp h1).elim
    | bad => rw [q] at h1; exact (sat_bad.mp h1).elim
theorem sat_for {α : Type} (enc : α → D) {tg : D → Env → Option Env} {body : MS} (I : List α → Env → Nat → Prop) (xs : List α) (h0 : I [] ρ n)
    (hs : ∀ pre a post ρ n, xs = pre ++ a :: post → I pre ρ n → ∃ ρ1, tg (enc a) ρ = some ρ1 ∧ (body ρ1 n).Sat (I (pre ++ [a])) R N (I (pre ++ [a]))) (hN : ∀ ρ n, I xs ρ n → N ρ n) : (forL tg body (xs.map enc) ρ n).Sat N R B C :=
  sat_forL enc I xs hs hN xs [] ρ n rfl h0
/-- over a range, by the number of turns done -/
theorem sat_rng {tg : D → Env → Option Env} {body : MS} (I : Nat → Env → Nat → Prop) (lo : Int) (k : Nat) (h0 : I 0 ρ n)
    (hs : ∀ i ρ n, i < k → I i ρ n → ∃ ρ1, tg (.int (lo + i)) ρ = some ρ1 ∧ (body ρ1 n).Sat (I (i + 1)) R N (I (i + 1))) (hN : ∀ ρ n, I k ρ n → N ρ n) : (forL tg body (rngL lo k) ρ n).Sat N R B C := by
  refine sat_for (fun i : Nat => PyData.int (lo + ((i : Nat) : Int))) (fun pre ρ n => I pre.length ρ n) (List.range k) h0 (fun pre a post ρ n e h => ?_) (fun ρ n h => hN ρ n (by simpa using h))
  have hl : pre.length < k := by
    have := congrArg List.length e
    simp at this
    omega
  have ha : a = pre.length := by
    have h1 : (List.range k)[pre.length]? = some a := by rw [e]; simp
    rw [List.getElem?_range hl] at h1
    exact (Option.some.inj h1).symm
  subst ha
  obtain ⟨ρ1, e1, h1⟩ := hs _ ρ n hl h
  exact ⟨ρ1, e1, by simpa using h1⟩
theorem sat_while {t : M Bool} {body : MS} (I : Env → Nat → Prop) (μ : Env → Nat) (hs : ∀ ρ n, I ρ n → ∃ b n1, t ρ n = .ok b n1 ∧ (b = false → N ρ n1) ∧ (b = true → (body ρ n1).Sat (fun ρ' n' => I ρ' n' ∧ μ ρ' < μ ρ) R N (fun ρ' n' => I ρ' n' ∧ μ ρ' < μ ρ))) (h0 : I ρ n) :
    (sWhile t body ρ n).Sat N R B C := by
  have key : ∀ (m : Nat) (ρ : Env) (n : Nat), μ ρ ≤ m → I ρ n → (whileF t body (m + 1) ρ n).Sat N R B C := by
    intro m
    induction m with
    | zero =>
      intro ρ n hm h
      obtain ⟨b, n1, e, h1, h2⟩ := hs ρ n h
      unfold whileF
      rw [e]
      cases b with
      | false => exact .nx (h1 rfl)
      | true =>
        simp only [ofR_ok, if_true]
        have h3 := h2 rfl
        cases q : body ρ n1 with
        | nx ρ2 n2 => rw [q] at h3; obtain ⟨_, hlt⟩ := sat_nx.mp h3; omega
        | ct ρ2 n2 => rw [q] at h3; obtain ⟨_, hlt⟩ := sat_ct.mp h3; omega
        | bk ρ2 n2 => rw [q] at h3; exact .nx (sat_bk.mp h3)
        | rt d n2 => rw [q] at h3; exact .rt (sat_rt.mp h3)
        | ex => rw [q] at h3; exact (sat_exc.mp h3).elim
        | bad => rw [q] at h3; exact (sat_bad.mp h3).elim
    | succ m ih =>
      intro ρ n hm h
      obtain ⟨b, n1, e, h1, h2⟩ := hs ρ n h
      unfold whileF
      rw [e]
      cases b with
      | false => exact .nx (h1 rfl)
      | true =>
        simp only [ofR_ok, if_true]
        have h3 := h2 rfl
        cases q : body ρ n1 with
        | nx ρ2 n2 => rw [q] at h3; obtain ⟨hi, hlt⟩ := sat_nx.mp h3; exact ih _ _ (by omega) hi
        | ct ρ2 n2 => rw [q] at h3; obtain ⟨hi, hlt⟩ := sat_ct.mp h3; exact ih _ _ (by omega) hi
        | bk ρ2 n2 => rw [q] at h3; exact .nx (sat_bk.mp h3)
        | rt d n2 => rw [q] at h3; exact .rt (sat_rt.mp h3)
        | ex => rw [q] at h3; exact (sat_exc.mp h3).elim
        | bad => rw [q] at h3; exact (sat_bad.mp h3).elim
  have h1 := key (μ ρ) ρ n (Nat.le_refl _) h0
  have hne : whileF t body (μ ρ + 1) ρ n ≠ .bad := fun z => by rw [z] at h1; exact sat_bad.mp h1
  rw [sWhile_eq rfl hne]
  exact h1
/-- a def's value -/
theorem run_post {m : Nat} {g : MS} {ls : List L} {P : D → Nat → Prop} {E : String → Nat → Prop} (h : (g (ls.map some ++ List.replicate (m - ls.length) none) n).Sat (fun _ n => P .none n) P no2 no2) : (runF m g ls n).Post P E := by
  unfold runF
  cases q : g (ls.map some ++ List.replicate (m - ls.length) none) n with
  | nx ρ1 n1 => rw [q] at h; exact sat_nx.mp h
  | rt d n1 => rw [q] at h; exact sat_rt.mp h
  | bk => rw [q] at h; exact (sat_bk.mp h).elim
  | ct => rw [q] at h; exact (sat_ct.mp h).elim
  | ex => rw [q] at h; exact (sat_exc.mp h).elim
  | bad => rw [q] at h; exact (sat_bad.mp h).elim
theorem run_eq {m : Nat} {g : MS} {ls : List L} {v : D} {n' : Nat} (h : (g (ls.map some ++ List.replicate (m - ls.length) none) n).Sat no2 (fun d k => d = v ∧ k = n') no2 no2) : runF m g ls n = .ok v n' := by
  unfold runF
  cases q : g (ls.map some ++ List.replicate (m - ls.length) none) n with
  | rt d n1 =>
    rw [q] at h
    obtain ⟨rfl, rfl⟩ := sat_rt.mp h
    rfl
  | nx => rw [q] at h; exact (sat_nx.mp h).elim
  | bk => rw [q] at h; exact (sat_bk.mp h).elim
  | ct => rw [q] at h; exact (sat_ct.mp h).elim
  | ex => rw [q] at h; exact (sat_exc.mp h).elim
  | bad => rw [q] at h; exact (sat_bad.mp h).elim
theorem run_ex {m : Nat} {g : MS} {ls : List L} {P : D → Nat → Prop} (h : (g (ls.map some ++ List.replicate (m - ls.length) none) n).Sat no2 P no2 no2) : ∃ v n', runF m g ls n = .ok v n' ∧ P v n' := by
  unfold runF
  cases q : g (ls.map some ++ List.replicate (m - ls.length) none) n with
  | rt d n1 => rw [q] at h; exact ⟨d, n1, rfl, sat_rt.mp h⟩
  | nx => rw [q] at h; exact (sat_nx.mp h).elim
  | bk => rw [q] at h; exact (sat_bk.mp h).elim
  | ct => rw [q] at h; exact (sat_ct.mp h).elim
  | ex => rw [q] at h; exact (sat_exc.mp h).elim
  | bad => rw [q] at h; exact (sat_bad.mp h).elim
theorem law_of {m : Nat} {g : MS} (h : ∀ ns : List Int, ns.length ≤ 63 → (g (some (.scr ns) :: some .twl :: List.replicate m none) 0).Sat no2 (fun d _ => d = .bool true) no2 no2) : LawTrue m g := by
  intro ns hn
  have h1 := h ns hn
  cases q : g (some (.scr ns) :: some .twl :: List.replicate m none) 0 with
  | rt d n1 =>
    rw [q] at h1
    exact ⟨n1, by rw [show d = .bool true from sat_rt.mp h1]⟩
  | nx => rw [q] at h1; exact (sat_nx.mp h1).elim
  | bk => rw [q] at h1; exact (sat_bk.mp h1).elim
  | ct => rw [q] at h1; exact (sat_ct.mp h1).elim
  | ex => rw [q] at h1; exact (sat_exc.mp h1).elim
  | bad => rw [q] at h1; exact (sat_bad.mp h1).elim
end
/-! comprehensions -/
section
variable {ρ : Env} {n : Nat} {tg : D → Env → Option Env} {tt : M Bool} {te : M D}
theorem lc_filter {α : Type} (enc : α → D) (p : α → Bool) (f : α → D) : ∀ (xs : List α), (∀ a ∈ xs, ∃ ρ1, tg (enc a) ρ = some ρ1 ∧ tt ρ1 n = .ok (p a) n ∧ (p a = true → te ρ1 n = .ok (f a) n)) → lcL tg tt te ρ (xs.map enc) n = .ok ((xs.filter p).map f) n
  | [], _ => rfl
  | a :: r, h => by
    obtain ⟨ρ1, e1, e2, e3⟩ := h a List.mem_cons_self
    have ih := lc_filter enc p f r fun b hb => h b (List.mem_cons_of_mem _ hb)
    show (match tg (enc a) ρ with | none => Res.bad | some ρ1 => _ : Res (List D)) = _
    rw [e1]
    show (match tt ρ1 n with | .ok true n1 => _ | .ok false n1 => _ | _ => Res.bad : Res (List D)) = _
    rw [e2]
    cases q : p a with
    | false =>
      rw [List.filter_cons_of_neg (by simp [q])]
      exact ih
    | true =>
      rw [List.filter_cons_of_pos q, List.map_cons]
      show (match te ρ1 n with | .ok y n2 => _ | _ => Res.bad : Res (List D)) = _
      rw [e3 q]
      show (lcL tg tt te ρ (r.map enc) n).bind _ = _
      rw [ih]
      rfl
theorem lc_map {α : Type} (enc : α → D) (f : α → D) (xs : List α) (h : ∀ a ∈ xs, ∃ ρ1, tg (enc a) ρ = some ρ1 ∧ te ρ1 n = .ok (f a) n) : lcL tg bYes te ρ (xs.map enc) n = .ok (xs.map f) n := by
  have := lc_filter (tt := bYes) (te := te) enc (fun _ => true) f xs fun a ha => by
    obtain ⟨ρ1, e1, e2⟩ := h a ha
    exact ⟨ρ1, e1, rfl, fun _ => e2⟩
  rw [this]
  congr 2
  simp
/-- elements that draw -/
theorem lc_draw {ty : Type} (enc : ty → D) (Q : D → Prop) (c : Nat) : ∀ (ds : List D) (n : Nat), (∀ d ∈ ds, ∀ m, m ≤ n + ds.length * c → ∃ ρ1 y m', tg d ρ = some ρ1 ∧ te ρ1 m = .ok y m' ∧ m' ≤ m + c ∧ Q y) →
    ∃ ys n', lcL tg bYes te ρ ds n = .ok ys n' ∧ n' ≤ n + ds.length * c ∧ ys.length = ds.length ∧ ∀ y ∈ ys, Q y
  | [], n, _ => ⟨[], n, rfl, by simp, rfl, by simp⟩
  | d :: ds, n, h => by
    have e0 : (d :: ds).length * c = ds.length * c + c := by rw [List.length_cons, Nat.succ_mul]
    obtain ⟨ρ1, y, m', e1, e2, h1, h2⟩ := h d List.mem_cons_self n (by omega)
    obtain ⟨ys, n', e3, h3, h4, h5⟩ := lc_draw enc Q c ds m' fun b hb m hm => h b (List.mem_cons_of_mem _ hb) m (by rw [e0]; omega)
    refine ⟨y :: ys, n', ?_, by rw [e0]; omega, by simp [h4], fun z hz => ?_⟩
    · show (match tg d ρ with | none => Res.bad | some ρ1 => _ : Res (List D)) = _
      rw [e1]
      show (match te ρ1 n with | .ok y n2 => _ | _ => Res.bad : Res (List D)) = _
      rw [e2]
      show (lcL tg bYes te ρ ds m').bind _ = _
      rw [e3]
      rfl
    · rcases List.mem_cons.mp hz with z | z
      · rw [z]; exact h2
      · exact h5 _ z
theorem e_lcf {α : Type} {vs : List Nat} {fa : M (List D)} (enc : α → D) (p : α → Bool) (f : α → D) (xs : List α) (h0 : fa ρ n = .ok (xs.map enc) n) (hl : xs.length < 16777216)
    (h : ∀ a ∈ xs, ∃ ρ1, tg (enc a) (wipeE ρ vs) = some ρ1 ∧ tt ρ1 n = .ok (p a) n ∧ (p a = true → te ρ1 n = .ok (f a) n)) : cLc vs tg fa tt te ρ n = .ok ((xs.filter p).map f) n := by
  rw [e_cLc, h0, Res.bind_ok, if_pos (by rw [List.length_map, sizeLine_eq]; exact hl), lc_filter enc p f xs h]
theorem e_lcm {α : Type} {vs : List Nat} {fa : M (List D)} (enc : α → D) (f : α → D) (xs : List α) (h0 : fa ρ n = .ok (xs.map enc) n) (hl : xs.length < 16777216)
    (h : ∀ a ∈ xs, ∃ ρ1, tg (enc a) (wipeE ρ vs) = some ρ1 ∧ te ρ1 n = .ok (f a) n) : cLc vs tg fa bYes te ρ n = .ok (xs.map f) n := by
  rw [e_cLc, h0, Res.bind_ok, if_pos (by rw [List.length_map, sizeLine_eq]; exact hl), lc_map enc f xs h]
theorem e_lcd {vs : List Nat} {fa : M (List D)} {ds ys : List D} {n1 n2 : Nat} (h0 : fa ρ n = .ok ds n1) (hl : ds.length < 16777216) (h : lcL tg tt te (wipeE ρ vs) ds n1 = .ok ys n2) : cLc vs tg fa tt te ρ n = .ok ys n2 := by
  rw [e_cLc, h0, Res.bind_ok, if_pos (by rw [sizeLine_eq]; exact hl), h]
theorem e_rng1 {ga : M D} {k n1 : Nat} (h : ga ρ n = .ok (.int k) n1) (hk : k ≤ 1000000000) : gRng fRng1 (aCons ga aNil) ρ n = .ok (rngL 0 k) n1 := by
  have hs : small62 (k : Int) = true := small62_iff.mpr ⟨by omega, by omega⟩
  rw [e_gRng, e_aCons, h, Res.bind_ok, e_aNil, Res.bind_ok, Res.bind_ok, e_asDs, e_dsCons, e_dsNil, Option.map_some, Res.lift_some, Res.bind_ok, x_rng1, if_pos hs, Int.toNat_natCast, Res.lift_some]
theorem e_rng2 {ga gb : M D} {j : Int} {k n1 n2 : Nat} (h : ga ρ n = .ok (.int j) n1) (h2 : gb ρ n1 = .ok (.int k) n2) (hj : -1000000000 ≤ j) (hj2 : j ≤ 1000000000) (hk : k ≤ 1000000000) : gRng fRng2 (aCons ga (aCons gb aNil)) ρ n = .ok (rngL j (k - j).toNat) n2 := by
  have hs : small62 (k : Int) = true := small62_iff.mpr ⟨by omega, by omega⟩
  have hs2 : small62 j = true := small62_iff.mpr ⟨by omega, by omega⟩
  rw [e_gRng, e_aCons, h, Res.bind_ok, e_aCons, h2, Res.bind_ok, e_aNil, Res.bind_ok, Res.bind_ok, Res.bind_ok, e_asDs, e_dsCons, e_dsCons, e_dsNil, Option.map_some, Option.map_some, Res.lift_some, Res.bind_ok, x_rng2, if_pos ⟨hs2, hs⟩, Res.lift_some]
theorem rngL_len (lo : Int) (k : Nat) : (rngL lo k).length = k := by unfold rngL; simp
theorem tgN_ok {i : Nat} {d : D} {ρ : G.Env} (h : i < ρ.length) : tgN i d ρ = some (ρ.set i (some (.d d))) := if_pos h
end
end G

/-! texts as lists of codes -/
namespace G
open PySem PySem.Spec PyProof.Rows L2
/-- without blanks at its end -/
def rs (l : List Nat) : List Nat := l.take (l.length - (l.reverse.takeWhile (fun c => c == 32)).length)
theorem rs_len (l : List Nat) : (rs l).length ≤ l.length := by
  unfold rs
  rw [List.length_take]
  omega
theorem str_mk (x : Str) (l : List Nat) (h : x.cps.toList = l) : x = ⟨l.toArray⟩ := Str.ext' (Array.toList_inj.mp h)
theorem contains_one (c d : Nat) : (#[d] : Array Nat).contains c = (c == d) := by simp [Array.contains]
theorem rstrip_T (l : List Nat) : PySem.Txt.rstripChars ⟨l.toArray⟩ ⟨#[32]⟩ = ⟨(rs l).toArray⟩ := by
  unfold PySem.Txt.rstripChars
  rw [PyProof.Rows.stripBy_eq]
  apply str_mk
  show TL.tl _ = _
  rw [TL.tl_strSub]
  unfold stripLo stripHi rs
  simp only [Bool.false_eq_true, if_false, if_true, List.drop_zero, Nat.sub_zero]
  have e : ((#[32] : Array Nat).contains) = fun c => c == 32 := by funext c; exact contains_one c 32
  show (TL.tl ⟨l.toArray⟩).take _ = _
  rw [TL.tl_mk]
  show l.take ((⟨l.toArray⟩ : Str).length - (l.reverse.takeWhile ((#[32] : Array Nat).contains)).length) = _
  rw [T_len, e]
@[simp] theorem x_rstrip {l : List Nat} : mRstrip (T l) (T [32]) = if l.length ≤ sizeLine then some (T (rs l)) else none := by
  unfold mRstrip T
  simp only [T_len]
  rw [rstrip_T]
/-- ends with -/
def endsL (l w : List Nat) : Bool := decide (w.length ≤ l.length) && (l.drop (l.length - w.length) == w)
theorem ends_T (l w : List Nat) : PySem.Txt.endswith ⟨l.toArray⟩ ⟨w.toArray⟩ = endsL l w := by
  unfold PySem.Txt.endswith endsL
  rw [T_len, T_len, Nat.zero_add]
  by_cases h : w.length ≤ l.length
  · rw [decide_eq_true h, Bool.true_and, Bool.true_and]
    unfold Builtin.Str.subAt
    show (l.toArray.extract (l.length - w.length) (l.length - w.length + (⟨w.toArray⟩ : Str).length) == w.toArray) = _
    rw [T_len]
    have e : l.toArray.extract (l.length - w.length) (l.length - w.length + w.length) = (l.drop (l.length - w.length)).toArray := by
      apply Array.toList_inj.mp
      rw [Array.toList_extract, List.extract_eq_take_drop]
      simp only [List.toList_toArray]
      rw [List.take_of_length_le]
      rw [List.length_drop]
      omega
    rw [e, Bool.eq_iff_iff]
    simp
  · rw [decide_eq_false h]; rfl
@[simp] theorem x_ends {l w : List Nat} : mEnds (T l) (T w) = some (.bool (endsL l w)) := by
  unfold mEnds T
  simp only [ends_T]
/-! shape of data -/
theorem strOk_T (l : List Nat) : PyData.strOk ⟨l.toArray⟩ = l.all (· < 0x110000) := by
  unfold PyData.strOk
  simp
/-- codes that texts may have -/
def okT (l : List Nat) : Bool := l.all (· < 0x110000)
theorem lay_T (l : List Nat) : (T l).canLay0 = okT l := by
  unfold T okT
  rw [← strOk_T]
  simp [PyData.canLay0]
theorem layAll_T (ls : List (List Nat)) (h : ∀ l ∈ ls, okT l = true) : PyData.canLayAll0 (ls.map T) = true := by
  induction ls with
  | nil => simp [PyData.canLayAll0]
  | cons a r ih =>
    rw [List.map_cons]
    unfold PyData.canLayAll0
    rw [lay_T, h a List.mem_cons_self, ih fun l hl => h l (List.mem_cons_of_mem _ hl)]
    rfl
theorem depth_T (l : List Nat) : (T l).depth = 0 := by unfold T; simp [PyData.depth]
theorem depthAll_T (ls : List (List Nat)) : PyData.depthAll (ls.map T) = 0 := by
  induction ls with
  | nil => simp [PyData.depthAll]
  | cons a r ih => simp [PyData.depthAll, depth_T, ih]
theorem shaped_T {l : List Nat} (h : okT l = true) : SeqAt.shaped (T l) = true := by
  unfold SeqAt.shaped
  rw [lay_T, h, depth_T]
  rfl
theorem shaped_tupT {ls : List (List Nat)} (h : ∀ l ∈ ls, okT l = true) : SeqAt.shaped (.tuple (ls.map T)) = true := by
  unfold SeqAt.shaped
  have e1 : (PyData.tuple (ls.map T)).canLay0 = true := by simp [PyData.canLay0, layAll_T ls h]
  have e2 : (PyData.tuple (ls.map T)).depth ≤ 64 := by simp [PyData.depth, depthAll_T]
  rw [e1, decide_eq_true e2]
  rfl
theorem eqv_T (a b : List Nat) : PyData.eqv (T a) (T b) = (a == b) := by
  unfold T
  simp only [PyData.eqv]
  rw [Bool.eq_iff_iff]
  simp
theorem eqvAll_T : ∀ (a b : List (List Nat)), PyData.eqvAll (a.map T) (b.map T) = (a == b)
  | [], [] => by simp [PyData.eqvAll]
  | [], _ :: _ => by simp [PyData.eqvAll]
  | _ :: _, [] => by simp [PyData.eqvAll]
  | x :: xs, y :: ys => by
    simp only [List.map_cons, PyData.eqvAll, eqv_T, eqvAll_T xs ys]
    rfl
theorem eqv_tupT (a b : List (List Nat)) : PyData.eqv (.tuple (a.map T)) (.tuple (b.map T)) = (a == b) := by
  simp only [PyData.eqv, eqvAll_T]
theorem x_ne_tupT {a b : List (List Nat)} (ha : ∀ l ∈ a, okT l = true) (hb : ∀ l ∈ b, okT l = true) : opNe (.tuple (a.map T)) (.tuple (b.map T)) = some (.bool (!(a == b))) := by
  unfold opNe
  rw [if_pos ⟨shaped_tupT ha, shaped_tupT hb⟩, eqv_tupT]
theorem x_eq_tupT {a b : List (List Nat)} (ha : ∀ l ∈ a, okT l = true) (hb : ∀ l ∈ b, okT l = true) : opEq (.tuple (a.map T)) (.tuple (b.map T)) = some (.bool (a == b)) := by
  unfold opEq
  rw [if_pos ⟨shaped_tupT ha, shaped_tupT hb⟩, eqv_tupT]
theorem x_ne_T {a b : List Nat} (ha : okT a = true) (hb : okT b = true) : opNe (T a) (T b) = some (.bool (!(a == b))) := by
  unfold opNe
  rw [if_pos ⟨shaped_T ha, shaped_T hb⟩, eqv_T]
theorem x_eq_T {a b : List Nat} (ha : okT a = true) (hb : okT b = true) : opEq (T a) (T b) = some (.bool (a == b)) := by
  unfold opEq
  rw [if_pos ⟨shaped_T ha, shaped_T hb⟩, eqv_T]
theorem shaped_int (i : Int) : SeqAt.shaped (.int i) = true := by unfold SeqAt.shaped; simp [PyData.canLay0, PyData.depth]
theorem shaped_bool (i : Bool) : SeqAt.shaped (.bool i) = true := by unfold SeqAt.shaped; simp [PyData.canLay0, PyData.depth]
theorem shaped_none : SeqAt.shaped .none = true := by unfold SeqAt.shaped; simp [PyData.canLay0, PyData.depth]
@[simp] theorem x_eq_int {i j : Int} : opEq (.int i) (.int j) = some (.bool (i == j)) := by
  unfold opEq
  rw [if_pos ⟨shaped_int i, shaped_int j⟩]
  simp [PyData.eqv]
@[simp] theorem x_ne_int {i j : Int} : opNe (.int i) (.int j) = some (.bool (!(i == j))) := by
  unfold opNe
  rw [if_pos ⟨shaped_int i, shaped_int j⟩]
  simp [PyData.eqv]
theorem okT_app {a b : List Nat} : okT (a ++ b) = (okT a && okT b) := by simp [okT]
theorem okT_flat {ls : List (List Nat)} (h : ∀ l ∈ ls, okT l = true) : okT ls.flatten = true := by
  unfold okT at *
  rw [List.all_eq_true]
  intro c hc
  obtain ⟨l, hl, hc'⟩ := List.mem_flatten.mp hc
  exact List.all_eq_true.mp (h l hl) c hc'
theorem sum_flat (ls : List (List Nat)) : (ls.map List.length).sum = ls.flatten.length := by rw [List.length_flatten]
/-! places -/
theorem atI_neg1 {α : Type} (xs : List α) (x : α) : atI (xs ++ [x]) (-1) = some x := atI_last xs x
theorem ixN_neg1 {n : Nat} (h : 0 < n) : ixN n (-1) = some (n - 1) := by
  unfold ixN
  rw [if_neg (by omega), if_pos (by omega)]
  congr 1
  omega
theorem noList_T (l : List Nat) : noList (T l) = true := by unfold T; simp [noList]
theorem noListA_T (ls : List (List Nat)) : noListA (ls.map T) = true := by
  induction ls with
  | nil => simp [noListA]
  | cons a r ih => simp [noListA, noList_T, ih]
theorem noList_tupT (ls : List (List Nat)) : noList (.tuple (ls.map T)) = true := by simp [noList, noListA_T]
theorem small_nat {k : Nat} (h : k ≤ 1000000000) : small62 (k : Int) = true := small62_iff.mpr ⟨by omega, by omega⟩
theorem small_int {k : Int} (h : -1000000000 ≤ k) (h2 : k ≤ 1000000000) : small62 k = true := small62_iff.mpr ⟨by omega, by omega⟩
theorem size_ok {k : Nat} (h : k ≤ 16777216) : k ≤ sizeLine := by rw [sizeLine_eq]; exact h
theorem size_lt {k : Nat} (h : k < 16777216) : k < sizeLine := by rw [sizeLine_eq]; exact h
/-! slices -/
theorem cutL_take {α : Type} (l : List α) (k : Nat) : cutL l none (some (k : Int)) = l.take k := by
  unfold cutL
  rw [HT.sIx_none, HT.sIx_nat, List.drop_zero, Nat.sub_zero]
  by_cases h : k ≤ l.length
  · rw [Nat.min_eq_left h]
  · rw [Nat.min_eq_right (by omega), List.take_length, List.take_of_length_le (by omega)]
theorem cutL_drop {α : Type} (l : List α) (k : Nat) : cutL l (some (k : Int)) none = l.drop k := by
  unfold cutL
  rw [HT.sIx_none, HT.sIx_nat]
  by_cases h : k ≤ l.length
  · rw [Nat.min_eq_left h, List.take_of_length_le (by rw [List.length_drop]; omega)]
  · rw [Nat.min_eq_right (by omega), List.drop_length, List.drop_eq_nil_of_le (by omega)]
    simp
theorem cutL_mid {α : Type} (l : List α) (a b : Nat) : cutL l (some (a : Int)) (some (b : Int)) = (l.drop a).take (b - a) := by
  unfold cutL
  rw [HT.sIx_nat, HT.sIx_nat]
  by_cases h : a ≤ l.length
  · rw [Nat.min_eq_left h]
    by_cases h2 : b ≤ l.length
    · rw [Nat.min_eq_left h2]
    · rw [Nat.min_eq_right (Nat.le_of_not_le h2), List.take_of_length_le (by rw [List.length_drop]; omega), List.take_of_length_le (by rw [List.length_drop]; omega)]
  · rw [Nat.min_eq_right (a := a) (b := l.length) (by omega), List.drop_length, List.drop_eq_nil_of_le (as := l) (i := a) (by omega)]
    simp
theorem cutL_last1 {α : Type} (l : List α) (x : α) : cutL (l ++ [x]) (some (-1)) none = [x] := by
  unfold cutL HT.sIx
  have e : (-1 + ((l.length : Int) + 1)).toNat = l.length := by omega
  simp [e]
theorem cutL_init1 {α : Type} (l : List α) (x : α) : cutL (l ++ [x]) none (some (-1)) = l := by
  unfold cutL HT.sIx
  have e : (-1 + ((l.length : Int) + 1)).toNat = l.length := by omega
  simp [e]
end G

/-! sorted over data, lists and tuples -/
namespace G
open PySem PySem.Spec PySem.Calls PyProof.Rows L2 PySem.W
section
variable {prog : Program} {w : World} {A : Around} {E : Value → Shared → Prop} {s : Shared}
/-- the items of a tuple, in a new list -/
theorem collectTup {t : Addr} {us : List Value} {R : List Value → Shared → Prop} (ht : s.heap.IsTuple t us.toArray) (hsz : us.length ≤ sizeLine)
    (q : R us { s with heap := (s.heap.push (seqObj "list" #[] 0)).update s.heap.objs.size (Obj.mapSeq (· ++ us.toArray)) }) : wpAny (model prog w) A (collect (.ref t)) R E s := by
  obtain ⟨ob, go, gc, m, gd⟩ := id ht
  unfold collect
  refine wpAny_bind (wpAny_runValue (codeAny_builtin entry_proto_collect' ?_))
  show wpAny _ _ (do again (.builtin "list.__iadd__" ⟨[← newList [], .ref t], []⟩)) _ _ s
  refine wpAny_bind (wpAny_newList (wpAny_pure ⟨Code.quiet_builtin _ (by decide +kernel), codeAny_builtin entry_list_iadd' ?_⟩))
  show wpAny _ _ (Builtin.List.listExtendWith (.ref s.heap.objs.size) (.ref t) (.ref s.heap.objs.size)) _ _ { s with heap := s.heap.push (seqObj "list" #[] 0) }
  unfold Builtin.List.listExtendWith
  have go' : (s.heap.push (seqObj "list" #[] 0)).get? t = some ob := Heap.get?_push_of_some _ go
  refine wpAny_bind (wpAny_typeOf (T := "tuple") ⟨ob, go', gc⟩ ?_)
  have e1 : (Value.type "tuple" == Value.type "tuple") = true := by rfl
  rw [if_pos (by rw [e1]; simp)]
  refine wpAny_bind (listItems_at go' gd ?_)
  refine wpAny_bind (listItems_at (xs := #[]) (n := 0) (Heap.get?_push_size _ rfl) rfl ?_)
  rw [if_neg (by simp)]
  refine wpAny_bind (listUpdate_at (xs := #[]) (n := 0) (Heap.get?_push_size _ rfl) rfl ?_ (Nat.zero_le _) (by show (#[] ++ us.toArray).size ≤ sizeLine + 1; simp only [Array.size_append, List.size_toArray, List.length_nil]; omega))
  refine wpAny_pure ?_
  show wpAny (model prog w) A (do
      let ob ← load s.heap.objs.size
      match ob.data with
      | .seq ys _ => pure ys.toList
      | _ => unsupported "internal:collect") R E { s with heap := (s.heap.push (seqObj "list" #[] 0)).update s.heap.objs.size (Obj.mapSeq (· ++ us.toArray)) }
  refine wpAny_bind (wpAny_load (get?_update_seq (Heap.get?_push_size _ rfl) _) ?_)
  show wpAny _ _ (pure ((#[] : Array Value) ++ us.toArray).toList) R E _
  rw [show ((#[] : Array Value) ++ us.toArray).toList = us by simp]
  exact wpAny_pure q
theorem sortedTup {t : Addr} {us : List Value} {R : Value → Shared → Prop} (ht : s.heap.IsTuple t us.toArray) (hsz : us.length ≤ sizeLine)
    (body : ∀ E' : Value → Shared → Prop, wpAny (model prog w) A.in1.in1 (Builtin.«list.sort» ⟨[.ref (s.heap.objs.size + 1)], []⟩) (fun f s' => f = .done (.ret .none) ∧ R (.ref (s.heap.objs.size + 1)) s') E' { s with heap := copyHeap s.heap us }) :
    wpAny (model prog w) A (call (.builtin "sorted") [.ref t]) R E s := by
  refine call_function_entry_kw kind_sorted plain_sorted entry_sorted (args_sorted1 _) ?_
  unfold Builtin.«sorted»
  refine wpAny_bind (m := checkCount "sorted" 1 1 _) (wpAny_pure ?_)
  refine wpAny_bind (collectTup ht hsz ?_)
  refine wpAny_bind (wpAny_newList ?_ hsz)
  have e2 : ((s.heap.push (seqObj "list" #[] 0)).update s.heap.objs.size (Obj.mapSeq (· ++ us.toArray))).objs.size = s.heap.objs.size + 1 := by
    rw [Heap.size_update, size_push']
  show wpAny _ _ _ _ _ { s with heap := copyHeap s.heap us }
  rw [e2]
  refine wpAny_bind (wpAny_holding (wpAny_call_entry_kw slot_list_sort ⟨_, copyHeap_at s.heap us, rfl⟩ entry_list_sort ?bd (args_list_sort _)))
  case bd =>
    show wpAny (model prog w) A.in1.in1 (Builtin.«list.sort» ⟨[.ref (s.heap.objs.size + 1)], []⟩) _ _ _
    refine wpAny_mono (body _) (fun f s' hf => ?_) fun _ _ e => e
    obtain ⟨rfl, hq⟩ := hf
    exact ⟨_, rfl, wpAny_pure ⟨_, rfl, hq⟩⟩
theorem sortedTupData {t : Addr} {us : List Value} {bs : List D} {R : Value → D → Prop} {Q : Value → Shared → Prop} (ht : s.heap.IsTuple t us.toArray) (e : EachIs R us bs) (er : EachIs (fun v b => ∃ as, Reads s.heap v b as) us bs) (hal : AllAlike bs) (hk : Sortable bs) (hL : bs.length ≤ sizeLine)
    (hu : ∀ b, b ∈ bs → A.units + 2 + b.depth < cLine) (h : ∀ out, out.length = bs.length → EachIs R out (bs.mergeSort (dataLe false id)) → Q (.ref (s.heap.objs.size + 1)) { s with heap := sortedAll s.heap us (List.toArray out) }) :
    wpAny (model prog w) A (call (.builtin "sorted") [.ref t]) Q E s := by
  have er' : EachIs (fun v b => ∃ as, Reads (sortingHeap (copyHeap s.heap us) (s.heap.objs.size + 1) us) v b as) us bs := er.mono fun _ _ ⟨as, r⟩ => ⟨as, PyProof.Rows.Reads.keeps (fun _ _ => sorting_copy_old) r⟩
  have hL' : us.length ≤ sizeLine := by rw [e.length]; exact hL
  have hal' : AllAlike (bs.map id) := by rw [List.map_id]; exact hal
  refine sortedTup ht hL' fun E' => list_sort_vals (s := { s with heap := copyHeap s.heap us }) (copyHeap_at s.heap us) (SortsAt.data (s := { s with heap := sortingHeap (copyHeap s.heap us) (s.heap.objs.size + 1) us }) er' hal hk hu) hL' ⟨rfl, ?_⟩
  have z := sortVals_data (enc := id) false e er' hal'
  rw [List.map_id] at z
  exact h _ (by rw [sortVals_length false rfl]; exact e.length) z
end
/-! as a rule -/
def sortOk (ds : List D) : Prop := AllAlike ds ∧ Sortable ds ∧ ∀ d ∈ ds, d.depth ≤ 8
open Classical in
noncomputable def fSort : List D → Option (List D)
  | [.list ds] => if sortOk ds then some (ds.mergeSort (dataLe false id)) else none
  | [.tuple ds] => if sortOk ds then some (ds.mergeSort (dataLe false id)) else none
  | _ => none
def rSortD (K : PySem.W.Frag) : List V → Hp → VK → Prop := fun vs H Q => ∃ (a : Addr) (xs : List V) (ds : List D) (R : V → D → Prop), vs = [.ref a] ∧ (SqL K H a xs ∨ SqT K H a xs) ∧ DpAll K H xs ds ∧ EachIs R xs ds ∧ sortOk ds ∧
  ∀ ys p, EachIs R ys (ds.mergeSort (dataLe false id)) → H p = none → Q (.ref p) (upd H p (.lst ys))
theorem each_vals {R : V → D → Prop} : ∀ {xs : List V} {us : List Value} {ds : List D}, Vals xs us → EachIs R xs ds → EachIs (fun u d => ∃ x, RelV x u ∧ R x d) us ds
  | [], _, _, r, e => by cases e; cases r; exact .nil
  | _ :: _, _, _, r, e => by
    cases e with
    | cons h1 h2 =>
      cases r with
      | cons r1 r2 => exact .cons ⟨_, r1, h1⟩ (each_vals r2 h2)
theorem vals_each {R : V → D → Prop} : ∀ {us : List Value} {ds : List D}, EachIs (fun u d => ∃ x, RelV x u ∧ R x d) us ds → ∃ xs, Vals xs us ∧ EachIs R xs ds
  | _, _, .nil => ⟨[], .nil, .nil⟩
  | _, _, .cons ⟨x, h1, h2⟩ t => by
    obtain ⟨xs, q1, q2⟩ := vals_each t
    exact ⟨x :: xs, .cons h1 q1, .cons h2 q2⟩
theorem each_len {α β : Type} {R : α → β → Prop} : ∀ {as : List α} {bs : List β}, EachIs R as bs → as.length = bs.length
  | _, _, .nil => rfl
  | _, _, .cons _ t => by rw [List.length_cons, List.length_cons, each_len t]
theorem each_reads {h : Heap} : ∀ {us : List Value} {ds : List D} {as : List Addr}, ReadsAll h us ds as → EachIs (fun u d => ∃ as, Reads h u d as) us ds
  | _, [], _, r => by cases r; exact .nil
  | _, d :: ds, _, r => by
    cases r with
    | cons h1 h2 => exact .cons ⟨_, h1⟩ (each_reads h2)
theorem cr_sortD {X : Cx} (hu : X.A.units + 64 < cLine) : CallR X (.builtin "sorted") (rSortD X.K) := by
  intro pins s σ H vs us Q I r h
  obtain ⟨a, xs, ds, R, rfl, hs, hd, he, hok, q⟩ := h
  rw [Vals.ref1 r]
  obtain ⟨its, rv, hz, hl⟩ : ∃ its : List Value, Vals xs its ∧ xs.length ≤ sizeLine ∧ (s.heap.IsList a its.toArray ∨ s.heap.IsTuple a its.toArray) := by
    rcases hs with hs | hs
    · obtain ⟨its, rv, hl, hz⟩ := I.list hs
      exact ⟨its, rv, hz, .inl hl.isList⟩
    · obtain ⟨its, rv, hl, hz⟩ := I.tuple hs
      exact ⟨its, rv, hz, .inr hl⟩
  obtain ⟨as, rd⟩ := Dp.readsAll I ds xs its hd rv
  have e1 := each_vals rv he
  have hlen : ds.length = xs.length := (each_len he).symm
  have key : ∀ out, out.length = ds.length → EachIs (fun u d => ∃ x, RelV x u ∧ R x d) out (ds.mergeSort (dataLe false id)) → EP X pins σ Q (.ref (s.heap.objs.size + 1)) { s with heap := sortedAll s.heap its (List.toArray out) } := by
    intro out ho eo
    obtain ⟨ys, v1, v2⟩ := vals_each eo
    obtain ⟨ep, he'⟩ := PyProof.Rows.sortedAll_at s.heap its out.toArray
    have hly : ys.length ≤ sizeLine := by rw [v1.length, ho, hlen]; exact hz
    exact ⟨.ref _, upd H (s.heap.objs.size + 1) (.lst ys), I.laid (t' := s.toks) (fun _ _ => PyProof.Rows.sortedAll_old) (Nat.le_succ _) ⟨hly, out, ep, v1, he'⟩, rfl, q _ _ v2 (I.hok.fresh (Nat.le_succ _))⟩
  have hdep : ∀ b, b ∈ ds → X.A.units + 2 + b.depth < cLine := fun b hb => by
    have := hok.2.2 b hb
    omega
  rcases hl with hl | hl
  · exact sorted_data (enc := id) hl e1 (each_reads rd) (by rw [List.map_id]; exact hok.1) (by rw [List.map_id]; exact hok.2.1) (by rw [hlen]; exact hz) hdep key
  · exact sortedTupData hl e1 (each_reads rd) hok.1 hok.2.1 (by rw [hlen]; exact hz) hdep key
theorem each_rep {K : PySem.W.Frag} {H : Hp} : ∀ {xs : List V} {ds : List D}, RepAll K H xs ds → EachIs (Rep K H) xs ds
  | _, _, .nil => .nil
  | _, _, .cons h t => .cons h (each_rep t)
theorem rep_each {K : PySem.W.Frag} {H : Hp} : ∀ {xs : List V} {ds : List D}, EachIs (Rep K H) xs ds → RepAll K H xs ds
  | _, _, .nil => .nil
  | _, _, .cons h t => .cons h (rep_each t)
theorem fSort_of {ds es : List D} {d : D} (h : d = .list ds ∨ d = .tuple ds) (e : fSort [d] = some es) : sortOk ds ∧ es = ds.mergeSort (dataLe false id) := by
  classical
  have e' : (if sortOk ds then some (ds.mergeSort (dataLe false id)) else none) = some es := by
    rcases h with rfl | rfl
    · rw [← e]; unfold fSort; congr
    · rw [← e]; unfold fSort; congr
  by_cases hk : sortOk ds
  · rw [if_pos hk] at e'
    exact ⟨hk, (Option.some.inj e').symm⟩
  · rw [if_neg hk] at e'
    cases e'
theorem x_sort_l {ds : List D} (h : sortOk ds) : fSort [.list ds] = some (ds.mergeSort (dataLe false id)) := by
  classical
  show (if sortOk ds then some (ds.mergeSort (dataLe false id)) else none) = _
  exact if_pos h
theorem x_sort_t {ds : List D} (h : sortOk ds) : fSort [.tuple ds] = some (ds.mergeSort (dataLe false id)) := by
  classical
  show (if sortOk ds then some (ds.mergeSort (dataLe false id)) else none) = _
  exact if_pos h
theorem o_sort {K : PySem.W.Frag} : OpNF K (rSortD K) fSort := by
  intro B H xs as ds' Q all r e q
  cases r with
  | nil => cases e
  | @cons v vs a as r1 r2 =>
    cases r2 with
    | nil =>
      cases r1 with
      | @lst p ys ds h1 h2 =>
        obtain ⟨hok, rfl⟩ := fSort_of (.inl rfl) e
        exact ⟨p, ys, ds, _, rfl, .inl (.inl (.inl (hid_sub h1))), Rep.dpAll (fun _ _ => hid_sub) _ _ h2, each_rep h2, hok, fun zs l hz hl => q l zs _ (same_upd hl) hl upd_same (Rep.monoAll (hid_fresh hl) _ _ (rep_each hz))⟩
      | @tup p ys ds h1 h2 =>
        obtain ⟨hok, rfl⟩ := fSort_of (.inr rfl) e
        exact ⟨p, ys, ds, _, rfl, .inr (sqT_mono (fun _ _ => hid_sub) h1.sq), Rep.dpAll (fun _ _ => hid_sub) _ _ h2, each_rep h2, hok, fun zs l hz hl => q l zs _ (same_upd hl) hl upd_same (Rep.monoAll (hid_fresh hl) _ _ (rep_each hz))⟩
      | _ => cases e
    | cons _ _ => unfold fSort at e; cases r1 <;> cases e
end G

/-! sorted(set(xs)), xs a list of ints -/
namespace G
open PySem PySem.Spec PyProof.Rows L2
/-! ### rising, each once -/
def insU (x : Int) : List Int → List Int
  | [] => [x]
  | y :: r => if x < y then x :: y :: r else if x = y then y :: r else y :: insU x r
def upI (ns : List Int) : List Int := ns.foldr insU []
theorem mem_insU (x k : Int) : ∀ l, k ∈ insU x l ↔ k = x ∨ k ∈ l
  | [] => by simp [insU]
  | y :: r => by
    unfold insU
    split
    · simp
    · split
      · rename_i h; subst h; simp
      · rw [List.mem_cons, mem_insU x k r, List.mem_cons]
        constructor
        · rintro (h | h | h)
          · exact .inr (.inl h)
          · exact .inl h
          · exact .inr (.inr h)
        · rintro (h | h | h)
          · exact .inr (.inl h)
          · exact .inl h
          · exact .inr (.inr h)
theorem rise_insU (x : Int) : ∀ l : List Int, l.Pairwise (· < ·) → (insU x l).Pairwise (· < ·)
  | [], _ => List.pairwise_singleton _ _
  | y :: r, h => by
    obtain ⟨h1, h2⟩ := List.pairwise_cons.mp h
    unfold insU
    split
    · rename_i hx
      refine List.pairwise_cons.mpr ⟨fun k hk => ?_, h⟩
      rcases List.mem_cons.mp hk with e | e
      · rw [e]; exact hx
      · have := h1 k e; omega
    · split
      · exact h
      · refine List.pairwise_cons.mpr ⟨fun k hk => ?_, rise_insU x r h2⟩
        rcases (mem_insU x k r).mp hk with e | e
        · omega
        · exact h1 k e
theorem mem_upI (k : Int) : ∀ ns, k ∈ upI ns ↔ k ∈ ns
  | [] => Iff.rfl
  | x :: r => by
    show k ∈ insU x (upI r) ↔ _
    rw [mem_insU, mem_upI k r, List.mem_cons]
theorem rise_upI : ∀ ns, (upI ns).Pairwise (· < ·)
  | [] => List.Pairwise.nil
  | x :: r => rise_insU x _ (rise_upI r)
theorem rise_uniq : ∀ {a b : List Int}, a.Pairwise (· < ·) → b.Pairwise (· < ·) → (∀ k, k ∈ a ↔ k ∈ b) → a = b
  | [], [], _, _, _ => rfl
  | [], y :: b, _, _, h => absurd ((h y).mpr List.mem_cons_self) (by simp)
  | x :: a, [], _, _, h => absurd ((h x).mp List.mem_cons_self) (by simp)
  | x :: a, y :: b, ha, hb, h => by
    obtain ⟨a1, a2⟩ := List.pairwise_cons.mp ha
    obtain ⟨b1, b2⟩ := List.pairwise_cons.mp hb
    have e : x = y := by
      rcases List.mem_cons.mp ((h x).mp List.mem_cons_self) with e | e
      · exact e
      · rcases List.mem_cons.mp ((h y).mpr List.mem_cons_self) with e' | e'
        · exact e'.symm
        · have := a1 _ e'; have := b1 _ e; omega
    subst e
    rw [rise_uniq a2 b2 fun k => ?_]
    constructor
    · intro hk
      rcases List.mem_cons.mp ((h k).mp (List.mem_cons_of_mem _ hk)) with e | e
      · have := a1 k hk; omega
      · exact e
    · intro hk
      rcases List.mem_cons.mp ((h k).mpr (List.mem_cons_of_mem _ hk)) with e | e
      · have := b1 k hk; omega
      · exact e
theorem nodup_upI (ns : List Int) : (upI ns).Nodup := (rise_upI ns).imp fun h => by omega
theorem setR_len {w : World} {h : Heap} {a : Addr} {ns : List Int} {c : Nat} (R : SetR w h a (fun j => decide (j ∈ ns)) c) : c = (upI ns).length := by
  obtain ⟨o, es, ep, t, _, _, _, _, nd, hm, _, _, hn, _⟩ := R
  have pm : (es.toList.map keyOf).Perm (upI ns) := (List.perm_ext_iff_of_nodup nd (nodup_upI ns)).mpr fun k => by
    rw [← hm k, mem_upI, decide_eq_true_eq]
  have := pm.length_eq
  rw [List.length_map, Array.length_toList, hn] at this
  exact this
theorem rise_len : ∀ {a b : List Int}, a.Nodup → (∀ k ∈ a, k ∈ b) → a.length ≤ b.length
  | [], _, _, _ => Nat.zero_le _
  | x :: a, b, hn, h => by
    obtain ⟨h1, h2⟩ := List.nodup_cons.mp hn
    have hx := h x List.mem_cons_self
    have := rise_len (a := a) (b := b.erase x) h2 fun k hk => by
      refine (List.mem_erase_of_ne ?_).mpr (h k (List.mem_cons_of_mem _ hk))
      intro e
      exact h1 (by rw [← e]; exact hk)
    rw [List.length_erase_of_mem hx] at this
    have := List.length_pos_of_mem hx
    rw [List.length_cons]
    omega
theorem upI_take_len (ns : List Int) (i : Nat) : (upI (ns.take i)).length ≤ (upI ns).length := by
  refine rise_len (nodup_upI _) fun k hk => ?_
  rw [mem_upI] at hk ⊢
  exact List.mem_of_mem_take hk
section
variable {P : Program} {w : World} {A : Around}
theorem set_update_intsU {I : Addr} {fp wr : List Addr} {G : Array GenState → Array GenState → Prop} {n : Nat} {Pv : Nat → Value → Prop} {St : Nat → Shared → Prop} {R : Result → Shared → Prop}
    (W : WalksS P w A.in1 I fp wr G n Pv St) (S : Addr) (hSf : S ∉ fp) (ns : List Int) (hn : n = ns.length) (hb : (upI ns).length + 1 < scanBound) (hval : ∀ i v, Pv i v → ∃ k t, ns[i]? = some k ∧ v = .int k t) :
    ∀ (k i : Nat) (s : Shared), n - i = k → i ≤ n → St i s → (∃ c, c ≤ i ∧ SetR w s.heap S (fun j => decide (j ∈ ns.take i)) c) →
      (∀ s' c, Moved (S :: wr) G s s' → c ≤ n → SetR w s'.heap S (fun j => decide (j ∈ ns)) c → R (.ok (.ret .none)) s') →
      codeAny (model P w) A (.builtin "set.update.loop" ⟨[.ref S, .ref I], []⟩) R s := by
  have hSw : S ∉ wr := fun h => hSf (W.sub _ h)
  have hsub : ∀ b ∈ wr, b ∈ S :: wr := fun b hb => List.mem_cons_of_mem _ hb
  intro k
  induction k with
  | zero =>
    intro i s hk' hi hst ⟨c, hc, hS⟩ hR
    have hin : i = n := by omega
    subst hin
    refine codeAny_builtin F.entry_set_update_loop ?_
    rw [Around.under_plainId F.plain_set_update_loop _]
    show wpAny _ A.in1 (pyNext (.ref I) >>= _) _ _ s
    refine wpAny_bind (W.done s _ _ hst fun s' hm => ?_)
    show wpAny _ A.in1 (ret Value.none) _ _ s'
    have e : ns.take i = ns := List.take_of_length_le (by omega)
    rw [e] at hS
    exact wpAny_pure (hR s' c (hm.mono hsub) hc (hS.at fun o e => hm.heap S o hSw e))
  | succ k ih =>
    intro i s hk' hi hst ⟨c, hc, hS⟩ hR
    have hlt : i < n := by omega
    refine codeAny_builtin F.entry_set_update_loop ?_
    rw [Around.under_plainId F.plain_set_update_loop _]
    show wpAny _ A.in1 (pyNext (.ref I) >>= _) _ _ s
    refine wpAny_bind (W.item i s _ _ hlt hst fun v s' hP hst' hm => ?_)
    obtain ⟨z, t, hz, rfl⟩ := hval i v hP
    have hS' : SetR w s'.heap S (fun j => decide (j ∈ ns.take i)) c := hS.at fun o e => hm.heap S o hSw e
    have hcU : c ≤ (upI ns).length := by
      rw [setR_len hS']
      exact upI_take_len ns i
    show wpAny _ A.in1 (holding [Value.int z t] (setAdd S (.int z t)) >>= _) _ _ s'
    refine wpAny_bind (wpAny_holding ?_)
    unfold setAdd
    refine wpAny_holding ?_
    refine wpAny_bind ((intKind P w).pyHash (k := z) (intKind_is _ _ _ _) ?_)
    refine setR_add_hashed (s := { s' with toks := s'.toks + 1 }) hS' (by omega) fun h' hsb hS2 => ?_
    have hS3 : SetR w h' S (fun j => decide (j ∈ ns.take (i + 1))) (if decide (z ∈ ns.take i) = true then c else c + 1) := hS2.congr fun j => by
      rw [List.take_add_one, hz]
      simp [List.mem_append]
    have hc3 : (if decide (z ∈ ns.take i) = true then c else c + 1) ≤ i + 1 := by
      split <;> omega
    refine wpAny_pure ⟨plainId_quiet F.plain_set_update_loop _, ih (i + 1) _ (by omega) hlt (W.frame _ s' _ _ hst' (Nat.le_succ _) fun b hb o e => ?_) ⟨_, hc3, hS3⟩ fun s'' c2 hm'' hc'' hS'' => ?_⟩
    · rw [hsb.2 b (fun h : b = S => hSf (by rw [← h]; exact hb))]; exact e
    · refine hR s'' c2 (Moved.trans W.gtrans ((hm.mono hsub).then_heap (Nat.le_succ _) fun b o hb e => ?_) hm'') hc'' hS''
      rw [hsb.2 b (fun h : b = S => hb (by rw [h]; exact List.mem_cons_self))]; exact e
end
section
variable {P : Program} {w : World} {A : Around} {E : Value → Shared → Prop} {s : Shared}
abbrev eSet (w : World) : Obj := { cls := .type "set", dict := none, data := .set #[] 0 (.fresh 0 0 (!w.params.followText "set-order")) }
theorem setOfList {b : Addr} {us : Array Value} (js : List Int) {R : Value → Shared → Prop} (hn : A.handled = none) (hb : s.heap.IsList b us) (hj : IntsAre us.toList js) (hz : (upI js).length + 1 < scanBound)
    (q : ∀ (g : Heap) (k m : Nat), SetR w g s.heap.objs.size (fun j => decide (j ∈ js)) m → m ≤ js.length → (∀ a o, s.heap.get? a = some o → g.get? a = some o) → R (.ref s.heap.objs.size) { s with heap := g, toks := k }) :
    wpAny (model P w) A (call (.type "set") [.ref b]) R E s := by
  have sz : us.size = js.length := by
    have z := IntsAre.length hj
    rwa [Array.length_toList] at z
  obtain ⟨m1, m2, hmr⟩ := F.called_set.mro
  have q1 := F.called_set.made
  have q2 := F.called_set.sub
  refine wpAny_call (codeAny_of_tree ?_)
  show wpAny _ _ (callAny (.type "set") _) _ _ _
  refine wpAny_pure ⟨Code.quiet_builtin _ (by decide +kernel), codeAny_builtin F.entry_type_call ?_⟩
  rw [Around.under_plain (weight_type_call_type "set" [.ref b] []) rfl]
  have q3 := F.called_set.notType
  have q4 := F.called_set.canCreate
  have q5 := F.typeCall_set_1 (.ref b)
  repeat (any_goals (first | assumption | wp_step))
  refine codeAny_mono (code_set_led1 (.ref b) (E := E) (Q₁ := fun x s1 => x = .ref s.heap.objs.size ∧ s1 = { s with heap := s.heap.push (eSet w) }) ⟨rfl, rfl⟩) fun r s1 hr => ?_
  cases r with
  | error e => exact hr
  | ok fl =>
    cases fl with
    | ret obj =>
      obtain ⟨rfl, rfl⟩ := hr
      have p1 : (s.heap.push (eSet w)).get? s.heap.objs.size = some (eSet w) := Heap.get?_push_size _ rfl
      have p2 : Shared.TypeIs { s with heap := s.heap.push (eSet w) } (.ref s.heap.objs.size) "set" := ⟨_, p1, rfl⟩
      have p3 := F.called_set.init.lookup
      have p4 := F.called_set.init.bind (.ref s.heap.objs.size)
      repeat (any_goals (first | assumption | wp_step))
      refine codeAny_mono (codeAny_call_builtin (R := wants (fun r s2 => r = .none ∧ ∃ g k m, s2 = { s with heap := g, toks := k } ∧ SetR w g s.heap.objs.size (fun j => decide (j ∈ js)) m ∧ m ≤ js.length ∧
          (∀ a o, s.heap.get? a = some o → g.get? a = some o)) E) F.called_set.init.plain F.entry_set_init (check_set_init_1 p2 ?_)) fun r2 s2 hr2 => ?_
      · obtain ⟨ob, gb, gc, nb, gd⟩ := hb
        obtain ⟨x1, x2, x3, x4⟩ := ob
        simp only at gc gd
        subst gc; subst gd
        have gb' : (s.heap.push (eSet w)).get? b = some { cls := .type "list", dict := x2, data := .seq us nb, slots := x4 } := Heap.get?_push_of_some _ gb
        have y1 := F.sub_list_set
        have y2 := F.sub_list_frozenset
        have y3 : (Value.type "list" == Value.type "dict") = false := by decide
        have y4 : (s.heap.push (eSet w)).IsList b us := ⟨_, gb', rfl, nb, rfl⟩
        unfold Builtin.«set.__init__»
        unfold noKeywords
        unfold Builtin.Frozenset.updateFrom
        generalize hPI : pyIter = PI
        wp_walk
        subst hPI
        refine wpAny_pyIter_list y4 ?_
        refine wpAny_bind (wpAny_runValue ?_)
        have z1 : b < s.heap.objs.size := Heap.lt_size gb
        have z2 : A.in1.in1.in1.handled = none := by simp [hn]
        have z3 : (s.heap.push (eSet w)).objs.size = s.heap.objs.size + 1 := Heap.size_push ..
        have z4 : b ≠ (s.heap.push (eSet w)).objs.size := by rw [z3]; exact Nat.ne_of_lt (Nat.lt_succ_of_lt z1)
        have z5 : s.heap.objs.size ∉ [(s.heap.push (eSet w)).objs.size, b] := by
          rw [z3]
          intro hm
          rcases List.mem_cons.mp hm with e | e
          · exact absurd e (Nat.ne_of_lt (Nat.lt_succ_self _))
          · exact absurd (List.mem_singleton.mp e) (Nat.ne_of_gt z1)
        have z6 : ∀ (i : Nat) (v : Value), us[i]? = some v → ∃ k t, js[i]? = some k ∧ v = .int k t := fun i v hv => by
          have hi : i < js.length := by rw [← sz]; exact (Array.getElem?_eq_some_iff.mp hv).1
          obtain ⟨t, e⟩ := PyProof.Rows.IntsAre.int_at hj i v (by rw [Array.getElem?_toList]; exact hv)
          refine ⟨js[i], t, List.getElem?_eq_getElem hi, ?_⟩
          rw [e, List.getD_eq_getElem?_getD, List.getElem?_eq_getElem hi] <;> rfl
        refine set_update_intsU ((Walks.list z2 _ b z4 us).toS) s.heap.objs.size z5 js sz hz z6 (us.size - 0) 0 _ (by omega) (Nat.zero_le _)
          ⟨⟨_, Heap.get?_push_size _ rfl, rfl, rfl⟩, (y4.push _)⟩ ?a1 ?a2
        case a1 =>
          refine ⟨0, Nat.le_refl 0, setR_new_at (w := w) (ns := js) ?_⟩
          exact Heap.get?_push_of_some _ p1
        case a2 =>
          intro s' m hm hm' hS
          obtain ⟨g, g2, d2, k2, o2⟩ := s'
          have e1 : g2 = s.gens := hm.gens
          have e2 : d2 = s.drawn := hm.drawn
          have e3 : o2 = s.os := hm.os
          subst e1; subst e2; subst e3
          show wpAny _ _ _ _ _ _
          refine wpAny_pure ?_
          show wpAny _ _ (ret Value.none) _ _ _
          rw [sz] at hm'
          refine wpAny_pure ⟨rfl, g, k2, m, rfl, hS, hm', fun a o e => ?_⟩
          have l0 : a < s.heap.objs.size := Heap.lt_size e
          refine hm.heap a o ?_ (Heap.get?_push_of_some _ (Heap.get?_push_of_some _ e))
          intro hx
          rcases List.mem_cons.mp hx with e | e
          · exact absurd e (Nat.ne_of_lt l0)
          · have e9 := List.mem_singleton.mp e
            rw [z3] at e9
            exact absurd e9 (Nat.ne_of_lt (Nat.lt_succ_of_lt l0))
      · cases r2 with
        | error e => exact hr2
        | ok fl2 =>
          cases fl2 with
          | ret r =>
            obtain ⟨rfl, g, k, m, rfl, hS, hm, hk⟩ := hr2
            repeat (any_goals (first | assumption | wp_step))
            exact q _ _ _ hS hm hk
          | _ => exact hr2.elim
    | _ => exact hr.elim
end
/-! as rules -/
section
variable {P : Program} {w : World} {A : Around} {E : Value → Shared → Prop} {s : Shared}
open PySem.W PySem.Calls
theorem each_intsU : ∀ {out : List Value} {ns : List Int}, EachIs (fun v (k : Int) => ∃ tk, v = .int k tk) out ns → IntsAre out ns
  | _, _, .nil => .nil
  | _, _, .cons ⟨tk, e⟩ r => by rw [e]; exact .cons _ _ (each_intsU r)
theorem sorted_setR {a : Addr} {S : Int → Bool} {n : Nat} {Q : Value → Shared → Prop} (R : SetR w s.heap a S n) (hh : A.handled = none) (hn0 : n ≤ sizeLine) (hu : A.units + 64 < cLine)
    (hQ : ∀ s' p (out : List Value) (c : Nat) (ns : List Int), (∀ b o, s.heap.get? b = some o → s'.heap.get? b = some o) → s'.gens = s.gens → s'.os = s.os → s.heap.objs.size ≤ p →
      s'.heap.get? p = some (seqObj "list" out.toArray c) → IntsAre out ns → ns.Pairwise (· < ·) → (∀ k, k ∈ ns ↔ S k = true) → ns.length = n → Q (.ref p) s') :
    wpAny (model P w) A (call (.builtin "sorted") [.ref a]) Q E s := by
  obtain ⟨o, es, ep, t, ho, hex, hd, g, nd, hm, hb, hf, hn, hr, hl⟩ := R
  refine Calls.call_function_entry kind_sorted plain_sorted entry_sorted (args_sorted1 _) ?_
  unfold Builtin.«sorted»
  refine wpAny_bind (m := checkCount "sorted" 1 1 _) (wpAny_pure ?_)
  refine wpAny_bind (collect_set (A := A.in1) hh ⟨o, ho, hex.1, hd⟩ hf hb hr hl fun s1 vs k1 hz g1 o1 pm => ?_)
  have hvl : vs.length = n := by rw [pm.length_eq, List.length_map, Array.length_toList]; exact hn
  obtain ⟨ks, hks⟩ : ∃ ks : List Int, ks = vs.map Builtin.Re.reRawOf := ⟨_, rfl⟩
  have each : EachIs (fun v (k : Int) => ∃ tk, v = .int k tk) vs ks := by
    have gen : ∀ vs : List Value, (∀ v ∈ vs, ∃ k tk, v = .int k tk) → EachIs (fun v (k : Int) => ∃ tk, v = .int k tk) vs (vs.map Builtin.Re.reRawOf) := by
      intro vs
      induction vs with
      | nil => intro _; exact .nil
      | cons v vs ih =>
        intro h
        obtain ⟨k, tk, rfl⟩ := h v List.mem_cons_self
        exact .cons ⟨tk, rfl⟩ (ih fun u hu => h u (List.mem_cons_of_mem _ hu))
    rw [hks]
    exact gen vs fun v hv => by
      obtain ⟨e, he, q⟩ := List.mem_map.mp (pm.mem_iff.mp hv)
      obtain ⟨k, tk, h1, _⟩ := g e he
      exact ⟨k, tk, by rw [← q]; exact h1⟩
  have pk : ks.Perm (es.toList.map keyOf) := by
    have q := pm.map Builtin.Re.reRawOf
    rw [List.map_map] at q
    rw [hks]
    exact q
  refine wpAny_bind (wpAny_newList ?_ (by rw [hvl]; exact hn0))
  have hoL : (s1.heap.push (seqObj "list" vs.toArray 0)).get? s1.heap.objs.size = some (seqObj "list" vs.toArray 0) := Heap.get?_push_size _ rfl
  have hal : AllAlike (ks.map PyData.int) := AllAlike.of fun _ _ => by simp [alike]
  have hk : Sortable (ks.map PyData.int) := Sortable.others fun _ => ⟨nofun, nofun⟩
  have er : ∀ h : Heap, EachIs (fun v (b : Int) => ∃ as, Reads h v (PyData.int b) as) vs ks := fun h => each.mono fun v d ⟨tk, e1⟩ => ⟨[], by rw [e1]; exact .int d tk⟩
  have S := SortsAt.data (prog := P) (w := w) (A := A.in1.in1) (s := { s1 with heap := sortingHeap (s1.heap.push (seqObj "list" vs.toArray 0)) s1.heap.objs.size vs }) (each_map (R := fun v d => ∃ as, Reads _ v d as) PyData.int (er _)) hal hk (fun d hd => by
    obtain ⟨b, _, rfl⟩ := List.mem_map.mp hd
    have : (PyData.int b).depth = 0 := by simp [PyData.depth]
    rw [this]
    show A.units + 1 + 1 + 0 < cLine
    omega)
  refine wpAny_bind (wpAny_holding (wpAny_call_entry slot_list_sort ⟨_, hoL, rfl⟩ entry_list_sort (list_sort_vals (s := { s1 with heap := s1.heap.push (seqObj "list" vs.toArray 0) }) hoL S (by rw [hvl]; exact hn0) ⟨_, rfl, ?_⟩) (args_list_sort _)))
  have z := sortVals_data (enc := PyData.int) (R := fun v (k : Int) => ∃ tk, v = .int k tk) (h' := sortingHeap (s1.heap.push (seqObj "list" vs.toArray 0)) s1.heap.objs.size vs) false each (er _) hal
  have hle : (dataLe false (PyData.int : Int → PyData)) = fun a b => decide (a ≤ b) := dataLe_int fun b : Int => b
  rw [hle] at z
  have pn : (ks.mergeSort fun a b => decide (a ≤ b)).Perm (es.toList.map keyOf) := (List.mergeSort_perm _ _).trans pk
  have so : (ks.mergeSort fun a b => decide (a ≤ b)).Pairwise (· ≤ ·) := (List.pairwise_mergeSort (le := fun a b : Int => decide (a ≤ b)) (fun a b c h1 h2 => by simp at *; omega) (fun a b => by simp; omega) ks).imp fun h => by simpa using h
  obtain ⟨c, hc⟩ := sortedHeap_at (vs := vs) (out := (sortVals (dataKind (sortingHeap (s1.heap.push (seqObj "list" vs.toArray 0)) s1.heap.objs.size vs) (ks.map PyData.int)) false vs vs).toArray) hoL
  refine wpAny_pure ⟨_, rfl, hQ _ s1.heap.objs.size _ c _ (fun b u e => ?_) g1 o1 hz hc (each_intsU z) (lt_of_le_nodup _ so (pn.nodup_iff.mpr nd)) (fun k => by rw [pn.mem_iff, ← hm k]) ?_⟩
  · have q := k1 b u e
    have hlt := Heap.lt_size q
    show (sortedHeap _ _ _ _).get? b = some u
    rw [sortedHeap_old (Nat.ne_of_lt hlt) (by rw [size_push']; exact Nat.lt_succ_of_lt hlt)]
    exact Heap.get?_push_of_some _ q
  · rw [pn.length_eq, List.length_map, Array.length_toList]; exact hn
end
def rSortedU (w : World) : List V → Hp → VK → Prop := fun vs H Q => ∃ (a : Addr) (S : Int → Bool) (n : Nat), vs = [V.ref a] ∧ H a = some (SetO w a S n) ∧ n ≤ 1000 ∧
  ∀ (ns : List Int) (p : Addr), ns.Pairwise (· < ·) → (∀ k : Int, k ∈ ns ↔ S k = true) → ns.length = n → H p = none → Q (.ref p) (upd H p (.lst (ns.map V.int)))
theorem cr_sortedU {X : Cx} (hc : X.calm = true) (hu : X.A.units + 64 < cLine) : CallR X (.builtin "sorted") (rSortedU X.w) := by
  intro pins s σ H vs us Q I r h
  obtain ⟨a, S, n, rfl, ha, h64, q⟩ := h
  have R := setO_get I ha
  rw [Vals.ref1 r]
  refine sorted_setR R (I.ok.hd hc) (by rw [sizeLine_eq]; omega) hu fun s' p out c ns k g o hp hg hi hs hm hl => ?_
  have hlen : (ns.map V.int).length ≤ sizeLine := by rw [List.length_map, hl, sizeLine_eq]; omega
  have hn : H p = none := I.hok.fresh hp
  have J : Inv X pins σ (upd H p (.lst (ns.map V.int))) { s with heap := s'.heap, gens := s'.gens, drawn := s'.drawn, toks := s'.toks } :=
    I.call (ch := []) (Un.laid k hp hn) (I.hok.laid k hp ⟨hlen, out, c, vals_of_ints hi, hg⟩) (by rw [g]; exact I.bare) (fun _ z => nomatch z)
  have e : s' = { s with heap := s'.heap, gens := s'.gens, drawn := s'.drawn, toks := s'.toks } := by
    cases s'
    cases s
    cases o
    rfl
  rw [e]
  exact ⟨.ref p, _, J, rfl, q ns p hs hm hl hn⟩
def rSetI (K : PySem.W.Frag) (w : World) : List V → Hp → VK → Prop := fun vs H Q => ∃ (a : Addr) (ns : List Int), vs = [.ref a] ∧ SqL K H a (ns.map V.int) ∧ (upI ns).length ≤ 1000 ∧
  ∀ p c, H p = none → c = (upI ns).length → Q (.ref p) (upd H p (SetO w p (fun j => decide (j ∈ ns)) c))
section
variable {X : Cx}
theorem cr_setI (hc : X.calm = true) : CallR X (.type "set") (rSetI X.K X.w) := by
  intro pins s σ H vs us Q I r h
  obtain ⟨a, ns, rfl, hs, h1, q⟩ := h
  rw [Vals.ref1 r]
  obtain ⟨its, rv, hl, hz⟩ := I.list hs
  refine setOfList ns (I.ok.hd hc) hl.isList (ints_of_vals rv) (by unfold scanBound; omega) fun g k m R hm hk => ?_
  exact ⟨.ref s.heap.objs.size, upd H s.heap.objs.size (SetO X.w s.heap.objs.size (fun j => decide (j ∈ ns)) m), I.laid (t' := k) hk (Nat.le_refl _) (setO_new R), rfl, q _ m (I.hok.fresh (Nat.le_refl _)) (setR_len R)⟩
end
def intsD : List D → Option (List Int)
  | [] => some []
  | .int i :: r => (intsD r).map (i :: ·)
  | _ => none
theorem intsD_map (ns : List Int) : intsD (ns.map PyData.int) = some ns := by
  induction ns with
  | nil => rfl
  | cons a r ih => simp [intsD, ih]
def fUp : D → Option (List D)
  | .list ds => (intsD ds).bind fun ns => if (upI ns).length ≤ 1000 then some ((upI ns).map PyData.int) else none
  | _ => none
@[simp] theorem x_up {ns : List Int} : fUp (.list (ns.map PyData.int)) = if (upI ns).length ≤ 1000 then some ((upI ns).map PyData.int) else none := by
  unfold fUp
  simp only [intsD_map, Option.bind_some]
def cUp (g : M D) : M (List D) := fun ρ n => (g ρ n).bind fun d n1 => Res.lift (fUp d) n1
@[simp] theorem e_cUp {g : M D} {ρ : G.Env} {n : Nat} : cUp g ρ n = (g ρ n).bind fun d n1 => Res.lift (fUp d) n1 := rfl
theorem rep_ints {K : PySem.W.Frag} {H : Hp} : ∀ {xs : List V} {ds : List D} {ns : List Int}, RepAll K H xs ds → intsD ds = some ns → xs = ns.map V.int
  | _, [], ns, r, e => by cases r; cases e; rfl
  | _, d :: ds, ns, r, e => by
    cases r with
    | cons r1 r2 =>
      cases r1 with
      | int i =>
        unfold intsD at e
        cases q : intsD ds with
        | none => rw [q] at e; cases e
        | some ms =>
          rw [q] at e
          cases e
          rw [rep_ints r2 q]
          rfl
      | _ => cases e
theorem ints_rep {K : PySem.W.Frag} {H : Hp} : ∀ ns : List Int, RepAll K H (ns.map V.int) (ns.map PyData.int)
  | [] => .nil
  | a :: r => .cons (.int a) (ints_rep r)
section
variable {X : Cx} {ca : String → Addr} {W : WX} {e : Expr} {g : M D} {p1 p2 q1 q2 : Pos}
theorem ef_up (hc : X.calm = true) (hu : X.A.units + 64 < cLine) (hg : Gl X "sorted") (hm : X.mg "sorted" = none) (hg2 : Gl X "set") (hm2 : X.mg "set" = none) (he : PE X e (tG X.K ca W g))
    (h1 : starEach [e] X.env = (false, eval e X.env) :: starEach [] X.env := by rfl) (h2 : (backTo q2 (starEach [] X.env)).any (·.1) = false := by rfl)
    (h3 : starEach [.Call (.Name "set" p2) [e] [] q2] X.env = (false, eval (.Call (.Name "set" p2) [e] [] q2) X.env) :: starEach [] X.env := by rfl) (h4 : (backTo q1 (starEach [] X.env)).any (·.1) = false := by rfl) :
    PE X (.Call (.Name "sorted" p1) [.Call (.Name "set" p2) [e] [] q2] [] q1) (tGF X.K ca W (cUp g)) :=
  PE.weak (pe_callB (cr_sortedU hc hu) hg hm (by rfl) (pa_cons (pe_callTy (cr_setI hc) hg2 hm2 (by rfl) (pa_cons he pa_nil h1) (by decide) (by decide) h1 h2) pa_nil h3) (by decide) (by decide) h3 h4) fun σ H Q ⟨c, ρ, n, S, h⟩ => by
    refine ⟨c, ρ, n, S, (Res.post_bind h).mono (fun d n1 h1 v H1 g1 r1 => ?_) (fun e m h => h)⟩
    have S1 := S.ext g1
    obtain ⟨ds, e2, h2⟩ := Res.post_lift h1
    cases r1 with
    | @lst a xs es k1 k2 =>
      unfold fUp at e2
      simp only at e2
      cases z : intsD es with
      | none => rw [z] at e2; cases e2
      | some ns =>
        rw [z, Option.bind_some] at e2
        split at e2
        · rename_i hz
          cases e2
          have ex := rep_ints k2 z
          subst ex
          refine ⟨a, ns, rfl, .inl (.inl (hid_sub k1)), hz, fun p m hp hm => ⟨p, _, m, rfl, upd_same, by rw [hm]; exact hz, fun ns' l rise mem len hl => ?_⟩⟩
          have e3 : ns' = upI ns := rise_uniq rise (rise_upI ns) fun k => by rw [mem k, mem_upI, decide_eq_true_eq]
          subst e3
          have hlp : l ≠ p := fun q => by rw [q, upd_same] at hl; cases hl
          have hl1 : H1 l = none := by rw [upd_ne hlp] at hl; exact hl
          exact h2 l _ _ (g1.trans (S1.pure ((same_upd hp).trans (same_upd hl)))) (fresh_back g1 hl1) upd_same (ints_rep _)
        · cases e2
    | _ => cases e2
end
end G

/-! dicts: dict(pairs), d.get(k, x) -/
namespace G
open PySem PySem.Spec PyProof.Rows L2
def rDicP (K : PySem.W.Frag) : List V → Hp → VK → Prop := fun xs H Q => ∃ (a : Addr) (ps : List Addr) (kvs : List (Key × V)), xs = [.ref a] ∧ PlT K H a (ps.map V.ref) ∧ Paired (fun p kv => SqT K H p [kV kv.1, kv.2]) ps kvs ∧
  ∀ p, H p = none → Q (.ref p) (upd H p (.dK (mergeK [] kvs)))
section
variable {X : Cx}
theorem plT_at {pins : List (Addr × Obj)} {σ : L2.St} {H : Hp} {s : Shared} {a : Addr} {xs : List V} (I : Inv X pins σ H s) (h : PlT X.K H a xs) :
    ∃ (o : Obj) (us : Array Value) (n : Nat), s.heap.get? a = some o ∧ o.cls = .type "tuple" ∧ o.dict = none ∧ o.data = .seq us n ∧ xs.length ≤ sizeLine ∧ Vals xs us.toList := by
  rcases h with ⟨o, h, z⟩ | ⟨o, us, n, h1, h2, h3, h4, h5, h6⟩
  · obtain ⟨g, hz, us, r, ⟨o', g', hc, n, hd⟩⟩ := I.hok a _ h
    rw [g] at g'
    cases g'
    exact ⟨o, us.toArray, n, g, hc, z, hd, hz, by simpa using r⟩
  · exact ⟨o, us, n, I.kIn a o h1, h2, h3, h4, by rw [h6.length]; simpa using h5, h6⟩
theorem pairsV {pins : List (Addr × Obj)} {σ : L2.St} {H : Hp} {s : Shared} (I : Inv X pins σ H s) : ∀ {ps : List Addr} {kvs : List (Key × V)}, Paired (fun p kv => SqT X.K H p [kV kv.1, kv.2]) ps kvs →
    ∃ (prs : List (Key × Value)) (uvs : List (Value × Value)), KV kvs prs ∧ prs.length = ps.length ∧ uvs.length = ps.length ∧ ∀ (j : Nat) (u v : Value), uvs[j]? = some (u, v) → ∃ (b : Addr) (k : Key), ps[j]? = some b ∧ IsTup s.heap b #[u, v] ∧ prs[j]? = some (k, v) ∧ (mixKind X.prog X.w).is k u = true
  | _, _, .nil => ⟨[], [], .nil, rfl, rfl, fun j u v e => by simp at e⟩
  | _, _, .cons (a := p) (b := kv) h t => by
    obtain ⟨prs, uvs, r, hl, hl2, hp⟩ := pairsV I t
    obtain ⟨its, rv, ht, _⟩ := I.tuple h
    obtain ⟨u, y, ei, ru, ry⟩ := vals2 rv
    subst ei
    refine ⟨(kv.1, y) :: prs, (u, y) :: uvs, .cons ⟨rfl, ry⟩ r, by rw [List.length_cons, List.length_cons, hl], by rw [List.length_cons, List.length_cons, hl2], fun j u' v' e => ?_⟩
    cases j with
    | zero =>
      have e' : (u, y) = (u', v') := Option.some.inj e
      cases e'
      exact ⟨p, kv.1, rfl, ht, rfl, kV_is ru⟩
    | succ j =>
      obtain ⟨b, k, e1, e2, e3, e4⟩ := hp j u' v' (by simpa using e)
      exact ⟨b, k, by simpa using e1, e2, by simpa using e3, e4⟩
theorem cr_dicP (hcalm : X.calm = true) : CallR X (.type "dict") (rDicP X.K) := by
  intro pins s σ H xs us Q I r q
  obtain ⟨a, ps, kvs, ex, hq, hp, q⟩ := q
  subst ex
  obtain ⟨u, eu, rx⟩ := vals1 r
  subst eu
  cases rx
  obtain ⟨o, its, n, ho, hc, hd, hdat, hz, rv⟩ := plT_at I hq
  have ei := refs_at rv
  rw [List.length_map] at hz
  obtain ⟨prs, uvs, rel, hl, hl2, hpr⟩ := pairsV I hp
  have hsz : its.size = uvs.length := by
    have := congrArg List.length ei
    rw [Array.length_toList, List.length_map] at this
    rw [this, hl2]
  refine _root_.PySem.call_dict_pairs (knd := mixKind X.prog X.w) (kvs := prs) (_root_.PySem.PairArg.tuple a its (fun j => ps.getD j 0) uvs) (I.ok.hd hcalm) ⟨⟨o, n, ho, hc, hd, hdat⟩, hsz, fun j u v e => ?_⟩ ⟨by rw [hl, hl2], fun i key v e => ?_⟩ (by rw [hl2]; exact hz) fun h' tk hd' k => ?_
  · obtain ⟨b, k, e1, e2, e3, e4⟩ := hpr j u v e
    refine ⟨?_, .inl ?_⟩
    · have : its.toList[j]? = some (.ref b) := by rw [ei, List.getElem?_map, e1]; rfl
      simpa [List.getD_eq_getElem?_getD, e1] using this
    · have eb : ps.getD j 0 = b := by simp [List.getD_eq_getElem?_getD, e1]
      show s.heap.IsTuple (ps.getD j 0) _
      rw [eb]
      exact e2
  · obtain ⟨b, k, e1, e2, e3, e4⟩ := hpr i key v e
    exact ⟨k, e3, e4⟩
  · have hm : (s.heap.objs.size == sysModules) = false := beq_eq_false_iff_ne.mpr (Nat.ne_of_gt I.big)
    have hlen : (mergeK [] kvs).length ≤ sizeLine := by
      refine Nat.le_trans (length_mergeK kvs []) ?_
      rw [List.length_nil, Nat.zero_add, rel.length, hl]
      exact hz
    exact ⟨.ref s.heap.objs.size, upd H s.heap.objs.size (.dK (mergeK [] kvs)), I.laid (t' := tk) (fun b o e => k b o (by simp) e) (Nat.le_refl _) (show ObjOk X.prog X.w _ _ _ (.dK (mergeK [] kvs)) from ⟨hlen, hm, merged [] prs, KV.merge rel .nil, hd'⟩), rfl, q _ (I.hok.fresh (Nat.le_refl _))⟩
end
/-! ### in plain words -/
def keyD : D → Option Key
  | .int i => some (.inl i)
  | .str x => some (.inr x)
  | _ => none
def lookD (kvs : List (Key × D)) (k : Key) : Option D := (kvs.find? fun kv => decide (kv.1 = k)).map (·.2)
def putD (kvs : List (Key × D)) (k : Key) (v : D) : List (Key × D) :=
  if (kvs.any fun kv => decide (kv.1 = k)) = true then kvs.map (fun kv => if kv.1 = k then (kv.1, v) else kv) else kvs ++ [(k, v)]
def pairsD : List D → Option (List (Key × D))
  | [] => some []
  | .tuple [k, v] :: r => (keyD k).bind fun k => (pairsD r).map ((k, v) :: ·)
  | _ => none
def mergeD (kvs more : List (Key × D)) : List (Key × D) := more.foldl (fun acc kv => putD acc kv.1 kv.2) kvs
def fDic : D → Option (List (Key × D))
  | .tuple ds => (pairsD ds).map (mergeD [])
  | _ => none
def cDic (g : M D) : M (List (Key × D)) := fun ρ n => (g ρ n).bind fun d n1 => Res.lift (fDic d) n1
section
variable {K : PySem.W.Frag} {H : Hp}
abbrev RepK (K : PySem.W.Frag) (H : Hp) : List (Key × V) → List (Key × D) → Prop := PySem.W.EachIs fun p q => p.1 = q.1 ∧ Rep K H p.2 q.2
theorem RepK.keys : ∀ {ws : List (Key × V)} {kvs : List (Key × D)}, RepK K H ws kvs → ws.map (·.1) = kvs.map (·.1)
  | _, _, .nil => rfl
  | _, _, .cons h t => by rw [List.map_cons, List.map_cons, h.1, RepK.keys t]
theorem RepK.vals : ∀ {ws : List (Key × V)} {kvs : List (Key × D)}, RepK K H ws kvs → RepAll K H (ws.map (·.2)) (kvs.map (·.2))
  | _, _, .nil => .nil
  | _, _, .cons h t => .cons h.2 (RepK.vals t)
theorem RepK.of : ∀ {ws : List (Key × V)} {kvs : List (Key × D)}, ws.map (·.1) = kvs.map (·.1) → RepAll K H (ws.map (·.2)) (kvs.map (·.2)) → RepK K H ws kvs
  | [], [], _, _ => .nil
  | [], _ :: _, e, _ => by cases e
  | _ :: _, [], e, _ => by cases e
  | p :: ws, q :: kvs, e, r => by
    rw [List.map_cons, List.map_cons] at e r
    cases r with
    | cons r1 r2 => exact .cons ⟨(List.cons.inj e).1, r1⟩ (RepK.of (List.cons.inj e).2 r2)
theorem RepK.any {k : Key} : ∀ {ws : List (Key × V)} {kvs : List (Key × D)}, RepK K H ws kvs → (ws.any fun kv => decide (kv.1 = k)) = (kvs.any fun kv => decide (kv.1 = k))
  | _, _, .nil => rfl
  | _, _, .cons h t => by rw [List.any_cons, List.any_cons, h.1, RepK.any t]
theorem RepK.look {k : Key} : ∀ {ws : List (Key × V)} {kvs : List (Key × D)}, RepK K H ws kvs → (valV ws k = none ∧ lookD kvs k = none) ∨ ∃ v d, valV ws k = some v ∧ lookD kvs k = some d ∧ Rep K H v d
  | _, _, .nil => .inl ⟨rfl, rfl⟩
  | _, _, .cons (a := p) (b := q) (as := ws) (bs := kvs) h t => by
    by_cases e : q.1 = k
    · have e1 : valV (p :: ws) k = some p.2 := valV_pos (h.1.trans e)
      have e2 : lookD (q :: kvs) k = some q.2 := by simp [lookD, List.find?_cons, e]
      exact .inr ⟨_, _, e1, e2, h.2⟩
    · have e1 : valV (p :: ws) k = valV ws k := valV_neg (by rw [h.1]; exact e)
      have e2 : lookD (q :: kvs) k = lookD kvs k := by simp [lookD, List.find?_cons, e]
      rw [e1, e2]
      exact RepK.look t
theorem RepK.repl {k : Key} {v : V} {d : D} (r : Rep K H v d) : ∀ {ws : List (Key × V)} {kvs : List (Key × D)}, RepK K H ws kvs →
    RepK K H (ws.map fun kv => if kv.1 = k then (kv.1, v) else kv) (kvs.map fun kv => if kv.1 = k then (kv.1, d) else kv)
  | _, _, .nil => .nil
  | _, _, .cons (a := p) (b := q) h t => by
    rw [List.map_cons, List.map_cons]
    refine .cons ?_ (RepK.repl r t)
    by_cases e : q.1 = k
    · rw [if_pos e, if_pos (h.1.trans e)]
      exact ⟨h.1, r⟩
    · rw [if_neg e, if_neg (by rw [h.1]; exact e)]
      exact h
theorem RepK.app : ∀ {ws ws' : List (Key × V)} {kvs kvs' : List (Key × D)}, RepK K H ws kvs → RepK K H ws' kvs' → RepK K H (ws ++ ws') (kvs ++ kvs')
  | _, _, _, _, .nil, h => h
  | _, _, _, _, .cons h t, h' => .cons h (RepK.app t h')
theorem RepK.put {k : Key} {v : V} {d : D} {ws : List (Key × V)} {kvs : List (Key × D)} (h : RepK K H ws kvs) (r : Rep K H v d) : RepK K H (putK ws k v) (putD kvs k d) := by
  unfold putK putD
  rw [RepK.any h]
  split
  · exact RepK.repl r h
  · exact RepK.app h (.cons ⟨rfl, r⟩ .nil)
theorem RepK.merge : ∀ {more : List (Key × V)} {more' : List (Key × D)} {ws : List (Key × V)} {kvs : List (Key × D)}, RepK K H more more' → RepK K H ws kvs → RepK K H (mergeK ws more) (mergeD kvs more')
  | _, _, _, _, .nil, h => h
  | _, _, _, _, .cons (a := p) (b := q) h t, h' => by
    show RepK K H (mergeK (putK _ p.1 p.2) _) (mergeD (putD _ q.1 q.2) _)
    rw [h.1]
    exact RepK.merge t (h'.put h.2)
theorem pairs_rep : ∀ {xs : List V} {ds : List D} {kvs : List (Key × D)}, RepAll K H xs ds → pairsD ds = some kvs → ∃ (ps : List Addr) (ws : List (Key × V)), xs = ps.map V.ref ∧ Paired (fun p kv => SqT K H p [kV kv.1, kv.2]) ps ws ∧ RepK K H ws kvs
  | _, [], kvs, r, e => by cases r; cases e; exact ⟨[], [], rfl, .nil, .nil⟩
  | _, d :: ds, kvs, r, e => by
    cases r with
    | cons r1 r2 =>
      unfold pairsD at e
      split at e
      · rename_i heq
        cases heq
      · rename_i k v r' heq
        cases heq
        cases hk : keyD k with
        | none => rw [hk] at e; cases e
        | some kk =>
          rw [hk, Option.bind_some] at e
          cases hr : pairsD ds with
          | none => rw [hr] at e; cases e
          | some more =>
            rw [hr] at e
            cases e
            obtain ⟨ps, ws, e1, e2, e3⟩ := pairs_rep r2 hr
            cases r1 with
            | @tup p ys _ h1 h2 =>
              cases h2 with
              | @cons kv _ _ _ k1 k2 =>
                cases k2 with
                | @cons vv _ _ _ v1 v2 =>
                  cases v2
                  have ek : kv = kV kk := by
                    cases k1 with
                    | int i => cases hk; rfl
                    | str x => cases hk; rfl
                    | _ => cases hk
                  subst ek
                  exact ⟨p :: ps, (kk, vv) :: ws, by rw [e1]; rfl, .cons h1.sq e2, .cons ⟨rfl, v1⟩ e3⟩
      · cases e
end
/-! ### as rules -/
section
variable {K : PySem.W.Frag} {ca : String → Addr} {W : WX}
/-- a new dict -/
def tGD (K : PySem.W.Frag) (ca : String → Addr) (W : WX) (g : M (List (Key × D))) : TE := fun σ H Q => ∃ c ρ n, SR K c σ H ρ n ∧
  (g ρ n).Post (fun kvs n' => ∀ a ws H', Gx c H n' H' → H a = none → H' a = some (.dK ws) → RepK K (hid (a :: c.B) H') ws kvs → Q (.ref a) H') (exK ca W c σ H)
def sDic (i : Nat) (g : M (List (Key × D))) : MS := fun ρ n => ofR (g ρ n) ρ fun kvs n1 => if i < ρ.length then .nx (ρ.set i (some (.dic kvs))) n1 else .bad
def cDGet (i : Nat) (ge gf : M D) : M D := fun ρ n => match ρ[i]? with
  | some (some (.dic kvs)) => (ge ρ n).bind fun k n1 => (gf ρ n1).bind fun d n2 => Res.lift ((keyD k).map fun k => (lookD kvs k).getD d) n2
  | _ => .bad
def cDAt (i : Nat) (ge : M D) : M D := fun ρ n => match ρ[i]? with
  | some (some (.dic kvs)) => (ge ρ n).bind fun k n1 => Res.lift ((keyD k).bind fun k => lookD kvs k) n1
  | _ => .bad
def cDIn (i : Nat) (ge : M D) : M D := fun ρ n => match ρ[i]? with
  | some (some (.dic kvs)) => (ge ρ n).bind fun k n1 => Res.lift ((keyD k).map fun k => .bool (lookD kvs k).isSome) n1
  | _ => .bad
theorem dic_post {i : Nat} {c : Fm} {σ : L2.St} {H H1 : Hp} {ρ : G.Env} {n n1 : Nat} {kvs : List (Key × D)} {E : Ends} {a : Addr} {ws : List (Key × V)} (S : SR K c σ H ρ n)
    (h1 : OPost K ca W c H (if i < ρ.length then .nx (ρ.set i (some (.dic kvs))) n1 else .bad) E) (g1 : Gx c H n1 H1) (hn : H a = none) (hv : H1 a = some (.dK ws)) (r1 : RepK K (hid (a :: c.B) H1) ws kvs) : E.nx (σ.set i (some (.ref a))) H1 := by
  split at h1
  · rename_i hlt
    obtain ⟨S1, se⟩ := S.adopt g1 hn hv rfl
    have h0 : c.H0 a = none := by
      cases q : c.H0 a with
      | none => rfl
      | some o => exact absurd hn (S.keep.all (by rw [S.town]; simp) (by rw [q]; simp))
    exact h1 _ H1 (a :: c.B) (S1.set_ix hlt ⟨a, ws, rfl, List.mem_cons_self, h0, hv, r1.keys, r1.vals⟩ fun _ j l' b hj ej oj sj z => by
      cases z
      obtain ⟨v, q1, q2⟩ := S.slot j l' ej
      rw [sj] at q1
      cases q1
      cases l' with
      | own xs => obtain ⟨b, _, z, _, _, z4, _⟩ := q2; cases z; rw [hn] at z4; cases z4
      | dic xs => obtain ⟨b, _, z, _, _, z4, _⟩ := q2; cases z; rw [hn] at z4; cases z4
      | dit xs => obtain ⟨b, _, z, _, _, z4, _⟩ := q2; cases z; rw [hn] at z4; cases z4
      | ob o => exact nomatch o
      | _ => cases oj) se
  · exact h1.elim
end
section
variable {X : Cx} {ca : String → Addr} {W : WX} {e f : Expr} {ge gf g : M D} {gd : M (List (Key × D))} {pos p1 p2 cpos apos : Pos} {i : Nat} {x : Str}
theorem es_dic {pos' : Pos} (hN : X.N.Nodup) (hi : X.N[i]? = some x) (hx : Loc X.env.scope x) (he : PE X e (tGD X.K ca W gd)) (hs : swapsWith e (some (.Name x pos')) pos.line X.env = pure false := by rfl) (hf : X.fn x = true ∨ X.env.scope.names.lookup x = some .local := by first | exact .inl rfl | exact .inr rfl | assumption) :
    PS X (.Assign [.Name x pos'] e pos) (tS X.K ca W (sDic i gd)) :=
  PS.weak (ps_set hN hi hx he hs hf) fun E σ H ⟨c, ρ, n, S, h⟩ => ⟨c, ρ, n, S, (post_ofR S h).mono (fun ds n1 h1 a vs H1 g1 hn hv r1 => dic_post S h1 g1 hn hv r1) (fun e m h => h)⟩
/-- dict(x), x a tuple of pairs -/
theorem ed_dict (hc : X.calm = true) (hg : Gl X "dict") (hm : X.mg "dict" = none) (he : PE X e (tG X.K ca W g)) (h1 : starEach [e] X.env = (false, eval e X.env) :: starEach [] X.env := by rfl) (h2 : (backTo pos (starEach [] X.env)).any (·.1) = false := by rfl) :
    PE X (.Call (.Name "dict" p1) [e] [] pos) (tGD X.K ca W (cDic g)) :=
  PE.weak (pe_callTy (cr_dicP hc) hg hm (by rfl) (pa_cons he pa_nil h1) (by decide) (by decide) h1 h2) fun σ H Q ⟨c, ρ, n, S, h⟩ => by
    refine ⟨c, ρ, n, S, (Res.post_bind h).mono (fun d n1 h1 v H1 g1 r1 => ?_) (fun e m h => h)⟩
    have S1 := S.ext g1
    obtain ⟨kvs, e2, h2⟩ := Res.post_lift h1
    cases r1 with
    | @tup a xs es k1 k2 =>
      unfold fDic at e2
      simp only at e2
      cases z : pairsD es with
      | none => rw [z] at e2; cases e2
      | some more =>
        rw [z] at e2
        cases e2
        obtain ⟨ps, ws, ex, pp, rk⟩ := pairs_rep k2 z
        subst ex
        have pp' : Paired (fun p kv => SqT X.K H1 p [kV kv.1, kv.2]) ps ws := by
          have : ∀ {ps : List Addr} {ws : List (Key × V)}, Paired (fun p kv => SqT X.K (hid c.B H1) p [kV kv.1, kv.2]) ps ws → Paired (fun p kv => SqT X.K H1 p [kV kv.1, kv.2]) ps ws := by
            intro ps ws h
            induction h with
            | nil => exact .nil
            | cons h t ih => exact .cons (sqT_mono (fun _ _ => hid_sub) h) ih
          exact this pp
        refine ⟨a, ps, ws, rfl, plT_mono (fun _ _ => hid_sub) k1, pp', fun p hp => ?_⟩
        refine h2 p _ _ (g1.trans (S1.pure (same_upd hp))) (fresh_back g1 hp) upd_same ?_
        exact RepK.merge (PySem.W.EachIs.mono (fun p q h => ⟨h.1, Rep.mono (hid_fresh hp) _ _ h.2⟩) rk) .nil
    | _ => cases e2
theorem key_rep {K : PySem.W.Frag} {H : Hp} {v : V} {d : D} {k : Key} (r : Rep K H v d) (e : keyD d = some k) : v = kV k := by
  cases r with
  | int i => cases e; rfl
  | str x => cases e; rfl
  | _ => cases e
/-- d.get(k, x) -/
theorem ev_dget2 (hu : X.A.units + 64 < cLine) (he : PE X e (tG X.K ca W ge)) (hf : PE X f (tG X.K ca W gf)) (hN : X.N[i]? = some x := by rfl) (hv : Vis X.env.scope x := by first | exact Or.inl rfl | exact Or.inr (Or.inl rfl) | exact Or.inr (Or.inr rfl)) (hd : (x == ("__debug__" : Str)) = false := by decide)
    (hcd : (x == ("__classdict__" : Str)) = false := by decide) (m : M2 X (.Name x p1) "get" apos e f cpos := by exact ⟨rfl, rfl, rfl, rfl⟩) :
    PE X (.Call (.Attribute (.Name x p1) "get" apos) [e, f] [] cpos) (tG X.K ca W (cDGet i ge gf)) :=
  PE.weak (pe_dget2 (by omega) (pe_var hN hv hd hcd) he hf m) fun σ H Q ⟨c, ρ, n, S, h⟩ => by
    unfold cDGet at h
    split at h
    · rename_i kvs q
      obtain ⟨v, hσ, a, ws, rfl, ha, h0, hH, hk, hr⟩ := S.slot i _ q
      have rk := RepK.of hk hr
      refine ⟨_, hσ, a, rfl, .inl ⟨ws, .inl hH⟩, c, ρ, n, S, (Res.post_bind h).mono (fun d n1 h1 y H1 g1 r1 => ?_) (fun e m h => h)⟩
      have S1 := S.ext g1
      refine ⟨c, ρ, n1, S1, (Res.post_bind h1).mono (fun z n2 h2 w H2 g2 r2 => ?_) (fun e m h => exK.at h g1)⟩
      obtain ⟨d', e', h3⟩ := Res.post_lift h2
      have g12 := g1.trans g2
      cases ek : keyD d with
      | none => rw [ek] at e'; cases e'
      | some k =>
        rw [ek] at e'
        cases e'
        have ey := key_rep r1 ek
        subst ey
        have hH2 : H2 a = some (.dK ws) := g12.ext.to a _ hH (fun z => S.old _ S.tB (z ▸ h0)) rfl
        refine ⟨valV ws k, DGet.k hH2, ?_⟩
        refine h3 _ H2 g12 ?_
        show Rep X.K (hid c.B H2) ((valV ws k).getD w) ((lookD kvs k).getD z)
        rcases RepK.look (k := k) rk with ⟨z1, z2⟩ | ⟨v1, d1, z1, z2, z3⟩
        · rw [z1, z2]; exact r2
        · rw [z1, z2]; exact Rep.mono (g12.sees S.tB') _ _ z3
    · exact h.elim
end
section
variable {ρ : G.Env} {n i : Nat} {ge gf g : M D} {gd : M (List (Key × D))}
@[simp] theorem e_sDic : sDic i gd ρ n = ofR (gd ρ n) ρ fun kvs n1 => if i < ρ.length then .nx (ρ.set i (some (.dic kvs))) n1 else .bad := rfl
@[simp] theorem e_cDGet : cDGet i ge gf ρ n = match ρ[i]? with
  | some (some (.dic kvs)) => (ge ρ n).bind fun k n1 => (gf ρ n1).bind fun d n2 => Res.lift ((keyD k).map fun k => (lookD kvs k).getD d) n2
  | _ => .bad := rfl
@[simp] theorem e_cDic : cDic g ρ n = (g ρ n).bind fun d n1 => Res.lift (fDic d) n1 := rfl
@[simp] theorem key_T {l : List Nat} : keyD (T l) = some (.inr ⟨l.toArray⟩) := rfl
@[simp] theorem key_int {k : Int} : keyD (.int k) = some (.inl k) := rfl
end
end G

/-! enumerate over a list or a tuple -/
namespace G
open PySem PySem.Spec PyProof.Rows L2
/-- the two kinds of a row -/
structure Kind where
  T : String
  I : String
def sqAt (tup : Bool) (h : Heap) (a : Addr) (us : Array Value) : Prop := if tup = true then h.IsTuple a us else h.IsList a us
def itAt (tup : Bool) (h : Heap) (it a : Addr) (i : Nat) : Prop := if tup = true then h.IsTupleIter it a i else h.IsListIter it a i
def itO (tup : Bool) (a : Addr) : Obj := if tup = true then { cls := .type "tuple_iterator", data := .fields #[.ref a, .int 0 0] } else { cls := .type "list_iterator", data := .fields #[.ref a, .int 0 0] }
theorem begins (tup : Bool) (a : Addr) (us : Array Value) : Begins (.ref a) (itO tup a) fun h => sqAt tup h a us := by
  cases tup with
  | true => exact begins_tuple a us
  | false => exact begins_list a us
theorem draws {prog : Program} {w : World} {A : Around} (tup : Bool) (hh : A.handled = none) (it a : Addr) (hne : a ≠ it) (us : Array Value) :
    Draws prog w A it [it, a] us.size (fun i v => us[i]? = some v) (fun i h => itAt tup h it a i ∧ sqAt tup h a us) := by
  cases tup with
  | true => exact Draws.tuple hh it a hne us
  | false => exact Draws.list hh it a hne us
theorem drawsEnd {prog : Program} {w : World} {A : Around} (tup : Bool) (hh : A.handled = none) (it a : Addr) (hne : a ≠ it) (us : Array Value) (i : Nat) (hi : us.size ≤ i) :
    Draws prog w A it [it, a] i (fun _ _ => True) (fun j h => j = i ∧ itAt tup h it a i ∧ sqAt tup h a us) := by
  cases tup with
  | true => exact {
      live := fun _ _ st => let ⟨o, ho, _⟩ := st.2.1; ⟨o, ho⟩
      frame := fun _ _ _ st hk => ⟨st.1, Heap.IsTupleIter.at st.2.1 fun o e => hk it (by simp) o e, Heap.IsTuple.at st.2.2 fun o e => hk a (by simp) o e⟩
      item := fun j s Q E hj st hQ => absurd st.1 (Nat.ne_of_lt hj)
      done := fun s Q E st hE => wpAny_nextOf_tuple_end hh st.2.1 st.2.2 (by simp; omega) hE }
  | false => exact {
      live := fun _ _ st => let ⟨o, ho, _⟩ := st.2.1; ⟨o, ho⟩
      frame := fun _ _ _ st hk => ⟨st.1, Heap.IsListIter.at st.2.1 fun o e => hk it (by simp) o e, Heap.IsList.at st.2.2 fun o e => hk a (by simp) o e⟩
      item := fun j s Q E hj st hQ => absurd st.1 (Nat.ne_of_lt hj)
      done := fun s Q E st hE => wpAny_nextOf_list_end hh st.2.1 st.2.2 (by simp; omega) hE }
theorem itAt_new {tup : Bool} {h : Heap} {it a : Addr} (e : h.get? it = some (itO tup a)) : itAt tup h it a 0 := by
  cases tup with
  | true => exact ⟨_, e, rfl, rfl⟩
  | false => exact ⟨_, e, rfl, rfl⟩
theorem itAt_at {tup : Bool} {h h' : Heap} {it a : Addr} {i : Nat} (x : itAt tup h it a i) (e : ∀ o, h.get? it = some o → h'.get? it = some o) : itAt tup h' it a i := by
  cases tup with
  | true => exact Heap.IsTupleIter.at x e
  | false => exact Heap.IsListIter.at x e
theorem itAt_ob {tup : Bool} {h : Heap} {it a : Addr} {i : Nat} (x : itAt tup h it a i) : ∃ o, h.get? it = some o ∧ ∀ v, o.data ≠ .cell v := by
  cases tup with
  | true => obtain ⟨o, ho, hc, hd⟩ := x; exact ⟨o, ho, fun v q => by rw [hd] at q; cases q⟩
  | false => obtain ⟨o, ho, hc, hd⟩ := x; exact ⟨o, ho, fun v q => by rw [hd] at q; cases q⟩
section
variable {prog : Program} {w : World} {A : Around} {E : Value → Shared → Prop} {s : Shared}
theorem meets_enum1 {v : Value} {o : Obj} {Hp0 : Heap → Prop} (B : Begins v o Hp0) :
    Meets (Builtin.«enumerate.__new__» ⟨[.type "enumerate", v], []⟩) (fun _ R s => Hp0 s.heap ∧
      R (.ok (.ret (.ref (s.heap.push o).objs.size))) { s with heap := (s.heap.push o).push { cls := .type "enumerate", data := .fields #[.none, .bool false, .ref s.heap.objs.size, rawInt 0, .none, .none] } }) :=
  .of_wp fun prog w A R s h => by
    obtain ⟨hp, g, d, tk, os⟩ := s
    obtain ⟨h1, h⟩ := h
    have hsub := sub_enumerate
    have q1 : ∀ {A' : Around} {E : Value → Shared → Prop} {Q : Value → Shared → Prop}, Q (.ref hp.objs.size) ⟨hp.push o, g, d, tk, os⟩ → wpAny (model prog w) A' (pyIter v) Q E ⟨hp, g, d, tk, os⟩ :=
      fun q => B.iter prog w _ _ ⟨hp, g, d, tk, os⟩ _ h1 q
    wp_walk using q1
    refine wpAny_stack_any fun st => wpAny_pure ?_
    split
    · rename_i c _ _ _ _ _
      cases (c == Value.type "enumerate")
      · wp_walk using q1
        exact ⟨_, rfl, h⟩
      · wp_walk using q1
        exact ⟨_, rfl, h⟩
    · wp_walk using q1
      exact ⟨_, rfl, h⟩
theorem call_enum1 {v : Value} {o : Obj} {Hp0 : Heap → Prop} {Q : Value → Shared → Prop} (B : Begins v o Hp0) (h1 : Hp0 s.heap)
    (q : ∀ h', IsEnum h' (s.heap.objs.size + 1) s.heap.objs.size 0 .none → h'.get? s.heap.objs.size = some o → (∀ b u, s.heap.get? b = some u → h'.get? b = some u) → Q (.ref (s.heap.objs.size + 1)) { s with heap := h' }) :
    wpAny (model prog w) A (call (.type "enumerate") [v]) Q E s := by
  refine callType_new F.called_enumerate (by decide) (F.typeCall_enumerate_1 _) (F.newCall_enumerate_1 _) (fun obj => F.args_object_init_2 obj _) F.entry_enumerate_new (meets_enum1 B) ⟨h1, ?_⟩
  have hz : (s.heap.push o).objs.size = s.heap.objs.size + 1 := Heap.size_push ..
  show _ ∧ _
  rw [hz]
  have he : IsEnum ((s.heap.push o).push { cls := .type "enumerate", data := .fields #[.none, .bool false, .ref s.heap.objs.size, rawInt 0, .none, .none] }) (s.heap.objs.size + 1) s.heap.objs.size 0 .none := by
    have := Heap.get?_push_size (s.heap.push o) (o := { cls := .type "enumerate", data := .fields #[.none, .bool false, .ref s.heap.objs.size, rawInt 0, .none, .none] }) rfl
    rw [hz] at this
    exact this
  exact ⟨⟨_, he, rfl⟩, q _ he (Heap.get?_push_of_some _ (Heap.get?_push_size _ B.free)) fun b u x => Heap.get?_push_of_some _ (Heap.get?_push_of_some _ x)⟩
end
def SqB (K : PySem.W.Frag) (tup : Bool) (H : Hp) (a : Addr) (xs : List V) : Prop := if tup = true then SqT K H a xs else SqL K H a xs
/-- the row at a as it stands at each turn, each item in a new pair -/
def ItE (K : PySem.W.Frag) (tup : Bool) (a : Addr) : It :=
  ⟨fun i H => ∃ (xs : List V) (x : V), SqB K tup H a xs ∧ xs[i]? = some x, fun i H v H' => ∃ (T : Addr) (x : V) (o : Obj), v = .ref T ∧ o.dict = none ∧ H T = none ∧ H' = upd H T (.frz o (.tup [.int (i : Nat), x])) ∧ ∀ xs, SqB K tup H a xs → xs[i]? = some x, fun i H => ∃ xs : List V, SqB K tup H a xs ∧ xs.length ≤ i⟩
section
variable {X : Cx} {pins : List (Addr × Obj)} {σ : L2.St} {H : Hp} {s : Shared}
theorem sqB_at {tup : Bool} {a : Addr} {xs : List V} (I : Inv X pins σ H s) (h : SqB X.K tup H a xs) : ∃ its : List Value, Vals xs its ∧ sqAt tup s.heap a its.toArray ∧ xs.length ≤ sizeLine := by
  cases tup with
  | true =>
    obtain ⟨its, rv, p, hz⟩ := I.tuple (show SqT X.K H a xs from h)
    exact ⟨its, rv, p, hz⟩
  | false =>
    obtain ⟨its, rv, p, hz⟩ := I.list (show SqL X.K H a xs from h)
    exact ⟨its, rv, p.isList, hz⟩
theorem sqB_inj {tup : Bool} {a : Addr} {xs ys : List V} (I : Inv X pins σ H s) (h : SqB X.K tup H a xs) (h' : SqB X.K tup H a ys) : xs = ys := by
  cases tup with
  | true => exact I.tuple_inj (show SqT X.K H a xs from h) h'
  | false => exact I.list_inj (show SqL X.K H a xs from h) h'
end
theorem sqAt_ne {tup : Bool} {h : Heap} {it a : Addr} {i : Nat} {us : Array Value} (x : sqAt tup h a us) (y : itAt tup h it a i) : a ≠ it := by
  rintro rfl
  cases tup with
  | true =>
    obtain ⟨o, ho, hc, _⟩ := x
    obtain ⟨o', ho', hc', _⟩ := y
    rw [ho] at ho'
    cases ho'
    rw [hc] at hc'
    exact absurd hc' (by decide)
  | false =>
    obtain ⟨o, ho, hc, _⟩ := x
    obtain ⟨o', ho', hc', _⟩ := y
    rw [ho] at ho'
    cases ho'
    rw [hc] at hc'
    exact absurd hc' (by decide)
theorem sqAt_neE {tup : Bool} {h : Heap} {e it a : Addr} {i : Int} {old : Value} {us : Array Value} (x : sqAt tup h a us) (y : IsEnum h e it i old) : e ≠ a := by
  rintro rfl
  cases tup with
  | true =>
    obtain ⟨o, ho, hc, _⟩ := x
    rw [show h.get? e = _ from y] at ho
    cases ho
    injection hc with z
    exact absurd z (by decide)
  | false =>
    obtain ⟨o, ho, hc, _⟩ := x
    rw [show h.get? e = _ from y] at ho
    cases ho
    injection hc with z
    exact absurd z (by decide)
theorem turn_en {P : Program} {w : World} {K : PySem.W.Frag} {elts : List Expr} {kk : Nat} {tpos : Pos} (tup : Bool) (a e it : Addr) :
    Turn P w K (.Tuple elts kk tpos) (ItE K tup a) [e, it] e (fun i h => (∃ old, IsEnum h e it ((i : Nat) : Int) old) ∧ itAt tup h it a i ∧ e ≠ it) where
  mem := by simp
  obj := fun i h st b hb => by
    obtain ⟨⟨old, he⟩, hi, _⟩ := st
    have e' : b = e ∨ b = it := by simpa using hb
    rcases e' with z | z
    · rw [z]; exact ⟨_, he, fun v q => nomatch q⟩
    · rw [z]; exact itAt_ob hi
  keep := fun i h h' st k => let ⟨⟨old, he⟩, hi, hne⟩ := st; ⟨⟨old, k e (by simp) _ he⟩, itAt_at hi fun o q => k it (by simp) o q, hne⟩
  item := by
    intro X hP hw hK hc i pins s σ H E I hf st hg
    subst hP hw hK
    obtain ⟨⟨old, he⟩, hit, hne⟩ := st
    obtain ⟨xs, x, hq, hx⟩ := hg
    obtain ⟨its, rv, p, hz⟩ := sqB_at I hq
    obtain ⟨u, hu, ru⟩ := rv.get hx
    have hel : e < s.heap.objs.size := Heap.lt_size he
    have hil : it < s.heap.objs.size := by obtain ⟨_, q, _⟩ := itAt_ob hit; exact Heap.lt_size q
    have hi : i < its.toArray.size := by
      have := (List.getElem?_eq_some_iff.mp hu).1
      simpa using this
    refine wpAny_pyNext_enum_itemD (draws tup (by simp [I.ok.hd hc]) it a (sqAt_ne p hit) its.toArray) he ⟨hit, p⟩ hi hne (by simp [hne, sqAt_neE p he]) fun y h' tk hy ho hst hT hsz hk => ?_
    have ey : y = u := by
      have : its.toArray[i]? = some u := by simpa using hu
      rw [this] at hy
      exact (Option.some.inj hy).symm
    subst ey
    refine ⟨_, rfl, wpAny_letOwnedTupleGo_enum (s := { s with heap := h', toks := tk + 1 }) ho fun h'' he' sb => ?_⟩
    have hT2 : h''.get? s.heap.objs.size = some { cls := .type "tuple", data := .seq #[.int i tk, y] } := (sb.2 _ (Nat.ne_of_gt hel)).trans hT
    have new : ObjOk X.prog X.w (upd H s.heap.objs.size (.frz (plainO #[.int i tk, y]) (.tup [.int (i : Nat), x]))) h'' s.heap.objs.size (.frz (plainO #[.int i tk, y]) (.tup [.int (i : Nat), x])) :=
      ⟨hT2, by show 2 ≤ sizeLine; decide, [.int i tk, y], .cons ⟨_, rfl⟩ (.cons ru .nil), ⟨_, hT2, rfl, _, rfl⟩⟩
    have I1 : Inv X pins σ (upd H s.heap.objs.size (.frz (plainO #[.int i tk, y]) (.tup [.int (i : Nat), x]))) { s with heap := h'', toks := tk + 1 } :=
      I.turnedNew (ch := [e, it]) (fun b ob hb q => (sb.2 b (fun z => hb (by simp [z]))).trans (hk b ob (fun z => hb (by simp [z])) (fun z => hb (by simp [z])) q)) hf (Nat.le_refl _) new
    refine ⟨.ref s.heap.objs.size, _, I1, rfl, ⟨_, x, _, rfl, rfl, I.hok.fresh (Nat.le_refl _), rfl, fun ys hy => by rw [sqB_inj I hy hq]; exact hx⟩, ⟨⟨y, ?_⟩, itAt_at hst.1 fun o q => (sb.2 it (Ne.symm hne)).trans q, hne⟩, fun b hb => ?_⟩
    · have e1 : ((i + 1 : Nat) : Int) = (i : Int) + 1 := by omega
      rw [e1]
      exact he'
    · have hb' : b < s.heap.objs.size := by
        have e' : b = e ∨ b = it := by simpa using hb
        rcases e' with z | z
        · rw [z]; exact hel
        · rw [z]; exact hil
      rw [upd_ne (Nat.ne_of_lt hb')]
      exact (hf b hb).1
  done := by
    intro X hP hw hK hc i pins s σ H E I hf st hg
    subst hP hw hK
    obtain ⟨⟨old, he⟩, hit, hne⟩ := st
    obtain ⟨xs, hq, hx⟩ := hg
    obtain ⟨its, rv, p, hz⟩ := sqB_at I hq
    obtain ⟨f0, f1, f2, f3, f4, f5⟩ := hf it (by simp)
    have hl := rv.length
    exact wpAny_pyNext_enum_endD (drawsEnd tup (by simp [I.ok.hd hc]) it a (sqAt_ne p hit) its.toArray i (by simp; omega)) he ⟨rfl, hit, p⟩ fun h' eb => ⟨rfl, I.turned (t' := s.toks) (fun b o hb q => eb b o hb q) f0 f1 f3 f4 f5⟩
  self := fun A i s Q E st h => let ⟨⟨_, he⟩, _⟩ := st; wpAny_pyIter_enum he h
def iEn (K : PySem.W.Frag) (ta : TA) : TI := fun σ H R => ta σ H fun vs H1 => ∃ (tup : Bool) (a : Addr) (xs : List V), vs = [.ref a] ∧ SqB K tup H1 a xs ∧ R (ItE K tup a) H1
section
variable {X : Cx} {ca : String → Addr} {W : WX}
theorem pi_en {e : Expr} {ta : TA} {p pos tpos : Pos} {elts : List Expr} {kk : Nat} (hg : Gl X "enumerate") (hm : X.mg "enumerate" = none) (ha : PA X [e] ta) (hs : starEach [e] X.env = [(false, eval e X.env)] := by rfl) :
    PI X (.Tuple elts kk tpos) (.Call (.Name "enumerate" p) [e] [] pos) (iEn X.K ta) := by
  refine ⟨fun pins s σ H R I h => ?_⟩
  refine Call_ (ld_blt I hg hm boot_enumerate (PyProof.Rows.callWith_type1 (thn (ha.run pos pins s σ H _ I h) fun us s1 ⟨vs, H1, I1, r1, q1⟩ => ?_) hs rfl))
  obtain ⟨tup, a, xs, ex, hq, q⟩ := q1
  subst ex
  cases r1 with
  | cons r rr =>
    cases rr
    cases r
    obtain ⟨its, rv, p', hz⟩ := sqB_at I1 hq
    refine call_enum1 (begins tup a its.toArray) p' fun h' he hit hk => wpAny_pyIter_enum he ?_
    have I2 : Inv X pins σ H1 { s1 with heap := h' } := I1.kept (t' := s1.toks) hk
    refine ⟨s1.heap.objs.size + 1, [s1.heap.objs.size + 1, s1.heap.objs.size], _, _, H1, rfl, I2, turn_en tup a (s1.heap.objs.size + 1) s1.heap.objs.size, ⟨⟨.none, he⟩, itAt_new hit, Nat.succ_ne_self _⟩, fun b hb => ?_, q⟩
    have e' : b = s1.heap.objs.size + 1 ∨ b = s1.heap.objs.size := by simpa using hb
    have hle : s1.heap.objs.size ≤ b := by
      rcases e' with z | z
      · rw [z]; exact Nat.le_add_right _ _
      · rw [z]; exact Nat.le_refl _
    exact I1.fpOk hle (I1.hok.fresh hle)
def enumFrom0 : Nat → List D → List D
  | _, [] => []
  | i, d :: ds => .tuple [.int (i : Nat), d] :: enumFrom0 (i + 1) ds
theorem enum_get : ∀ (ds : List D) (k i : Nat), (enumFrom0 k ds)[i]? = (ds[i]?).map fun d => .tuple [.int ((k + i : Nat) : Int), d]
  | [], k, i => by simp [enumFrom0]
  | d :: ds, k, 0 => by simp [enumFrom0]
  | d :: ds, k, i + 1 => by
    have ih := enum_get ds (k + 1) i
    rw [show k + 1 + i = k + (i + 1) by omega] at ih
    simpa [enumFrom0] using ih
theorem enum_len : ∀ (ds : List D) (k : Nat), (enumFrom0 k ds).length = ds.length
  | [], _ => rfl
  | d :: ds, k => by simp [enumFrom0, enum_len ds]
def fEnum : List D → Option (List D)
  | [.list ds] => some (enumFrom0 0 ds)
  | [.tuple ds] => some (enumFrom0 0 ds)
  | _ => none
def gEnumerate (g : M (List L)) : M (List D) := gRng fEnum g
theorem it_en {K : PySem.W.Frag} {B : List Addr} {H : Hp} {tup : Bool} {a : Addr} {xs : List V} {ds : List D} (h : SqB K tup (hid B H) a xs) (r : RepAll K (hid B H) xs ds) : ItOk K B H (ItE K tup a) (enumFrom0 0 ds) := fun i B' H' se all => by
  have sq : SqB K tup H' a xs := by
    cases tup with
    | true => exact sqT_mono (fun b o q => hid_sub (se b o q)) (show SqT K (hid B H) a xs from h)
    | false => exact sqL_mono (fun b o q => hid_sub (se b o q)) (show SqL K (hid B H) a xs from h)
  have r' := Rep.monoAll se _ _ r
  rw [enum_len]
  refine ⟨fun hi => ⟨xs, xs[i]'(by rw [r.length]; exact hi), sq, List.getElem?_eq_getElem _⟩, fun hi => ⟨xs, sq, by rw [r.length]; exact hi⟩, fun d x H2 hd y => ?_⟩
  obtain ⟨T, x', o, rfl, ho, hT, rfl, y⟩ := y
  rw [enum_get, Nat.zero_add] at hd
  cases hdi : ds[i]? with
  | none => rw [hdi] at hd; cases hd
  | some d0 =>
    rw [hdi] at hd
    cases hd
    obtain ⟨v, hv, rv⟩ := r'.get hdi
    have e := (y xs sq).symm.trans hv
    cases e
    exact ⟨same_upd hT, new_tup ho all hT (.cons (.int _) (.cons rv .nil))⟩
theorem ig_enumerate {e : Expr} {ga : M (List L)} {p pos tpos : Pos} {elts : List Expr} {kk : Nat} (hg : Gl X "enumerate") (hm : X.mg "enumerate" = none) (ha : PA X [e] (tGA X.K ca W ga)) (hs : starEach [e] X.env = [(false, eval e X.env)] := by rfl) :
    PI X (.Tuple elts kk tpos) (.Call (.Name "enumerate" p) [e] [] pos) (iG X.K ca W (gEnumerate ga)) :=
  ⟨fun pins s σ H R I ⟨c, ρ, n, S, h⟩ => by
    refine (pi_en hg hm ha hs).run pins s σ H R I ⟨c, ρ, n, S, (Res.post_bind h).mono (fun ls n1 h1 vs H1 g1 r1 => ?_) (fun e m h => h)⟩
    obtain ⟨ds, e, h2⟩ := Res.post_lift (Res.post_bind h1)
    obtain ⟨is, e2, h3⟩ := Res.post_lift h2
    have r2 := r1.ds e
    cases r2 with
    | nil => cases e2
    | @cons v vs d ds k1 k2 =>
      cases k2 with
      | nil =>
        cases k1 with
        | @lst a xs es z1 z2 =>
          cases e2
          exact ⟨false, a, xs, rfl, .inl (.inl (hid_sub z1)), h3 _ H1 g1 (it_en (tup := false) (.inl (.inl z1)) z2)⟩
        | @tup a xs es z1 z2 =>
          cases e2
          exact ⟨true, a, xs, rfl, sqT_mono (fun _ _ => hid_sub) z1.sq, h3 _ H1 g1 (it_en (tup := true) z1.sq z2)⟩
        | _ => cases e2
      | cons _ _ => unfold fEnum at e2; cases k1 <;> cases e2⟩
/-- a name of the module that holds plain data -/
theorem ev_const {x : Str} {v : V} {d : D} {u : Value} {pos : Pos} (h : X.mg x = some u) (r : RelV v u) (rd : ∀ H, Rep X.K H v d) (hg : Gl X x := by rfl) (hd : (x == ("__debug__" : Str)) = false := by decide) : PE X (.Name x pos) (tG X.K ca W (cC d)) :=
  PE.weak (pe_glob hg h r hd) fun σ H Q ⟨c, ρ, n, S, h⟩ => h v H S.gx (rd _)
end
@[simp] theorem e_gEnum {gl : M (List L)} {ρ : G.Env} {n : Nat} : gEnumerate gl ρ n = (gl ρ n).bind fun ls n1 => (asDs ls n1).bind fun ds n2 => Res.lift (fEnum ds) n2 := rfl
@[simp] theorem x_enum_l {ds : List D} : fEnum [.list ds] = some (enumFrom0 0 ds) := rfl
@[simp] theorem x_enum_t {ds : List D} : fEnum [.tuple ds] = some (enumFrom0 0 ds) := rfl
end G

/-! zip over rows; a range downward -/
namespace G
open PySem PySem.Spec PyProof.Rows L2
/-- two rows at once, the items in new pairs -/
def ItZ (K : PySem.W.Frag) (t1 t2 : Bool) (a b : Addr) (m : Nat) : It :=
  ⟨fun i H => ∃ (xs ys : List V) (x y : V), SqB K t1 H a xs ∧ SqB K t2 H b ys ∧ xs[i]? = some x ∧ ys[i]? = some y,
    fun i H v H' => ∃ (T : Addr) (x y : V) (o : Obj), v = .ref T ∧ o.dict = none ∧ H T = none ∧ H' = upd H T (.frz o (.tup [x, y])) ∧ (∀ xs, SqB K t1 H a xs → xs[i]? = some x) ∧ ∀ ys, SqB K t2 H b ys → ys[i]? = some y,
    fun i H => ∃ xs ys : List V, SqB K t1 H a xs ∧ SqB K t2 H b ys ∧ (xs.length ≤ i ∨ ys.length ≤ i)⟩
/-- a row's iterator, wherever it stands: at i it draws the item there, or ends -/
theorem drawsAt {prog : Program} {w : World} {A : Around} (tup : Bool) (hh : A.handled = none) (it a : Addr) (hne : a ≠ it) (us : Array Value) (i n : Nat) (hn : us.size ≤ i → n = i) (hn2 : i < us.size → n = us.size) :
    Draws prog w A it [it, a] n (fun j v => us[j]? = some v) (fun j h => (us.size ≤ i → j = i) ∧ itAt tup h it a j ∧ sqAt tup h a us) := by
  by_cases hi : us.size ≤ i
  · have e := hn hi
    subst e
    have D := drawsEnd (prog := prog) (w := w) (A := A) tup hh it a hne us n hi
    exact {
      live := fun j h st => by
        have ej := st.1 hi
        subst ej
        exact D.live j h ⟨rfl, st.2⟩
      frame := fun j h h' st hk => by
        have ej := st.1 hi
        subst ej
        have z := D.frame j h h' ⟨rfl, st.2⟩ hk
        exact ⟨fun _ => rfl, z.2⟩
      item := fun j s Q E hj st hQ => absurd (st.1 hi) (Nat.ne_of_lt hj)
      done := fun s Q E st hE => D.done s Q E ⟨rfl, st.2⟩ hE }
  · have e := hn2 (by omega)
    subst e
    have D := draws (prog := prog) (w := w) (A := A) tup hh it a hne us
    exact {
      live := fun j h st => D.live j h st.2
      frame := fun j h h' st hk => ⟨fun z => absurd z hi, D.frame j h h' st.2 hk⟩
      item := fun j s Q E hj st hQ => D.item j s Q E hj st.2 fun x h' tk hx st' sb => hQ x h' tk hx ⟨fun z => absurd z hi, st'⟩ sb
      done := fun s Q E st hE => D.done s Q E st.2 hE }
structure Apart (z TI TO i1 i2 : Addr) : Prop where
  h1 : TI ≠ z
  h2 : TO ≠ z
  h3 : TI ≠ TO
  h4 : TI ≠ i1
  h5 : TI ≠ i2
  h6 : z ≠ i1
  h7 : z ≠ i2
  h8 : TO ≠ i1
  h9 : TO ≠ i2
  h10 : i1 ≠ i2
theorem sqAt_lt {tup : Bool} {h : Heap} {a : Addr} {us : Array Value} (x : sqAt tup h a us) : a < h.objs.size := by
  cases tup with
  | true => obtain ⟨o, ho, _⟩ := x; exact Heap.lt_size ho
  | false => obtain ⟨o, ho, _⟩ := x; exact Heap.lt_size ho
theorem turn_zp {P : Program} {w : World} {K : PySem.W.Frag} {elts : List Expr} {kk : Nat} {tpos : Pos} {a b z TI TO i1 i2 : Addr} (t1 t2 : Bool) (m : Nat) (D : Apart z TI TO i1 i2) (za : a < z ∧ a < TI ∧ a < TO ∧ a < i1 ∧ a < i2) (zb : b < z ∧ b < TI ∧ b < TO ∧ b < i1 ∧ b < i2) :
    Turn P w K (.Tuple elts kk tpos) (ItZ K t1 t2 a b m) [z, TI, TO, i1, i2] z (fun i h => IsZip h z TI TO .none ∧ IsPair h TI (.ref i1) (.ref i2) ∧ (∃ x y, IsPair h TO x y) ∧ itAt t1 h i1 a i ∧ itAt t2 h i2 b i) where
  mem := by simp
  obj := fun i h st c hc => by
    obtain ⟨hz, hTI, ⟨x, y, hTO⟩, h1, h2⟩ := st
    have e' : c = z ∨ c = TI ∨ c = TO ∨ c = i1 ∨ c = i2 := by simpa using hc
    rcases e' with q | q | q | q | q
    · rw [q]; exact ⟨_, hz, fun v q => nomatch q⟩
    · rw [q]; exact ⟨_, hTI, fun v q => nomatch q⟩
    · rw [q]; exact ⟨_, hTO, fun v q => nomatch q⟩
    · rw [q]; exact itAt_ob h1
    · rw [q]; exact itAt_ob h2
  keep := fun i h h' st k => by
    obtain ⟨hz, hTI, ⟨x, y, hTO⟩, h1, h2⟩ := st
    exact ⟨k z (by simp) _ hz, k TI (by simp) _ hTI, ⟨x, y, k TO (by simp) _ hTO⟩, itAt_at h1 fun o q => k i1 (by simp) o q, itAt_at h2 fun o q => k i2 (by simp) o q⟩
  item := by
    intro X hP hw hK hc i pins s σ H E I hf st hg
    subst hP hw hK
    obtain ⟨hz, hTI, ⟨x0, y0, hTO⟩, h1, h2⟩ := st
    obtain ⟨xs, ys, x, y, hqx, hqy, hx, hy⟩ := hg
    obtain ⟨its, rv, p, _⟩ := sqB_at I hqx
    obtain ⟨its2, rv2, p2, _⟩ := sqB_at I hqy
    obtain ⟨u, hu, ru⟩ := rv.get hx
    obtain ⟨u2, hu2, ru2⟩ := rv2.get hy
    have hzl : z < s.heap.objs.size := Heap.lt_size hz
    have g1 : i < its.toArray.size := by simpa using (List.getElem?_eq_some_iff.mp hu).1
    have g2 : i < its2.toArray.size := by simpa using (List.getElem?_eq_some_iff.mp hu2).1
    have S : ZipSep2 z TI TO i1 i2 [i1, a] [i2, b] := {
      TIz := D.h1, TOz := D.h2, TITO := D.h3, TIi1 := D.h4, mem1 := by simp
      zf1 := by simp [D.h6, Nat.ne_of_gt za.1], Tf1 := by simp [D.h8, Nat.ne_of_gt za.2.2.1]
      TIi2 := D.h5, mem2 := by simp
      zf2 := by simp [D.h7, Nat.ne_of_gt zb.1], Tf2 := by simp [D.h9, Nat.ne_of_gt zb.2.2.1]
      sep1_2 := by simp [D.h10, Nat.ne_of_gt zb.2.2.2.1], sep2_1 := by simp [Ne.symm D.h10, Nat.ne_of_gt za.2.2.2.2] }
    refine wpAny_pyNext_zipD2_item S (draws t1 (by simp [I.ok.hd hc]) i1 a (sqAt_ne p h1) its.toArray) (draws t2 (by simp [I.ok.hd hc]) i2 b (sqAt_ne p2 h2) its2.toArray) hz hTI hTO ⟨h1, p⟩ ⟨h2, p2⟩ g1 g2 fun y1 y2 h' tk e1 e2 z' TO' s1 s2 hT hsz hk => ?_
    have q1 : y1 = u := by
      have : its.toArray[i]? = some u := by simpa using hu
      rw [this] at e1
      exact (Option.some.inj e1).symm
    have q2 : y2 = u2 := by
      have : its2.toArray[i]? = some u2 := by simpa using hu2
      rw [this] at e2
      exact (Option.some.inj e2).symm
    subst q1 q2
    refine ⟨_, rfl, wpAny_letOwnedTupleGo_zip (s := { s with heap := h', toks := tk }) z' fun h'' z'' sb => ?_⟩
    have hT2 : h''.get? s.heap.objs.size = some { cls := .type "tuple", data := .seq #[y1, y2] } := (sb.2 _ (Nat.ne_of_gt hzl)).trans hT
    have new : ObjOk X.prog X.w (upd H s.heap.objs.size (.frz (plainO #[y1, y2]) (.tup [x, y]))) h'' s.heap.objs.size (.frz (plainO #[y1, y2]) (.tup [x, y])) :=
      ⟨hT2, by show 2 ≤ sizeLine; decide, [y1, y2], .cons ru (.cons ru2 .nil), ⟨_, hT2, rfl, _, rfl⟩⟩
    have I1 : Inv X pins σ (upd H s.heap.objs.size (.frz (plainO #[y1, y2]) (.tup [x, y]))) { s with heap := h'', toks := tk } :=
      I.turnedNew (t' := tk) (ch := [z, TI, TO, i1, i2]) (fun c o hb q => (sb.2 c (fun q' => hb (by simp [q']))).trans (hk c o (fun q' => hb (by simp [q'])) (fun q' => hb (by simp [q'])) (fun q' => hb (by simp [q'])) (fun q' => hb (by simp [q'])) q)) hf (Nat.le_refl _) new
    refine ⟨.ref s.heap.objs.size, _, I1, rfl, ⟨_, x, y, _, rfl, rfl, I.hok.fresh (Nat.le_refl _), rfl, fun l hl => by rw [sqB_inj I hl hqx]; exact hx, fun l hl => by rw [sqB_inj I hl hqy]; exact hy⟩, ⟨z'', ?_, ⟨y1, y2, ?_⟩, ?_, ?_⟩, fun c hcm => ?_⟩
    · exact (sb.2 _ D.h1).trans (hk _ _ D.h1 D.h3 D.h4 D.h5 hTI)
    · exact (sb.2 _ D.h2).trans TO'
    · exact itAt_at s1.1 fun o q => (sb.2 _ (Ne.symm D.h6)).trans q
    · exact itAt_at s2.1 fun o q => (sb.2 _ (Ne.symm D.h7)).trans q
    · have hlt : c < s.heap.objs.size := by
        have e' : c = z ∨ c = TI ∨ c = TO ∨ c = i1 ∨ c = i2 := by simpa using hcm
        rcases e' with q | q | q | q | q
        · rw [q]; exact hzl
        · rw [q]; exact Heap.lt_size hTI
        · rw [q]; exact Heap.lt_size hTO
        · rw [q]; obtain ⟨_, e1, _⟩ := itAt_ob h1; exact Heap.lt_size e1
        · rw [q]; obtain ⟨_, e2, _⟩ := itAt_ob h2; exact Heap.lt_size e2
      rw [upd_ne (Nat.ne_of_lt hlt)]
      exact (hf c hcm).1
  done := by
    intro X hP hw hK hc i pins s σ H E I hf st hg
    subst hP hw hK
    obtain ⟨hz, hTI, ⟨x0, y0, hTO⟩, h1, h2⟩ := st
    obtain ⟨xs, ys, hqx, hqy, hend⟩ := hg
    obtain ⟨its, rv, p, _⟩ := sqB_at I hqx
    obtain ⟨its2, rv2, p2, _⟩ := sqB_at I hqy
    have l1 := rv.length
    have l2 := rv2.length
    have S : ZipSep2 z TI TO i1 i2 [i1, a] [i2, b] := {
      TIz := D.h1, TOz := D.h2, TITO := D.h3, TIi1 := D.h4, mem1 := by simp
      zf1 := by simp [D.h6, Nat.ne_of_gt za.1], Tf1 := by simp [D.h8, Nat.ne_of_gt za.2.2.1]
      TIi2 := D.h5, mem2 := by simp
      zf2 := by simp [D.h7, Nat.ne_of_gt zb.1], Tf2 := by simp [D.h9, Nat.ne_of_gt zb.2.2.1]
      sep1_2 := by simp [D.h10, Nat.ne_of_gt zb.2.2.2.1], sep2_1 := by simp [Ne.symm D.h10, Nat.ne_of_gt za.2.2.2.2] }
    have D1 := drawsAt (prog := X.prog) (w := X.w) (A := X.A.in1) t1 (by simp [I.ok.hd hc]) i1 a (sqAt_ne p h1) its.toArray i (max i its.toArray.size) (fun q => by omega) (fun q => by omega)
    have D2 := drawsAt (prog := X.prog) (w := X.w) (A := X.A.in1) t2 (by simp [I.ok.hd hc]) i2 b (sqAt_ne p2 h2) its2.toArray i (max i its2.toArray.size) (fun q => by omega) (fun q => by omega)
    have hz1 : its.toArray.size = xs.length := by rw [List.size_toArray]; omega
    have hz2 : its2.toArray.size = ys.length := by rw [List.size_toArray]; omega
    refine wpAny_pyNext_zipD2_end S D1 D2 hz hTI hTO (i := i) ⟨fun _ => rfl, h1, p⟩ ⟨fun _ => rfl, h2, p2⟩ (by omega) (by omega) ?_ fun h' tk hk => ⟨rfl, I.turnedL (t' := tk) (ch := [z, TI, TO, i1, i2]) (fun c o hb q =>
      hk c o (fun q' => hb (by simp [q'])) (fun q' => hb (by simp [q'])) (fun q' => hb (by simp [q'])) (fun q' => hb (by simp [q'])) q) hf⟩
    rcases hend with q | q
    · exact .inl (by omega)
    · exact .inr (by omega)
  self := fun A i s Q E st h => wpAny_pyIter_zip st.1 h
def iZp (K : PySem.W.Frag) (ta : TA) : TI := fun σ H R => ta σ H fun vs H1 => ∃ (t1 t2 : Bool) (a b : Addr) (xs ys : List V), vs = [.ref a, .ref b] ∧ SqB K t1 H1 a xs ∧ SqB K t2 H1 b ys ∧ R (ItZ K t1 t2 a b 0) H1
section
variable {X : Cx} {ca : String → Addr} {W : WX}
theorem pi_zp {e e2 : Expr} {ta : TA} {p pos tpos : Pos} {elts : List Expr} {kk : Nat} (hg : Gl X "zip") (hm : X.mg "zip" = none) (ha : PA X [e, e2] ta)
    (hs : starEach [e, e2] X.env = (false, eval e X.env) :: starEach [e2] X.env := by rfl) (hpl : (backTo pos (starEach [e2] X.env)).any (·.1) = false := by rfl) :
    PI X (.Tuple elts kk tpos) (.Call (.Name "zip" p) [e, e2] [] pos) (iZp X.K ta) := by
  refine ⟨fun pins s σ H R I h => ?_⟩
  refine Call_ (ld_blt I hg hm boot_zip (PyProof.Rows.callWith_type1 (thn (ha.run pos pins s σ H _ I h) fun us s1 ⟨vs, H1, I1, r1, q1⟩ => ?_) hs hpl))
  obtain ⟨t1, t2, a, b, xs, ys, ex, hq, hq2, q⟩ := q1
  subst ex
  cases r1 with
  | cons r rr =>
    cases rr with
    | cons r' rr =>
      cases rr
      cases r
      cases r'
      obtain ⟨its, rv, p1, hz⟩ := sqB_at I1 hq
      obtain ⟨its2, rv2, p2, hz2⟩ := sqB_at I1 hq2
      have la := sqAt_lt p1
      have lb := sqAt_lt p2
      refine zip_begins2 (begins t1 a its.toArray) (begins t2 b its2.toArray) p1 p2 fun h' zz zT zO g1 g2 hsz hk => wpAny_pyIter_zip zz ?_
      have I2 : Inv X pins σ H1 { s1 with heap := h' } := I1.kept (t' := s1.toks) hk
      have ne : ∀ i j : Nat, i ≠ j → s1.heap.objs.size + i ≠ s1.heap.objs.size + j := fun i j h e => h (Nat.add_left_cancel e)
      have D : Apart (s1.heap.objs.size + 4) (s1.heap.objs.size + 2) (s1.heap.objs.size + 3) s1.heap.objs.size (s1.heap.objs.size + 1) :=
        ⟨ne 2 4 (by decide), ne 3 4 (by decide), ne 2 3 (by decide), ne 2 0 (by decide), ne 2 1 (by decide), ne 4 0 (by decide), ne 4 1 (by decide), ne 3 0 (by decide), ne 3 1 (by decide), ne 0 1 (by decide)⟩
      have lt : ∀ c i : Nat, c < s1.heap.objs.size → c < s1.heap.objs.size + i := fun c i h => Nat.lt_of_lt_of_le h (Nat.le_add_right _ _)
      refine ⟨s1.heap.objs.size + 4, [s1.heap.objs.size + 4, s1.heap.objs.size + 2, s1.heap.objs.size + 3, s1.heap.objs.size, s1.heap.objs.size + 1], _, _, H1, rfl, I2,
        turn_zp t1 t2 0 D ⟨lt _ 4 la, lt _ 2 la, lt _ 3 la, la, lt _ 1 la⟩ ⟨lt _ 4 lb, lt _ 2 lb, lt _ 3 lb, lb, lt _ 1 lb⟩, ⟨zz, zT, ⟨_, _, zO⟩, itAt_new g1, itAt_new g2⟩, fun c hc => ?_, q⟩
      have hle : s1.heap.objs.size ≤ c := by
        have e' : c = s1.heap.objs.size + 4 ∨ c = s1.heap.objs.size + 2 ∨ c = s1.heap.objs.size + 3 ∨ c = s1.heap.objs.size ∨ c = s1.heap.objs.size + 1 := by simpa using hc
        rcases e' with z | z | z | z | z
        · rw [z]; exact Nat.le_add_right _ _
        · rw [z]; exact Nat.le_add_right _ _
        · rw [z]; exact Nat.le_add_right _ _
        · rw [z]; exact Nat.le_refl _
        · rw [z]; exact Nat.le_add_right _ _
      exact I1.fpOk hle (I1.hok.fresh hle)
def zipD : List D → List D → List D
  | a :: as, b :: bs => .tuple [a, b] :: zipD as bs
  | _, _ => []
theorem zip_get : ∀ (as bs : List D) (i : Nat) (d : D), (zipD as bs)[i]? = some d → ∃ a b, as[i]? = some a ∧ bs[i]? = some b ∧ d = .tuple [a, b]
  | [], _, i, d, h => by simp [zipD] at h
  | _ :: _, [], i, d, h => by simp [zipD] at h
  | a :: as, b :: bs, 0, d, h => by
    have : PyData.tuple [a, b] = d := by simpa [zipD] using h
    exact ⟨a, b, rfl, rfl, this.symm⟩
  | a :: as, b :: bs, i + 1, d, h => by
    obtain ⟨x, y, e1, e2, e3⟩ := zip_get as bs i d (by simpa [zipD] using h)
    exact ⟨x, y, by simpa using e1, by simpa using e2, e3⟩
theorem zip_len : ∀ (as bs : List D), (zipD as bs).length = min as.length bs.length
  | [], _ => by simp [zipD]
  | _ :: _, [] => by simp [zipD]
  | a :: as, b :: bs => by simp [zipD, zip_len as bs]
def rowD : D → Option (List D)
  | .list ds => some ds
  | .tuple ds => some ds
  | _ => none
def fZip : List D → Option (List D)
  | [a, b] => (rowD a).bind fun xs => (rowD b).map fun ys => zipD xs ys
  | _ => none
def gZip (g : M (List L)) : M (List D) := gRng fZip g
theorem rowD_rep {K : PySem.W.Frag} {H : Hp} {v : V} {d : D} {ds : List D} (r : Rep K H v d) (e : rowD d = some ds) : ∃ (t : Bool) (a : Addr) (xs : List V), v = .ref a ∧ SqB K t H a xs ∧ RepAll K H xs ds := by
  cases r with
  | @lst a xs es h1 h2 => cases e; exact ⟨false, a, xs, rfl, .inl (.inl h1), h2⟩
  | @tup a xs es h1 h2 => cases e; exact ⟨true, a, xs, rfl, h1.sq, h2⟩
  | _ => cases e
theorem sqB_mono {K : PySem.W.Frag} {H H' : Hp} {t : Bool} {a : Addr} {xs : List V} (e : ∀ b o, H b = some o → H' b = some o) (h : SqB K t H a xs) : SqB K t H' a xs := by
  cases t with
  | true => exact sqT_mono e (show SqT K H a xs from h)
  | false => exact sqL_mono e (show SqL K H a xs from h)
theorem it_zp {K : PySem.W.Frag} {B : List Addr} {H : Hp} {t1 t2 : Bool} {a b : Addr} {xs ys : List V} {ds es : List D} (h : SqB K t1 (hid B H) a xs) (r : RepAll K (hid B H) xs ds) (h2 : SqB K t2 (hid B H) b ys) (r2 : RepAll K (hid B H) ys es) :
    ItOk K B H (ItZ K t1 t2 a b 0) (zipD ds es) := fun i B' H' se all => by
  have sq : SqB K t1 H' a xs := sqB_mono (fun b o q => hid_sub (se b o q)) h
  have sq2 : SqB K t2 H' b ys := sqB_mono (fun b o q => hid_sub (se b o q)) h2
  have k := Rep.monoAll se _ _ r
  have k2 := Rep.monoAll se _ _ r2
  have l1 := r.length
  have l2 := r2.length
  rw [zip_len]
  refine ⟨fun hi => ⟨xs, ys, xs[i]'(by omega), ys[i]'(by omega), sq, sq2, List.getElem?_eq_getElem _, List.getElem?_eq_getElem _⟩, fun hi => ⟨xs, ys, sq, sq2, by omega⟩, fun d v H2 hd y => ?_⟩
  obtain ⟨T, x', y', o, rfl, ho, hT, rfl, y1, y2⟩ := y
  obtain ⟨d1, d2, e1, e2, rfl⟩ := zip_get ds es i d hd
  obtain ⟨v1, hv1, rv1⟩ := k.get e1
  obtain ⟨v2, hv2, rv2⟩ := k2.get e2
  have f1 := (y1 xs sq).symm.trans hv1
  cases f1
  have f2 := (y2 ys sq2).symm.trans hv2
  cases f2
  exact ⟨same_upd hT, new_tup ho all hT (.cons rv1 (.cons rv2 .nil))⟩
theorem ig_zip {e e2 : Expr} {ga : M (List L)} {p pos tpos : Pos} {elts : List Expr} {kk : Nat} (hg : Gl X "zip") (hm : X.mg "zip" = none) (ha : PA X [e, e2] (tGA X.K ca W ga))
    (hs : starEach [e, e2] X.env = (false, eval e X.env) :: starEach [e2] X.env := by rfl) (hpl : (backTo pos (starEach [e2] X.env)).any (·.1) = false := by rfl) :
    PI X (.Tuple elts kk tpos) (.Call (.Name "zip" p) [e, e2] [] pos) (iG X.K ca W (gZip ga)) :=
  ⟨fun pins s σ H R I ⟨c, ρ, n, S, h⟩ => by
    refine (pi_zp hg hm ha hs hpl).run pins s σ H R I ⟨c, ρ, n, S, (Res.post_bind h).mono (fun ls n1 h1 vs H1 g1 r1 => ?_) (fun e m h => h)⟩
    obtain ⟨ds, e, h2⟩ := Res.post_lift (Res.post_bind h1)
    obtain ⟨is, e2, h3⟩ := Res.post_lift h2
    have r2 := r1.ds e
    unfold fZip at e2
    split at e2
    · rename_i d1 d2
      cases r2 with
      | cons k1 r3 =>
        cases r3 with
        | cons k2 r4 =>
          cases r4
          cases q1 : rowD d1 with
          | none => rw [q1] at e2; cases e2
          | some xs =>
            rw [q1, Option.bind_some] at e2
            cases q2 : rowD d2 with
            | none => rw [q2] at e2; cases e2
            | some ys =>
              rw [q2] at e2
              cases e2
              obtain ⟨t1, a, vs1, rfl, w1, w2⟩ := rowD_rep k1 q1
              obtain ⟨t2, b, vs2, rfl, w3, w4⟩ := rowD_rep k2 q2
              exact ⟨t1, t2, a, b, vs1, vs2, rfl, sqB_mono (fun _ _ => hid_sub) w1, sqB_mono (fun _ _ => hid_sub) w3, h3 _ H1 g1 (it_zp w1 w2 w3 w4)⟩
    · cases e2⟩
/-! ### range(a, b, -1) -/
def downL (i : Int) (n : Nat) : List D := (List.range n).map fun j : Nat => PyData.int (i + ((j : Nat) : Int) * (-1))
noncomputable def fRng3 : List D → Option (List D)
  | [.int i, .int j, .int k] => if k = -1 ∧ small62 i = true ∧ small62 j = true then some (downL i (i - j).toNat) else none
  | _ => none
theorem it_down {K : PySem.W.Frag} {B : List Addr} {H : Hp} (lo : Int) (n : Nat) : ItOk K B H (Itc lo (-1) n) (downL lo n) := fun i B' H' se all => by
  have hl : (downL lo n).length = n := by simp [downL]
  rw [hl]
  refine ⟨fun hi => hi, fun hi => hi, fun d x H2 hd y => ?_⟩
  obtain ⟨rfl, rfl⟩ := y
  unfold downL at hd
  rw [List.getElem?_map] at hd
  by_cases hi : i < n
  · rw [List.getElem?_range hi] at hd
    cases hd
    exact ⟨Same.refl _, .int _⟩
  · rw [List.getElem?_eq_none (by simpa using hi)] at hd
    cases hd
theorem ig_rng3 {tg a b e : Expr} {ga : M (List L)} {p pos : Pos} (hg : Gl X "range") (hm : X.mg "range" = none) (ha : PA X [a, b, e] (tGA X.K ca W ga))
    (hs : starEach [a, b, e] X.env = (false, eval a X.env) :: starEach [b, e] X.env := by rfl) (hpl : (backTo pos (starEach [b, e] X.env)).any (·.1) = false := by rfl) :
    PI X tg (.Call (.Name "range" p) [a, b, e] [] pos) (iG X.K ca W (gRng fRng3 ga)) :=
  ⟨fun pins s σ H R I ⟨c, ρ, n, S, h⟩ => by
    refine (pi_range3 hg hm ha hs hpl).run pins s σ H R I ⟨c, ρ, n, S, (Res.post_bind h).mono (fun ls n1 h1 vs H1 g1 r1 => ?_) (fun e m h => h)⟩
    obtain ⟨ds, e, h2⟩ := Res.post_lift (Res.post_bind h1)
    obtain ⟨is, e2, h3⟩ := Res.post_lift h2
    have r2 := r1.ds e
    unfold fRng3 at e2
    split at e2
    · rename_i i j k
      split at e2
      · rename_i hz
        obtain ⟨rfl, z1, z2⟩ := hz
        cases e2
        cases r2 with
        | cons k1 r3 =>
          cases r3 with
          | cons k2 r4 =>
            cases r4 with
            | cons k3 r5 =>
              cases r5
              cases k1
              cases k2
              cases k3
              obtain ⟨q1, q2⟩ := small62_of z1
              obtain ⟨q3, q4⟩ := small62_of z2
              exact ⟨i, j, -1, (i - j).toNat, rfl, RgC.neg q1 q2 q3 q4, h3 _ H1 g1 (it_down i _)⟩
      · cases e2
    · cases e2⟩
end
@[simp] theorem e_gZip {gl : M (List L)} {ρ : G.Env} {n : Nat} : gZip gl ρ n = (gl ρ n).bind fun ls n1 => (asDs ls n1).bind fun ds n2 => Res.lift (fZip ds) n2 := rfl
@[simp] theorem x_zip_tt {xs ys : List D} : fZip [.tuple xs, .tuple ys] = some (zipD xs ys) := rfl
end G

/-! min, max of one row of data -/
namespace G
open PySem PySem.Spec PyProof.Rows L2 PySem.W
def minOk (ds : List D) : Prop := AlikeAll ds ∧ PyData.canLayAll0 ds = true ∧ PyData.depthAll ds ≤ 8
def rBest (K : PySem.W.Frag) (f : D → List D → D) : List V → Hp → VK → Prop := fun vs H Q => ∃ (a : Addr) (xs : List V) (x : D) (ds : List D), vs = [.ref a] ∧ (SqL K H a xs ∨ SqT K H a xs) ∧ DpAll K H xs (x :: ds) ∧ minOk (x :: ds) ∧
  ∀ (i : Nat) (v : V), xs[i]? = some v → (x :: ds)[i]? = some (f x ds) → Q v H
section
variable {X : Cx}
theorem vals_back1 : ∀ {xs : List V} {us : List Value} {i : Nat} {u : Value}, Vals xs us → us[i]? = some u → ∃ v, xs[i]? = some v ∧ RelV v u
  | [], _, i, u, r, h => by cases r; simp at h
  | x :: xs, _, 0, u, r, h => by
    cases r with
    | cons r1 r2 => simp at h; subst h; exact ⟨x, rfl, r1⟩
  | x :: xs, _, i + 1, u, r, h => by
    cases r with
    | cons r1 r2 =>
      obtain ⟨v, h1, h2⟩ := vals_back1 r2 (by simpa using h)
      exact ⟨v, by simpa using h1, h2⟩
theorem reads_get {h : Heap} : ∀ {us : List Value} {ds : List D} {as : List Addr} {i : Nat} {u : Value}, ReadsAll h us ds as → us[i]? = some u → ∃ d bs, ds[i]? = some d ∧ Reads h u d bs
  | _, [], _, i, u, r, h => by cases r; simp at h
  | _, d :: ds, _, 0, u, r, h => by
    cases r with
    | cons r1 r2 => simp at h; subst h; exact ⟨d, _, rfl, r1⟩
  | _, d :: ds, _, i + 1, u, r, h => by
    cases r with
    | cons r1 r2 =>
      obtain ⟨e, bs, h1, h2⟩ := reads_get r2 (by simpa using h)
      exact ⟨e, bs, by simpa using h1, h2⟩
theorem best_end {pins : List (Addr × Obj)} {σ : L2.St} {H : Hp} {s : Shared} {xs : List V} {x : D} {ds : List D} {its : List Value} {as : List Addr} {Q : VK} {f : D → List D → D} (I : Inv X pins σ H s) (rv : Vals xs its) (rd : ReadsAll s.heap its (x :: ds) as) (hc : PyData.canLayAll0 (x :: ds) = true)
    (q : ∀ (i : Nat) (v : V), xs[i]? = some v → (x :: ds)[i]? = some (f x ds) → Q v H) (i : Nat) (u : Value) (h' : Heap) (tk : Nat) (bs : List Addr) (hu : its[i]? = some u) (rr : Reads h' u (f x ds) bs) (kk : ∀ b o, s.heap.get? b = some o → h'.get? b = some o) :
    EP X pins σ Q u { s with heap := h', toks := tk } := by
  obtain ⟨v, hv, rel⟩ := vals_back1 rv hu
  obtain ⟨d, bs2, hd, rd2⟩ := reads_get rd hu
  have e := (Reads.unique (Reads.keeps kk rd2) _ _ rr).1
  rw [e] at hd
  exact ⟨v, H, I.kept (t' := tk) kk, rel, q i v hv hd⟩
theorem cr_minD (hcalm : X.calm = true) (hu : X.A.units + 64 < cLine) : CallR X (.builtin "min") (rBest X.K minD) := by
  intro pins s σ H vs us Q I r h
  obtain ⟨a, xs, x, ds, rfl, hs, hd, ⟨ha, hc, hdp⟩, q⟩ := h
  rw [Vals.ref1 r]
  rcases hs with hs | hs
  · obtain ⟨its, rv, hl, hz⟩ := I.list hs
    obtain ⟨as, rd⟩ := Dp.readsAll I (x :: ds) xs its hd rv
    exact min_list_data (I.ok.hd hcalm) hl.isList (as := as) (by simpa using rd) ha (by omega) fun i u h' tk bs hu' rr kk => best_end I rv rd hc q i u h' tk bs (by simpa using hu') rr kk
  · obtain ⟨its, rv, hl, hz⟩ := I.tuple hs
    obtain ⟨as, rd⟩ := Dp.readsAll I (x :: ds) xs its hd rv
    exact min_tuple_data (I.ok.hd hcalm) hl (as := as) (by simpa using rd) ha (by omega) fun i u h' tk bs hu' rr kk => best_end I rv rd hc q i u h' tk bs (by simpa using hu') rr kk
theorem cr_maxD (hcalm : X.calm = true) (hu : X.A.units + 64 < cLine) : CallR X (.builtin "max") (rBest X.K maxD) := by
  intro pins s σ H vs us Q I r h
  obtain ⟨a, xs, x, ds, rfl, hs, hd, ⟨ha, hc, hdp⟩, q⟩ := h
  rw [Vals.ref1 r]
  rcases hs with hs | hs
  · obtain ⟨its, rv, hl, hz⟩ := I.list hs
    obtain ⟨as, rd⟩ := Dp.readsAll I (x :: ds) xs its hd rv
    exact max_list_data (I.ok.hd hcalm) hl.isList (as := as) (by simpa using rd) ha (by omega) fun i u h' tk bs hu' rr kk => best_end I rv rd hc q i u h' tk bs (by simpa using hu') rr kk
  · obtain ⟨its, rv, hl, hz⟩ := I.tuple hs
    obtain ⟨as, rd⟩ := Dp.readsAll I (x :: ds) xs its hd rv
    exact max_tuple_data (I.ok.hd hcalm) hl (as := as) (by simpa using rd) ha (by omega) fun i u h' tk bs hu' rr kk => best_end I rv rd hc q i u h' tk bs (by simpa using hu') rr kk
end
open Classical in
noncomputable def bestL (f : D → List D → D) : List D → Option D
  | x :: ds => if minOk (x :: ds) then some (f x ds) else none
  | [] => none
noncomputable def fBest (f : D → List D → D) : List D → Option D
  | [d] => (rowD d).bind (bestL f)
  | _ => none
theorem x_best_l {f : D → List D → D} {x : D} {ds : List D} (h : minOk (x :: ds)) : fBest f [.list (x :: ds)] = some (f x ds) := by
  classical
  show (if minOk (x :: ds) then some (f x ds) else none) = _
  exact if_pos h
theorem x_best_t {f : D → List D → D} {x : D} {ds : List D} (h : minOk (x :: ds)) : fBest f [.tuple (x :: ds)] = some (f x ds) := by
  classical
  show (if minOk (x :: ds) then some (f x ds) else none) = _
  exact if_pos h
theorem fBest_of {f : D → List D → D} {a d : D} {l : List D} (hr : rowD a = some l) (e : fBest f [a] = some d) : ∃ x ds, l = x :: ds ∧ minOk (x :: ds) ∧ d = f x ds := by
  classical
  have e' : bestL f l = some d := by
    rw [← e]
    show _ = (rowD a).bind (bestL f)
    rw [hr]
    rfl
  cases l with
  | nil => cases e'
  | cons x ds =>
    by_cases h : minOk (x :: ds)
    · have e2 : (if minOk (x :: ds) then some (f x ds) else none) = some d := e'
      rw [if_pos h] at e2
      exact ⟨x, ds, rfl, h, (Option.some.inj e2).symm⟩
    · have e2 : (if minOk (x :: ds) then some (f x ds) else none) = some d := e'
      rw [if_neg h] at e2
      cases e2
theorem o_best {K : PySem.W.Frag} {f : D → List D → D} : OpN K (rBest K f) (fBest f) := by
  intro B H xs as d Q all r e q
  cases r with
  | nil => cases e
  | @cons v vs a as r1 r2 =>
    cases r2 with
    | nil =>
      cases hr : rowD a with
      | none =>
        have e' : (rowD a).bind (bestL f) = some d := e
        rw [hr] at e'
        cases e'
      | some l =>
        obtain ⟨x, ds, rfl, hok, rfl⟩ := fBest_of hr e
        obtain ⟨t, p, ys, rfl, h1, h2⟩ := rowD_rep r1 hr
        have sq : SqL K H p ys ∨ SqT K H p ys := by
          cases t with
          | true => exact .inr (sqT_mono (fun _ _ => hid_sub) (show SqT K (hid B H) p ys from h1))
          | false => exact .inl (sqL_mono (fun _ _ => hid_sub) (show SqL K (hid B H) p ys from h1))
        refine ⟨p, ys, x, ds, rfl, sq, Rep.dpAll (fun _ _ => hid_sub) _ _ h2, hok, fun i w hw hd => q w H (Same.refl H) ?_⟩
        obtain ⟨w', hw', rw'⟩ := h2.get hd
        rw [hw] at hw'
        cases hw'
        exact rw'
    | cons _ _ => unfold fBest at e; cases e
end G

/-! a def that calls itself: by how deep -/
namespace G
open PySem PySem.Spec PyProof.Rows L2
theorem fn_bad {P : Program} {w : World} {K : PySem.W.Frag} {mg : Str → Option Value} {base : Heap} {CX : CXT} {ca : String → Addr} {k m : Nat} {f : Addr} {fd : FuncData} {ps : List Str} (hm : ps.length = m) :
    FnOk P w K mg base CX k f fd ps (spG K ca m fun _ _ => .bad) where
  len := fun vs H Q E h => by rw [hm]; exact h.1
  run := fun A outer s H args us vs Q E _ _ _ _ h => by
    obtain ⟨_, c, ls, n, _, _, _, _, _, _, _, _, _, _, h⟩ := h
    exact h.elim
end G

/-! tools for the plain proofs: steps, equality, order -/
namespace G
open PySem PySem.Spec PyProof.Rows L2
section
variable {N B C : Env → Nat → Prop} {R : D → Nat → Prop} {ρ ρ1 : Env} {n n1 : Nat} {f g : MS} {t : M Bool}
theorem sq (e : f ρ n = .nx ρ1 n1) (h : (g ρ1 n1).Sat N R B C) : (sSeq f g ρ n).Sat N R B C := sat_sq ρ1 n1 e h
theorem so (e : f ρ n = .nx ρ1 n1) (h : N ρ1 n1) : (f ρ n).Sat N R B C := sat_to e h
theorem sno (e : t ρ n = .ok false n1) (h : (g ρ n1).Sat N R B C) : (sSeq (sIf t f sNx) g ρ n).Sat N R B C := sat_no n1 e h
theorem snoE (e : t ρ n = .ok false n1) (h : N ρ n1) : (sIf t f sNx ρ n).Sat N R B C := sat_noE n1 e h
theorem sif {k : Bool} (e : t ρ n = .ok k n1) (h1 : k = true → (f ρ n1).Sat N R B C) (h2 : k = false → (g ρ n1).Sat N R B C) : (sIf t f g ρ n).Sat N R B C := sat_if k n1 e h1 h2
theorem sifT (e : t ρ n = .ok true n1) (h1 : (f ρ n1).Sat N R B C) : (sIf t f g ρ n).Sat N R B C := sat_if true n1 e (fun _ => h1) (fun h => by cases h)
theorem sifF (e : t ρ n = .ok false n1) (h1 : (g ρ n1).Sat N R B C) : (sIf t f g ρ n).Sat N R B C := sat_if false n1 e (fun h => by cases h) (fun _ => h1)
theorem sret {ga : M D} {d : D} (e : ga ρ n = .ok d n1) (h : R d n1) : (sRet ga ρ n).Sat N R B C := by rw [e_sRet, e]; exact .rt h
theorem run_to {m : Nat} {g : MS} {ls : List L} {ρ0 : Env} {v : D} {n' : Nat} (e : ls.map some ++ List.replicate (m - ls.length) none = ρ0) (h : (g ρ0 n).Sat no2 (fun d k => d = v ∧ k = n') no2 no2) : runF m g ls n = .ok v n' := run_eq (e ▸ h)
theorem run_toP {m : Nat} {g : MS} {ls : List L} {ρ0 : Env} {P : D → Nat → Prop} (e : ls.map some ++ List.replicate (m - ls.length) none = ρ0) (h : (g ρ0 n).Sat no2 P no2 no2) : ∃ v n', runF m g ls n = .ok v n' ∧ P v n' := run_ex (e ▸ h)
end
/-! ### values that may be held against one another -/
def okD (k : Nat) (d : D) : Prop := d.canLay0 = true ∧ d.depth ≤ k
theorem okD.sh {k : Nat} {d : D} (h : okD k d) (hk : k ≤ 64 := by omega) : SeqAt.shaped d = true := by
  unfold SeqAt.shaped
  rw [h.1, decide_eq_true (Nat.le_trans h.2 hk)]
  rfl
theorem okD.up {k m : Nat} {d : D} (h : okD k d) (hk : k ≤ m := by omega) : okD m d := ⟨h.1, Nat.le_trans h.2 hk⟩
theorem okD_n {k : Nat} : okD k .none := ⟨rfl, by simp [PyData.depth]⟩
theorem okD_b {k : Nat} {b : Bool} : okD k (.bool b) := ⟨rfl, by simp [PyData.depth]⟩
theorem okD_i {k : Nat} {i : Int} : okD k (.int i) := ⟨rfl, by simp [PyData.depth]⟩
theorem okD_T {k : Nat} {l : List Nat} (h : okT l = true) : okD k (T l) := ⟨by rw [lay_T]; exact h, by rw [depth_T]; omega⟩
theorem okD_all {k : Nat} : ∀ {ds : List D}, (∀ d ∈ ds, okD k d) → PyData.canLayAll0 ds = true ∧ PyData.depthAll ds ≤ k
  | [], _ => ⟨by simp [PyData.canLayAll0], by simp [PyData.depthAll]⟩
  | d :: ds, h => by
    obtain ⟨a, b⟩ := h d List.mem_cons_self
    obtain ⟨c, e⟩ := okD_all fun x hx => h x (List.mem_cons_of_mem _ hx)
    exact ⟨by simp [PyData.canLayAll0, a, c], by simp [PyData.depthAll]; omega⟩
theorem okD_t {k : Nat} {ds : List D} (h : ∀ d ∈ ds, okD k d) : okD (k + 1) (.tuple ds) := by
  obtain ⟨a, b⟩ := okD_all h
  exact ⟨by simp [PyData.canLay0, a], by simp [PyData.depth]; omega⟩
theorem okD_l {k : Nat} {ds : List D} (h : ∀ d ∈ ds, okD k d) : okD (k + 1) (.list ds) := by
  obtain ⟨a, b⟩ := okD_all h
  exact ⟨by simp [PyData.canLay0, a], by simp [PyData.depth]; omega⟩
theorem okD_mp {k : Nat} {α : Type} {e : α → D} {l : List α} (h : ∀ a ∈ l, okD k (e a)) : ∀ d ∈ l.map e, okD k d := fun d hd => by
  obtain ⟨a, ha, rfl⟩ := List.mem_map.mp hd
  exact h a ha
theorem okD_tm {k : Nat} {α : Type} {e : α → D} {l : List α} (h : ∀ a ∈ l, okD k (e a)) : okD (k + 1) (.tuple (l.map e)) := okD_t (okD_mp h)
theorem okD_lm {k : Nat} {α : Type} {e : α → D} {l : List α} (h : ∀ a ∈ l, okD k (e a)) : okD (k + 1) (.list (l.map e)) := okD_l (okD_mp h)
theorem x_eq_self {d : D} (h : okD 60 d) : opEq d d = some (.bool true) := by
  unfold opEq
  rw [if_pos ⟨h.sh, h.sh⟩, PySem.SeqAt.eqv_refl d h.1]
theorem x_ne_self {d : D} (h : okD 60 d) : opNe d d = some (.bool false) := by
  unfold opNe
  rw [if_pos ⟨h.sh, h.sh⟩, PySem.SeqAt.eqv_refl d h.1]
  rfl
theorem x_ne_same {d d' : D} (e : d = d') (h : okD 60 d) : opNe d d' = some (.bool false) := e ▸ x_ne_self h
theorem x_eq_same {d d' : D} (e : d = d') (h : okD 60 d) : opEq d d' = some (.bool true) := e ▸ x_eq_self h
/-! ### encoders -/
def EqE {α : Type} (e : α → D) : Prop := ∀ a b, PyData.eqv (e a) (e b) = true ↔ a = b
theorem eqE_T : EqE T := fun a b => by rw [eqv_T]; simp
theorem eqE_C : EqE fun c : Nat => T [c] := fun a b => by show PyData.eqv (T [a]) (T [b]) = true ↔ _; rw [eqv_T]; simp
theorem eqE_int : EqE PyData.int := fun a b => by simp [PyData.eqv]
theorem eqE_bool : EqE PyData.bool := fun a b => by simp [PyData.eqv]
def encN (k : Nat) : D := .int (k : Int)
theorem eqE_N : EqE encN := fun a b => by
  simp [encN, PyData.eqv]
  omega
def encO : Option Nat → D
  | none => .none
  | some i => encN i
theorem eqE_O : EqE encO := fun a b => by cases a <;> cases b <;> simp [encO, encN, PyData.eqv] <;> omega
theorem EqE.all {α : Type} {e : α → D} (h : EqE e) : ∀ a b : List α, PyData.eqvAll (a.map e) (b.map e) = true ↔ a = b
  | [], [] => by simp [PyData.eqvAll]
  | [], _ :: _ => by simp [PyData.eqvAll]
  | _ :: _, [] => by simp [PyData.eqvAll]
  | x :: xs, y :: ys => by
    have ih := h.all xs ys
    have h1 := h x y
    simp [PyData.eqvAll, ih, h1]
theorem EqE.t {α : Type} {e : α → D} (h : EqE e) : EqE fun l : List α => .tuple (l.map e) := fun a b => by
  show PyData.eqv (.tuple _) (.tuple _) = true ↔ _
  rw [PyData.eqv]
  exact h.all a b
theorem EqE.l {α : Type} {e : α → D} (h : EqE e) : EqE fun l : List α => .list (l.map e) := fun a b => by
  show PyData.eqv (.list _) (.list _) = true ↔ _
  rw [PyData.eqv]
  exact h.all a b
theorem EqE.p2 {α β : Type} {e : α → D} {e' : β → D} (h : EqE e) (h' : EqE e') : EqE fun p : α × β => .tuple [e p.1, e' p.2] := fun a b => by
  have h1 := h a.1 b.1
  have h2 := h' a.2 b.2
  show PyData.eqv (.tuple _) (.tuple _) = true ↔ _
  simp [PyData.eqv, PyData.eqvAll, h1, h2, Prod.ext_iff]
theorem EqE.p3 {α β γ : Type} {e : α → D} {e' : β → D} {e'' : γ → D} (h : EqE e) (h' : EqE e') (h'' : EqE e'') : EqE fun p : α × β × γ => .tuple [e p.1, e' p.2.1, e'' p.2.2] := fun a b => by
  have h1 := h a.1 b.1
  have h2 := h' a.2.1 b.2.1
  have h3 := h'' a.2.2 b.2.2
  show PyData.eqv (.tuple _) (.tuple _) = true ↔ _
  simp [PyData.eqv, PyData.eqvAll, h1, h2, h3, Prod.ext_iff]
theorem EqE.dec {α : Type} [DecidableEq α] {e : α → D} (h : EqE e) (a b : α) : PyData.eqv (e a) (e b) = decide (a = b) := by
  rw [Bool.eq_iff_iff, h a b]; simp
theorem x_eq_E {α : Type} [DecidableEq α] {e : α → D} (h : EqE e) {a b : α} (ha : okD 60 (e a)) (hb : okD 60 (e b)) : opEq (e a) (e b) = some (.bool (decide (a = b))) := by
  unfold opEq
  rw [if_pos ⟨ha.sh, hb.sh⟩, h.dec]
theorem x_ne_E {α : Type} [DecidableEq α] {e : α → D} (h : EqE e) {a b : α} (ha : okD 60 (e a)) (hb : okD 60 (e b)) : opNe (e a) (e b) = some (.bool (!decide (a = b))) := by
  unfold opNe
  rw [if_pos ⟨ha.sh, hb.sh⟩, h.dec]
theorem opIn_l (a : D) (ds : List D) : opIn a (.list ds) = if flatD a = true ∧ ds.all flatD = true then some (.bool (ds.any fun z => PyData.eqv z a)) else
      if SeqAt.shaped a = true ∧ SeqAt.shaped (.list ds) = true then some (.bool (ds.any fun z => PyData.eqv z a)) else none := by cases a <;> rfl
theorem opIn_t (a : D) (ds : List D) : opIn a (.tuple ds) = if flatD a = true ∧ ds.all flatD = true then some (.bool (ds.any fun z => PyData.eqv z a)) else none := by cases a <;> rfl
theorem any_E {α : Type} [DecidableEq α] {e : α → D} (h : EqE e) (a : α) (l : List α) : ((l.map e).any fun z => PyData.eqv z (e a)) = decide (a ∈ l) := by
  rw [List.any_map, Bool.eq_iff_iff, List.any_eq_true, decide_eq_true_eq]
  constructor
  · rintro ⟨b, hb, hc⟩
    rwa [← (h b a).mp hc]
  · intro ha
    exact ⟨a, ha, (h a a).mpr rfl⟩
theorem x_in_l {α : Type} [DecidableEq α] {e : α → D} (h : EqE e) {a : α} {l : List α} (ha : okD 60 (e a)) (hl : ∀ b ∈ l, okD 60 (e b)) : opIn (e a) (.list (l.map e)) = some (.bool (decide (a ∈ l))) := by
  rw [opIn_l, any_E h]
  split
  · rfl
  · rw [if_pos ⟨ha.sh, (okD_lm hl).sh⟩]
theorem x_in_t {α : Type} [DecidableEq α] {e : α → D} (h : EqE e) {a : α} {l : List α} (hf : ∀ b, flatD (e b) = true) : opIn (e a) (.tuple (l.map e)) = some (.bool (decide (a ∈ l))) := by
  rw [opIn_t, any_E h, if_pos ⟨hf a, by rw [List.all_map, List.all_eq_true]; exact fun b _ => hf b⟩]
theorem x_notin_l {α : Type} [DecidableEq α] {e : α → D} (h : EqE e) {a : α} {l : List α} (ha : okD 60 (e a)) (hl : ∀ b ∈ l, okD 60 (e b)) : opNotIn (e a) (.list (l.map e)) = some (.bool (!decide (a ∈ l))) := by
  unfold opNotIn
  rw [x_in_l h ha hl]
theorem x_notin_t {α : Type} [DecidableEq α] {e : α → D} (h : EqE e) {a : α} {l : List α} (hf : ∀ b, flatD (e b) = true) : opNotIn (e a) (.tuple (l.map e)) = some (.bool (!decide (a ∈ l))) := by
  unfold opNotIn
  rw [x_in_t h hf]
theorem flat_N (k : Nat) : flatD (encN k) = true := rfl
theorem flat_T (l : List Nat) : flatD (T l) = true := rfl
/-! ### all, any, sum over a list -/
theorem x_all_f {α : Type} {p : α → Bool} {l : List α} : fAll [.list (l.map fun a => .bool (p a))] = some (.bool (l.all p)) := by
  have := x_all (bs := l.map p)
  rw [List.map_map, List.all_map] at this
  exact this
theorem x_any_f {α : Type} {p : α → Bool} {l : List α} : fAny [.list (l.map fun a => .bool (p a))] = some (.bool (l.any p)) := by
  have := x_any (bs := l.map p)
  rw [List.map_map, List.any_map] at this
  exact this
theorem x_sum_f {α : Type} {f : α → Int} {l : List α} : fSum [.list (l.map fun a => .int (f a))] = some (.int (l.map f).sum) := by
  have := x_sum (bs := l.map f)
  rw [List.map_map] at this
  exact this
theorem sum_cast {α : Type} (f : α → Nat) (l : List α) : (l.map fun a => (f a : Int)).sum = ((l.map f).sum : Nat) := by
  induction l with
  | nil => rfl
  | cons a r ih => simp [ih]
theorem x_sum_n {α : Type} {f : α → Nat} {l : List α} : fSum [.list (l.map fun a => encN (f a))] = some (encN (l.map f).sum) := by
  have := x_sum_f (f := fun a => (f a : Int)) (l := l)
  rw [sum_cast] at this
  exact this
/-! ### sorted -/
theorem sortOk_E {α : Type} {e : α → D} {l : List α} (al : ∀ a ∈ l, ∀ b ∈ l, PySem.W.alike (e a) (e b) = true) (ks : PySem.W.Sortable (l.map e)) (dp : ∀ a ∈ l, (e a).depth ≤ 8) : sortOk (l.map e) := by
  refine ⟨fun d hd d' hd' => ?_, ks, fun d hd => ?_⟩
  · obtain ⟨a, ha, rfl⟩ := List.mem_map.mp hd
    obtain ⟨b, hb, rfl⟩ := List.mem_map.mp hd'
    exact al a ha b hb
  · obtain ⟨a, ha, rfl⟩ := List.mem_map.mp hd
    exact dp a ha
theorem sort_E {α : Type} {e : α → D} {l : List α} {r : α → α → Bool} (hr : ∀ a ∈ l, ∀ b ∈ l, r a b = PySem.W.dataLe false id (e a) (e b)) : (l.map e).mergeSort (PySem.W.dataLe false id) = (l.mergeSort r).map e :=
  (PySem.W.sort_maps (r := r) (s := PySem.W.dataLe false id) e hr).symm
theorem x_sort_E {α : Type} {e : α → D} {l : List α} {r : α → α → Bool} (h : sortOk (l.map e)) (hr : ∀ a ∈ l, ∀ b ∈ l, r a b = PySem.W.dataLe false id (e a) (e b)) : fSort [.list (l.map e)] = some ((l.mergeSort r).map e) := by
  rw [x_sort_l h, sort_E hr]
theorem x_sort_Et {α : Type} {e : α → D} {l : List α} {r : α → α → Bool} (h : sortOk (l.map e)) (hr : ∀ a ∈ l, ∀ b ∈ l, r a b = PySem.W.dataLe false id (e a) (e b)) : fSort [.tuple (l.map e)] = some ((l.mergeSort r).map e) := by
  rw [x_sort_t h, sort_E hr]
def leN (a b : Nat) : Bool := decide (a ≤ b)
theorem le_N (a b : Nat) : leN a b = PySem.W.dataLe false id (encN a) (encN b) := by
  have := congrFun (congrFun (PySem.W.dataLe_int (fun z : Int => z)) (a : Int)) (b : Int)
  show _ = PySem.W.dataLe false (fun b : Int => PyData.int b) (a : Int) (b : Int)
  rw [this]
  unfold leN
  rw [Bool.eq_iff_iff]
  simp
theorem sortOk_N (l : List Nat) : sortOk (l.map encN) := sortOk_E (fun _ _ _ _ => by simp [encN, PySem.W.alike]) (PySem.W.Sortable.others fun _ => ⟨nofun, nofun⟩) fun _ _ => by simp [encN, PyData.depth]
theorem x_sort_N {l : List Nat} : fSort [.list (l.map encN)] = some ((l.mergeSort leN).map encN) := x_sort_E (sortOk_N l) fun a _ b _ => le_N a b
theorem x_sort_Nt {l : List Nat} : fSort [.tuple (l.map encN)] = some ((l.mergeSort leN).map encN) := x_sort_Et (sortOk_N l) fun a _ b _ => le_N a b
theorem lt_C (a b : Nat) : ([a] : List Nat) < [b] ↔ a < b := by
  constructor
  · intro h
    cases h with
    | rel h => exact h
    | cons h => cases h
  · intro h
    exact .rel h
theorem le_C (a b : Nat) : leN a b = PySem.W.dataLe false id (T [a]) (T [b]) := by
  show _ = !PySem.W.dataLt (T [b]) (T [a])
  unfold T
  rw [PySem.W.dataLt_str]
  unfold leN
  show decide (a ≤ b) = !decide (([b] : List Nat) < [a])
  rw [Bool.eq_iff_iff]
  simp [lt_C]
theorem sortOk_C (l : List Nat) : sortOk (l.map fun c => T [c]) := sortOk_E (fun _ _ _ _ => by simp [T, PySem.W.alike]) (PySem.W.Sortable.others fun _ => ⟨nofun, nofun⟩) fun _ _ => by simp [T, PyData.depth]
theorem x_sort_C {l : List Nat} : fSort [.list (l.map fun c => T [c])] = some ((l.mergeSort leN).map fun c => T [c]) := x_sort_E (sortOk_C l) fun a _ b _ => le_C a b
theorem leN_trans (a b c : Nat) : leN a b = true → leN b c = true → leN a c = true := by unfold leN; simp; omega
theorem leN_total (a b : Nat) : (leN a b || leN b a) = true := by unfold leN; simp; omega
theorem sortN_perm (l : List Nat) : (l.mergeSort leN).Perm l := List.mergeSort_perm l leN
theorem sortN_rise (l : List Nat) : (l.mergeSort leN).Pairwise (· ≤ ·) := (List.pairwise_mergeSort (le := leN) leN_trans leN_total l).imp fun h => by simpa [leN] using h
theorem rise_uniqN : ∀ {a b : List Nat}, a.Pairwise (· ≤ ·) → b.Pairwise (· ≤ ·) → a.Perm b → a = b := fun {a b} ha hb h => h.eq_of_pairwise (le := (· ≤ ·)) (fun _ _ _ _ h1 h2 => Nat.le_antisymm h1 h2) ha hb
theorem sortN_self {l : List Nat} (h : l.Pairwise (· ≤ ·)) : l.mergeSort leN = l := rise_uniqN (sortN_rise l) h (sortN_perm l)
/-! ### ranges -/
theorem rng_N (k : Nat) : rngL 0 k = (List.range k).map encN := by
  unfold rngL
  refine List.map_congr_left fun i _ => ?_
  show PyData.int _ = PyData.int _
  congr 1
  omega
theorem rng_N2 (a k : Nat) : rngL (a : Int) k = (List.range' a k).map encN := by
  unfold rngL
  rw [List.range'_eq_map_range, List.map_map]
  refine List.map_congr_left fun i _ => ?_
  show PyData.int _ = PyData.int _
  congr 1
/-- one sign and the rest -/
theorem eqv_C (a b : Nat) : PyData.eqv (T [a]) (T [b]) = decide (a = b) := eqE_C.dec a b
theorem x_eq_C {a b : Nat} (ha : a < 0x110000) (hb : b < 0x110000) : opEq (T [a]) (T [b]) = some (.bool (decide (a = b))) := x_eq_E eqE_C (okD_T (by simpa [okT] using ha)) (okD_T (by simpa [okT] using hb))
theorem x_ne_C {a b : Nat} (ha : a < 0x110000) (hb : b < 0x110000) : opNe (T [a]) (T [b]) = some (.bool (!decide (a = b))) := x_ne_E eqE_C (okD_T (by simpa [okT] using ha)) (okD_T (by simpa [okT] using hb))
theorem join_C {l : List Nat} (h : l.length ≤ 16777216) : mJoin (T []) (.list (l.map fun c => T [c])) = some (T l) := by
  have e : (l.map fun c => T [c]) = (l.map fun c => [c]).map T := by rw [List.map_map]; rfl
  have f : (l.map fun c : Nat => [c]).flatten = l := by induction l with
    | nil => rfl
    | cons a r ih => simp [ih (by simp at h; omega)]
  rw [e, x_join_l (by rw [sum_flat, f]; exact h), f]
end G
namespace G
open PySem PySem.Spec PyProof.Rows L2
/-- a loop that looks for the first one -/
theorem sat_find {α : Type} {N B C : Env → Nat → Prop} {R : D → Nat → Prop} {n : Nat} (enc : α → D) (p : α → Bool) (r : α → D) {tg : D → Env → Option Env} {body : MS} (J : Env → Prop) : ∀ (xs : List α) {ρ : Env}, J ρ →
    (∀ a ∈ xs, ∀ ρ, J ρ → ∃ ρ1, tg (enc a) ρ = some ρ1 ∧ (p a = true → body ρ1 n = .rt (r a) n) ∧ (p a = false → ∃ ρ2, body ρ1 n = .nx ρ2 n ∧ J ρ2)) →
    (∀ a, xs.find? p = some a → R (r a) n) → (xs.find? p = none → ∀ ρ, J ρ → N ρ n) → (forL tg body (xs.map enc) ρ n).Sat N R B C
  | [], ρ, h0, _, _, hm => .nx (hm rfl _ h0)
  | a :: l, ρ, h0, hs, hh, hm => by
    obtain ⟨ρ1, e1, h1, h2⟩ := hs a List.mem_cons_self ρ h0
    show (match tg (enc a) ρ with | none => Out.bad | some ρ1 => _ : Out).Sat N R B C
    rw [e1]
    show (match body ρ1 n with | .nx ρ2 n2 => forL tg body (l.map enc) ρ2 n2 | .ct ρ2 n2 => forL tg body (l.map enc) ρ2 n2 | .bk ρ2 n2 => .nx ρ2 n2 | o => o : Out).Sat N R B C
    cases q : p a with
    | true =>
      rw [h1 q]
      exact .rt (hh a (by rw [List.find?_cons_of_pos q]))
    | false =>
      obtain ⟨ρ2, e2, j2⟩ := h2 q
      rw [e2]
      exact sat_find enc p r J l j2 (fun b hb => hs b (List.mem_cons_of_mem _ hb)) (fun b hb => hh b (by rw [List.find?_cons_of_neg (by simp [q])]; exact hb)) (fun hb => hm (by rw [List.find?_cons_of_neg (by simp [q])]; exact hb))
end G
namespace G
open PySem PySem.Spec PyProof.Rows L2
theorem cutL_init {α : Type} (l : List α) : cutL l none (some (-1)) = l.dropLast := by
  rcases List.eq_nil_or_concat l with rfl | ⟨i, x, rfl⟩
  · rfl
  · rw [List.concat_eq_append, cutL_init1, List.dropLast_concat]
theorem cutL_tail {α : Type} (l : List α) : cutL l (some 1) none = l.tail := by
  have := cutL_drop l 1
  rw [show ((1 : Nat) : Int) = 1 from rfl] at this
  rw [this, List.drop_one]
theorem zip_N : ∀ (a b : List Nat), zipD (a.map encN) (b.map encN) = (a.zip b).map fun p => .tuple [encN p.1, encN p.2]
  | [], _ => by simp [zipD]
  | _ :: _, [] => by simp [zipD]
  | x :: a, y :: b => by
    rw [List.map_cons, List.map_cons, List.zip_cons_cons, List.map_cons, ← zip_N a b]
    rfl
theorem ones_flat (f : Nat → Nat) : ∀ l : List Nat, (l.map fun c => [f c]).flatten = l.map f
  | [] => rfl
  | a :: r => by rw [List.map_cons, List.flatten_cons, ones_flat f r]; rfl
theorem all_map {α : Type} (f : α → D) : ∀ {ds : List D} {l : List α}, (∀ d ∈ ds, d ∈ l.map f) → ∃ l' : List α, ds = l'.map f ∧ ∀ a ∈ l', a ∈ l
  | [], _, _ => ⟨[], rfl, by simp⟩
  | d :: ds, l, h => by
    obtain ⟨l', e, h'⟩ := all_map f (ds := ds) (l := l) fun x hx => h x (List.mem_cons_of_mem _ hx)
    obtain ⟨a, ha, rfl⟩ := List.mem_map.mp (h d List.mem_cons_self)
    refine ⟨a :: l', by rw [e]; rfl, fun b hb => ?_⟩
    rcases List.mem_cons.mp hb with q | q
    · rw [q]; exact ha
    · exact h' b q
/-- a comprehension whose test draws -/
theorem lc_fdraw {tg : D → G.Env → Option G.Env} {tt : M Bool} {te : M D} {ρ : G.Env} (c : Nat) (Q : D → Prop) : ∀ (ds : List D) (n : Nat),
    (∀ d ∈ ds, ∀ m, m ≤ n + ds.length * c → ∃ ρ1 b m', tg d ρ = some ρ1 ∧ tt ρ1 m = .ok b m' ∧ m' ≤ m + c ∧ (b = true → ∃ y, te ρ1 m' = .ok y m' ∧ Q y)) →
    ∃ ys n', lcL tg tt te ρ ds n = .ok ys n' ∧ n' ≤ n + ds.length * c ∧ ys.length ≤ ds.length ∧ ∀ y ∈ ys, Q y
  | [], n, _ => ⟨[], n, rfl, by simp, by simp, by simp⟩
  | d :: ds, n, h => by
    have e0 : (d :: ds).length * c = ds.length * c + c := by rw [List.length_cons, Nat.succ_mul]
    obtain ⟨ρ1, b, m', e1, e2, h1, h2⟩ := h d List.mem_cons_self n (by omega)
    obtain ⟨ys, n', e3, h3, h4, h5⟩ := lc_fdraw c Q ds m' fun b hb m hm => h b (List.mem_cons_of_mem _ hb) m (by rw [e0]; omega)
    cases b with
    | false =>
      refine ⟨ys, n', ?_, by rw [e0]; omega, by rw [List.length_cons]; omega, h5⟩
      show (match tg d ρ with | none => Res.bad | some ρ1 => _ : Res (List D)) = _
      rw [e1]
      show (match tt ρ1 n with | .ok true n1 => _ | .ok false n1 => _ | _ => Res.bad : Res (List D)) = _
      rw [e2]
      exact e3
    | true =>
      obtain ⟨y, ey, hy⟩ := h2 rfl
      refine ⟨y :: ys, n', ?_, by rw [e0]; omega, by rw [List.length_cons, List.length_cons]; omega, fun z hz => ?_⟩
      · show (match tg d ρ with | none => Res.bad | some ρ1 => _ : Res (List D)) = _
        rw [e1]
        show (match tt ρ1 n with | .ok true n1 => _ | .ok false n1 => _ | _ => Res.bad : Res (List D)) = _
        rw [e2]
        show (match te ρ1 m' with | .ok y n2 => _ | _ => Res.bad : Res (List D)) = _
        rw [ey]
        show (lcL tg tt te ρ ds m').bind _ = _
        rw [e3]
        rfl
      · rcases List.mem_cons.mp hz with q | q
        · rw [q]; exact hy
        · exact h5 _ q
end G
namespace G
open PySem PySem.Spec PyProof.Rows L2
theorem any_X {α : Type} {e : α → D} (h : EqE e) (a : α) (l : List α) : ((l.map e).any fun z => PyData.eqv z (e a)) = true ↔ a ∈ l := by
  rw [List.any_map, List.any_eq_true]
  constructor
  · rintro ⟨b, hb, hc⟩
    rwa [← (h b a).mp hc]
  · intro ha
    exact ⟨a, ha, (h a a).mpr rfl⟩
theorem x_in_x {α : Type} {e : α → D} (h : EqE e) {a : α} {l : List α} (ha : okD 60 (e a)) (hl : ∀ b ∈ l, okD 60 (e b)) : ∃ k, opIn (e a) (.list (l.map e)) = some (.bool k) ∧ (k = true ↔ a ∈ l) := by
  refine ⟨_, ?_, any_X h a l⟩
  rw [opIn_l]
  split
  · rfl
  · rw [if_pos ⟨ha.sh, (okD_lm hl).sh⟩]
theorem x_notin_x {α : Type} {e : α → D} (h : EqE e) {a : α} {l : List α} (ha : okD 60 (e a)) (hl : ∀ b ∈ l, okD 60 (e b)) : ∃ k, opNotIn (e a) (.list (l.map e)) = some (.bool k) ∧ (k = true ↔ a ∉ l) := by
  obtain ⟨k, e1, e2⟩ := x_in_x h ha hl
  refine ⟨!k, by unfold opNotIn; rw [e1], ?_⟩
  cases k <;> simp at e2 ⊢ <;> exact e2
end G
namespace G
open PySem
@[simp] theorem sz1 : 1 ≤ sizeLine := by rw [sizeLine_eq]; omega
@[simp] theorem sz2 : 2 ≤ sizeLine := by rw [sizeLine_eq]; omega
@[simp] theorem sz3 : 3 ≤ sizeLine := by rw [sizeLine_eq]; omega
@[simp] theorem sz4 : 4 ≤ sizeLine := by rw [sizeLine_eq]; omega
@[simp] theorem sz5 : 5 ≤ sizeLine := by rw [sizeLine_eq]; omega
@[simp] theorem sz6 : 6 ≤ sizeLine := by rw [sizeLine_eq]; omega
@[simp] theorem sz7 : 7 ≤ sizeLine := by rw [sizeLine_eq]; omega
@[simp] theorem sz8 : 8 ≤ sizeLine := by rw [sizeLine_eq]; omega
@[simp] theorem sz9 : 9 ≤ sizeLine := by rw [sizeLine_eq]; omega
@[simp] theorem sz10 : 10 ≤ sizeLine := by rw [sizeLine_eq]; omega
@[simp] theorem sz11 : 11 ≤ sizeLine := by rw [sizeLine_eq]; omega
@[simp] theorem sz12 : 12 ≤ sizeLine := by rw [sizeLine_eq]; omega
@[simp] theorem szl0 : 0 < sizeLine := by rw [sizeLine_eq]; omega
@[simp] theorem szl1 : 1 < sizeLine := by rw [sizeLine_eq]; omega
@[simp] theorem szl2 : 2 < sizeLine := by rw [sizeLine_eq]; omega
@[simp] theorem szl3 : 3 < sizeLine := by rw [sizeLine_eq]; omega
@[simp] theorem szl4 : 4 < sizeLine := by rw [sizeLine_eq]; omega
@[simp] theorem szl5 : 5 < sizeLine := by rw [sizeLine_eq]; omega
@[simp] theorem szl6 : 6 < sizeLine := by rw [sizeLine_eq]; omega
@[simp] theorem szl7 : 7 < sizeLine := by rw [sizeLine_eq]; omega
@[simp] theorem szl8 : 8 < sizeLine := by rw [sizeLine_eq]; omega
@[simp] theorem szl9 : 9 < sizeLine := by rw [sizeLine_eq]; omega
@[simp] theorem szl10 : 10 < sizeLine := by rw [sizeLine_eq]; omega
@[simp] theorem szl11 : 11 < sizeLine := by rw [sizeLine_eq]; omega
@[simp] theorem szl12 : 12 < sizeLine := by rw [sizeLine_eq]; omega
end G
namespace G
open PySem PySem.Spec PyProof.Rows L2
theorem x_mul_ok {i j : Int} (h : mulOk i j = true) : opMul (.int i) (.int j) = some (.int (i * j)) := by rw [x_mul, if_pos h]
end G

/-! list(text) -/
namespace G
open PySem PySem.Spec PyProof.Rows ZB
section
variable {prog : Program} {w : World} {A : Around} {E : Value → Shared → Prop} {s : Shared}
theorem hint_str {x : Str} {t : Tok} {Q : Bool → Shared → Prop} (h : Q false s) : wpAny (model prog w) A (Builtin.List.listLengthHint (.str x t)) Q E s := by
  have hT : s.TypeIs (.str x t) "str" := PySem.typeIs_str s x t
  unfold Builtin.List.listLengthHint
  refine wpAny_bind (wpAny_specialOf hT PySem.F.slot_str_len.lookup ?_)
  generalize hid : ("str.__len__" : String) = id0
  wp_delta
  rw [show splitId id0 = some ("str", "__len__") from by subst hid; decide +kernel]
  subst hid
  refine wpAny_bind (wpAny_isInstance (T := "str") (b := true) hT (by rw [isSubtype_type]; kernel_rfl) ?_)
  refine wpAny_ite_split (fun hab => absurd hab (by decide)) (fun _ => ?_)
  refine wpAny_ite_split (fun _ => ?_) (fun hab => absurd (by decide +kernel) hab)
  refine wpAny_bind (wpAny_typeOf hT ?_)
  exact wpAny_pure h
theorem extend_str {R : Result → Shared → Prop} (hh : A.handled = none) (x : Str) (t : Tok) (S : Addr) (res : Value) (c₀ : Nat) (hS : s.heap.get? S = some { cls := .type "list", data := .seq #[] c₀ })
    (hR : ∀ h' tk acc' c', (∀ b o, b ≠ S → s.heap.get? b = some o → h'.get? b = some o) → h'.get? S = some { cls := .type "list", dict := none, data := .seq acc' c', slots := #[] } →
      ItemsOf (SignAt x) acc' x.cps.size → R (.ok (.ret res)) { s with heap := h', toks := tk }) (hn : x.cps.size ≤ sizeLine) :
    wpAny (model prog w) A.in1 (Builtin.List.listExtendWith (.ref S) (.str x t) res)
      (fun fin s' => match fin with | .done f => R (.ok f) s' | .again c' => c'.quiet = true ∧ codeAny (model prog w) A c' R s') (fun e s' => R (.error e) s') s := by
  have hSI : S ≠ s.heap.objs.size := Nat.ne_of_lt (Heap.lt_size hS)
  have hSf : S ∉ [s.heap.objs.size] := fun hm => hSI (List.mem_singleton.mp hm)
  unfold Builtin.List.listExtendWith
  refine wpAny_bind (wpAny_typeOf (T := "str") (v := .str x t) (PySem.typeIs_str s x t) ?_)
  have h1 : Builtin.List.listSameRef (.ref S) (.str x t) = false := rfl
  have h2 : (Value.type "str" == Value.type "list") = false := by decide
  have h3 : (Value.type "str" == Value.type "tuple") = false := by decide
  simp only [h1, h2, h3, Bool.or_false, Bool.false_eq_true, if_false]
  refine wpAny_bind (wpAny_pyIter_str fun o St W0 hst => ?_)
  refine wpAny_bind (wpAny_holding (hint_str ?_))
  rw [if_neg (by first | decide | decide +kernel)]
  have W := W0 A.in1 hh
  refine wpAny_pure ⟨plainId_quiet PySem.F.plain_extend_loop _, codeAny_extend_loopS W.toS hn _ hSf _ x.cps.size 0 _ _ _ rfl (Nat.zero_le _) hst (Heap.get?_push_of_some _ hS) (ItemsOf.nil _) fun s' acc' c' hm hS' hacc => ?_⟩
  rw [Moved.eq_with hm]
  refine hR s'.heap s'.toks acc' c' (fun b ob hb e => hm.heap b ob (fun hmem => ?_) (Heap.get?_push_of_some _ e)) hS' hacc
  rcases List.mem_cons.mp hmem with e' | hmem
  · exact hb e'
  · exact absurd (Heap.lt_size e) (by rw [List.mem_singleton.mp hmem]; exact Nat.lt_irrefl _)
theorem list_init_str {R : Result → Shared → Prop} (hh : A.handled = none) (x : Str) (t : Tok) (S : Addr) (hS : s.heap.get? S = some { cls := .type "list", data := .seq #[] })
    (hR : ∀ h' tk acc' c', (∀ b o, b ≠ S → s.heap.get? b = some o → h'.get? b = some o) → h'.get? S = some { cls := .type "list", dict := none, data := .seq acc' c', slots := #[] } →
      ItemsOf (SignAt x) acc' x.cps.size → R (.ok (.ret .none)) { s with heap := h', toks := tk }) (hn : x.cps.size ≤ sizeLine) :
    wpAny (model prog w) A.in1 (Builtin.«list.__init__» ⟨[.ref S, .str x t], []⟩)
      (fun fin s' => match fin with | .done f => R (.ok f) s' | .again c' => c'.quiet = true ∧ codeAny (model prog w) A c' R s') (fun e s' => R (.error e) s') s := by
  show wpAny _ _ (do let old ← Builtin.List.listItems (.ref S); Builtin.List.listUpdate (.ref S) (fun _ => #[]); letGo old.toList.reverse; Builtin.List.listExtendWith (.ref S) (.str x t) .none) _ _ s
  refine wpAny_bind ?_
  unfold Builtin.List.listItems
  refine wpAny_bind (wpAny_seqItems hS rfl (wpAny_pure ?_))
  show wpAny _ _ (updateSeq S (fun _ => #[]) >>= fun _ => letGo (#[] : Array Value).toList.reverse >>= fun _ => Builtin.List.listExtendWith (.ref S) (.str x t) .none) _ _ s
  refine wpAny_bind (wpAny_updateSeq hS rfl ?_)
  have hS₂ := Heap.get?_update_self (Obj.mapSeq (fun _ => (#[] : Array Value))) hS rfl
  have oth : ∀ b o, b ≠ S → s.heap.get? b = some o → (s.heap.update S (Obj.mapSeq (fun _ => (#[] : Array Value)))).get? b = some o :=
    fun b o hb e => (Heap.get?_update_other _ _ (Ne.symm hb)).trans e
  refine wpAny_bind (wpAny_letGo ?_)
  refine extend_str hh x t S .none _ hS₂ (fun h' tk acc' c' hk hS' hacc => ?_) hn
  exact hR h' tk acc' c' (fun b o hb e => hk b o hb (oth b o hb e)) hS' hacc
theorem call_list_str {x : Str} {t : Tok} {Q : Value → Shared → Prop} (hh : A.handled = none) (hn : x.cps.size ≤ sizeLine)
    (hQ : ∀ h' tk acc' c', (∀ b o, s.heap.get? b = some o → h'.get? b = some o) →
      h'.get? s.heap.objs.size = some { cls := .type "list", dict := none, data := .seq acc' c', slots := #[] } → ItemsOf (SignAt x) acc' x.cps.size → Q (.ref s.heap.objs.size) { s with heap := h', toks := tk }) :
    wpAny (model prog w) A (call (.type "list") [.str x t]) Q E s := by
  refine callType_codes (Q₁ := fun obj s₁ => obj = .ref s.heap.objs.size ∧ s₁ = { s with heap := s.heap.push { cls := .type "list", data := .seq #[] } }) PySem.F.called_list (PySem.F.typeCall_list_1 _) PySem.F.entry_list_init
    (code_list_new _ ⟨rfl, rfl⟩) fun obj s₁ h₁ => ?_
  obtain ⟨rfl, rfl⟩ := h₁
  have hS : (s.heap.push { cls := .type "list", data := .seq #[] }).get? s.heap.objs.size = some { cls := .type "list", data := .seq #[] } := Heap.get?_push_size _ rfl
  refine ⟨⟨_, hS, rfl⟩, PySem.F.args_list_init_2 _ _, list_init_str (A := A.in1) hh x t _ hS (fun h' tk acc' c' hk hS' hacc => ?_) hn⟩
  exact ⟨rfl, hQ h' tk acc' c' (fun b o e => hk b o (Nat.ne_of_lt (Heap.lt_size e)) (Heap.get?_push_of_some _ e)) hS' hacc⟩
end
end G
namespace G
open PySem PySem.Spec PyProof.Rows L2
def rListS : List V → Hp → VK → Prop := fun xs H Q => ∃ x : Str, xs = [.str x] ∧ x.cps.size ≤ sizeLine ∧ ∀ l, H l = none → Q (.ref l) (upd H l (.lst (x.cps.toList.map fun c => V.str ⟨#[c]⟩)))
theorem cr_listS {X : Cx} (hc : X.calm = true) : CallR X (.type "list") rListS := by
  intro pins s σ H xs us Q I r h
  obtain ⟨x, rfl, hz, q⟩ := h
  obtain ⟨u, rfl, t, rfl⟩ := vals1 r
  refine call_list_str (I.ok.hd hc) hz fun h' tk acc' c' kp e it => ?_
  have hv : Vals (x.cps.toList.map fun c => V.str ⟨#[c]⟩) acc'.toList := by
    refine vals_of_idx _ _ (by simp [it.1]) fun j u hj => ?_
    have hj' : acc'[j]? = some u := by rw [← Array.getElem?_toList]; exact hj
    obtain ⟨c, tk2, hc2, rfl⟩ := it.2 j u hj'
    have hc3 : x.cps.toList[j]? = some c := by rw [Array.getElem?_toList]; exact hc2
    exact ⟨V.str ⟨#[c]⟩, by rw [List.getElem?_map, hc3]; rfl, tk2, rfl⟩
  exact ⟨.ref s.heap.objs.size, _, I.laid (t' := tk) kp (Nat.le_refl _) (show ObjOk X.prog X.w _ h' _ (.lst _) from ⟨by simpa using hz, acc'.toList, c', hv, by simpa using e⟩), rfl, q _ (I.hok.fresh (Nat.le_refl _))⟩
def fListA : List D → Option (List D)
  | [.list ds] => some ds
  | [.tuple ds] => some ds
  | [.str x] => if x.length ≤ sizeLine then some (x.cps.toList.map fun c => T [c]) else none
  | _ => none
theorem cr_listA {X : Cx} (hc : X.calm = true) : CallR X (.type "list") (fun xs H Q => (∃ p ys, xs = [.ref p] ∧ (SqL X.K H p ys ∨ SqT X.K H p ys) ∧ ∀ l, H l = none → Q (.ref l) (upd H l (.lst ys))) ∨ rListS xs H Q) := CallR.or call_list_of (cr_listS hc)
theorem repAll_C {K : PySem.W.Frag} {H : Hp} : ∀ cs : List Nat, RepAll K H (cs.map fun c => V.str ⟨#[c]⟩) (cs.map fun c => T [c])
  | [] => .nil
  | c :: cs => .cons (.str _) (repAll_C cs)
theorem o_listA {K : PySem.W.Frag} : OpNF K (fun xs H Q => (∃ p ys, xs = [.ref p] ∧ (SqL K H p ys ∨ SqT K H p ys) ∧ ∀ l, H l = none → Q (.ref l) (upd H l (.lst ys))) ∨ rListS xs H Q) fListA := by
  intro B H xs as ds' Q all r e q
  cases r with
  | nil => cases e
  | @cons v vs a as r1 r2 =>
    cases r2 with
    | nil =>
      cases r1 with
      | @lst p xs ds h1 h2 => cases e; exact .inl ⟨p, xs, rfl, .inl (.inl (.inl (hid_sub h1))), fun l hl => q l xs _ (same_upd hl) hl upd_same (Rep.monoAll (hid_fresh hl) _ _ h2)⟩
      | @tup p xs ds h1 h2 => cases e; exact .inl ⟨p, xs, rfl, .inr (sqT_mono (fun _ _ => hid_sub) h1.sq), fun l hl => q l xs _ (same_upd hl) hl upd_same (Rep.monoAll (hid_fresh hl) _ _ h2)⟩
      | str x =>
        have e' : (if x.length ≤ sizeLine then some (x.cps.toList.map fun c => T [c]) else none) = some ds' := e
        split at e'
        · rename_i hz
          cases e'
          exact .inr ⟨x, rfl, hz, fun l hl => q l _ _ (same_upd hl) hl upd_same (repAll_C _)⟩
        · cases e'
      | _ => cases e
    | cons _ _ => unfold fListA at e; cases r1 <;> cases e
@[simp] theorem x_lstA_l {ds : List D} : fListA [.list ds] = some ds := rfl
@[simp] theorem x_lstA_t {ds : List D} : fListA [.tuple ds] = some ds := rfl
@[simp] theorem x_lstA_T {l : List Nat} : fListA [T l] = if l.length ≤ sizeLine then some (l.map fun c => T [c]) else none := by
  show (if (⟨l.toArray⟩ : Str).length ≤ sizeLine then some (l.map fun c => T [c]) else none) = _
  rw [T_len]
end G

/-! sorted(text) -/
namespace G
open PySem PySem.Spec PySem.Calls PyProof.Rows L2 PySem.W
section
variable {prog : Program} {w : World} {A : Around} {E : Value → Shared → Prop} {s : Shared}
theorem collectStr {x : Str} {t : Tok} {R : List Value → Shared → Prop} (hh : A.handled = none) (hn : x.cps.size ≤ sizeLine)
    (q : ∀ h' tk (us : List Value), (∀ b o, s.heap.get? b = some o → h'.get? b = some o) → s.heap.objs.size ≤ h'.objs.size → ItemsOf (SignAt x) us.toArray x.cps.size → R us { s with heap := h', toks := tk }) : wpAny (model prog w) A (collect (.str x t)) R E s := by
  unfold collect
  refine wpAny_bind (wpAny_runValue (codeAny_builtin PySem.F.entry_proto_collect ?_))
  rw [Around.under_plainId PySem.F.plain_proto_collect _]
  show wpAny _ A.in1 (newList [] >>= fun l => again (.builtin "list.__iadd__" ⟨[l, .str x t], []⟩)) _ _ s
  refine wpAny_bind (wpAny_newObj_type ?_)
  refine wpAny_pure ⟨plainId_quiet PySem.F.plain_list_iadd _, codeAny_builtin PySem.F.entry_list_iadd ?_⟩
  rw [Around.under_plainId PySem.F.plain_list_iadd _]
  have hS₁ : (s.heap.push { cls := .type "list", data := .seq ([] : List Value).toArray }).get? s.heap.objs.size = some { cls := .type "list", data := .seq ([] : List Value).toArray } := Heap.get?_push_size _ rfl
  show wpAny _ A.in1 (Builtin.List.listExtendWith (.ref s.heap.objs.size) (.str x t) (.ref s.heap.objs.size)) _ _ _
  refine extend_str (A := A) (s := { s with heap := s.heap.push { cls := .type "list", data := .seq ([] : List Value).toArray } })
    (R := fun r s' => match r with
      | Except.ok (Flow.ret v) => wpAny (model prog w) A (match v with
          | Value.ref a => do
            let ob ← load a
            match ob.data with
              | Data.seq xs epoch => pure xs.toList
              | x => unsupported "internal:collect"
          | x => unsupported "internal:collect") R E s'
      | Except.ok a => False
      | Except.error e => E e s') hh x t s.heap.objs.size _ 0 hS₁ (fun h' tk acc' c' hk hS' hacc => ?_) hn
  show wpAny _ A (load s.heap.objs.size >>= _) _ _ _
  refine wpAny_bind (wpAny_load hS' ?_)
  exact wpAny_pure (q h' tk acc'.toList (fun b o e => hk b o (Nat.ne_of_lt (Heap.lt_size e)) (Heap.get?_push_of_some _ e)) (Nat.le_of_lt (Heap.lt_size hS')) (by simpa using hacc))
theorem sortedStr {x : Str} {t : Tok} {Q : Value → Shared → Prop} (hh : A.handled = none) (hn : x.cps.size ≤ sizeLine) (hu : A.units + 64 < cLine)
    (q : ∀ h' tk p (us out : List Value) (c : Nat), (∀ b o, s.heap.get? b = some o → h'.get? b = some o) → s.heap.objs.size ≤ p → h'.get? p = some (seqObj "list" out.toArray c) → out.length = x.cps.size →
      EachIs (fun v (d : D) => ∃ z tk, d = .str z ∧ v = .str z tk) out ((x.cps.toList.map fun c => T [c]).mergeSort (dataLe false id)) → Q (.ref p) { s with heap := h', toks := tk }) : wpAny (model prog w) A (call (.builtin "sorted") [.str x t]) Q E s := by
  refine Calls.call_function_entry kind_sorted plain_sorted entry_sorted (args_sorted1 _) ?_
  unfold Builtin.«sorted»
  refine wpAny_bind (m := checkCount "sorted" 1 1 _) (wpAny_pure ?_)
  refine wpAny_bind (collectStr (A := A.in1) hh hn fun h1 tk vs k1 hz it => ?_)
  have hvl : vs.length = x.cps.size := by have := it.1; simpa using this
  refine wpAny_bind (wpAny_newList ?_ (by rw [hvl]; exact hn))
  have hoL : (h1.push (seqObj "list" vs.toArray 0)).get? h1.objs.size = some (seqObj "list" vs.toArray 0) := Heap.get?_push_size _ rfl
  have each : EachIs (fun v (d : D) => ∃ z tk, d = .str z ∧ v = .str z tk) vs (x.cps.toList.map fun c => T [c]) := by
    have gen : ∀ (vs : List Value) (cs : List Nat), vs.length = cs.length → (∀ (j : Nat) (v : Value), vs[j]? = some v → ∃ c tk, cs[j]? = some c ∧ v = .str ⟨#[c]⟩ tk) → EachIs (fun v (d : D) => ∃ z tk, d = .str z ∧ v = .str z tk) vs (cs.map fun c => T [c]) := by
      intro vs
      induction vs with
      | nil => intro cs hl _; cases cs with
        | nil => exact .nil
        | cons _ _ => simp at hl
      | cons v vs ih => intro cs hl h; cases cs with
        | nil => simp at hl
        | cons c cs =>
          obtain ⟨c', tk, e, rfl⟩ := h 0 v rfl
          have e' : c = c' := by simpa using e
          subst e'
          exact .cons ⟨_, tk, rfl, rfl⟩ (ih cs (by simpa using hl) fun j w hj => by have := h (j + 1) w (by simpa using hj); simpa using this)
    refine gen vs _ (by rw [hvl, Array.length_toList]) fun j v hj => ?_
    obtain ⟨c, tk, h1, h2⟩ := it.2 j v (by simpa using hj)
    exact ⟨c, tk, by rw [Array.getElem?_toList]; exact h1, h2⟩
  obtain ⟨bs, hbs⟩ : ∃ bs : List D, bs = x.cps.toList.map fun c => T [c] := ⟨_, rfl⟩
  rw [← hbs] at each
  have hal : AllAlike (bs.map id) := by
    rw [List.map_id, hbs]
    exact AllAlike.of fun _ _ => by simp [T, alike]
  have hk : Sortable bs := by
    rw [hbs]
    exact Sortable.others fun _ => ⟨nofun, nofun⟩
  have er : ∀ h : Heap, EachIs (fun v b => ∃ as, Reads h v b as) vs bs := fun h => each.mono fun v d ⟨z, tk, e1, e2⟩ => ⟨[], by rw [e1, e2]; exact .str z tk⟩
  have hdep : ∀ d ∈ bs, A.in1.in1.units + d.depth < cLine := by
    intro d hd
    rw [hbs] at hd
    obtain ⟨c, _, rfl⟩ := List.mem_map.mp hd
    have : (T [c]).depth = 0 := depth_T [c]
    rw [this]
    show A.units + 1 + 1 + 0 < cLine
    omega
  have S := SortsAt.data (prog := prog) (w := w) (A := A.in1.in1) (s := { s with heap := sortingHeap (h1.push (seqObj "list" vs.toArray 0)) h1.objs.size vs, toks := tk }) (er _) (by rw [List.map_id] at hal; exact hal) hk hdep
  refine wpAny_bind (wpAny_holding (wpAny_call_entry slot_list_sort ⟨_, hoL, rfl⟩ entry_list_sort (list_sort_vals (s := { s with heap := h1.push (seqObj "list" vs.toArray 0), toks := tk }) hoL S (by rw [hvl]; exact hn) ⟨_, rfl, ?_⟩) (args_list_sort _)))
  have z := sortVals_data (enc := id) (R := fun v (d : D) => ∃ z tk, d = .str z ∧ v = .str z tk) (h' := sortingHeap (h1.push (seqObj "list" vs.toArray 0)) h1.objs.size vs) false each (er _) hal
  rw [List.map_id] at z
  have hms : bs.mergeSort (dataLe false id) = (x.cps.toList.map fun c => T [c]).mergeSort (dataLe false id) := by rw [hbs]
  obtain ⟨c, hc⟩ := sortedHeap_at (vs := vs) (out := (sortVals (dataKind (sortingHeap (h1.push (seqObj "list" vs.toArray 0)) h1.objs.size vs) bs) false vs vs).toArray) hoL
  refine wpAny_pure ⟨_, rfl, q _ tk h1.objs.size vs _ c (fun b u e => ?_) hz hc (by rw [sortVals_length false rfl, hvl]) (by rw [← hms]; exact z)⟩
  have q := k1 b u e
  have hlt := Heap.lt_size q
  rw [sortedHeap_old (Nat.ne_of_lt hlt) (by rw [size_push']; exact Nat.lt_succ_of_lt hlt)]
  exact Heap.get?_push_of_some _ q
end
end G
namespace G
open PySem PySem.Spec PyProof.Rows L2 PySem.W
def rSortS : List V → Hp → VK → Prop := fun xs H Q => ∃ x : Str, xs = [.str x] ∧ x.cps.size ≤ sizeLine ∧ ∀ ys p, EachIs (fun v (d : D) => ∃ z, d = .str z ∧ v = V.str z) ys ((x.cps.toList.map fun c => T [c]).mergeSort (dataLe false id)) → H p = none → Q (.ref p) (upd H p (.lst ys))
theorem each_valsS : ∀ {us : List Value} {ds : List D}, EachIs (fun v (d : D) => ∃ z tk, d = .str z ∧ v = .str z tk) us ds → ∃ xs, Vals xs us ∧ EachIs (fun v (d : D) => ∃ z, d = .str z ∧ v = V.str z) xs ds
  | _, _, .nil => ⟨[], .nil, .nil⟩
  | _, _, .cons ⟨z, tk, h1, h2⟩ t => by
    obtain ⟨xs, q1, q2⟩ := each_valsS t
    exact ⟨.str z :: xs, .cons ⟨tk, h2⟩ q1, .cons ⟨z, h1, rfl⟩ q2⟩
theorem cr_sortS {X : Cx} (hc : X.calm = true) (hu : X.A.units + 64 < cLine) : CallR X (.builtin "sorted") rSortS := by
  intro pins s σ H xs us Q I r h
  obtain ⟨x, rfl, hz, q⟩ := h
  obtain ⟨u, rfl, t, rfl⟩ := vals1 r
  refine sortedStr (I.ok.hd hc) hz hu fun h' tk p us out c kp hp e ho eo => ?_
  obtain ⟨ys, v1, v2⟩ := each_valsS eo
  exact ⟨.ref p, _, I.laid (t' := tk) kp hp (show ObjOk X.prog X.w _ h' _ (.lst ys) from ⟨by rw [v1.length, ho]; exact hz, out, c, v1, e⟩), rfl, q _ _ v2 (I.hok.fresh hp)⟩
theorem cr_sortA {X : Cx} (hc : X.calm = true) (hu : X.A.units + 64 < cLine) : CallR X (.builtin "sorted") (fun xs H Q => rSortD X.K xs H Q ∨ rSortS xs H Q) := CallR.or (cr_sortD hu) (cr_sortS hc hu)
noncomputable def fSortA : List D → Option (List D)
  | [.str x] => if x.length ≤ sizeLine then some ((x.cps.toList.map fun c => T [c]).mergeSort (dataLe false id)) else none
  | l => fSort l
theorem repS {K : PySem.W.Frag} {H : Hp} : ∀ {ys : List V} {ds : List D}, EachIs (fun v (d : D) => ∃ z, d = .str z ∧ v = V.str z) ys ds → RepAll K H ys ds
  | _, _, .nil => .nil
  | _, _, .cons ⟨z, h1, h2⟩ t => by rw [h1, h2]; exact .cons (.str z) (repS t)
theorem o_sortA {K : PySem.W.Frag} : OpNF K (fun xs H Q => rSortD K xs H Q ∨ rSortS xs H Q) fSortA := by
  intro B H xs as ds' Q all r e q
  by_cases hs : ∃ x, as = [.str x]
  · obtain ⟨x, rfl⟩ := hs
    have e' : (if x.length ≤ sizeLine then some ((x.cps.toList.map fun c => T [c]).mergeSort (dataLe false id)) else none) = some ds' := e
    split at e'
    · rename_i hz
      cases e'
      cases r with
      | cons r1 r2 =>
        cases r2
        cases r1
        exact .inr ⟨x, rfl, hz, fun ys p hy hl => q p ys _ (same_upd hl) hl upd_same (repS hy)⟩
    · cases e'
  · have e' : fSort as = some ds' := by
      rw [← e]
      unfold fSortA
      split
      · rename_i x; exact (hs ⟨x, rfl⟩).elim
      · rfl
    exact .inl (o_sort _ _ _ _ _ _ all r e' q)
@[simp] theorem x_sortA_l {ds : List D} : fSortA [.list ds] = fSort [.list ds] := rfl
@[simp] theorem x_sortA_t {ds : List D} : fSortA [.tuple ds] = fSort [.tuple ds] := rfl
@[simp] theorem x_sortA_T {l : List Nat} (h : l.length ≤ 16777216) : fSortA [T l] = some ((l.mergeSort leN).map fun c => T [c]) := by
  show (if (⟨l.toArray⟩ : Str).length ≤ sizeLine then some ((l.map fun c => T [c]).mergeSort (dataLe false id)) else none) = _
  rw [T_len, if_pos (size_ok h), sort_E (r := leN) fun a _ b _ => le_C a b]
end G

/-! text * int -/
namespace G
open PySem PySem.Spec PyProof.Rows L2
def rMulS : V → V → Hp → VK → Prop := fun x y H Q => ∃ (z : Str) (k : Int), x = .str z ∧ y = .int k ∧ -1000 ≤ k ∧ k ≤ 1000 ∧ z.length ≤ 1000 ∧ Q (.str ⟨((List.replicate k.toNat z.cps.toList).flatten).toArray⟩) H
theorem fold_rep (a : Array Nat) : ∀ n : Nat, (List.replicate n a).foldl (· ++ ·) #[] = ((List.replicate n a.toList).flatten).toArray := by
  have key : ∀ (n : Nat) (b : Array Nat), (List.replicate n a).foldl (· ++ ·) b = b ++ ((List.replicate n a.toList).flatten).toArray := by
    intro n
    induction n with
    | zero => intro b; simp
    | succ n ih =>
      intro b
      rw [List.replicate_succ, List.foldl_cons, ih, List.replicate_succ, List.flatten_cons]
      apply Array.toList_inj.mp
      simp
  intro n
  rw [key]
  simp
theorem op_mulS {X : Cx} : OpR X (binaryOp .Mult) rMulS := by
  intro pins s σ H x y v u Q I rx ry h
  obtain ⟨z, k, rfl, rfl, h1, h2, h3, q⟩ := h
  obtain ⟨t, rfl⟩ := rx
  obtain ⟨t2, rfl⟩ := ry
  have hk : z.length * k.toNat ≤ 1000000 := Nat.le_trans (Nat.mul_le_mul h3 (show k.toNat ≤ 1000 by omega)) (by omega)
  have hsz : sizeLine = 16777216 := sizeLine_eq
  refine PySem.P.mul_str (by rw [decide_eq_false (by omega), decide_eq_false (by omega)]; rfl) (fun a b => ?_) (fun a b => ?_) ?_
  · have : (1000 : Int) ≤ (2 ^ 63 - 1) / k := Int.le_ediv_of_mul_le (by omega) (by omega)
    omega
  · unfold Builtin.Str.tooLong
    simp
    omega
  · by_cases a : k < 1
    · rw [if_pos a]
      refine ⟨by decide, .str _, H, I.tok _, ⟨_, rfl⟩, ?_⟩
      have e : (⟨((List.replicate k.toNat z.cps.toList).flatten).toArray⟩ : Str) = Str.empty := by
        rw [show k.toNat = 0 by omega]; rfl
      rw [← e]; exact q
    · rw [if_neg a]
      by_cases b : (k == 1 || z.length == 0) = true
      · rw [if_pos b]
        refine ⟨.str z, H, I, ⟨_, rfl⟩, ?_⟩
        have e : (⟨((List.replicate k.toNat z.cps.toList).flatten).toArray⟩ : Str) = z := by
          simp only [Bool.or_eq_true, beq_iff_eq] at b
          rcases b with b | b
          · subst b; simp
          · have hz : z.cps = #[] := Array.eq_empty_of_size_eq_zero b
            obtain ⟨c⟩ := z
            simp only at hz
            subst hz
            simp
        rw [e] at q
        exact q
      · rw [if_neg b]
        refine ⟨?_, .str _, H, I.tok _, ⟨_, rfl⟩, ?_⟩
        · rw [fold_rep, T_len]
          have : ((List.replicate k.toNat z.cps.toList).flatten).length = k.toNat * z.length := by
            rw [List.length_flatten, List.map_replicate, List.sum_replicate_nat]
            rfl
          rw [this, Nat.mul_comm]
          omega
        · rw [fold_rep]; exact q
noncomputable def opMulA : D → D → Option D
  | .str z, .int k => if -1000 ≤ k ∧ k ≤ 1000 ∧ z.length ≤ 1000 then some (.str ⟨((List.replicate k.toNat z.cps.toList).flatten).toArray⟩) else none
  | a, b => opMul a b
def rMulA (K : PySem.W.Frag) : R2 := fun x y H Q => rMul K x y H Q ∨ rMulS x y H Q
theorem or_mulA {X : Cx} : OpR X (binaryOp .Mult) (rMulA X.K) := OpR.or or_mul op_mulS
theorem o_mulA {K : PySem.W.Frag} : Op2 K (rMulA K) opMulA := by
  intro B H x y a b d Q all ra rb e q
  by_cases hs : ∃ z k, a = .str z ∧ b = .int k
  · obtain ⟨z, k, rfl, rfl⟩ := hs
    have e' : (if -1000 ≤ k ∧ k ≤ 1000 ∧ z.length ≤ 1000 then some (.str ⟨((List.replicate k.toNat z.cps.toList).flatten).toArray⟩) else none) = some d := e
    split at e'
    · rename_i hz
      cases e'
      cases ra
      cases rb
      exact .inr ⟨z, k, rfl, rfl, hz.1, hz.2.1, hz.2.2, q _ H (Same.refl H) (.str _)⟩
    · cases e'
  · have e' : opMul a b = some d := by
      rw [← e]
      unfold opMulA
      split
      · rename_i z k; exact (hs ⟨z, k, rfl, rfl⟩).elim
      · rfl
    exact .inl (o_mul B H x y a b d Q all ra rb e' q)
@[simp] theorem x_mulA_i {i : Int} {b : D} : opMulA (.int i) b = opMul (.int i) b := rfl
@[simp] theorem x_mulA_l {ds : List D} {b : D} : opMulA (.list ds) b = opMul (.list ds) b := rfl
@[simp] theorem x_mulA_t {ds : List D} {b : D} : opMulA (.tuple ds) b = opMul (.tuple ds) b := rfl
theorem x_mulA_T {l : List Nat} {k : Int} (h0 : -1000 ≤ k) (h1 : k ≤ 1000) (h2 : l.length ≤ 1000) : opMulA (T l) (.int k) = some (T (List.replicate k.toNat l).flatten) := by
  show (if -1000 ≤ k ∧ k ≤ 1000 ∧ (⟨l.toArray⟩ : Str).length ≤ 1000 then some (PyData.str ⟨((List.replicate k.toNat l).flatten).toArray⟩) else none) = _
  rw [T_len, if_pos ⟨h0, h1, h2⟩]
  rfl
end G
namespace G
open PySem PySem.Spec PyProof.Rows L2
theorem add_T {a b : List Nat} (h : a.length + b.length ≤ 16777216) : opAdd (T a) (T b) = some (T (a ++ b)) := by rw [x_add_T, if_pos (size_ok h)]
theorem add_t {xs ys : List D} (h : xs.length + ys.length ≤ 16777216) : opAdd (.tuple xs) (.tuple ys) = some (.tuple (xs ++ ys)) := by rw [x_add_tup, if_pos (size_ok h)]
theorem add_l {xs ys : List D} (h : xs.length + ys.length ≤ 16777216) : opAdd (.list xs) (.list ys) = some (.list (xs ++ ys)) := by rw [x_add_lst, if_pos (size_ok h)]
end G

/-! any of ints -/
namespace G
open PySem PySem.Spec PyProof.Rows L2
theorem truth_ints {prog : Program} {w : World} {A : Around} {ns : List Int} {its : List Value} (rv : Vals (ns.map V.int) its) :
    TruthOf prog w A (fun i v => its.toArray[i]? = some v) (fun i => (ns.getD i 0) != 0) := fun i v s Q E hv hq => by
  have hv' : its[i]? = some v := by simpa using hv
  obtain ⟨x, hx, r⟩ := vals_back1 rv hv'
  rw [List.getElem?_map] at hx
  obtain ⟨k, hk, rfl⟩ := Option.map_eq_some_iff.mp hx
  obtain ⟨t, rfl⟩ := r
  have hg : ns.getD i 0 = k := by rw [List.getD_eq_getElem?_getD, hk] <;> rfl
  have hq' : Q ((ns.getD i 0) != 0) s := hq
  rw [hg] at hq'
  exact PySem.P.truthy_int hq'
theorem any_rangeI : ∀ ns : List Int, (List.range ns.length).any (fun i => (ns.getD i 0) != 0) = ns.any fun k => k != 0
  | [] => rfl
  | b :: bs => by
    rw [List.length_cons, List.range_succ_eq_map, List.any_cons, List.any_map, List.any_cons, ← any_rangeI bs]
    all_goals rfl
def rAnyI (K : PySem.W.Frag) : List V → Hp → VK → Prop := fun vs H Q => ∃ (a : Addr) (ns : List Int), vs = [V.ref a] ∧ SqL K H a (ns.map V.int) ∧ Q (.bl (ns.any fun k => k != 0)) H
theorem cr_anyI {X : Cx} (hc : X.calm = true) : CallR X (.builtin "any") (rAnyI X.K) := by
  intro pins s σ H vs us Q I r h
  obtain ⟨a, ns, rfl, hs, q⟩ := h
  obtain ⟨its, rv, hl, _⟩ := I.list hs
  rw [Vals.ref1 r]
  refine call_any_walk (iter_any hl.isList fun s₂ e2 st hne => ?_)
  subst e2
  refine ⟨_, _, _, _, _, _, _, rfl, Walks.list (A := X.A.in1) (I.ok.hd hc) _ a hne its.toArray, st, truth_ints rv, fun h' tk hk => ?_⟩
  refine ⟨.bl _, H, I.kept fun b o eo => hk b o (fun hmem => ?_) (Heap.get?_push_of_some _ eo), ?_, q⟩
  · rcases List.mem_cons.mp hmem with e1 | hmem
    · exact absurd (e1 ▸ Heap.lt_size eo) (Nat.lt_irrefl _)
    · cases hmem
  · show Value.bool _ = Value.bool _
    have := rv.length
    rw [List.length_map] at this
    rw [← any_rangeI, this, List.size_toArray]
def fAnyA : List D → Option D
  | [.list ds] => match boolsOf ds with
    | some bs => some (.bool (bs.any id))
    | none => (intsD ds).map fun ns => .bool (ns.any fun k => k != 0)
  | _ => none
theorem o_anyA {K : PySem.W.Frag} : OpN K (fun xs H Q => rAny K xs H Q ∨ rAnyI K xs H Q) fAnyA := by
  intro B H xs as d Q all r e q
  cases r with
  | nil => cases e
  | @cons v vs a as r1 r2 =>
    cases r2 with
    | nil =>
      cases r1 with
      | @lst p xs ds h1 h2 =>
        cases z : boolsOf ds with
        | none =>
          cases y : intsD ds with
          | none => simp [fAnyA, z, y] at e
          | some ns =>
            simp [fAnyA, z, y] at e
            subst e
            rw [rep_ints h2 y] at h1
            exact .inr ⟨p, ns, rfl, .inl (.inl (hid_sub h1)), q _ H (Same.refl H) (.bl _)⟩
        | some bs =>
          simp [fAnyA, z] at e
          subst e
          rw [boolsOf_eq z] at h2
          rw [h2.bools] at h1
          exact .inl ⟨p, bs, rfl, .inl (.inl (hid_sub h1)), q _ H (Same.refl H) (.bl _)⟩
      | _ => cases e
    | cons _ _ => unfold fAnyA at e; cases r1 <;> cases e
theorem cr_anyA {X : Cx} (hc : X.calm = true) : CallR X (.builtin "any") (fun xs H Q => rAny X.K xs H Q ∨ rAnyI X.K xs H Q) := CallR.or (cr_any hc) (cr_anyI hc)
@[simp] theorem x_anyA {bs : List Bool} : fAnyA [.list (bs.map PyData.bool)] = some (.bool (bs.any id)) := by simp [fAnyA, boolsOf_map]
theorem x_anyA_f {α : Type} {p : α → Bool} {l : List α} : fAnyA [.list (l.map fun a => .bool (p a))] = some (.bool (l.any p)) := by
  have := x_anyA (bs := l.map p)
  rw [List.map_map, List.any_map] at this
  exact this
theorem x_anyA_n {α : Type} {f : α → Nat} {l : List α} : fAnyA [.list (l.map fun a => encN (f a))] = some (.bool (l.any fun a => decide (f a ≠ 0))) := by
  cases l with
  | nil => rfl
  | cons a r =>
    have hb : boolsOf ((a :: r).map fun a => encN (f a)) = none := rfl
    have hi : intsD ((a :: r).map fun a => encN (f a)) = some ((a :: r).map fun a => (f a : Int)) := by
      have := intsD_map ((a :: r).map fun a => (f a : Int))
      rw [List.map_map] at this
      exact this
    have e : fAnyA [.list ((a :: r).map fun a => encN (f a))] = match boolsOf ((a :: r).map fun a => encN (f a)) with
      | some bs => some (.bool (bs.any id))
      | none => (intsD ((a :: r).map fun a => encN (f a))).map fun ns => .bool (ns.any fun k => k != 0) := rfl
    rw [e, hb, hi]
    simp only [Option.map_some, List.any_map]
    congr 3
    funext b
    show ((f b : Int) != 0) = decide (f b ≠ 0)
    rw [Bool.eq_iff_iff]
    simp
    try omega
theorem zipD_map {α β : Type} (f : α → D) (g : β → D) : ∀ (a : List α) (b : List β), zipD (a.map f) (b.map g) = (a.zip b).map fun p => .tuple [f p.1, g p.2]
  | [], _ => by simp [zipD]
  | _ :: _, [] => by simp [zipD]
  | x :: a, y :: b => by
    rw [List.map_cons, List.map_cons, List.zip_cons_cons, List.map_cons, ← zipD_map f g a b]
    rfl
@[simp] theorem x_zip_ll {xs ys : List D} : fZip [.list xs, .list ys] = some (zipD xs ys) := rfl
@[simp] theorem x_zip_lt {xs ys : List D} : fZip [.list xs, .tuple ys] = some (zipD xs ys) := rfl
@[simp] theorem x_zip_tl {xs ys : List D} : fZip [.tuple xs, .list ys] = some (zipD xs ys) := rfl
end G

/-! isinstance(x, T) -/
namespace G
open PySem PySem.Spec PyProof.Rows L2
def kindD : D → String
  | .none => "NoneType"
  | .bool _ => "bool"
  | .int _ => "int"
  | .str _ => "str"
  | .list _ => "list"
  | .tuple _ => "tuple"
  | .dict _ => "dict"
def isStr : D → Bool | .str _ => true | _ => false
def isInt : D → Bool | .int _ => true | .bool _ => true | _ => false
def isBool : D → Bool | .bool _ => true | _ => false
def isTup : D → Bool | .tuple _ => true | _ => false
def isLst : D → Bool | .list _ => true | _ => false
theorem kb_str_NoneType : kitB "NoneType" "str" = some false := by decide +kernel
theorem kb_str_bool : kitB "bool" "str" = some false := by decide +kernel
theorem kb_str_int : kitB "int" "str" = some false := by decide +kernel
theorem kb_str_str : kitB "str" "str" = some true := by decide +kernel
theorem kb_str_list : kitB "list" "str" = some false := by decide +kernel
theorem kb_str_tuple : kitB "tuple" "str" = some false := by decide +kernel
theorem kb_str_dict : kitB "dict" "str" = some false := by decide +kernel
theorem kb_int_NoneType : kitB "NoneType" "int" = some false := by decide +kernel
theorem kb_int_bool : kitB "bool" "int" = some true := by decide +kernel
theorem kb_int_int : kitB "int" "int" = some true := by decide +kernel
theorem kb_int_str : kitB "str" "int" = some false := by decide +kernel
theorem kb_int_list : kitB "list" "int" = some false := by decide +kernel
theorem kb_int_tuple : kitB "tuple" "int" = some false := by decide +kernel
theorem kb_int_dict : kitB "dict" "int" = some false := by decide +kernel
theorem kb_bool_NoneType : kitB "NoneType" "bool" = some false := by decide +kernel
theorem kb_bool_bool : kitB "bool" "bool" = some true := by decide +kernel
theorem kb_bool_int : kitB "int" "bool" = some false := by decide +kernel
theorem kb_bool_str : kitB "str" "bool" = some false := by decide +kernel
theorem kb_bool_list : kitB "list" "bool" = some false := by decide +kernel
theorem kb_bool_tuple : kitB "tuple" "bool" = some false := by decide +kernel
theorem kb_bool_dict : kitB "dict" "bool" = some false := by decide +kernel
theorem kb_tuple_NoneType : kitB "NoneType" "tuple" = some false := by decide +kernel
theorem kb_tuple_bool : kitB "bool" "tuple" = some false := by decide +kernel
theorem kb_tuple_int : kitB "int" "tuple" = some false := by decide +kernel
theorem kb_tuple_str : kitB "str" "tuple" = some false := by decide +kernel
theorem kb_tuple_list : kitB "list" "tuple" = some false := by decide +kernel
theorem kb_tuple_tuple : kitB "tuple" "tuple" = some true := by decide +kernel
theorem kb_tuple_dict : kitB "dict" "tuple" = some false := by decide +kernel
theorem kb_list_NoneType : kitB "NoneType" "list" = some false := by decide +kernel
theorem kb_list_bool : kitB "bool" "list" = some false := by decide +kernel
theorem kb_list_int : kitB "int" "list" = some false := by decide +kernel
theorem kb_list_str : kitB "str" "list" = some false := by decide +kernel
theorem kb_list_list : kitB "list" "list" = some true := by decide +kernel
theorem kb_list_tuple : kitB "tuple" "list" = some false := by decide +kernel
theorem kb_list_dict : kitB "dict" "list" = some false := by decide +kernel
theorem kd_str : ∀ d : D, kitB (kindD d) "str" = some (isStr d)
  | .none => kb_str_NoneType
  | .bool _ => kb_str_bool
  | .int _ => kb_str_int
  | .str _ => kb_str_str
  | .list _ => kb_str_list
  | .tuple _ => kb_str_tuple
  | .dict _ => kb_str_dict
theorem kd_int : ∀ d : D, kitB (kindD d) "int" = some (isInt d)
  | .none => kb_int_NoneType
  | .bool _ => kb_int_bool
  | .int _ => kb_int_int
  | .str _ => kb_int_str
  | .list _ => kb_int_list
  | .tuple _ => kb_int_tuple
  | .dict _ => kb_int_dict
theorem kd_bool : ∀ d : D, kitB (kindD d) "bool" = some (isBool d)
  | .none => kb_bool_NoneType
  | .bool _ => kb_bool_bool
  | .int _ => kb_bool_int
  | .str _ => kb_bool_str
  | .list _ => kb_bool_list
  | .tuple _ => kb_bool_tuple
  | .dict _ => kb_bool_dict
theorem kd_tuple : ∀ d : D, kitB (kindD d) "tuple" = some (isTup d)
  | .none => kb_tuple_NoneType
  | .bool _ => kb_tuple_bool
  | .int _ => kb_tuple_int
  | .str _ => kb_tuple_str
  | .list _ => kb_tuple_list
  | .tuple _ => kb_tuple_tuple
  | .dict _ => kb_tuple_dict
theorem kd_list : ∀ d : D, kitB (kindD d) "list" = some (isLst d)
  | .none => kb_list_NoneType
  | .bool _ => kb_list_bool
  | .int _ => kb_list_int
  | .str _ => kb_list_str
  | .list _ => kb_list_list
  | .tuple _ => kb_list_tuple
  | .dict _ => kb_list_dict
theorem rep_ty {K : PySem.W.Frag} {B : List Addr} {H : Hp} {v : V} {d : D} (r : Rep K (hid B H) v d) : TyX K H v (.type (kindD d)) := by
  cases r with
  | non => exact .base .non
  | bl b => exact .base (.bl b)
  | int i => exact .base (.int i)
  | str x => exact .base (.str x)
  | lst h1 h2 => exact .base (.lst (hid_some h1).2)
  | tup h1 h2 =>
    rcases h1 with ⟨o, h, _⟩ | ⟨o, us, n, h, hc, _⟩
    · exact .fTuple (hid_some h).2
    · exact .kTuple h hc
section
variable {X : Cx} {ca : String → Addr} {W : WX} {e : Expr} {g : M D}
theorem ev_isi {n : String} {nm : Str} {f : D → Bool} {p p2 pos : Pos} (hf : ∀ d, kitB (kindD d) n = some (f d)) (hg : Gl X "isinstance") (hm : X.mg "isinstance" = none) (hg2 : Gl X nm) (hm2 : X.mg nm = none) (hv2 : bootBuiltins nm = some (.type n)) (he : PE X e (tG X.K ca W g))
    (h1 : starEach [e, .Name nm p2] X.env = (false, eval e X.env) :: starEach [.Name nm p2] X.env := by rfl) (h2 : starEach [.Name nm p2] X.env = (false, eval (.Name nm p2) X.env) :: starEach [] X.env := by rfl)
    (hpl : (backTo pos (starEach [.Name nm p2] X.env)).any (·.1) = false := by rfl) (hn : nm ≠ "__name__" := by decide) (hd : (nm == ("__debug__" : Str)) = false := by decide) (hv : bootBuiltins "isinstance" = some (.builtin "isinstance") := by decide +kernel) :
    PE X (.Call (.Name "isinstance" p) [e, .Name nm p2] [] pos) (tG X.K ca W (c1 (fun d => some (.bool (f d))) g)) :=
  PE.weak (pe_callB call_isi hg hm hv (pa_cons he (pa_cons (pe_bltn (v := .ty n) hg2 hm2 hv2 rfl hn hd) pa_nil h2) h1) (by decide) (by decide) h1 hpl) fun σ H Q ⟨c, ρ, k, S, h⟩ =>
    ⟨c, ρ, k, S, (Res.post_bind h).mono (fun d n1 h1 v H1 g1 r1 => ⟨v, .ty n, .type (kindD d), .type n, f d, rfl, .ty n, rep_ty r1, kit_ty (hf d), h1 (.bl (f d)) H1 g1 (.bl (f d))⟩) (fun e m h => h)⟩
end
@[simp] theorem t_isStr {x : Str} : isStr (.str x) = true := rfl
@[simp] theorem t_isStrT {l : List Nat} : isStr (T l) = true := rfl
@[simp] theorem t_isTup {l : List D} : isTup (.tuple l) = true := rfl
@[simp] theorem t_isInt {i : Int} : isInt (.int i) = true := rfl
@[simp] theorem t_isBool {b : Bool} : isBool (.bool b) = true := rfl
end G

/-! the cursor: attributes, lists, methods -/
namespace G
open PySem PySem.Spec PyProof.Rows L2
/-! ### lists that bear the cursor, thawed -/
section
variable {X : Cx} {pins : List (Addr × Obj)} {σ : L2.St} {H : Hp} {s : Shared} {a : Addr} {vs : List V}
theorem Inv.thaw (I : Inv X pins σ H s) (e : H a = some (.ext (CurL a vs))) : Inv X pins σ (upd H a (.lst vs)) s := by
  have h := I.hok a _ e
  exact I.write (x := a) (e := a) (t' := s.toks) (h' := s.heap) (by rw [e]; trivial) (.inl rfl) (fun b u _ q => q) h.2.1 h.1
theorem Inv.cool (I : Inv X pins σ H s) (e : H a = some (.lst vs)) : Inv X pins σ (upd H a (.ext (CurL a vs))) s := by
  have h : ObjOk X.prog X.w H s.heap a (.lst vs) := I.hok a _ e
  have h2 : CurL a vs s.heap := h
  obtain ⟨hz, its, n, hv, hg⟩ := h
  exact I.write (x := a) (e := a) (t' := s.toks) (h' := s.heap) (by rw [e]; trivial) (.inl rfl) (fun b u _ q => q) ⟨_, hg⟩ ⟨h2, ⟨_, hg⟩, fun h1 h2 ⟨z, its, n, v, g⟩ k => ⟨z, its, n, v, k _ g⟩⟩
end
section
variable {X : Cx} {st : Stmt} {e : Expr}
theorem PS.thaw {t : TS} (h : PS X st t) : PS X st (fun D σ H => ∃ a vs, H a = some (.ext (CurL a vs)) ∧ t D σ (upd H a (.lst vs))) :=
  ⟨fun pins s σ H D I ⟨a, vs, e, q⟩ => h.run pins s σ _ D (Inv.thaw I e) q⟩
theorem PT.thaw {t : TT} (h : PT X e t) : PT X e (fun σ H Q => ∃ a vs, H a = some (.ext (CurL a vs)) ∧ t σ (upd H a (.lst vs)) Q) :=
  ⟨fun pins s σ H Q I ⟨a, vs, e, q⟩ => h.run pins s σ _ Q (Inv.thaw I e) q⟩
theorem PS.cool {t : TS} (h : PS X st t) : PS X st (fun D σ H => t { D with nx := fun σ' H' => ∃ a vs, H' a = some (.lst vs) ∧ D.nx σ' (upd H' a (.ext (CurL a vs))) } σ H) :=
  ⟨fun pins s σ H D I q => thn (h.run pins s σ H _ I q) fun f s' hf => by
    cases f with
    | next =>
      obtain ⟨σ', H', I', a, vs, e, q'⟩ := hf
      exact ⟨σ', _, Inv.cool I' e, q'⟩
    | brk => exact hf
    | cont => exact hf
    | ret u => exact hf⟩
theorem PT.cool {t : TT} (h : PT X e t) : PT X e (fun σ H Q => t σ H (fun b H' => ∃ a vs, H' a = some (.lst vs) ∧ Q b (upd H' a (.ext (CurL a vs))))) :=
  ⟨fun pins s σ H Q I q => thn (h.run pins s σ H _ I q) fun b s' hf => by
    obtain ⟨H', I', a, vs, e, q'⟩ := hf
    exact ⟨_, Inv.cool I' e, q'⟩⟩
end
theorem thaw_cool {H : Hp} {a : Addr} {vs : List V} (e : H a = some (.ext (CurL a vs))) : upd (upd H a (.lst vs)) a (.ext (CurL a vs)) = H := by
  rw [upd_upd]
  funext b
  by_cases h : b = a
  · subst h; rw [upd_same, e]
  · rw [upd_ne h]
/-! ### the class -/
structure CurCls (K : PySem.W.Frag) (C : Addr) : Prop where
  c : CurC K C
  cls : Cls K C
  kinds : NoAttr K C "kinds"
  rules : NoAttr K C "rules"
  words : NoAttr K C "words"
  now : NoAttr K C "now"
  before : NoAttr K C "before"
  later : NoAttr K C "later"
theorem CurCls.is {K : PySem.W.Frag} {C C' : Addr} (h : CurCls K C) (h' : CurC K C') : C' = C := by
  have := (show PySem.W.nsIn K mainGlobals "Cursor" = some (some (.ref C)) from h.c).symm.trans (show PySem.W.nsIn K mainGlobals "Cursor" = some (some (.ref C')) from h')
  simpa using this.symm
section
variable {K : PySem.W.Frag} {c : Fm} {σ : L2.St} {H H' : Hp} {ρ : G.Env} {n : Nat}
/-- tuples are seen -/
theorem SR.tups (S : SR K c σ H ρ n) : ∀ a o, tupH H a = some o → hid c.B H a = some o := fun a o h => by
  obtain ⟨h1, h2⟩ := tupH_some h
  refine hid_of (fun hb => ?_) h1 (tup_cur h2)
  rw [S.nt a hb o h1] at h2
  cases h2
theorem rep_tupH {B : List Addr} {v : V} {d : D} (hn : noList d = true) (r : Rep K (hid B H) v d) : Rep K (tupH H) v d := by
  refine Rep.noList (fun a => ⟨fun xs h => ?_, fun o xs h => ?_⟩) d v hn r
  · exact tupH_of (hid_some h).2 rfl
  · exact tupH_of (hid_some h).2 rfl
/-- where the cursor lies -/
theorem SR.at (S : SR K c σ H ρ n) {q : CurS} (hq : cq n = some q) : CuAt K H (cuOf c.B) q := by
  have := S.cur
  rw [S.rk] at this
  exact this.c q hq
/-- the other one stays where the one at hand changes -/
theorem pk_keep {x y C dx b l C' dx' b' l' : Addr} {vk vr vw vn vk' vr' vw' vn' : V} {us vs : List V} {q : CurS} (hD : Dsj H x y) (hx : H x = some (.ins C dx (curF vk vr vw vn b l))) (hb : H b = some (.ext (CurL b us))) (hl : H l = some (.ext (CurL l vs))) (hy : CuAt K H y q)
    (hs : ∀ a, a ≠ x → a ≠ b → a ≠ l → ∀ o, H a = some o → H' a = some o) (hx' : H' x = some (.ins C' dx' (curF vk' vr' vw' vn' b' l'))) (hb' : b' = b ∨ H b' = none) (hl' : l' = l ∨ H l' = none) : CuAt K H' y q ∧ Dsj H' x y := by
  obtain ⟨C2, dx2, b2, l2, wk, wr, ww, wn, us2, vs2, k1, k2, k3, k4, k5, r1, r2, r3, r4, r5, r6⟩ := hy
  obtain ⟨d1, d2⟩ := hD
  obtain ⟨e1, e2, e3, e4⟩ := d2 _ _ _ _ _ _ _ _ _ _ _ _ _ _ _ _ hx k3
  have m : ∀ a o, tupH H a = some o → tupH H' a = some o := tupH_mono fun a o z t => hs a (fun e => by rw [e, hx] at z; cases z; cases t) (fun e => by rw [e, hb] at z; cases z; cases t) (fun e => by rw [e, hl] at z; cases z; cases t) o z
  have k3' : H' y = some (.ins C2 dx2 (curF wk wr ww wn b2 l2)) := hs y d1.symm (fun e => by rw [e, hb] at k3; cases k3) (fun e => by rw [e, hl] at k3; cases k3) _ k3
  have k4' : H' b2 = some (.ext (CurL b2 us2)) := hs b2 (fun e => by rw [e, hx] at k4; cases k4) e1.symm e3.symm _ k4
  have k5' : H' l2 = some (.ext (CurL l2 vs2)) := hs l2 (fun e => by rw [e, hx] at k5; cases k5) e2.symm e4.symm _ k5
  refine ⟨⟨C2, dx2, b2, l2, wk, wr, ww, wn, us2, vs2, k1, k2, k3', k4', k5', Rep.mono m _ _ r1, Rep.mono m _ _ r2, Rep.mono m _ _ r3, Rep.mono m _ _ r4, Rep.monoAll m _ _ r5, Rep.monoAll m _ _ r6⟩, d1, fun A1 A2 A3 A4 A5 A6 A7 A8 u1 u2 u3 u4 u5 u6 u7 u8 z1 z2 => ?_⟩
  rw [hx'] at z1
  rw [k3'] at z2
  cases z1
  cases z2
  have nb : ∀ z w : Addr, (z = w → False) → z ≠ w := fun _ _ h => h
  refine ⟨?_, ?_, ?_, ?_⟩
  · rcases hb' with e | e
    · rw [e]; exact e1
    · exact fun z => by rw [z, k4] at e; cases e
  · rcases hb' with e | e
    · rw [e]; exact e2
    · exact fun z => by rw [z, k5] at e; cases e
  · rcases hl' with e | e
    · rw [e]; exact e3
    · exact fun z => by rw [z, k4] at e; cases e
  · rcases hl' with e | e
    · rw [e]; exact e4
    · exact fun z => by rw [z, k5] at e; cases e
/-- the cursor changed -/
theorem SR.gcu (S : SR K c σ H ρ n) {q0 q : CurS} (hq0 : cq n = some q0) (hk : ∀ a o, H a = some o → curK o = false → H' a = some o) (hck : ∀ a o, H a = some o → curK o = true → ∃ o', H' a = some o' ∧ curK o' = true)
    (hins : ∀ a C dx fs, H a = some (.ins C dx fs) → ∃ fs', H' a = some (.ins C dx fs')) {C dx b l C' dx' b' l' : Addr} {vk vr vw vn vk' vr' vw' vn' : V} {us vs : List V}
    (hx : H (cuOf c.B) = some (.ins C dx (curF vk vr vw vn b l))) (hb : H b = some (.ext (CurL b us))) (hl : H l = some (.ext (CurL l vs))) (hs : ∀ a, a ≠ cuOf c.B → a ≠ b → a ≠ l → ∀ o, H a = some o → H' a = some o)
    (hx' : H' (cuOf c.B) = some (.ins C' dx' (curF vk' vr' vw' vn' b' l'))) (hb' : b' = b ∨ H b' = none) (hl' : l' = l ∨ H l' = none) (hq : CuAt K H' (cuOf c.B) q) : Gx c H (cset n q) H' := by
  have ok := S.cur
  rw [S.rk] at ok
  refine ⟨⟨fun a o h _ k => hk a o h k, hck, hins⟩, ?_, ?_⟩
  · rw [zer_mod (cset_mod n q)]
    exact hk _ _ S.town rfl
  · rw [S.rk]
    refine ⟨fun p e => ?_, fun p e => ?_, fun p r _ e => ?_⟩
    · rw [cq_cset] at e
      cases e
      exact hq
    · rw [pq_cset] at e
      exact (pk_keep (ok.d _ _ hq0 e) hx hb hl (ok.p _ e) hs hx' hb' hl').1
    · rw [pq_cset] at e
      exact (pk_keep (ok.d _ _ hq0 e) hx hb hl (ok.p _ e) hs hx' hb' hl').2
theorem upd_cur {a : Addr} {o o' : HO} (h : H a = some o) (hk : curK o = true) (hk' : curK o' = true) (hi : ∀ C dx fs, o = .ins C dx fs → ∃ fs', o' = .ins C dx fs') :
    (∀ b u, H b = some u → curK u = false → upd H a o' b = some u) ∧ (∀ b u, H b = some u → curK u = true → ∃ u', upd H a o' b = some u' ∧ curK u' = true) ∧ (∀ b C dx fs, H b = some (.ins C dx fs) → ∃ fs', upd H a o' b = some (.ins C dx fs')) := by
  refine ⟨fun b u hb k => ?_, fun b u hb k => ?_, fun b C dx fs hb => ?_⟩
  · rw [upd_ne (fun z => by rw [z, h] at hb; cases hb; rw [hk] at k; cases k)]
    exact hb
  · by_cases z : b = a
    · subst z
      exact ⟨o', upd_same, hk'⟩
    · exact ⟨u, by rw [upd_ne z]; exact hb, k⟩
  · by_cases z : b = a
    · subst z
      rw [h] at hb
      cases hb
      obtain ⟨fs', e⟩ := hi _ _ _ rfl
      exact ⟨fs', by rw [upd_same, e]⟩
    · exact ⟨fs, by rw [upd_ne z]; exact hb⟩
theorem tupH_upd {a : Addr} {o o' : HO} (h : H a = some o) (hk : curK o = true) : ∀ b u, tupH H b = some u → tupH (upd H a o') b = some u := fun b u q => by
  obtain ⟨q1, q2⟩ := tupH_some q
  refine tupH_of ?_ q2
  rw [upd_ne (fun z => by rw [z, h] at q1; cases q1; rw [tup_cur q2] at hk; cases hk)]
  exact q1
end
/-! ### attributes -/
noncomputable def cFld (i : Nat) (f : CurS → D) : M D := fun ρ n => match ρ[i]? with
  | some (some .cur) => (match cq n with
    | some q => .ok (f q) n
    | none => .bad)
  | _ => .bad
theorem fld_post {i : Nat} {f : CurS → D} {ρ : G.Env} {n : Nat} {P : D → Nat → Prop} {E : String → Nat → Prop} (h : (cFld i f ρ n).Post P E) : ρ[i]? = some (some .cur) ∧ ∃ q, cq n = some q ∧ P (f q) n := by
  unfold cFld at h
  split at h
  · rename_i e
    split at h
    · rename_i q hq
      exact ⟨e, q, hq, h⟩
    · exact h.elim
  · exact h.elim
section
variable {X : Cx} {ca : String → Addr} {W : WX} {e : Expr} {g : M D} {pos p1 p2 p3 p4 p5 apos cpos : Pos} {x : Str} {C : Addr}
theorem ev_fldG (i : Nat) {nm : Str} {f : CurS → D} (k : CurCls X.K C) (hn : NoAttr X.K C nm) (hf : ∀ (H : Hp) (vk vr vw vn : V) (b l : Addr) (q : CurS), Rep X.K (tupH H) vk q.kd → Rep X.K (tupH H) vr q.rl → Rep X.K (tupH H) vw q.wd → Rep X.K (tupH H) vn q.now → ∃ v, (curF vk vr vw vn b l).lookup nm = some v ∧ Rep X.K (tupH H) v (f q))
    (hN : X.N[i]? = some x := by rfl) (hv : Vis X.env.scope x := by first | exact Or.inl rfl | exact Or.inr (Or.inl rfl) | exact Or.inr (Or.inr rfl)) (hd : (x == ("__debug__" : Str)) = false := by decide)
    (hcd : (x == ("__classdict__" : Str)) = false := by decide) (hb : attributeBase (.Name x p1) nm X.env (eval (.Name x p1) X.env) = eval (.Name x p1) X.env := by rfl) : PE X (.Attribute (.Name x p1) nm pos) (tG X.K ca W (cFld i f)) :=
  PE.weak (pe_fld (pe_var hN hv hd hcd) hb) fun σ H Q ⟨c, ρ, n, S, h⟩ => by
    obtain ⟨e, q, hq, h⟩ := fld_post h
    obtain ⟨v, hσ, rfl, _⟩ := S.slot i _ e
    obtain ⟨C', dx, b, l, vk, vr, vw, vn, us, vs, h1, h2, h3, h4, h5, r1, r2, r3, r4, r5, r6⟩ := S.at hq
    have eC := k.is h1
    subst eC
    obtain ⟨u, hl, hr⟩ := hf H vk vr vw vn b l q r1 r2 r3 r4
    exact ⟨_, hσ, _, C', dx, _, u, rfl, h3, k.cls, hn, hl, h u H S.gx (Rep.mono S.tups _ _ hr)⟩
theorem ev_kinds (i : Nat) (k : CurCls X.K C) (hN : X.N[i]? = some x := by rfl) (hv : Vis X.env.scope x := by first | exact Or.inl rfl | exact Or.inr (Or.inl rfl) | exact Or.inr (Or.inr rfl)) (hd : (x == ("__debug__" : Str)) = false := by decide)
    (hcd : (x == ("__classdict__" : Str)) = false := by decide) (hb : attributeBase (.Name x p1) "kinds" X.env (eval (.Name x p1) X.env) = eval (.Name x p1) X.env := by rfl) : PE X (.Attribute (.Name x p1) "kinds" pos) (tG X.K ca W (cFld i CurS.kd)) :=
  ev_fldG i k k.kinds (fun H vk vr vw vn b l q r1 r2 r3 r4 => ⟨vk, rfl, r1⟩) hN hv hd hcd hb
theorem ev_rules (i : Nat) (k : CurCls X.K C) (hN : X.N[i]? = some x := by rfl) (hv : Vis X.env.scope x := by first | exact Or.inl rfl | exact Or.inr (Or.inl rfl) | exact Or.inr (Or.inr rfl)) (hd : (x == ("__debug__" : Str)) = false := by decide)
    (hcd : (x == ("__classdict__" : Str)) = false := by decide) (hb : attributeBase (.Name x p1) "rules" X.env (eval (.Name x p1) X.env) = eval (.Name x p1) X.env := by rfl) : PE X (.Attribute (.Name x p1) "rules" pos) (tG X.K ca W (cFld i CurS.rl)) :=
  ev_fldG i k k.rules (fun H vk vr vw vn b l q r1 r2 r3 r4 => ⟨vr, rfl, r2⟩) hN hv hd hcd hb
theorem ev_words (i : Nat) (k : CurCls X.K C) (hN : X.N[i]? = some x := by rfl) (hv : Vis X.env.scope x := by first | exact Or.inl rfl | exact Or.inr (Or.inl rfl) | exact Or.inr (Or.inr rfl)) (hd : (x == ("__debug__" : Str)) = false := by decide)
    (hcd : (x == ("__classdict__" : Str)) = false := by decide) (hb : attributeBase (.Name x p1) "words" X.env (eval (.Name x p1) X.env) = eval (.Name x p1) X.env := by rfl) : PE X (.Attribute (.Name x p1) "words" pos) (tG X.K ca W (cFld i CurS.wd)) :=
  ev_fldG i k k.words (fun H vk vr vw vn b l q r1 r2 r3 r4 => ⟨vw, rfl, r3⟩) hN hv hd hcd hb
theorem ev_now (i : Nat) (k : CurCls X.K C) (hN : X.N[i]? = some x := by rfl) (hv : Vis X.env.scope x := by first | exact Or.inl rfl | exact Or.inr (Or.inl rfl) | exact Or.inr (Or.inr rfl)) (hd : (x == ("__debug__" : Str)) = false := by decide)
    (hcd : (x == ("__classdict__" : Str)) = false := by decide) (hb : attributeBase (.Name x p1) "now" X.env (eval (.Name x p1) X.env) = eval (.Name x p1) X.env := by rfl) : PE X (.Attribute (.Name x p1) "now" pos) (tG X.K ca W (cFld i CurS.now)) :=
  ev_fldG i k k.now (fun H vk vr vw vn b l q r1 r2 r3 r4 => ⟨vn, rfl, r4⟩) hN hv hd hcd hb
theorem put_now {vk vr vw vn y : V} {b l : Addr} : putF "now" y (curF vk vr vw vn b l) = curF vk vr vw y b l := rfl
theorem put_later {vk vr vw vn : V} {b l l' : Addr} : putF "later" (.ref l') (curF vk vr vw vn b l) = curF vk vr vw vn b l' := rfl
/-- self.now = e -/
noncomputable def sNow (i : Nat) (g : M D) : MS := fun ρ n => ofR (g ρ n) ρ fun d n1 => match ρ[i]? with
  | some (some .cur) => (match cq n1 with
    | some q => if noList d = true then .nx ρ (cset n1 { q with now := d }) else .bad
    | none => .bad)
  | _ => .bad
theorem es_now (i : Nat) (k : CurCls X.K C) (he : PE X e (tG X.K ca W g)) (hN : X.N[i]? = some x := by rfl) (hv : Vis X.env.scope x := by first | exact Or.inl rfl | exact Or.inr (Or.inl rfl) | exact Or.inr (Or.inr rfl)) (hd : (x == ("__debug__" : Str)) = false := by decide)
    (hcd : (x == ("__classdict__" : Str)) = false := by decide) (hs : swapsWith e (some (.Attribute (.Name x p1) "now" p2)) pos.line X.env = pure false := by rfl) : PS X (.Assign [.Attribute (.Name x p1) "now" p2] e pos) (tS X.K ca W (sNow i g)) :=
  PS.weak (ps_fld (pe_var hN hv hd hcd) he hs) fun E σ H ⟨c, ρ, n, S, h⟩ => ⟨c, ρ, n, S, (post_ofR S h).mono (fun d n1 h1 y H1 g1 r1 => by
    have S1 := S.ext g1
    split at h1
    · rename_i es
      split at h1
      · rename_i q hq
        split at h1
        · rename_i hnl
          obtain ⟨v, hσ, rfl, _⟩ := S1.slot i _ es
          obtain ⟨C', dx, b, l, vk, vr, vw, vn, us, vs, h1', h2, h3, h4, h5, r1', r2, r3, r4, r5, r6⟩ := S1.at hq
          have eC := k.is h1'
          subst eC
          refine ⟨_, hσ, _, C', dx, _, rfl, h3, k.cls, k.now, (by show (6 : Nat) < 1000; decide), ?_⟩
          rw [put_now]
          obtain ⟨u1, u2, u3⟩ := upd_cur (o' := .ins C' dx (curF vk vr vw y b l)) h3 rfl rfl fun _ _ _ e => by cases e; exact ⟨_, rfl⟩
          have tm := tupH_upd (o' := .ins C' dx (curF vk vr vw y b l)) h3 rfl
          have g2 : Gx c H1 (cset n1 { q with now := d }) (upd H1 (cuOf c.B) (.ins C' dx (curF vk vr vw y b l))) := S1.gcu hq u1 u2 u3 h3 h4 h5 (fun a n1 _ _ o z => by rw [upd_ne n1]; exact z) upd_same (.inl rfl) (.inl rfl) ⟨C', dx, b, l, vk, vr, vw, y, us, vs, h1', h2, upd_same, by rw [upd_ne (fun z => by rw [z, h3] at h4; cases h4)]; exact h4,
            by rw [upd_ne (fun z => by rw [z, h3] at h5; cases h5)]; exact h5, Rep.mono tm _ _ r1', Rep.mono tm _ _ r2, Rep.mono tm _ _ r3, Rep.mono tm _ _ (rep_tupH hnl r1), Rep.monoAll tm _ _ r5, Rep.monoAll tm _ _ r6⟩
          exact h1 σ _ c.B (S1.ext g2) ((g1.trans g2).sees S.tB')
        · exact h1.elim
      · exact h1.elim
    · exact h1.elim) (fun e m h => h)⟩
end
end G

/-! the cursor's two lists -/
namespace G
open PySem PySem.Spec PyProof.Rows L2
theorem lst_last {K : PySem.W.Frag} {H : Hp} : ∀ {us : List V} {ds : List D} {d : D}, RepAll K H us ds → ds.getLast? = some d → ∃ y, us[us.length - 1]? = some y ∧ Rep K H y d ∧ RepAll K H us.dropLast ds.dropLast := fun {us ds d} r e => by
  have hl := r.length
  rw [List.getLast?_eq_getElem?] at e
  obtain ⟨y, h1, h2⟩ := r.get e
  refine ⟨y, by rw [hl]; exact h1, h2, ?_⟩
  rw [List.dropLast_eq_take, List.dropLast_eq_take, hl]
  exact r.take _
section
variable {X : Cx} {ca : String → Addr} {W : WX} {pos p1 p2 p3 p4 p5 apos cpos : Pos} {x : Str} {C : Addr}

/-- self.before.append(self.now) -/
noncomputable def sBefApp (i : Nat) : MS := fun ρ n => match ρ[i]? with
  | some (some .cur) => (match cq n with
    | some q => if q.bef.length < sizeLine then .nx ρ (cset n { q with bef := q.bef ++ [q.now] }) else .bad
    | none => .bad)
  | _ => .bad
theorem es_befApp (i : Nat) (k : CurCls X.K C) (hN : X.N[i]? = some x := by rfl) (hv : Vis X.env.scope x := by first | exact Or.inl rfl | exact Or.inr (Or.inl rfl) | exact Or.inr (Or.inr rfl)) (hd : (x == ("__debug__" : Str)) = false := by decide)
    (hcd : (x == ("__classdict__" : Str)) = false := by decide)
    (hb : attributeBase (.Name x p1) "before" X.env (eval (.Name x p1) X.env) = eval (.Name x p1) X.env := by rfl) (hb2 : attributeBase (.Name x p3) "now" X.env (eval (.Name x p3) X.env) = eval (.Name x p3) X.env := by rfl)
    (hfew : ((backTo cpos (starEach [(.Attribute (.Name x p3) "now" p4 : Expr)] X.env)).all (fun x => !x.1) && (backToKw cpos (keywordEach [] X.env)).all (fun x => x.1.isSome)
      && decide ([(.Attribute (.Name x p3) "now" p4 : Expr)].length + ([] : List Keyword).length + (if ([] : List Keyword).isEmpty then 0 else 1) < 30)) = true := by rfl)
    (hline : (apos.endLine == cpos.line) = true := by rfl) (hs : starEach [(.Attribute (.Name x p3) "now" p4 : Expr)] X.env = (false, eval (.Attribute (.Name x p3) "now" p4) X.env) :: starEach [] X.env := by rfl) (hplain : (backTo cpos (starEach [] X.env)).any (·.1) = false := by rfl)
    (hbase : attributeBase (.Attribute (.Name x p1) "before" p2) "append" X.env (eval (.Attribute (.Name x p1) "before" p2) X.env) = eval (.Attribute (.Name x p1) "before" p2) X.env := by rfl)
    (hsw : swapsWith (.Call (.Attribute (.Attribute (.Name x p1) "before" p2) "append" apos) [.Attribute (.Name x p3) "now" p4] [] cpos) none pos.line X.env = pure false := by rfl) :
    PS X (.Expr (.Call (.Attribute (.Attribute (.Name x p1) "before" p2) "append" apos) [.Attribute (.Name x p3) "now" p4] [] cpos) pos) (tS X.K ca W (sBefApp i)) :=
  PS.weak (PS.thaw (PS.cool (ps_expr (pe_bm PySem.F.plainAttrs_list PySem.F.slot_list_append PySem.F.type_list_append mt_append (pe_fld (pe_var hN hv hd hcd) hb) (pa_cons (pe_fld (pe_var hN hv hd hcd) hb2) pa_nil hs) hbase hfew hline hs hplain) hsw))) fun E σ H ⟨c, ρ, n, S, h⟩ => by
    unfold sBefApp at h
    split at h
    · rename_i es
      split at h
      · rename_i q hq
        split at h
        · rename_i hz
          obtain ⟨v, hσ, rfl, _⟩ := S.slot i _ es
          obtain ⟨C', dx, b, l, vk, vr, vw, vn, us, vs, h1', h2, h3, h4, h5, r1', r2, r3, r4, r5, r6⟩ := S.at hq
          have eC := k.is h1'
          subst eC
          have h3' : upd H b (.lst us) (cuOf c.B) = some (.ins C' dx (curF vk vr vw vn b l)) := by rw [upd_ne (fun z => by rw [z, h4] at h3; cases h3)]; exact h3
          refine ⟨b, us, h4, _, hσ, _, C', dx, _, .ref b, rfl, h3', k.cls, k.before, rfl, .inl ⟨rfl, _, .inl (.inl upd_same)⟩, _, hσ, _, C', dx, _, vn, rfl, h3', k.cls, k.now, rfl, b, us, vn, rfl, rfl, upd_same, by rw [r5.length]; exact hz, b, us ++ [vn], upd_same, ?_⟩
          rw [upd_upd, upd_upd]
          obtain ⟨u1, u2, u3⟩ := upd_cur (o' := .ext (CurL b (us ++ [vn]))) h4 rfl rfl fun _ _ _ e => by cases e
          have tm := tupH_upd (o' := .ext (CurL b (us ++ [vn]))) h4 rfl
          have g2 : Gx c H (cset n { q with bef := q.bef ++ [q.now] }) (upd H b (.ext (CurL b (us ++ [vn])))) := S.gcu hq u1 u2 u3 h3 h4 h5 (fun a _ n2 _ o z => by rw [upd_ne n2]; exact z) (by rw [upd_ne (fun z => by rw [z, h4] at h3; cases h3)]; exact h3) (.inl rfl) (.inl rfl) ⟨C', dx, b, l, vk, vr, vw, vn, us ++ [vn], vs, h1', h2, by rw [upd_ne (fun z => by rw [z, h4] at h3; cases h3)]; exact h3,
            upd_same, by rw [upd_ne (fun z => h2 z.symm)]; exact h5, Rep.mono tm _ _ r1', Rep.mono tm _ _ r2, Rep.mono tm _ _ r3, Rep.mono tm _ _ r4, (Rep.monoAll tm _ _ r5).append (.cons (Rep.mono tm _ _ r4) .nil), Rep.monoAll tm _ _ r6⟩
          exact h σ _ c.B (S.ext g2) (g2.sees S.tB')
        · exact h.elim
      · exact h.elim
    · exact h.elim
/-- self.now = self.before.pop() -/
noncomputable def sBefPop (i : Nat) : MS := fun ρ n => match ρ[i]? with
  | some (some .cur) => (match cq n with
    | some q => (match q.bef.getLast? with
      | some d => .nx ρ (cset n { q with now := d, bef := q.bef.dropLast })
      | none => .bad)
    | none => .bad)
  | _ => .bad
theorem es_befPop (i : Nat) (k : CurCls X.K C) (hN : X.N[i]? = some x := by rfl) (hv : Vis X.env.scope x := by first | exact Or.inl rfl | exact Or.inr (Or.inl rfl) | exact Or.inr (Or.inr rfl)) (hd : (x == ("__debug__" : Str)) = false := by decide)
    (hcd : (x == ("__classdict__" : Str)) = false := by decide)
    (hb : attributeBase (.Name x p3) "before" X.env (eval (.Name x p3) X.env) = eval (.Name x p3) X.env := by rfl)
    (hline : (apos.endLine == cpos.line) = true := by rfl)
    (hbase : attributeBase (.Attribute (.Name x p3) "before" p4) "pop" X.env (eval (.Attribute (.Name x p3) "before" p4) X.env) = eval (.Attribute (.Name x p3) "before" p4) X.env := by rfl)
    (hsw : swapsWith (.Call (.Attribute (.Attribute (.Name x p3) "before" p4) "pop" apos) [] [] cpos) (some (.Attribute (.Name x p1) "now" p2)) pos.line X.env = pure false := by rfl) :
    PS X (.Assign [.Attribute (.Name x p1) "now" p2] (.Call (.Attribute (.Attribute (.Name x p3) "before" p4) "pop" apos) [] [] cpos) pos) (tS X.K ca W (sBefPop i)) :=
  PS.weak (PS.thaw (PS.cool (ps_fld (pe_var hN hv hd hcd) (pe_bm0 PySem.F.plainAttrs_list PySem.F.slot_list_pop PySem.F.type_list_pop mt_pop (pe_fld (pe_var hN hv hd hcd) hb) hbase hline) hsw))) fun E σ H ⟨c, ρ, n, S, h⟩ => by
    unfold sBefPop at h
    split at h
    · rename_i es
      split at h
      · rename_i q hq
        split at h
        · rename_i d hlast
          obtain ⟨v, hσ, rfl, _⟩ := S.slot i _ es
          obtain ⟨C', dx, b, l, vk, vr, vw, vn, us, vs, h1', h2, h3, h4, h5, r1', r2, r3, r4, r5, r6⟩ := S.at hq
          have eC := k.is h1'
          subst eC
          obtain ⟨y, hy, ry, rd⟩ := lst_last r5 hlast
          have nea : b ≠ cuOf c.B := fun z => by rw [← z, h4] at h3; cases h3
          have h3' : upd H b (.lst us) (cuOf c.B) = some (.ins C' dx (curF vk vr vw vn b l)) := by rw [upd_ne nea.symm]; exact h3
          have h3'' : upd (upd H b (.lst us)) b (.lst us.dropLast) (cuOf c.B) = some (.ins C' dx (curF vk vr vw vn b l)) := by rw [upd_ne nea.symm]; exact h3'
          refine ⟨b, us, h4, _, hσ, _, C', dx, _, .ref b, rfl, h3', k.cls, k.before, rfl, .inl ⟨rfl, _, .inl (.inl upd_same)⟩, b, us, y, rfl, rfl, upd_same, hy, _, hσ, _, C', dx, _, rfl, h3'', k.cls, k.now, (by show (6 : Nat) < 1000; decide), b, us.dropLast, by rw [upd_ne nea, upd_same], ?_⟩
          rw [put_now, upd_upd]
          have tm : ∀ z u, tupH H z = some u → tupH (upd (upd (upd H b (.lst us.dropLast)) (cuOf c.B) (.ins C' dx (curF vk vr vw y b l))) b (.ext (CurL b us.dropLast))) z = some u := fun z u w => by
            obtain ⟨w1, w2⟩ := tupH_some w
            refine tupH_of ?_ w2
            rw [upd_ne (fun e => by rw [e, h4] at w1; cases w1; cases w2), upd_ne (fun e => by rw [e, h3] at w1; cases w1; cases w2), upd_ne (fun e => by rw [e, h4] at w1; cases w1; cases w2)]
            exact w1
          have g2 : Gx c H (cset n { q with now := d, bef := q.bef.dropLast }) (upd (upd (upd H b (.lst us.dropLast)) (cuOf c.B) (.ins C' dx (curF vk vr vw y b l))) b (.ext (CurL b us.dropLast))) := by
            refine S.gcu hq (fun z u w w2 => ?_) (fun z u w w2 => ?_) (fun z C2 d2 f2 w => ?_) h3 h4 h5 (fun a n1 n2 _ o z => by rw [upd_ne n2, upd_ne n1, upd_ne n2]; exact z) (by rw [upd_ne nea.symm, upd_same]) (.inl rfl) (.inl rfl) ⟨C', dx, b, l, vk, vr, vw, y, us.dropLast, vs, h1', h2, by rw [upd_ne nea.symm, upd_same], upd_same, ?_, Rep.mono tm _ _ r1', Rep.mono tm _ _ r2, Rep.mono tm _ _ r3, Rep.mono tm _ _ ry, Rep.monoAll tm _ _ rd, Rep.monoAll tm _ _ r6⟩
            · rw [upd_ne (fun e => by rw [e, h4] at w; cases w; cases w2), upd_ne (fun e => by rw [e, h3] at w; cases w; cases w2), upd_ne (fun e => by rw [e, h4] at w; cases w; cases w2)]
              exact w
            · by_cases e1 : z = b
              · exact ⟨_, by rw [e1, upd_same], rfl⟩
              · by_cases e2 : z = cuOf c.B
                · exact ⟨_, by rw [e2, upd_ne nea.symm, upd_same], rfl⟩
                · exact ⟨u, by rw [upd_ne e1, upd_ne e2, upd_ne e1]; exact w, w2⟩
            · by_cases e2 : z = cuOf c.B
              · rw [e2, h3] at w
                cases w
                exact ⟨_, by rw [e2, upd_ne nea.symm, upd_same]⟩
              · have e1 : z ≠ b := fun e => by rw [e, h4] at w; cases w
                exact ⟨f2, by rw [upd_ne e1, upd_ne e2, upd_ne e1]; exact w⟩
            · rw [upd_ne (Ne.symm h2), upd_ne (fun e => by rw [e, h3] at h5; cases h5), upd_ne (Ne.symm h2)]
              exact h5
          exact h σ _ c.B (S.ext g2) (g2.sees S.tB')
        · exact h.elim
      · exact h.elim
    · exact h.elim
/-- self.before, a test -/
noncomputable def bBef (i : Nat) : M Bool := fun ρ n => match ρ[i]? with
  | some (some .cur) => (match cq n with
    | some q => .ok (!q.bef.isEmpty) n
    | none => .bad)
  | _ => .bad
theorem et_bef (i : Nat) (k : CurCls X.K C) (hN : X.N[i]? = some x := by rfl) (hv : Vis X.env.scope x := by first | exact Or.inl rfl | exact Or.inr (Or.inl rfl) | exact Or.inr (Or.inr rfl)) (hd : (x == ("__debug__" : Str)) = false := by decide)
    (hcd : (x == ("__classdict__" : Str)) = false := by decide)
    (hb : attributeBase (.Name x p1) "before" X.env (eval (.Name x p1) X.env) = eval (.Name x p1) X.env := by rfl)
    (he : ∀ whole, isTrue (.Attribute (.Name x p1) "before" p2) X.env whole = (do let v ← whole; standAt (Expr.Attribute (.Name x p1) "before" p2).pos; holding [v] (truthy v)) := by intro _; rfl) : PT X (.Attribute (.Name x p1) "before" p2) (tGT X.K ca W (bBef i)) :=
  PT.weak (PT.thaw (PT.cool (pt_truth (pe_fld (pe_var hN hv hd hcd) hb) he))) fun σ H Q ⟨c, ρ, n, S, h⟩ => by
    unfold bBef at h
    split at h
    · rename_i es
      split at h
      · rename_i q hq
        obtain ⟨v, hσ, rfl, _⟩ := S.slot i _ es
        obtain ⟨C', dx, b, l, vk, vr, vw, vn, us, vs, h1', h2, h3, h4, h5, r1', r2, r3, r4, r5, r6⟩ := S.at hq
        have eC := k.is h1'
        subst eC
        have nea : b ≠ cuOf c.B := fun z => by rw [← z, h4] at h3; cases h3
        have h3' : upd H b (.lst us) (cuOf c.B) = some (.ins C' dx (curF vk vr vw vn b l)) := by rw [upd_ne nea.symm]; exact h3
        refine ⟨b, us, h4, _, hσ, _, C', dx, _, .ref b, rfl, h3', k.cls, k.before, rfl, !q.bef.isEmpty, .inl ⟨_, .inl (.inl upd_same), empty_of r5⟩, b, us, upd_same, ?_⟩
        rw [thaw_cool h4]
        exact h H S.gx
      · exact h.elim
    · exact h.elim

/-- self.later.append(self.now) -/
noncomputable def sLatApp (i : Nat) : MS := fun ρ n => match ρ[i]? with
  | some (some .cur) => (match cq n with
    | some q => if q.lat.length < sizeLine then .nx ρ (cset n { q with lat := q.lat ++ [q.now] }) else .bad
    | none => .bad)
  | _ => .bad
theorem es_latApp (i : Nat) (k : CurCls X.K C) (hN : X.N[i]? = some x := by rfl) (hv : Vis X.env.scope x := by first | exact Or.inl rfl | exact Or.inr (Or.inl rfl) | exact Or.inr (Or.inr rfl)) (hd : (x == ("__debug__" : Str)) = false := by decide)
    (hcd : (x == ("__classdict__" : Str)) = false := by decide)
    (hb : attributeBase (.Name x p1) "later" X.env (eval (.Name x p1) X.env) = eval (.Name x p1) X.env := by rfl) (hb2 : attributeBase (.Name x p3) "now" X.env (eval (.Name x p3) X.env) = eval (.Name x p3) X.env := by rfl)
    (hfew : ((backTo cpos (starEach [(.Attribute (.Name x p3) "now" p4 : Expr)] X.env)).all (fun x => !x.1) && (backToKw cpos (keywordEach [] X.env)).all (fun x => x.1.isSome)
      && decide ([(.Attribute (.Name x p3) "now" p4 : Expr)].length + ([] : List Keyword).length + (if ([] : List Keyword).isEmpty then 0 else 1) < 30)) = true := by rfl)
    (hline : (apos.endLine == cpos.line) = true := by rfl) (hs : starEach [(.Attribute (.Name x p3) "now" p4 : Expr)] X.env = (false, eval (.Attribute (.Name x p3) "now" p4) X.env) :: starEach [] X.env := by rfl) (hplain : (backTo cpos (starEach [] X.env)).any (·.1) = false := by rfl)
    (hbase : attributeBase (.Attribute (.Name x p1) "later" p2) "append" X.env (eval (.Attribute (.Name x p1) "later" p2) X.env) = eval (.Attribute (.Name x p1) "later" p2) X.env := by rfl)
    (hsw : swapsWith (.Call (.Attribute (.Attribute (.Name x p1) "later" p2) "append" apos) [.Attribute (.Name x p3) "now" p4] [] cpos) none pos.line X.env = pure false := by rfl) :
    PS X (.Expr (.Call (.Attribute (.Attribute (.Name x p1) "later" p2) "append" apos) [.Attribute (.Name x p3) "now" p4] [] cpos) pos) (tS X.K ca W (sLatApp i)) :=
  PS.weak (PS.thaw (PS.cool (ps_expr (pe_bm PySem.F.plainAttrs_list PySem.F.slot_list_append PySem.F.type_list_append mt_append (pe_fld (pe_var hN hv hd hcd) hb) (pa_cons (pe_fld (pe_var hN hv hd hcd) hb2) pa_nil hs) hbase hfew hline hs hplain) hsw))) fun E σ H ⟨c, ρ, n, S, h⟩ => by
    unfold sLatApp at h
    split at h
    · rename_i es
      split at h
      · rename_i q hq
        split at h
        · rename_i hz
          obtain ⟨v, hσ, rfl, _⟩ := S.slot i _ es
          obtain ⟨C', dx, b, l, vk, vr, vw, vn, us, vs, h1', h2, h3, h4, h5, r1', r2, r3, r4, r5, r6⟩ := S.at hq
          have eC := k.is h1'
          subst eC
          have h3' : upd H l (.lst vs) (cuOf c.B) = some (.ins C' dx (curF vk vr vw vn b l)) := by rw [upd_ne (fun z => by rw [z, h5] at h3; cases h3)]; exact h3
          refine ⟨l, vs, h5, _, hσ, _, C', dx, _, .ref l, rfl, h3', k.cls, k.later, rfl, .inl ⟨rfl, _, .inl (.inl upd_same)⟩, _, hσ, _, C', dx, _, vn, rfl, h3', k.cls, k.now, rfl, l, vs, vn, rfl, rfl, upd_same, by rw [r6.length]; exact hz, l, vs ++ [vn], upd_same, ?_⟩
          rw [upd_upd, upd_upd]
          obtain ⟨u1, u2, u3⟩ := upd_cur (o' := .ext (CurL l (vs ++ [vn]))) h5 rfl rfl fun _ _ _ e => by cases e
          have tm := tupH_upd (o' := .ext (CurL l (vs ++ [vn]))) h5 rfl
          have g2 : Gx c H (cset n { q with lat := q.lat ++ [q.now] }) (upd H l (.ext (CurL l (vs ++ [vn])))) := S.gcu hq u1 u2 u3 h3 h4 h5 (fun a _ _ n3 o z => by rw [upd_ne n3]; exact z) (by rw [upd_ne (fun z => by rw [z, h5] at h3; cases h3)]; exact h3) (.inl rfl) (.inl rfl) ⟨C', dx, b, l, vk, vr, vw, vn, us, vs ++ [vn], h1', h2, by rw [upd_ne (fun z => by rw [z, h5] at h3; cases h3)]; exact h3,
            by rw [upd_ne h2]; exact h4, upd_same, Rep.mono tm _ _ r1', Rep.mono tm _ _ r2, Rep.mono tm _ _ r3, Rep.mono tm _ _ r4, Rep.monoAll tm _ _ r5, (Rep.monoAll tm _ _ r6).append (.cons (Rep.mono tm _ _ r4) .nil)⟩
          exact h σ _ c.B (S.ext g2) (g2.sees S.tB')
        · exact h.elim
      · exact h.elim
    · exact h.elim
/-- self.now = self.later.pop() -/
noncomputable def sLatPop (i : Nat) : MS := fun ρ n => match ρ[i]? with
  | some (some .cur) => (match cq n with
    | some q => (match q.lat.getLast? with
      | some d => .nx ρ (cset n { q with now := d, lat := q.lat.dropLast })
      | none => .bad)
    | none => .bad)
  | _ => .bad
theorem es_latPop (i : Nat) (k : CurCls X.K C) (hN : X.N[i]? = some x := by rfl) (hv : Vis X.env.scope x := by first | exact Or.inl rfl | exact Or.inr (Or.inl rfl) | exact Or.inr (Or.inr rfl)) (hd : (x == ("__debug__" : Str)) = false := by decide)
    (hcd : (x == ("__classdict__" : Str)) = false := by decide)
    (hb : attributeBase (.Name x p3) "later" X.env (eval (.Name x p3) X.env) = eval (.Name x p3) X.env := by rfl)
    (hline : (apos.endLine == cpos.line) = true := by rfl)
    (hbase : attributeBase (.Attribute (.Name x p3) "later" p4) "pop" X.env (eval (.Attribute (.Name x p3) "later" p4) X.env) = eval (.Attribute (.Name x p3) "later" p4) X.env := by rfl)
    (hsw : swapsWith (.Call (.Attribute (.Attribute (.Name x p3) "later" p4) "pop" apos) [] [] cpos) (some (.Attribute (.Name x p1) "now" p2)) pos.line X.env = pure false := by rfl) :
    PS X (.Assign [.Attribute (.Name x p1) "now" p2] (.Call (.Attribute (.Attribute (.Name x p3) "later" p4) "pop" apos) [] [] cpos) pos) (tS X.K ca W (sLatPop i)) :=
  PS.weak (PS.thaw (PS.cool (ps_fld (pe_var hN hv hd hcd) (pe_bm0 PySem.F.plainAttrs_list PySem.F.slot_list_pop PySem.F.type_list_pop mt_pop (pe_fld (pe_var hN hv hd hcd) hb) hbase hline) hsw))) fun E σ H ⟨c, ρ, n, S, h⟩ => by
    unfold sLatPop at h
    split at h
    · rename_i es
      split at h
      · rename_i q hq
        split at h
        · rename_i d hlast
          obtain ⟨v, hσ, rfl, _⟩ := S.slot i _ es
          obtain ⟨C', dx, b, l, vk, vr, vw, vn, us, vs, h1', h2, h3, h4, h5, r1', r2, r3, r4, r5, r6⟩ := S.at hq
          have eC := k.is h1'
          subst eC
          obtain ⟨y, hy, ry, rd⟩ := lst_last r6 hlast
          have nea : l ≠ cuOf c.B := fun z => by rw [← z, h5] at h3; cases h3
          have h3' : upd H l (.lst vs) (cuOf c.B) = some (.ins C' dx (curF vk vr vw vn b l)) := by rw [upd_ne nea.symm]; exact h3
          have h3'' : upd (upd H l (.lst vs)) l (.lst vs.dropLast) (cuOf c.B) = some (.ins C' dx (curF vk vr vw vn b l)) := by rw [upd_ne nea.symm]; exact h3'
          refine ⟨l, vs, h5, _, hσ, _, C', dx, _, .ref l, rfl, h3', k.cls, k.later, rfl, .inl ⟨rfl, _, .inl (.inl upd_same)⟩, l, vs, y, rfl, rfl, upd_same, hy, _, hσ, _, C', dx, _, rfl, h3'', k.cls, k.now, (by show (6 : Nat) < 1000; decide), l, vs.dropLast, by rw [upd_ne nea, upd_same], ?_⟩
          rw [put_now, upd_upd]
          have tm : ∀ z u, tupH H z = some u → tupH (upd (upd (upd H l (.lst vs.dropLast)) (cuOf c.B) (.ins C' dx (curF vk vr vw y b l))) l (.ext (CurL l vs.dropLast))) z = some u := fun z u w => by
            obtain ⟨w1, w2⟩ := tupH_some w
            refine tupH_of ?_ w2
            rw [upd_ne (fun e => by rw [e, h5] at w1; cases w1; cases w2), upd_ne (fun e => by rw [e, h3] at w1; cases w1; cases w2), upd_ne (fun e => by rw [e, h5] at w1; cases w1; cases w2)]
            exact w1
          have g2 : Gx c H (cset n { q with now := d, lat := q.lat.dropLast }) (upd (upd (upd H l (.lst vs.dropLast)) (cuOf c.B) (.ins C' dx (curF vk vr vw y b l))) l (.ext (CurL l vs.dropLast))) := by
            refine S.gcu hq (fun z u w w2 => ?_) (fun z u w w2 => ?_) (fun z C2 d2 f2 w => ?_) h3 h4 h5 (fun a n1 _ n3 o z => by rw [upd_ne n3, upd_ne n1, upd_ne n3]; exact z) (by rw [upd_ne nea.symm, upd_same]) (.inl rfl) (.inl rfl) ⟨C', dx, b, l, vk, vr, vw, y, us, vs.dropLast, h1', h2, by rw [upd_ne nea.symm, upd_same], ?_, upd_same, Rep.mono tm _ _ r1', Rep.mono tm _ _ r2, Rep.mono tm _ _ r3, Rep.mono tm _ _ ry, Rep.monoAll tm _ _ r5, Rep.monoAll tm _ _ rd⟩
            · rw [upd_ne (fun e => by rw [e, h5] at w; cases w; cases w2), upd_ne (fun e => by rw [e, h3] at w; cases w; cases w2), upd_ne (fun e => by rw [e, h5] at w; cases w; cases w2)]
              exact w
            · by_cases e1 : z = l
              · exact ⟨_, by rw [e1, upd_same], rfl⟩
              · by_cases e2 : z = cuOf c.B
                · exact ⟨_, by rw [e2, upd_ne nea.symm, upd_same], rfl⟩
                · exact ⟨u, by rw [upd_ne e1, upd_ne e2, upd_ne e1]; exact w, w2⟩
            · by_cases e2 : z = cuOf c.B
              · rw [e2, h3] at w
                cases w
                exact ⟨_, by rw [e2, upd_ne nea.symm, upd_same]⟩
              · have e1 : z ≠ l := fun e => by rw [e, h5] at w; cases w
                exact ⟨f2, by rw [upd_ne e1, upd_ne e2, upd_ne e1]; exact w⟩
            · rw [upd_ne h2, upd_ne (fun e => by rw [e, h3] at h4; cases h4), upd_ne h2]
              exact h4
          exact h σ _ c.B (S.ext g2) (g2.sees S.tB')
        · exact h.elim
      · exact h.elim
    · exact h.elim
/-- self.later, a test -/
noncomputable def bLat (i : Nat) : M Bool := fun ρ n => match ρ[i]? with
  | some (some .cur) => (match cq n with
    | some q => .ok (!q.lat.isEmpty) n
    | none => .bad)
  | _ => .bad
theorem et_lat (i : Nat) (k : CurCls X.K C) (hN : X.N[i]? = some x := by rfl) (hv : Vis X.env.scope x := by first | exact Or.inl rfl | exact Or.inr (Or.inl rfl) | exact Or.inr (Or.inr rfl)) (hd : (x == ("__debug__" : Str)) = false := by decide)
    (hcd : (x == ("__classdict__" : Str)) = false := by decide)
    (hb : attributeBase (.Name x p1) "later" X.env (eval (.Name x p1) X.env) = eval (.Name x p1) X.env := by rfl)
    (he : ∀ whole, isTrue (.Attribute (.Name x p1) "later" p2) X.env whole = (do let v ← whole; standAt (Expr.Attribute (.Name x p1) "later" p2).pos; holding [v] (truthy v)) := by intro _; rfl) : PT X (.Attribute (.Name x p1) "later" p2) (tGT X.K ca W (bLat i)) :=
  PT.weak (PT.thaw (PT.cool (pt_truth (pe_fld (pe_var hN hv hd hcd) hb) he))) fun σ H Q ⟨c, ρ, n, S, h⟩ => by
    unfold bLat at h
    split at h
    · rename_i es
      split at h
      · rename_i q hq
        obtain ⟨v, hσ, rfl, _⟩ := S.slot i _ es
        obtain ⟨C', dx, b, l, vk, vr, vw, vn, us, vs, h1', h2, h3, h4, h5, r1', r2, r3, r4, r5, r6⟩ := S.at hq
        have eC := k.is h1'
        subst eC
        have nea : l ≠ cuOf c.B := fun z => by rw [← z, h5] at h3; cases h3
        have h3' : upd H l (.lst vs) (cuOf c.B) = some (.ins C' dx (curF vk vr vw vn b l)) := by rw [upd_ne nea.symm]; exact h3
        refine ⟨l, vs, h5, _, hσ, _, C', dx, _, .ref l, rfl, h3', k.cls, k.later, rfl, !q.lat.isEmpty, .inl ⟨_, .inl (.inl upd_same), empty_of r6⟩, l, vs, upd_same, ?_⟩
        rw [thaw_cool h5]
        exact h H S.gx
      · exact h.elim
    · exact h.elim

/-- self.later = [] -/
noncomputable def sLatNew (i : Nat) : MS := fun ρ n => match ρ[i]? with
  | some (some .cur) => (match cq n with
    | some q => .nx ρ (cset n { q with lat := [] })
    | none => .bad)
  | _ => .bad
theorem es_latNew (i : Nat) (k : CurCls X.K C) (hN : X.N[i]? = some x := by rfl) (hv : Vis X.env.scope x := by first | exact Or.inl rfl | exact Or.inr (Or.inl rfl) | exact Or.inr (Or.inr rfl)) (hd : (x == ("__debug__" : Str)) = false := by decide)
    (hcd : (x == ("__classdict__" : Str)) = false := by decide)
    (hsw : swapsWith (.List [] p3) (some (.Attribute (.Name x p1) "later" p2)) pos.line X.env = pure false := by rfl) :
    PS X (.Assign [.Attribute (.Name x p1) "later" p2] (.List [] p3) pos) (tS X.K ca W (sLatNew i)) :=
  PS.weak (PS.cool (ps_fld (pe_var hN hv hd hcd) (pe_lst pa_nil) hsw)) fun E σ H ⟨c, ρ, n, S, h⟩ => by
    unfold sLatNew at h
    split at h
    · rename_i es
      split at h
      · rename_i q hq
        obtain ⟨v, hσ, rfl, _⟩ := S.slot i _ es
        obtain ⟨C', dx, b, l, vk, vr, vw, vn, us, vs, h1', h2, h3, h4, h5, r1', r2, r3, r4, r5, r6⟩ := S.at hq
        have eC := k.is h1'
        subst eC
        refine ⟨Nat.zero_le _, fun p hp => ?_⟩
        have nea : p ≠ cuOf c.B := fun z => by rw [← z, hp] at h3; cases h3
        have neb : b ≠ p := fun z => by rw [z, hp] at h4; cases h4
        have h3' : upd H p (.lst []) (cuOf c.B) = some (.ins C' dx (curF vk vr vw vn b l)) := by rw [upd_ne nea.symm]; exact h3
        refine ⟨_, hσ, _, C', dx, _, rfl, h3', k.cls, k.later, (by show (6 : Nat) < 1000; decide), p, [], by rw [upd_ne nea, upd_same], ?_⟩
        rw [put_later]
        have tm : ∀ z u, tupH H z = some u → tupH (upd (upd (upd H p (.lst [])) (cuOf c.B) (.ins C' dx (curF vk vr vw vn b p))) p (.ext (CurL p []))) z = some u := fun z u w => by
          obtain ⟨w1, w2⟩ := tupH_some w
          refine tupH_of ?_ w2
          have e1 : z ≠ p := fun e => by rw [e, hp] at w1; cases w1
          rw [upd_ne e1, upd_ne (fun e => by rw [e, h3] at w1; cases w1; cases w2), upd_ne e1]
          exact w1
        have g2 : Gx c H (cset n { q with lat := [] }) (upd (upd (upd H p (.lst [])) (cuOf c.B) (.ins C' dx (curF vk vr vw vn b p))) p (.ext (CurL p []))) := by
          refine S.gcu hq (fun z u w w2 => ?_) (fun z u w w2 => ?_) (fun z C2 d2 f2 w => ?_) h3 h4 h5 (fun a n1 _ _ o z => by rw [upd_ne (fun e => by rw [e, hp] at z; cases z), upd_ne n1, upd_ne (fun e => by rw [e, hp] at z; cases z)]; exact z) (by rw [upd_ne nea.symm, upd_same]) (.inl rfl) (.inr hp) ⟨C', dx, b, p, vk, vr, vw, vn, us, [], h1', neb, by rw [upd_ne nea.symm, upd_same], ?_, upd_same, Rep.mono tm _ _ r1', Rep.mono tm _ _ r2, Rep.mono tm _ _ r3, Rep.mono tm _ _ r4, Rep.monoAll tm _ _ r5, .nil⟩
          · have e1 : z ≠ p := fun e => by rw [e, hp] at w; cases w
            rw [upd_ne e1, upd_ne (fun e => by rw [e, h3] at w; cases w; cases w2), upd_ne e1]
            exact w
          · have e1 : z ≠ p := fun e => by rw [e, hp] at w; cases w
            by_cases e2 : z = cuOf c.B
            · exact ⟨_, by rw [e2, upd_ne nea.symm, upd_same], rfl⟩
            · exact ⟨u, by rw [upd_ne e1, upd_ne e2, upd_ne e1]; exact w, w2⟩
          · have e1 : z ≠ p := fun e => by rw [e, hp] at w; cases w
            by_cases e2 : z = cuOf c.B
            · rw [e2, h3] at w
              cases w
              exact ⟨_, by rw [e2, upd_ne nea.symm, upd_same]⟩
            · exact ⟨f2, by rw [upd_ne e1, upd_ne e2, upd_ne e1]; exact w⟩
          · rw [upd_ne neb, upd_ne (fun e => by rw [e, h3] at h4; cases h4), upd_ne neb]
            exact h4
        exact h σ _ c.B (S.ext g2) (g2.sees S.tB')
      · exact h.elim
    · exact h.elim
end
end G

/-! the cursor's methods; a new cursor -/
namespace G
open PySem PySem.Spec PyProof.Rows L2
/-! ### method calls -/
def tMethX (C : Addr) (m : Str) (sp : Sp) (E : L2.St → XK) (ta : TE) (t : TA) : TE := fun σ H Q => ta σ H fun x H1 => ∃ a dx fs, x = .ref a ∧ H1 a = some (.ins C dx fs) ∧ fs.lookup m = none ∧ t σ H1 fun vs H2 => sp (x :: vs) H2 Q (E σ)
section
variable {X : Cx} {CX : CXT} {k : Nat} {f C : Addr} {fd : FuncData} {ps : List Str} {sp : Sp} {E : L2.St → XK} {x m : Str} {p pos apos : Pos} {e o : Expr} {es : List Expr} {ta : TE} {t : TA}
theorem pe_methX {pl : Sem Bool} (he : PE X o ta) (c : Cls X.K C) (hm : Meth X.K C m f) (F : FnOk X.prog X.w X.K X.mg X.base CX k f fd ps sp) (hr : Room k X.A) (hb : Binds X.K fd ps []) (hx : ∀ σ, PassesAt CX X σ (E σ)) (ha : PA X (e :: es) t)
    (hst : starEach (e :: es) X.env = (false, eval e X.env) :: starEach es X.env := by rfl) (hpl : (backTo pos (starEach es X.env)).any (·.1) = false := by rfl)
    (ht : eval (.Call (.Attribute o m apos) (e :: es) [] pos) X.env = (do
      let ov ← eval o X.env
      standAt apos.atName
      let (f, first) ← holding [ov] (getMethod ov m pl)
      callWith pos f first (backTo pos (starEach (e :: es) X.env)) (backToKw pos (keywordEach [] X.env))) := by rfl) :
    PE X (.Call (.Attribute o m apos) (e :: es) [] pos) (tMethX C m sp E ta t) := by
  refine ⟨fun pins s σ H Q I h => ?_⟩
  refine PySem.W.methodCall_KW (pl := pl) (thn (he.run pins s σ H _ I h) fun u s1 ⟨x, H1, I1, rx, a, dx, fs, ex, ea, l, q⟩ => ?_) ht
  subst ex
  obtain rfl : u = Value.ref a := rx
  refine getmeth_ok I1 ea c hm l ?_
  refine PySem.W.callWith_K (first := [.ref a]) (h₀ := X.base) I.ok.mod.kin hm.kp (thn (ha.run pos pins s1 σ H1 _ I1 q) fun us s2 ⟨vs, H2, I2, r, q2⟩ => ⟨I2.kIn, ?_⟩) hst hpl
  exact run_fnS (us := .ref a :: us) (vs := .ref a :: vs) F hr hb (hx σ) I2 (.cons rfl r) q2
theorem pe_methX0 {pl : Sem Bool} (he : PE X o ta) (c : Cls X.K C) (hm : Meth X.K C m f) (F : FnOk X.prog X.w X.K X.mg X.base CX k f fd ps sp) (hr : Room k X.A) (hb : Binds X.K fd ps []) (hx : ∀ σ, PassesAt CX X σ (E σ))
    (ht : eval (.Call (.Attribute o m apos) [] [] pos) X.env = (do
      let ov ← eval o X.env
      standAt apos.atName
      let (f, first) ← holding [ov] (getMethod ov m pl)
      callWith pos f first (backTo pos (starEach [] X.env)) (backToKw pos (keywordEach [] X.env))) := by rfl) :
    PE X (.Call (.Attribute o m apos) [] [] pos) (tMethX C m sp E ta tNil) := by
  refine ⟨fun pins s σ H Q I h => ?_⟩
  refine PySem.W.methodCall_KW (pl := pl) (thn (he.run pins s σ H _ I h) fun u s1 ⟨x, H1, I1, rx, a, dx, fs, ex, ea, l, q⟩ => ?_) ht
  subst ex
  obtain rfl : u = Value.ref a := rx
  refine getmeth_ok I1 ea c hm l ?_
  exact PySem.W.callWith_K0 (first := [.ref a]) I1.kIn hm.kp (run_fnS (us := [.ref a]) (vs := [.ref a]) F hr hb (hx σ) I1 (.cons rfl .nil) q)
end
/-- the cursor, alive -/
noncomputable def aCur (i : Nat) (h : M (List L)) : M (List L) := fun ρ n => match ρ[i]? with
  | some (some .cur) => (match cq n with
    | some _ => (h ρ n).bind fun b n2 => .ok (.cur :: b) n2
    | none => .bad)
  | _ => .bad
section
variable {X : Cx} {ca : String → Addr} {W : WX} {e : Expr} {es : List Expr} {pos p apos : Pos} {x m : Str} {k : Nat} {f C : Addr} {fd : FuncData} {ps : List Str} {F : Fn} {gs : M (List L)}
theorem meth_read {σ : L2.St} {H : Hp} {Q : VK} {i j : Nat} {t : TA} (cc : CurCls X.K C) (hl : ∀ vk vr vw vn b l, (curF vk vr vw vn b l).lookup m = none) (hm2 : ps.length = j) (ht : ∀ σ H Q, tGA X.K ca W gs σ H Q → t σ H Q)
    (h : tG X.K ca W (cCall j F (aCur i gs)) σ H Q) : tMethX C m (spG X.K ca ps.length F) (WE W) (tVar i) t σ H Q := by
  obtain ⟨c, ρ, n, S, h⟩ := h
  have h := Res.post_bind h
  unfold aCur at h
  split at h
  · rename_i es
    split at h
    · rename_i q hq
      obtain ⟨v, hσ, hv⟩ := S.slot i _ es
      have hv1 := hv.1
      subst hv1
      obtain ⟨C', dx, b, l, vk, vr, vw, vn, us, vs, h1', h2, h3, h4, h5, r1', r2, r3, r4, r5, r6⟩ := S.at hq
      have eC := cc.is h1'
      subst eC
      refine ⟨_, hσ, _, dx, _, rfl, h3, hl .., ht _ _ _ ⟨c, ρ, n, S, (Res.post_bind h).mono (fun ls n1 h1 vs H1 g1 r1 => ?_) (fun e m h => h)⟩⟩
      have S1 := S.ext g1
      have hR : RA X.K c H1 (.ref (cuOf c.B)) .cur := ⟨rfl, RL.ext S g1 (l := .cur) hv⟩
      have h2 : (if (L.cur :: ls).length = j then F (L.cur :: ls) n1 else Res.bad).Post (fun d n' => ∀ v H', Gx c H n' H' → Rep X.K (hid c.B H') v d → Q v H') (exK ca W c σ H) := h1
      by_cases hz : (L.cur :: ls).length = j
      · rw [if_pos hz] at h2
        subst hm2
        exact ⟨by rw [List.length_cons, r1.length]; exact hz, c, .cur :: ls, n1, S1.sub, S1.tB, S1.all, S1.town, S1.rk, S1.cur, S1.nt, S1.cl, S1.two, .cons hR r1, h2.mono (fun d n' h v H' g r => h v H' (g1.trans g) r) (fun e m h H' g => h H' (g1.trans g))⟩
      · rw [if_neg hz] at h2
        exact h2.elim
    · exact h.elim
  · exact h.elim
/-- cursor.m(e, ..) -/
theorem ev_meth (i : Nat) (tk : Takes X W) (cc : CurCls X.K C) (hm : Meth X.K C m f) (Fk : FnOk X.prog X.w X.K X.mg X.base (L2.CX X.prog X.w) k f fd ps (spG X.K ca ps.length F)) (hr : Room k X.A) (hb : Binds X.K fd ps [])
    (ha : PA X (e :: es) (tGA X.K ca W gs)) {j : Nat} (hm2 : ps.length = j := by rfl) (hl : ∀ vk vr vw vn b l, (curF vk vr vw vn b l).lookup m = none := by intros; rfl)
    (hN : X.N[i]? = some x := by rfl) (hv : Vis X.env.scope x := by first | exact Or.inl rfl | exact Or.inr (Or.inl rfl) | exact Or.inr (Or.inr rfl)) (hd : (x == ("__debug__" : Str)) = false := by decide)
    (hcd : (x == ("__classdict__" : Str)) = false := by decide)
    (hst : starEach (e :: es) X.env = (false, eval e X.env) :: starEach es X.env := by rfl) (hpl : (backTo pos (starEach es X.env)).any (·.1) = false := by rfl) {pl : Sem Bool}
    (ht : eval (.Call (.Attribute (.Name x p) m apos) (e :: es) [] pos) X.env = (do
      let ov ← eval (.Name x p) X.env
      standAt apos.atName
      let (f, first) ← holding [ov] (getMethod ov m pl)
      callWith pos f first (backTo pos (starEach (e :: es) X.env)) (backToKw pos (keywordEach [] X.env))) := by rfl) :
    PE X (.Call (.Attribute (.Name x p) m apos) (e :: es) [] pos) (tG X.K ca W (cCall j F (aCur i gs))) :=
  PE.weak (pe_methX (pe_var hN hv hd hcd) cc.cls hm Fk hr hb (fun σ => passAt tk σ) ha hst hpl ht) fun σ H Q h => meth_read cc hl hm2 (fun _ _ _ h => h) h
/-- cursor.m() -/
theorem ev_meth0 (i : Nat) (tk : Takes X W) (cc : CurCls X.K C) (hm : Meth X.K C m f) (Fk : FnOk X.prog X.w X.K X.mg X.base (L2.CX X.prog X.w) k f fd ps (spG X.K ca ps.length F)) (hr : Room k X.A) (hb : Binds X.K fd ps [])
    {j : Nat} (hm2 : ps.length = j := by rfl) (hl : ∀ vk vr vw vn b l, (curF vk vr vw vn b l).lookup m = none := by intros; rfl)
    (hN : X.N[i]? = some x := by rfl) (hv : Vis X.env.scope x := by first | exact Or.inl rfl | exact Or.inr (Or.inl rfl) | exact Or.inr (Or.inr rfl)) (hd : (x == ("__debug__" : Str)) = false := by decide)
    (hcd : (x == ("__classdict__" : Str)) = false := by decide) {pl : Sem Bool}
    (ht : eval (.Call (.Attribute (.Name x p) m apos) [] [] pos) X.env = (do
      let ov ← eval (.Name x p) X.env
      standAt apos.atName
      let (f, first) ← holding [ov] (getMethod ov m pl)
      callWith pos f first (backTo pos (starEach [] X.env)) (backToKw pos (keywordEach [] X.env))) := by rfl) :
    PE X (.Call (.Attribute (.Name x p) m apos) [] [] pos) (tG X.K ca W (cCall j F (aCur i aNil))) :=
  PE.weak (pe_methX0 (pe_var hN hv hd hcd) cc.cls hm Fk hr hb (fun σ => passAt tk σ) ht) fun σ H Q h => meth_read cc hl hm2 (fun σ H Q ⟨c, ρ, n, S, h⟩ => h [] H S.gx .nil) h
end
/-! ### __init__ -/
def spInit (K : PySem.W.Frag) : Sp := fun vs H Q _ => ∃ (x C dx : Addr) (vk vr vw vt : V), vs = [.ref x, vk, vr, vw, vt] ∧ CurC K C ∧ H x = some (.ins C dx []) ∧
  ∀ (tp b l : Addr) (o : Obj) (H' : Hp), o.dict = none → H tp = none → H b = none → H l = none → tp ≠ b → b ≠ l → tp ≠ l → H' x = some (.ins C dx (curF vk vr vw (.ref tp) b l)) → H' tp = some (.frz o (.tup [vt, .int 0, .non])) → H' b = some (.lst []) → H' l = some (.lst []) →
    (∀ y, y ≠ x → y ≠ tp → y ≠ b → y ≠ l → H' y = H y) → Q .non H'
theorem upd_none {H : Hp} {a b : Addr} {o : HO} (h : upd H a o b = none) : b ≠ a ∧ H b = none := by
  by_cases e : b = a
  · subst e; rw [upd_same] at h; cases h
  · rw [upd_ne e] at h; exact ⟨e, h⟩
theorem passF {P : Program} {w : World} {X : Cx} : Passes (L2.CX P w) X (fun _ _ _ => False) := fun pins σ H s e s' I h => by
  obtain ⟨_, _, _, _, _, _, _, _, _, _, _, _, z⟩ := h
  exact z.elim
/-! ### a new cursor -/
def noCur : Option L → Option L
  | some .cur => some .prk
  | some .prk => none
  | x => x
theorem noCur_some {o : Option L} {l : L} (h : noCur o = some l) : (o = some l ∧ isCur l = false) ∨ (o = some .cur ∧ l = .prk) := by
  cases o with
  | none => cases h
  | some x =>
    cases x <;> first | (cases h; exact .inl ⟨rfl, rfl⟩) | (cases h; exact .inr ⟨rfl, rfl⟩) | cases h
section
variable {K : PySem.W.Frag} {c : Fm} {σ : L2.St} {H H' : Hp} {ρ : G.Env} {n : Nat}
theorem SR.newc (S : SR K c σ H ρ n) (hf : c.fx = false) (hp : c.pn = none) {x C dx : Addr} {fs : List (Str × V)} {q : CurS} (hx : H x = some (.ins C dx fs)) (hq : CuAt K H x q) (hD : ∀ r, cq n = some r → Dsj H x (cuOf c.B)) :
    SR K (c.at (c.B ++ [x])) σ H (ρ.map noCur) (cnew n q) ∧ Sees c.B H (c.B ++ [x]) H := by
  have se : Sees c.B H (c.B ++ [x]) H := fun a o h => by
    obtain ⟨h1, h2, h3⟩ := hid_all h
    refine hid_of (fun z => ?_) h2 h3
    rcases List.mem_append.mp z with z | z
    · exact h1 z
    · rw [List.mem_singleton.mp z, hx] at h2
      cases h2
      cases h3
  have hpk : pkOf (c.B ++ [x]) = cuOf c.B := pkOf_app S.ne
  have hmap : ∀ (i : Nat) (l : L), (ρ.map noCur)[i]? = some (some l) → (ρ[i]? = some (some l) ∧ isCur l = false) ∨ (ρ[i]? = some (some .cur) ∧ l = .prk) := fun i l e => by
    rw [List.getElem?_map] at e
    cases z : ρ[i]? with
    | none => rw [z] at e; cases e
    | some o =>
      rw [z] at e
      rcases noCur_some (Option.some.inj e) with ⟨e1, e2⟩ | ⟨e1, e2⟩
      · exact .inl ⟨by rw [e1], e2⟩
      · exact .inr ⟨by rw [e1], e2⟩
  have hown : ∀ (i : Nat) (l : L), (ρ.map noCur)[i]? = some (some l) → isOwn l = true → ρ[i]? = some (some l) := fun i l e o => by
    rcases hmap i l e with ⟨e1, _⟩ | ⟨_, e2⟩
    · exact e1
    · rw [e2] at o; cases o
  refine ⟨⟨by rw [List.length_map]; exact S.len, fun b hb => List.mem_append_left _ (S.sub b hb), S.tB, S.old, fun b hb => ?_, S.keep, by rw [zer_mod (cnew_mod n q)]; exact S.town, S.rk, ?_, fun b hb o e => ?_, fun h => ?_, ⟨.inr ⟨C, dx, fs, ?_⟩, ?_⟩, ?_, fun i l => ?_, fun i l e => ?_, fun i j l l' a hij e1 e2 o1 o2 s1 => ?_⟩, se⟩
  · rcases List.mem_append.mp hb with z | z
    · exact S.all b z
    · rw [List.mem_singleton.mp z, hx]; simp
  · rw [S.rk]
    show CurOk K (c.B ++ [x]) H (cnew n q)
    refine ⟨fun p e => ?_, fun p e => ?_, fun p r _ e => ?_⟩
    · rw [cq_cnew] at e
      cases e
      rw [cuOf_app]
      exact hq
    · rw [pq_cnew] at e
      rw [hpk]
      exact S.at e
    · rw [pq_cnew] at e
      rw [hpk, cuOf_app]
      exact hD r e
  · rcases List.mem_append.mp hb with z | z
    · exact S.nt b z o e
    · rw [List.mem_singleton.mp z, hx] at e
      cases e
      rfl
  · have h : c.fx = true := h
    rw [hf] at h
    cases h
  · rw [show (c.at (c.B ++ [x])).B = c.B ++ [x] from rfl, cuOf_app]
    exact hx
  · rw [show (c.at (c.B ++ [x])).B = c.B ++ [x] from rfl, hpk]
    exact S.cl.1
  · have := S.two
    show Two (c.B ++ [x])
    unfold Two at this ⊢
    rw [List.length_append]
    omega
  · have e : c.pn = some i := l
    rw [hp] at e
    cases e
  · rcases hmap i l e with ⟨e1, e2⟩ | ⟨e1, rfl⟩
    · obtain ⟨v, h1, h2⟩ := S.slot i l e1
      refine ⟨v, h1, ?_⟩
      cases l with
      | ob o => exact nomatch o
      | d x => exact Rep.mono se _ _ h2
      | own xs =>
        obtain ⟨a, vs, q1, q2, q3, q4, q5⟩ := h2
        exact ⟨a, vs, q1, List.mem_append_left _ q2, q3, q4, Rep.monoAll se _ _ q5⟩
      | dic kvs =>
        obtain ⟨a, vs, q1, q2, q3, q4, q6, q5⟩ := h2
        exact ⟨a, vs, q1, List.mem_append_left _ q2, q3, q4, q6, Rep.monoAll se _ _ q5⟩
      | dit kvs =>
        obtain ⟨a, vs, q1, q2, q3, q4, q6, q5⟩ := h2
        exact ⟨a, vs, q1, List.mem_append_left _ q2, q3, q4, q6, Rep.monoAll se _ _ q5⟩
      | frk kvs =>
        obtain ⟨a1, o1, ws1, z1, z2, z3, z4⟩ := h2
        exact ⟨a1, o1, ws1, z1, se _ _ z2, z3, Rep.monoAll se _ _ z4⟩
      | town => exact h2
      | twl => exact h2
      | cur => cases e2
      | prk => cases e2
      | exn e => exact h2
      | scr ns =>
        obtain ⟨a, q1, q2⟩ := h2
        exact ⟨a, q1, sqL_mono se q2⟩
    · obtain ⟨v, h1, h2, h3⟩ := S.slot i _ e1
      refine ⟨v, h1, ?_⟩
      show v = .ref (pkOf (c.B ++ [x])) ∧ ∃ C dx fs, H (pkOf (c.B ++ [x])) = some (.ins C dx fs)
      rw [hpk]
      exact ⟨h2, h3⟩
  · exact S.dist i j l l' a hij (hown i l e1 o1) (hown j l' e2 o2) o1 o2 s1
/-- behind __init__, its lists cooled: the new cursor in slot i -/
theorem new_post {i : Nat} {x C dx tp b l : Addr} {o : Obj} {vk vr vw vt : V} {dk dr dw dt : D} (S : SR K c σ H ρ n) (hf : c.fx = false) (hpn : c.pn = none) (hi : i < ρ.length) (hC : CurC K C)
    (rk : Rep K (hid c.B H) vk dk) (rr : Rep K (hid c.B H) vr dr) (rw' : Rep K (hid c.B H) vw dw) (rt : Rep K (hid c.B H) vt dt) (nk : noList dk = true) (nr : noList dr = true) (nw : noList dw = true) (nt : noList dt = true)
    (hx : H x = none) (hdx : H dx = none) (hxd : dx ≠ x) (ho : o.dict = none) (htp : upd (upd H dx (.own x)) x (.ins C dx []) tp = none) (hb : upd (upd H dx (.own x)) x (.ins C dx []) b = none) (hl : upd (upd H dx (.own x)) x (.ins C dx []) l = none)
    (n1 : tp ≠ b) (n2 : b ≠ l) (n3 : tp ≠ l) (f1 : H' x = some (.ins C dx (curF vk vr vw (.ref tp) b l))) (f2 : H' tp = some (.frz o (.tup [vt, .int 0, .non]))) (f3 : H' b = some (.lst [])) (f4 : H' l = some (.lst []))
    (f5 : ∀ y, y ≠ x → y ≠ tp → y ≠ b → y ≠ l → H' y = upd (upd H dx (.own x)) x (.ins C dx []) y) :
    SR K (c.at (c.B ++ [x])) (σ.set i (some (.ref x))) (upd (upd H' b (.ext (CurL b []))) l (.ext (CurL l []))) ((ρ.map noCur).set i (some .cur)) (cnew n ⟨dk, dr, dw, .tuple [dt, .int 0, .none], [], []⟩) ∧ Sees c.B H (c.B ++ [x]) (upd (upd H' b (.ext (CurL b []))) l (.ext (CurL l []))) := by
  obtain ⟨tx, tp2⟩ := upd_none htp
  obtain ⟨td, tp3⟩ := upd_none tp2
  obtain ⟨bx, b2⟩ := upd_none hb
  obtain ⟨bd, b3⟩ := upd_none b2
  obtain ⟨lx, l2⟩ := upd_none hl
  obtain ⟨ld, l3⟩ := upd_none l2
  have same : Same H (upd (upd H' b (.ext (CurL b []))) l (.ext (CurL l []))) := fun y u e => by
    have y1 : y ≠ x := fun z => by rw [z, hx] at e; cases e
    have y2 : y ≠ dx := fun z => by rw [z, hdx] at e; cases e
    have y3 : y ≠ tp := fun z => by rw [z, tp3] at e; cases e
    have y4 : y ≠ b := fun z => by rw [z, b3] at e; cases e
    have y5 : y ≠ l := fun z => by rw [z, l3] at e; cases e
    rw [upd_ne y5, upd_ne y4, f5 y y1 y3 y4 y5, upd_ne y1, upd_ne y2]
    exact e
  have g := S.pure same
  have S1 := S.ext g
  have mono : ∀ a u, hid c.B H a = some u → hid c.B (upd (upd H' b (.ext (CurL b []))) l (.ext (CurL l []))) a = some u := g.sees S.tB'
  have tt : tupH (upd (upd H' b (.ext (CurL b []))) l (.ext (CurL l []))) tp = some (.frz o (.tup [vt, .int 0, .non])) := tupH_of (by rw [upd_ne n3, upd_ne n1]; exact f2) rfl
  have hq : CuAt K (upd (upd H' b (.ext (CurL b []))) l (.ext (CurL l []))) x ⟨dk, dr, dw, .tuple [dt, .int 0, .none], [], []⟩ :=
    ⟨C, dx, b, l, vk, vr, vw, .ref tp, [], [], hC, n2, by rw [upd_ne lx.symm, upd_ne bx.symm]; exact f1, by rw [upd_ne n2, upd_same], upd_same, rep_tupH nk (Rep.mono mono _ _ rk), rep_tupH nr (Rep.mono mono _ _ rr), rep_tupH nw (Rep.mono mono _ _ rw'),
      .tup (.inl ⟨o, tt, ho⟩) (.cons (rep_tupH nt (Rep.mono mono _ _ rt)) (.cons (.int 0) (.cons .non .nil))), .nil, .nil⟩
  obtain ⟨S2, se⟩ := S1.newc hf hpn (C := C) (dx := dx) (fs := curF vk vr vw (.ref tp) b l) (by rw [upd_ne lx.symm, upd_ne bx.symm]; exact f1) hq (fun r er => by
    obtain ⟨C', dx', b', l', vk', vr', vw', vn', us', vs', z1, z2, z3, z4, z5, _⟩ := S.at er
    refine ⟨(fun e => by rw [← e, hx] at z3; cases z3), fun A1 A2 A3 A4 A5 A6 A7 A8 u1 u2 u3 u4 u5 u6 u7 u8 w1 w2 => ?_⟩
    rw [upd_ne lx.symm, upd_ne bx.symm, f1] at w1
    rw [same _ _ z3] at w2
    cases w1
    cases w2
    exact ⟨fun e => (by rw [← e, b3] at z4; cases z4), fun e => (by rw [← e, b3] at z5; cases z5), fun e => (by rw [← e, l3] at z4; cases z4), fun e => (by rw [← e, l3] at z5; cases z5)⟩)
  refine ⟨S2.set_ix (by rw [List.length_map]; exact hi) (l := .cur) ⟨?_, C, dx, curF vk vr vw (.ref tp) b l, ?_⟩ (fun z => by cases z), (fun a u h => se a u (mono a u h))⟩
  · show V.ref x = V.ref (cuOf (c.B ++ [x]))
    rw [cuOf_app]
  · show (upd (upd H' b (.ext (CurL b []))) l (.ext (CurL l []))) (cuOf (c.B ++ [x])) = _
    rw [cuOf_app, upd_ne lx.symm, upd_ne bx.symm]
    exact f1
end
noncomputable def newE (ρ : G.Env) (i : Nat) : G.Env := (ρ.map noCur).set i (some .cur)
def four : Option (List D) → Option (D × D × D × D)
  | some [a, b, c, d] => some (a, b, c, d)
  | _ => none
/-- a new cursor; k: the law's town -/
noncomputable def newR (i k : Nat) (gs : M (List L)) : M G.Env := fun ρ n => match ρ[k]? with
  | some (some .twl) => (gs ρ n).bind fun ls n1 => (match four (dsOf ls) with
    | some (dk, dr, dw, dt) => if i < ρ.length ∧ noList dk = true ∧ noList dr = true ∧ noList dw = true ∧ noList dt = true then .ok (newE ρ i) (cnew n1 ⟨dk, dr, dw, .tuple [dt, .int 0, .none], [], []⟩) else .bad
    | none => .bad)
  | _ => .bad
/-- x = Cursor(..) -/
noncomputable def sNew (i k : Nat) (gs : M (List L)) : MS := fun ρ n => ofR (newR i k gs ρ n) ρ fun ρ1 n1 => .nx ρ1 n1
/-- x, y = Cursor(..), None -/
noncomputable def sNewN (i j k : Nat) (gs : M (List L)) : MS := fun ρ n => ofR (newR i k gs ρ n) ρ fun ρ1 n1 => if j < ρ1.length then .nx (ρ1.set j (some (.d .none))) n1 else .bad
theorem four_some {o : Option (List D)} {a b c d : D} (h : four o = some (a, b, c, d)) : o = some [a, b, c, d] := by
  unfold four at h
  split at h
  · cases h; rfl
  · cases h
section
variable {X : Cx} {ca : String → Addr} {W : WX} {e : Expr} {es : List Expr} {pos p apos : Pos} {x nm : Str} {k : Nat} {f C : Addr} {fd : FuncData} {gs : M (List L)}
/-- what the making of a cursor asks -/
theorem new_read {i kt : Nat} {Q : VK} {σ : L2.St} {H : Hp} {c : Fm} {ρ : G.Env} {n : Nat} (cc : CurCls X.K C) (S : SR X.K c σ H ρ n)
    (h : (newR i kt gs ρ n).Post (fun ρ2 n2 => ∀ (x : Addr) (H' : Hp) (b l : Addr), H' b = some (.lst []) → H' l = some (.lst []) → b ≠ l → ∀ B', SR X.K (c.at B') (σ.set i (some (.ref x))) (upd (upd H' b (.ext (CurL b []))) l (.ext (CurL l []))) ρ2 n2 →
      Sees c.B H B' (upd (upd H' b (.ext (CurL b []))) l (.ext (CurL l []))) → Q (.ref x) H') (exK ca W c σ H)) :
    tMake C (spInit X.K) [] (fun _ _ _ => False) (tGA X.K ca W gs) σ H Q := by
  unfold newR at h
  split at h
  · rename_i hk
    obtain ⟨hfx, hpn⟩ : c.fx = false ∧ c.pn = none := by
      obtain ⟨v, _, r⟩ := S.slot kt _ hk
      exact r.2
    refine ⟨c, ρ, n, S, (Res.post_bind h).mono (fun ls n1 h1 vs H1 g1 r1 => ?_) (fun e m h => h)⟩
    intro x dx hx hdx hxd
    have S1 := S.ext g1
    split at h1
    · rename_i dk dr dw dt hfour
      have hds := four_some hfour
      have rs := r1.ds hds
      split at h1
      · rename_i hcond
        obtain ⟨c1, c2, c3, c4, c5⟩ := hcond
        cases rs with
        | @cons vk _ vs1 _ q1 rs => cases rs with
          | @cons vr _ vs2 _ q2 rs => cases rs with
            | @cons vw _ vs3 _ q3 rs => cases rs with
              | @cons vt _ vs4 _ q4 rs =>
                cases rs
                refine ⟨x, C, dx, _, _, _, _, rfl, cc.c, upd_same, fun tp b l o H' ho htp hb hl n1' n2' n3' f1 f2 f3 f4 f5 => ⟨rfl, ?_⟩⟩
                obtain ⟨S2, se⟩ := new_post (i := i) S1 hfx hpn c1 cc.c q1 q2 q3 q4 c2 c3 c4 c5 hx hdx hxd ho htp hb hl n1' n2' n3' f1 f2 f3 f4 f5
                exact h1 x H' b l f3 f4 n2' _ S2 (fun a u z => se a u (g1.sees S.tB' a u z))
      · exact h1.elim
    · exact h1.elim
  · exact h.elim
theorem es_new {i kt : Nat} {y : Str} {pos' : Pos} (cc : CurCls X.K C) (M : Mk X.K C f) (Fi : FnOk X.prog X.w X.K X.mg X.base (L2.CX X.prog X.w) k f fd ["self", "kinds", "rules", "words", "text"] (spInit X.K)) (hr : Room (k + 1) X.A) (hg : Gl X x) (hm : X.mg x = some (.ref C)) (hb : Binds X.K fd ["self", "kinds", "rules", "words", "text"] [])
    (hN : X.N.Nodup) (hi : X.N[i]? = some y) (hx : Loc X.env.scope y) (ha : PA X (e :: es) (tGA X.K ca W gs)) (hdb : (x == ("__debug__" : Str)) = false := by decide) (he : starEach (e :: es) X.env = (false, eval e X.env) :: starEach es X.env := by rfl) (hpl : (backTo pos (starEach es X.env)).any (·.1) = false := by rfl)
    (hs : swapsWith (.Call (.Name x p) (e :: es) [] pos) (some (.Name y pos')) apos.line X.env = pure false := by rfl) (hf : X.fn y = true ∨ X.env.scope.names.lookup y = some .local := by first | exact .inl rfl | exact .inr rfl | assumption) :
    PS X (.Assign [.Name y pos'] (.Call (.Name x p) (e :: es) [] pos) apos) (tS X.K ca W (sNew i kt gs)) :=
  PS.weak (PS.cool (PS.cool (ps_set hN hi hx (pe_make M Fi hr hg hm hb .nil passF ha hdb he hpl) hs hf))) fun E σ H ⟨c, ρ, n, S, h⟩ => by
    unfold sNew at h
    exact new_read cc S ((post_ofR S h).mono (fun ρ2 n2 h2 x H' b l f1 f2 n1 B' S2 se => ⟨b, [], f1, l, [], by rw [upd_ne n1.symm]; exact f2, h2 _ _ B' S2 se⟩) (fun e m h => h))
theorem es_newN {i j kt : Nat} {y z : Str} {px py pt pn : Pos} {k1 k2 kn : Nat} {pt2 : Pos} (cc : CurCls X.K C) (M : Mk X.K C f) (Fi : FnOk X.prog X.w X.K X.mg X.base (L2.CX X.prog X.w) k f fd ["self", "kinds", "rules", "words", "text"] (spInit X.K)) (hr : Room (k + 1) X.A) (hg : Gl X x) (hm : X.mg x = some (.ref C)) (hb : Binds X.K fd ["self", "kinds", "rules", "words", "text"] [])
    (hc : X.calm = true) (hN : X.N.Nodup) (hi : X.N[i]? = some y) (hj : X.N[j]? = some z) (hij : i ≠ j) (hx : X.env.scope.names.lookup y = some .local) (hy : X.env.scope.names.lookup z = some .local) (ha : PA X (e :: es) (tGA X.K ca W gs))
    (hw : swappedStores [.Tuple [.Name y px, .Name z py] k1 pt] (.Tuple [.Call (.Name x p) (e :: es) [] pos, .Constant .none kn pn] k2 pt2) X.env = pure (some [y, z]))
    (hdb : (x == ("__debug__" : Str)) = false := by decide) (he : starEach (e :: es) X.env = (false, eval e X.env) :: starEach es X.env := by rfl) (hpl : (backTo pos (starEach es X.env)).any (·.1) = false := by rfl)
    (hs1 : starEach [.Call (.Name x p) (e :: es) [] pos, .Constant .none kn pn] X.env = (false, eval (.Call (.Name x p) (e :: es) [] pos) X.env) :: starEach [.Constant .none kn pn] X.env := by rfl) (hs2 : starEach [(.Constant .none kn pn : Expr)] X.env = (false, eval (.Constant .none kn pn) X.env) :: starEach [] X.env := by rfl)
    (hs : swapsWithSole [.Tuple [.Name y px, .Name z py] k1 pt] (.Tuple [.Call (.Name x p) (e :: es) [] pos, .Constant .none kn pn] k2 pt2) apos.line X.env = pure false := by rfl) :
    PS X (.Assign [.Tuple [.Name y px, .Name z py] k1 pt] (.Tuple [.Call (.Name x p) (e :: es) [] pos, .Constant .none kn pn] k2 pt2) apos) (tS X.K ca W (sNewN i j kt gs)) :=
  PS.weak (PS.cool (PS.cool (ps_par hc hN hi hj hij hx hy (pa_cons (pe_make M Fi hr hg hm hb .nil passF ha hdb he hpl) (pa_cons pe_non pa_nil hs2) hs1) hw hs))) fun E σ H ⟨c, ρ, n, S, h⟩ => by
    unfold sNewN at h
    show tMake C (spInit X.K) [] (fun _ _ _ => False) (tGA X.K ca W gs) σ H (fun x H1 => ∃ v w, [x, V.non] = [v, w] ∧ ∃ a vs, H1 a = some (.lst vs) ∧ ∃ a2 vs2, (upd H1 a (.ext (CurL a vs))) a2 = some (.lst vs2) ∧ E.nx ((σ.set i (some v)).set j (some w)) (upd (upd H1 a (.ext (CurL a vs))) a2 (.ext (CurL a2 vs2))))
    refine new_read cc S ((post_ofR S h).mono (fun ρ2 n2 h2 x H' b l f1 f2 n1 B' S2 se => ⟨_, _, rfl, b, [], f1, l, [], by rw [upd_ne n1.symm]; exact f2, ?_⟩) (fun e m h => h))
    split at h2
    · rename_i hlt
      exact h2 _ _ B' (S2.set_d hlt .non) se
    · exact h2.elim
end
/-! ### its own __init__ -/
section
variable {P : Program} {w : World} {K : PySem.W.Frag} {mg : Str → Option Value} {base : Heap}
theorem init_read {C : Addr} (cc : CurCls K C) {Q : VK} {D : Ends} {vs : List V} {H : Hp} {σ : L2.St} {E : XK} (hD : ∀ σ' H', D.nx σ' H' = Q .non H') (h : spInit K vs H Q E)
    (h0 : ∀ v, vs[0]? = some v → σ[0]? = some (some v)) (h1 : ∀ v, vs[1]? = some v → σ[1]? = some (some v)) (h2 : ∀ v, vs[2]? = some v → σ[2]? = some (some v)) (h3 : ∀ v, vs[3]? = some v → σ[3]? = some (some v)) (h4 : ∀ v, vs[4]? = some v → σ[4]? = some (some v)) :
    tSeq (sFld K (tVar 0) (tVar 1) "kinds") (tSeq (sFld K (tVar 0) (tVar 2) "rules") (tSeq (sFld K (tVar 0) (tVar 3) "words") (tSeq (sFld K (tVar 0) (tTupP (tCons (tVar 4) (tCons (tC (.int 0)) (tCons (tC .non) tNil)))) "now")
      (tSeq (sFld K (tVar 0) (tLst tNil) "before") (sFld K (tVar 0) (tLst tNil) "later"))))) D σ H := by
  obtain ⟨x, C', dx, vk, vr, vw, vt, rfl, hC, hx, post⟩ := h
  have eC := cc.is hC
  subst eC
  refine ⟨vk, h1 _ rfl, .ref x, h0 _ rfl, x, C', dx, [], rfl, hx, cc.cls, cc.kinds, by decide, ?_⟩
  refine ⟨vr, h2 _ rfl, .ref x, h0 _ rfl, x, C', dx, _, rfl, upd_same, cc.cls, cc.rules, (by show (1 : Nat) < 1000; decide), ?_⟩
  refine ⟨vw, h3 _ rfl, .ref x, h0 _ rfl, x, C', dx, _, rfl, upd_same, cc.cls, cc.words, (by show (2 : Nat) < 1000; decide), ?_⟩
  refine ⟨vt, h4 _ rfl, (by show (3 : Nat) ≤ sizeLine; decide), fun tp o ho htp => ?_⟩
  obtain ⟨t1, t2⟩ := upd_none htp
  obtain ⟨_, t3⟩ := upd_none t2
  obtain ⟨_, t4⟩ := upd_none t3
  refine ⟨.ref x, h0 _ rfl, x, C', dx, _, rfl, by rw [upd_ne (Ne.symm t1)]; exact upd_same, cc.cls, cc.now, (by show (3 : Nat) < 1000; decide), ?_⟩
  refine ⟨Nat.zero_le _, fun b hb => ?_⟩
  obtain ⟨b1, b2⟩ := upd_none hb
  obtain ⟨b3, b4⟩ := upd_none b2
  obtain ⟨_, b5⟩ := upd_none b4
  obtain ⟨_, b6⟩ := upd_none b5
  obtain ⟨_, b7⟩ := upd_none b6
  refine ⟨.ref x, h0 _ rfl, x, C', dx, _, rfl, by rw [upd_ne (Ne.symm b1)]; exact upd_same, cc.cls, cc.before, (by show (4 : Nat) < 1000; decide), ?_⟩
  refine ⟨Nat.zero_le _, fun l hl => ?_⟩
  obtain ⟨l1, l2⟩ := upd_none hl
  obtain ⟨l3, l4⟩ := upd_none l2
  obtain ⟨_, l5⟩ := upd_none l4
  obtain ⟨l6, l7⟩ := upd_none l5
  obtain ⟨_, l8⟩ := upd_none l7
  obtain ⟨_, l9⟩ := upd_none l8
  obtain ⟨_, l10⟩ := upd_none l9
  refine ⟨.ref x, h0 _ rfl, x, C', dx, _, rfl, by rw [upd_ne (Ne.symm l1)]; exact upd_same, cc.cls, cc.later, (by show (5 : Nat) < 1000; decide), ?_⟩
  show D.nx _ _
  rw [hD]
  refine post tp b l o _ ho t4 b7 l10 (fun z => b3 z.symm) (fun z => l3 z.symm) (fun z => l6 z.symm) ?_ ?_ ?_ ?_ fun y y1 y2 y3 y4 => ?_
  · rw [upd_same]; rfl
  · rw [upd_ne t1, upd_ne (fun z => l6 z.symm), upd_ne t1, upd_ne (fun z => b3 z.symm), upd_ne t1, upd_same]
  · rw [upd_ne b1, upd_ne (fun z => l3 z.symm), upd_ne b1, upd_same]
  · rw [upd_ne l1, upd_same]
  · rw [upd_ne y1, upd_ne y4, upd_ne y1, upd_ne y3, upd_ne y1, upd_ne y2, upd_ne y1, upd_ne y1, upd_ne y1]
end
end G

/-! methods as they stand behind the top -/
namespace G
open PySem PySem.Spec PyProof.Rows L2
def clsS (s : Stmt) (j : Nat) : Stmt := match s with
  | .ClassDef _ _ _ b _ _ _ _ _ _ _ => b.getD j (.Pass ⟨0, 0, 0, 0⟩)
  | _ => .Pass ⟨0, 0, 0, 0⟩
/-- a method behind the top -/
structure MethAt (K : PySem.W.Frag) (C : Addr) (x qual : Str) (st : Stmt) (ps : List Str) (f : Addr) (fd : FuncData) : Prop where
  F : Fun K x qual st f fd
  m : Meth K C x f
  b : Binds K fd ps []
theorem meth_at {K : PySem.W.Frag} {C : Addr} {x qual : Str} {st : Stmt} {ps : List Str} {f : Addr} {oc : Value} {od an : Option Addr} {osl : Array (Option Value)} {kV doc pm cdv ct : Value}
    (a : PySem.W.findIn K (.ref C) x = some (some (.ref f))) (n : PySem.W.isFn K (.ref f) = true)
    (l : K.lookup f = some ⟨oc, od, .func (PySem.W.fnOf x qual (defArgs st) (defBody st) (defScope st) .none kV doc pm an cdv ct), osl⟩) (c : PySem.W.codeIn K cdv qual = true) (k : PySem.W.keepIn K (.ref f) = true)
    (hb : ∀ (kV doc pm : Value) (an : Option Addr) (cdv ct : Value) (us : List Value), us.length = ps.length → bindArgs (PySem.W.fnOf x qual (defArgs st) (defBody st) (defScope st) .none kV doc pm an cdv ct) ⟨us, []⟩ = pure (ps.zip us)) :
    MethAt K C x qual st ps f (PySem.W.fnOf x qual (defArgs st) (defBody st) (defScope st) .none kV doc pm an cdv ct) :=
  have F := fun_mk (st := st) l c k
  ⟨F, ⟨a, n, k⟩, F.binds hb⟩
/-- a class behind the top, its __init__ -/
structure ClsA (K : PySem.W.Frag) (mg : Str → Option Value) (C : Addr) (st : Stmt) (f : Addr) (fd : FuncData) : Prop where
  cc : CurCls K C
  g : mg "Cursor" = some (.ref C)
  made : Mk K C f
  F : Fun K "__init__" "Cursor.__init__" st f fd
  b : Binds K fd ["self", "kinds", "rules", "words", "text"] []
theorem start_get {N : List Str} {vs : List V} {i : Nat} {v : V} (e : vs[i]? = some v) : (L2.start N vs)[i]? = some (some v) := by
  have h : i < vs.length := (List.getElem?_eq_some_iff.mp e).1
  unfold L2.start
  rw [List.getElem?_append_left (by simpa using h), List.getElem?_map, e]
  rfl
end G

/-! comprehensions that draw: bounds from both sides -/
namespace G
open PySem PySem.Spec PyProof.Rows L2
section
variable {ρ : Env} {n : Nat} {tg : D → Env → Option Env} {tt : M Bool} {te : M D}
theorem lc_drawU {ty : Type} (enc : ty → D) (Q : D → Prop) (c : Nat) : ∀ (ds : List D) (n : Nat), (∀ d ∈ ds, ∀ m, (n ≤ m ∧ m ≤ n + ds.length * c) → ∃ ρ1 y m', tg d ρ = some ρ1 ∧ te ρ1 m = .ok y m' ∧ (m ≤ m' ∧ m' ≤ m + c) ∧ Q y) →
    ∃ ys n', lcL tg bYes te ρ ds n = .ok ys n' ∧ (n ≤ n' ∧ n' ≤ n + ds.length * c) ∧ ys.length = ds.length ∧ ∀ y ∈ ys, Q y
  | [], n, _ => ⟨[], n, rfl, by simp, rfl, by simp⟩
  | d :: ds, n, h => by
    have e0 : (d :: ds).length * c = ds.length * c + c := by rw [List.length_cons, Nat.succ_mul]
    obtain ⟨ρ1, y, m', e1, e2, h1, h2⟩ := h d List.mem_cons_self n (by omega)
    obtain ⟨ys, n', e3, h3, h4, h5⟩ := lc_drawU enc Q c ds m' fun b hb m hm => h b (List.mem_cons_of_mem _ hb) m (by rw [e0]; omega)
    refine ⟨y :: ys, n', ?_, by rw [e0]; omega, by simp [h4], fun z hz => ?_⟩
    · show (match tg d ρ with | none => Res.bad | some ρ1 => _ : Res (List D)) = _
      rw [e1]
      show (match te ρ1 n with | .ok y n2 => _ | _ => Res.bad : Res (List D)) = _
      rw [e2]
      show (lcL tg bYes te ρ ds m').bind _ = _
      rw [e3]
      rfl
    · rcases List.mem_cons.mp hz with z | z
      · rw [z]; exact h2
      · exact h5 _ z
end
theorem lc_fdrawU {tg : D → G.Env → Option G.Env} {tt : M Bool} {te : M D} {ρ : G.Env} (c : Nat) (Q : D → Prop) : ∀ (ds : List D) (n : Nat),
    (∀ d ∈ ds, ∀ m, (n ≤ m ∧ m ≤ n + ds.length * c) → ∃ ρ1 b m', tg d ρ = some ρ1 ∧ tt ρ1 m = .ok b m' ∧ (m ≤ m' ∧ m' ≤ m + c) ∧ (b = true → ∃ y, te ρ1 m' = .ok y m' ∧ Q y)) →
    ∃ ys n', lcL tg tt te ρ ds n = .ok ys n' ∧ (n ≤ n' ∧ n' ≤ n + ds.length * c) ∧ ys.length ≤ ds.length ∧ ∀ y ∈ ys, Q y
  | [], n, _ => ⟨[], n, rfl, by simp, by simp, by simp⟩
  | d :: ds, n, h => by
    have e0 : (d :: ds).length * c = ds.length * c + c := by rw [List.length_cons, Nat.succ_mul]
    obtain ⟨ρ1, b, m', e1, e2, h1, h2⟩ := h d List.mem_cons_self n (by omega)
    obtain ⟨ys, n', e3, h3, h4, h5⟩ := lc_fdrawU c Q ds m' fun b hb m hm => h b (List.mem_cons_of_mem _ hb) m (by rw [e0]; omega)
    cases b with
    | false =>
      refine ⟨ys, n', ?_, by rw [e0]; omega, by rw [List.length_cons]; omega, h5⟩
      show (match tg d ρ with | none => Res.bad | some ρ1 => _ : Res (List D)) = _
      rw [e1]
      show (match tt ρ1 n with | .ok true n1 => _ | .ok false n1 => _ | _ => Res.bad : Res (List D)) = _
      rw [e2]
      exact e3
    | true =>
      obtain ⟨y, ey, hy⟩ := h2 rfl
      refine ⟨y :: ys, n', ?_, by rw [e0]; omega, by rw [List.length_cons, List.length_cons]; omega, fun z hz => ?_⟩
      · show (match tg d ρ with | none => Res.bad | some ρ1 => _ : Res (List D)) = _
        rw [e1]
        show (match tt ρ1 n with | .ok true n1 => _ | .ok false n1 => _ | _ => Res.bad : Res (List D)) = _
        rw [e2]
        show (match te ρ1 m' with | .ok y n2 => _ | _ => Res.bad : Res (List D)) = _
        rw [ey]
        show (lcL tg tt te ρ ds m').bind _ = _
        rw [e3]
        rfl
      · rcases List.mem_cons.mp hz with q | q
        · rw [q]; exact hy
        · exact h5 _ q
end G

namespace G
open PySem PySem.Spec PyProof.Rows L2
/-! ### raise, try -/
abbrev veB : List Value := [.type "ValueError", .type "Exception", .type "BaseException", .type "object"]
/-- an own class of exceptions below ValueError -/
structure ExcAt (K : PySem.W.Frag) (mg : Str → Option Value) (x : Str) (C : Addr) : Prop where
  g : mg x = some (.ref C)
  q : PySem.W.excIn K C veB "ValueError.__new__" = true
  k : PySem.W.keepIn K (.ref C) = true
  s : PySem.W.subIn K (.ref C) (.type "BaseException") = some true
  t : PySem.W.typeIn K (.ref C) = some (.type "type")
theorem pmk_own0 {X : Cx} {C : Addr} {bmB : List Value} {B newId initId : String} {x : Str} {p pos : Pos} (F : ExcBaseFacts B newId initId bmB) (q : PySem.W.excIn X.K C bmB newId = true) (gC : X.mg x = some (.ref C)) (kC : PySem.W.keepIn X.K (.ref C) = true) (r : Raises X (.ref C)) (hg : Gl X x)
    (hdb : (x == ("__debug__" : Str)) = false := by decide) :
    PMk X (.Call (.Name x p) [] [] pos) (fun σ H Q => Q (.ref C) none H) := by
  intro pins s σ H Q I h
  refine wpAny_Call_Name_kw (ld_glob I hg gC ?_ hdb)
  refine PySem.W.callWith_K0 I.kIn kC ?_
  show wpAny _ _ (call (.ref C) []) _ _ _
  obtain ⟨bm, N, nm, qn, bs, hdct, sn, sub, ab, col, dd, k0, k1, k2, k3, k5, mN, hC, hN, hni, T⟩ := exc_obj I.kIn q
  refine wpAny_call_exc_subT F T hC hN hni (fun h' e hm => ?_) (by show 0 ≤ sizeLine; exact Nat.zero_le _)
  exact mk_of I hm r h (I.hok.gone hm.new)
def sRaise (c : String) : MS := fun ρ n => .ex c ρ n
def noEx : Out → Out
  | .ex _ _ _ => .bad
  | o => o
def sTry (cs : List String) (f h : MS) : MS := fun ρ n => match f ρ n with
  | .ex e ρ1 n1 => if e ∈ cs then noEx (h ρ1 n1) else .bad
  | o => o
section
variable {X : Cx} {ca : String → Addr} {W : WX}
theorem es_raise {x : Str} {e : String} {p p2 pos : Pos} (hc : X.calm = true) (tk : Takes X W) (E : ExcAt X.K X.mg x (ca e)) (hg : Gl X x) (hdb : (x == ("__debug__" : Str)) = false := by decide) :
    PS X (.Raise (some (.Call (.Name x p) [] [] p2)) none pos) (tS X.K ca W (sRaise e)) :=
  PS.weak (ps_raise hc tk (pmk_own0 PySem.F.excBase_ValueError E.q E.g E.k (raises_own E.s E.t) hg hdb)) fun D σ H ⟨c, ρ, n, S, h⟩ => h σ H c.B S Sees.refl
theorem es_try {x : Str} {cs : List String} {a : Addr} {np pos pos' : Pos} {body suite : List Stmt} {b₀ : Stmt} {f h : MS} (tk : Takes X W) (hm : X.mg x = some (.ref a)) (hx : ∀ e ∈ cs, PySem.W.exmOne X.K (.ref (ca e)) (.ref a) = some true) (hg : Gl X x)
    (hb : ∀ (W' : WX) (pn : List (Addr × Obj)) (xe : Value → Shared → Prop), Takes (X.tr pn xe) W' → PassesOwn (model X.prog X.w) X.A X.env xe → PSs (X.tr pn xe) body (tS X.K ca W' f))
    (hsu : ∀ (a : Addr) (oe : Obj) (pn : List (Addr × Obj)), PSs (X.suite a ((a, oe) :: pn)) (b₀ :: suite) (tS X.K ca (fun _ _ _ _ => False) h))
    (hs : X.stack = X.env :: X.outer := by rfl) (hf : X.env.frame = some X.env.locals := by rfl) (hdb : (x == ("__debug__" : Str)) = false := by decide) :
    PS X (.Try body [.ExceptHandler (some (.Name x np)) none (b₀ :: suite) pos'] [] [] pos) (tS X.K ca W (sTry cs f h)) :=
  PS.weak (ps_try_only (c := .ref a) (tb := fun W' => tS X.K ca W' f) (ts := fun _ _ _ => tS X.K ca (fun _ _ _ _ => False) h) hs hf ⟨hg, hdb, .inl hm⟩ tk hb fun a oe _ _ pn _ _ => hsu a oe pn) fun D σ H ⟨c, ρ, n, S, hh⟩ => by
    refine ⟨c, ρ, n, S, ?_⟩
    unfold sTry at hh
    cases q : f ρ n with
    | ex e1 ρ1 n1 =>
      rw [q] at hh
      simp only at hh
      split at hh
      · rename_i he
        refine fun σ' H' B' S' se => ⟨true, hx e1 he, fun _ a ha => ⟨c.at B', ρ1, n1, S', ?_⟩, fun z => by cases z⟩
        cases q2 : h ρ1 n1 with
        | ex e2 ρ2 n2 => rw [q2] at hh; exact hh.elim
        | nx ρ2 n2 => rw [q2] at hh; exact OPost.at hh se
        | rt d n2 => rw [q2] at hh; exact OPost.at hh se
        | bk ρ2 n2 => rw [q2] at hh; exact OPost.at hh se
        | ct ρ2 n2 => rw [q2] at hh; exact OPost.at hh se
        | bad => rw [q2] at hh; exact hh.elim
      · exact hh.elim
    | nx ρ2 n2 => rw [q] at hh; exact hh
    | rt d n2 => rw [q] at hh; exact hh
    | bk ρ2 n2 => rw [q] at hh; exact hh
    | ct ρ2 n2 => rw [q] at hh; exact hh
    | bad => rw [q] at hh; exact hh
end
@[simp] theorem e_sRaise {c : String} {ρ : G.Env} {n : Nat} : sRaise c ρ n = .ex c ρ n := rfl
theorem e_sTry {cs : List String} {f h : MS} {ρ : G.Env} {n : Nat} : sTry cs f h ρ n = match f ρ n with
  | .ex e ρ1 n1 => if e ∈ cs then noEx (h ρ1 n1) else .bad
  | o => o := rfl
end G

/-! an exception caught, handed on to a def -/
namespace G
open PySem PySem.Spec PyProof.Rows L2
/-! ### isinstance -/
theorem call_isX {X : Cx} {a D : Addr} {oe : Obj} (hp : (a, oe) ∈ X.pn) (C : ExcC X.K D) (hz : Zc (.ref D) none oe) (hf : ∃ vs, oe.data = .fields vs) : CallR X (.builtin "isinstance") (rIsE X.K D a) := by
  intro pins s σ H xs us Q I r h
  obtain ⟨c, cv, b, rfl, hcv, e, q⟩ := h
  cases r with
  | cons rx rr =>
    cases rr with
    | cons rt rr =>
      cases rr
      cases rx
      have ec := hcv _ rt
      subst ec
      obtain ⟨hget, _⟩ := I.pin (a, oe) (List.mem_append.mpr (.inl hp))
      obtain ⟨vs, hv⟩ := hf
      have J : PySem.W.InstAt s.heap a oe D none := by
        obtain ⟨oc, od, oda, osl⟩ := oe
        obtain ⟨h1, h2⟩ := hz
        dsimp only at h1 h2 hv
        subst h1 h2 hv
        exact ⟨hget, rfl, rfl, trivial⟩
      exact PySem.W.kia_one (PySem.W.handS_kitx_exc C.hg C.hk C.hs C.hd C.ha C.hn C.ht C.hm) I.kIn J e (fun z => nomatch z) fun tk => ⟨.bl b, H, I.kept (t' := tk) fun _ _ z => z, rfl, q⟩
def cIsX (i : Nat) (a : Addr) (b : Bool) : M D := fun ρ n => match ρ[i]? with
  | some (some (.exn a')) => if a' = a then .ok (.bool b) n else .bad
  | _ => .bad
section
variable {X : Cx} {ca : String → Addr} {W : WX}
theorem ev_isX {i : Nat} {a D : Addr} {oe : Obj} {x nm : Str} {v : V} {cv : Value} {b : Bool} {p px p2 pos : Pos} (hp : (a, oe) ∈ X.pn) (C : ExcC X.K D) (hz : Zc (.ref D) none oe) (hf : ∃ vs, oe.data = .fields vs)
    (hc : PE X (.Name nm p2) (tC v)) (hcv : ∀ u, RelV v u → u = cv) (hk : PySem.W.kitOne X.K (.ref D) cv = some b) (hg : Gl X "isinstance") (hm : X.mg "isinstance" = none)
    (hN : X.N[i]? = some x := by rfl) (hv : Vis X.env.scope x := by first | exact Or.inl rfl | exact Or.inr (Or.inl rfl) | exact Or.inr (Or.inr rfl)) (hd : (x == ("__debug__" : Str)) = false := by decide) (hcd : (x == ("__classdict__" : Str)) = false := by decide)
    (h1 : starEach [.Name x px, .Name nm p2] X.env = (false, eval (.Name x px) X.env) :: starEach [.Name nm p2] X.env := by rfl) (h2 : starEach [.Name nm p2] X.env = (false, eval (.Name nm p2) X.env) :: starEach [] X.env := by rfl)
    (hpl : (backTo pos (starEach [.Name nm p2] X.env)).any (·.1) = false := by rfl) (hbt : bootBuiltins "isinstance" = some (.builtin "isinstance") := by decide +kernel) :
    PE X (.Call (.Name "isinstance" p) [.Name x px, .Name nm p2] [] pos) (tG X.K ca W (cIsX i a b)) :=
  PE.weak (pe_callB (call_isX hp C hz hf) hg hm hbt (pa_cons (pe_var hN hv hd hcd) (pa_cons hc pa_nil h2) h1) (by decide) (by decide) h1 hpl) fun σ H Q ⟨c, ρ, k, S, h⟩ => by
    unfold cIsX at h
    split at h
    · rename_i a' e
      split at h
      · rename_i ea
        subst ea
        obtain ⟨u, hu, ru⟩ := S.slot i _ e
        have ru : u = .ref a' := ru
        subst ru
        exact ⟨_, hu, ⟨v, cv, b, rfl, hcv, hk, h (.bl b) H S.gx (.bl b)⟩⟩
      · exact h.elim
    · exact h.elim
end
/-! ### a def that is handed the exception -/
structure FnE (P : Program) (w : World) (K : PySem.W.Frag) (mg : Str → Option Value) (base : Heap) (ca : String → Addr) (cs : List String) (k : Nat) (f : Addr) (fd : FuncData) (ps : List Str) (F : Addr → String → Fn) : Prop where
  run : ∀ (A : Around) (outer : List PySem.Env) (s : Shared) (H : Hp) (args : Args) (us : List Value) (vs : List V) (Q : VK) (E : XK) (p : Addr × Obj) (e : String), e ∈ cs → Zc (.ref (ca e)) none p.2 → (∃ vs, p.2.data = .fields vs) → L2H.RoomH k A → L2H.PinOk outer H s p → Env0 P w K mg base A outer s H → BindsTo s fd args (ps.zip us) → Vals vs us → spG K ca ps.length (F p.1 e) vs H Q E →
    codeAny (model P w) A (.call (.ref f) args) (CR (L2.CX P w) outer P w H s Q E) s
section
variable {P : Program} {w : World} {K : PySem.W.Frag} {mg : Str → Option Value} {base : Heap} {ca : String → Addr}
theorem start_sp {N ps : List Str} {scope : Scope} (S : FnScope N ps scope) {g : MS} {vs : List V} {H : Hp} {Q : VK} {E : XK} (h : spG K ca ps.length (runF N.length g) vs H Q E) :
    tS K ca (fun cls d _ H => E cls d H) g { nx := fun _ H' => Q .non H', rt := Q } (L2.start N vs) H := by
  obtain ⟨hl, c, ls, n, sub, tB, all, town, rk, cur, nt, cl, two, ra, post⟩ := h
  have hps : ps.length ≤ N.length := by have := congrArg List.length S.pre; rw [List.length_take] at this; omega
  have hll : vs.length = ls.length := ra.length
  refine ⟨⟨c.B, c.t, H, c.B, c.R, true, none⟩, ls.map some ++ List.replicate (N.length - ls.length) none, n, ⟨?_, fun _ h => h, sub _ tB, all, all, Ext.refl, town, rk, cur, nt, fun _ => .refl _, cl, two, nofun, fun i l e => ?_, fun i j l l' a _ e1 e2 o1 o2 s1 => ?_⟩, ?_⟩
  · unfold L2.start
    simp [hll]
  · have hi : ls[i]? = some l := by
      by_cases hi : i < ls.length
      · rw [List.getElem?_append_left (by simpa using hi), List.getElem?_map] at e
        cases q : ls[i]? with
        | none => rw [q] at e; cases e
        | some l' => rw [q] at e; cases e; rfl
      · rw [List.getElem?_append_right (by simpa using hi), List.getElem?_replicate] at e
        split at e <;> cases e
    obtain ⟨v, hv, ho, hr⟩ := ra.get hi
    refine ⟨v, ?_, ?_⟩
    · unfold L2.start
      have : i < vs.length := (List.getElem?_eq_some_iff.mp hv).1
      rw [List.getElem?_append_left (by simpa using this), List.getElem?_map, hv]
      rfl
    · cases l with
      | d x => exact hr
      | town => exact hr
      | scr ns => exact hr
      | frk _ => exact hr
      | cur => exact hr
      | prk => exact hr
      | exn _ => exact hr
      | _ => cases ho
  · have hi : ls[i]? = some l := by
      by_cases hi : i < ls.length
      · rw [List.getElem?_append_left (by simpa using hi), List.getElem?_map] at e1
        cases q : ls[i]? with
        | none => rw [q] at e1; cases e1
        | some l' => rw [q] at e1; cases e1; rfl
      · rw [List.getElem?_append_right (by simpa using hi), List.getElem?_replicate] at e1
        split at e1 <;> cases e1
    obtain ⟨v, hv, ho, hr⟩ := ra.get hi
    rw [isOut_own ho] at o1
    cases o1
  · unfold runF at post
    cases q : g (ls.map some ++ List.replicate (N.length - ls.length) none) n with
    | nx ρ1 n1 =>
      rw [q] at post
      exact fun σ' H' B' S' s => post .non H' ⟨S'.keep, S'.town, S'.gr.cur rfl⟩ .non
    | rt d n1 =>
      rw [q] at post
      exact fun v H' g1 r1 => post v H' ⟨g1.ext, g1.town, g1.cur rfl⟩ r1
    | ex e ρ1 n1 =>
      rw [q] at post
      exact fun σ' H' B' S' s => post H' ⟨S'.keep, S'.town, S'.gr.cur rfl⟩
    | bk ρ1 n1 => rw [q] at post; exact post.elim
    | ct ρ1 n1 => rw [q] at post; exact post.elim
    | bad => rw [q] at post; exact post.elim


theorem fn_okE {x qual : Str} {st : Stmt} {f : Addr} {fd : FuncData} {N ps : List Str} {k : Nat} {cs : List String} {g : Addr → String → MS} (F : Fun K x qual st f fd) (S : FnScope N ps (defScope st))
    (hbody : ∀ (cdv : Value) (A : Around) (outer : List PySem.Env) (s : Shared) (H : Hp) (E : XK) (p : Addr × Obj) (e : String), e ∈ cs → Zc (.ref (ca e)) none p.2 → (∃ vs, p.2.data = .fields vs) →
      PSs (L2H.cxH (L2.CX P w) P w K mg base N qual (defScope st) f cdv A outer s H E p) (defBody st) (tS K ca (fun cls d _ H => E cls d H) (g p.1 e))) : FnE P w K mg base ca cs (k + 1) f fd ps (fun a e => runF N.length (g a e)) := by
  obtain ⟨oc, od, kV, doc, pm, an, cdv, ct, osl, rfl, lk, hcd⟩ := F.ex
  refine ⟨fun A outer s H args us vs Q E p e he hz hf hr hpin e0 hb r hsp => ?_⟩
  have hl : vs.length = ps.length := hsp.1
  have KX : K.In s.heap := e0.mod.kin.keeps fun b o e => (e0.bs b o e).1
  have lim : s.heap.NoLimit := e0.mod.nolimit.keeps fun b o e => (e0.bs b o e).1
  have hkind : ∀ y ∈ ps.zip us, (defScope st).names.lookup y.1 = some .local ∨ ((defScope st).names.lookup y.1 = some .cell ∧ ((cellsFrom (s.heap.objs.size + 1) (defScope st).names []).lookup y.1).isSome = true) := fun ⟨n, v⟩ hy => by
    rcases S.par n (List.of_mem_zip hy).1 with q | q
    · exact .inl q
    · exact .inr ⟨q, PySem.W.cellsFrom_some _ _ _ (.inl q)⟩
  refine codeAny_call_function hr.depth (KX _ _ lk) rfl S.co S.gen rfl (PySem.W.codeRec_of KX hcd) (hb _ _ _ _ ?_)
  refine wpAny_newFunctionEnv_cells S.kind hkind fun env he s1 x => ?_
  subst he
  refine ⟨lim.keeps x.toInCall.keep, codeAny_func ?_⟩
  have I : Inv (L2H.cxH (L2.CX P w) P w K mg base N qual (defScope st) f cdv A outer s H E p) [] (L2.start N vs) H s1 := L2H.inv_startH S hpin e0 hl r x
  refine wpAny_mono ((hbody cdv A outer s H E p e he hz hf).run [] s1 (L2.start N vs) H _ I (start_sp S hsp)) (fun fl s' hs => ?_) fun e s' hs => hs
  have fin : ∀ {σ' : L2.St} {H' : Hp} {v : V} {u : Value}, Inv (L2H.cxH (L2.CX P w) P w K mg base N qual (defScope st) f cdv A outer s H E p) [] σ' H' s' → RelV v u → Q v H' → CE outer P w H s Q u s' :=
    fun {σ' H' v u} J rv q => ⟨v, H', J.os, J.bare, J.base, J.hok, rv, q⟩
  cases fl with
  | ret u =>
    obtain ⟨v, σ', H', J, rv, q⟩ := hs
    exact fin J rv q
  | next =>
    obtain ⟨σ', H', J, q⟩ := hs
    exact fin (v := V.non) (u := Value.none) J rfl q
  | brk =>
    obtain ⟨_, _, _, q⟩ := hs
    exact False.elim q
  | cont =>
    obtain ⟨_, _, _, q⟩ := hs
    exact False.elim q


end
noncomputable def cCallX (i : Nat) (a : Addr) (F : Fn) : M D := fun ρ n => match ρ[i]? with
  | some (some (.exn a')) => if a' = a then F [.exn a] n else .bad
  | _ => .bad
section
variable {X : Cx} {ca : String → Addr} {W : WX}
theorem ev_callE {i k : Nat} {a f : Addr} {oe : Obj} {e : String} {cs : List String} {fd : FuncData} {x y p0 : Str} {F : Addr → String → Fn} {p py pos : Pos} (hp : (a, oe) ∈ X.pn) (he : e ∈ cs) (hz : Zc (.ref (ca e)) none oe) (hf : ∃ vs, oe.data = .fields vs)
    (Fk : FnE X.prog X.w X.K X.mg X.base ca cs k f fd [p0] F) (hr : L2H.RoomH k X.A) (hg : Gl X x) (hm : X.mg x = some (.ref f)) (hk : PySem.W.keepIn X.K (.ref f) = true) (hb : Binds X.K fd [p0] [])
    (hN : X.N[i]? = some y := by rfl) (hv : Vis X.env.scope y := by first | exact Or.inl rfl | exact Or.inr (Or.inl rfl) | exact Or.inr (Or.inr rfl)) (hd : (y == ("__debug__" : Str)) = false := by decide) (hcd : (y == ("__classdict__" : Str)) = false := by decide)
    (hdb : (x == ("__debug__" : Str)) = false := by decide) (hst : starEach [.Name y py] X.env = (false, eval (.Name y py) X.env) :: starEach [] X.env := by rfl) (hpl : (backTo pos (starEach [] X.env)).any (·.1) = false := by rfl) :
    PE X (.Call (.Name x p) [.Name y py] [] pos) (tG X.K ca (fun _ _ _ _ => False) (cCallX i a (F a e))) := by
  refine ⟨fun pins s σ H Q I h => ?_⟩
  obtain ⟨c, ρ, n, S, h⟩ := h
  unfold cCallX at h
  split at h
  · rename_i a' q
    split at h
    · rename_i ea
      subst ea
      obtain ⟨u, hu, ru⟩ := S.slot i _ q
      have ru : u = .ref a' := ru
      subst ru
      refine wpAny_Call_Name_kw (ld_glob I hg hm ?_ hdb)
      refine PySem.W.callWith_K (h₀ := X.base) I.ok.mod.kin hk (thn ((pa_cons (pe_var hN hv hd hcd) pa_nil hst).run pos pins s σ H (fun vs H1 => vs = [.ref a'] ∧ H1 = H) I ⟨_, hu, rfl, rfl⟩) fun us s1 ⟨vs, H1, I1, r, q1, q2⟩ => ⟨I1.kIn, ?_⟩) hst hpl
      subst q1 q2
      have b := hb s1 us I1.kIn (by rw [List.append_nil, ← r.length]; rfl)
      rw [List.append_nil] at b
      have P1 := I1.pin (a', oe) (List.mem_append_left _ hp)
      have hpin : L2H.PinOk X.stack H1 s1 (a', oe) := ⟨P1.1, P1.2.1, fun hm => (List.mem_cons.mp (I1.stkSub a' hm)).elim P1.2.2.1 P1.2.2.2.1, P1.2.2.2.2⟩
      refine wpAny_call (codeAny_mono (Fk.run X.A X.stack s1 H1 ⟨us, []⟩ us [.ref a'] Q (fun _ _ _ => False) (a', oe) e he hz hf hr hpin I1.env0 b r ⟨rfl, c, [.exn a'], n, S.sub, S.tB, S.all, S.town, S.rk, S.cur, S.nt, S.cl, S.two, .cons ⟨rfl, rfl⟩ .nil, h⟩) fun r s' hq => ?_)
      cases r with
      | error e => exact passF pins σ H1 s1 e s' I1 hq
      | ok fl =>
        cases fl with
        | ret u => exact I1.after hq
        | next => exact False.elim hq
        | brk => exact False.elim hq
        | cont => exact False.elim hq
    · exact h.elim
  · exact h.elim
/-! ### try, except x as n -/
noncomputable def sTryAs (cs : List String) (i j : Nat) (f : MS) (gG : String → Nat → Res D) : MS := fun ρ n => match f ρ n with
  | .ex e ρ1 n1 => if e ∈ cs then (match gG e n1 with
    | .ok d n2 => if i < ρ1.length ∧ j < ρ1.length then .nx ((ρ1.set j (some (.d d))).set i none) n2 else .bad
    | _ => .bad) else .bad
  | o => o
theorem es_tryAs {x nm : Str} {i j : Nat} {cs : List String} {a0 : Addr} {np pos pos' : Pos} {body suite : List Stmt} {b₀ : Stmt} {f : MS} {F : Addr → String → Fn} {gG : String → Nat → Res D} (tk : Takes X W) (hm : X.mg x = some (.ref a0)) (hx : ∀ e ∈ cs, PySem.W.exmOne X.K (.ref (ca e)) (.ref a0) = some true) (hg : Gl X x)
    (hN : X.N.Nodup) (hi : X.N[i]? = some nm) (hln : X.env.kindOf nm = some .local) (hij : i ≠ j) (hF : ∀ a e n, e ∈ cs → F a e [.exn a] n = gG e n)
    (hb : ∀ (W' : WX) (pn : List (Addr × Obj)) (xe : Value → Shared → Prop), Takes (X.tr pn xe) W' → PassesOwn (model X.prog X.w) X.A X.env xe → PSs (X.tr pn xe) body (tS X.K ca W' f))
    (hsu : ∀ (a : Addr) (oe : Obj) (pn : List (Addr × Obj)) (e : String), e ∈ cs → Zc (.ref (ca e)) none oe → (∃ vs, oe.data = .fields vs) → PSs (X.suite a ((a, oe) :: pn)) (b₀ :: suite) (tS X.K ca (fun _ _ _ _ => False) (sSeq (sSet j (cCallX i a (F a e))) sNx)))
    (hs : X.stack = X.env :: X.outer := by rfl) (hf : X.env.frame = some X.env.locals := by rfl) (hdb : (x == ("__debug__" : Str)) = false := by decide) :
    PS X (.Try body [.ExceptHandler (some (.Name x np)) (some nm) (b₀ :: suite) pos'] [] [] pos) (tS X.K ca W (sTryAs cs i j f gG)) :=
  PS.weak (ps_try_as (c := .ref a0) (tb := fun W' => tS X.K ca W' f) (ts := fun a cls d D σ H => ∃ e, e ∈ cs ∧ cls = .ref (ca e) ∧ d = none ∧ tS X.K ca (fun _ _ _ _ => False) (sSeq (sSet j (cCallX i a (F a e))) sNx) D σ H) hs hf hN hi hln ⟨hg, hdb, .inl hm⟩ tk hb
    fun a oe cls d pn hz hfd => ⟨fun pins s σ H D I ⟨e, he, e1, e2, h⟩ => by subst e1 e2; exact (hsu a oe pn e he hz hfd).run pins s σ H D I h⟩) fun D σ H ⟨c, ρ, n, S, hh⟩ => by
    refine ⟨c, ρ, n, S, ?_⟩
    unfold sTryAs at hh
    cases q : f ρ n with
    | ex e1 ρ1 n1 =>
      rw [q] at hh
      simp only at hh
      split at hh
      · rename_i he
        cases qG : gG e1 n1 with
        | ok d n2 =>
          rw [qG] at hh
          simp only at hh
          split at hh
          · rename_i hlt
            refine fun σ' H' B' S' se => ⟨true, hx e1 he, fun _ a ha => ⟨e1, he, rfl, rfl, c.at B', ρ1.set i (some (.exn a)), n1, S'.set_ix hlt.1 (l := .exn a) rfl (fun z => by cases z), ?_⟩, fun z => by cases z⟩
            have e3 : (ρ1.set i (some (L.exn a)))[i]? = some (some (.exn a)) := by rw [List.getElem?_set_self hlt.1]
            have e2 : (sSeq (sSet j (cCallX i a (F a e1))) sNx) (ρ1.set i (some (.exn a))) n1 = .nx ((ρ1.set i (some (.exn a))).set j (some (.d d))) n2 := by
              unfold sSeq sSet cCallX
              rw [e3]
              simp only [if_true]
              rw [hF a e1 n1 he, qG]
              simp [ofR, hlt.2, sNx]
            rw [e2]
            intro σ2 H2 B2 S2 s2
            refine hh (σ2.set i none) H2 B2 ?_ (se.trans s2)
            have := S2.drop2 i
            rwa [List.set_comm _ _ hij, List.set_set] at this
          · exact hh.elim
        | ex _ _ => rw [qG] at hh; exact hh.elim
        | bad => rw [qG] at hh; exact hh.elim
      · exact hh.elim
    | nx ρ2 n2 => rw [q] at hh; exact hh
    | rt d n2 => rw [q] at hh; exact hh
    | bk ρ2 n2 => rw [q] at hh; exact hh
    | ct ρ2 n2 => rw [q] at hh; exact hh
    | bad => rw [q] at hh; exact hh
end
end G

/-! a cursor made for one refused deed -/
namespace G
open PySem PySem.Spec PyProof.Rows L2
section
variable {K : PySem.W.Frag} {c : Fm} {σ : L2.St} {H H' : Hp} {ρ : G.Env} {n : Nat}
theorem SR.loose (S : SR K c σ H ρ n) : SR K { c with fx := false, pn := none } σ H ρ n :=
  ⟨S.len, S.sub, S.tB, S.old, S.all, S.keep, S.town, S.rk, S.cur, S.nt, (fun h => nomatch h), S.cl, S.two, (fun _ h => nomatch h), fun i l e => by
    obtain ⟨v, h1, h2⟩ := S.slot i l e
    refine ⟨v, h1, ?_⟩
    cases l with
    | ob o => exact nomatch o
    | twl => exact ⟨h2.1, rfl, rfl⟩
    | d x => exact h2
    | own xs => exact h2
    | dic xs => exact h2
    | dit xs => exact h2
    | frk xs => exact h2
    | town => exact h2
    | scr xs => exact h2
    | cur => exact h2
    | prk => exact h2
    | exn a => exact h2, S.dist⟩
end
noncomputable def cTmp (F : Fn) (gs : M (List L)) : M D := fun ρ n => (gs ρ n).bind fun ls n1 => (match four (dsOf ls) with
    | some (dk, dr, dw, dt) => if 0 < ρ.length ∧ noList dk = true ∧ noList dr = true ∧ noList dw = true ∧ noList dt = true ∧ pq n1 = none then (match F [.cur] (cnew n1 ⟨dk, dr, dw, .tuple [dt, .int 0, .none], [], []⟩) with
      | .ex e m => if m = cnew n1 ⟨dk, dr, dw, .tuple [dt, .int 0, .none], [], []⟩ then .ex e n1 else .bad
      | _ => .bad) else .bad
    | none => .bad)
section
variable {X : Cx} {ca : String → Addr} {W : WX} {e : Expr} {es : List Expr} {pos p apos : Pos} {x m nm : Str} {k k2 : Nat} {f f2 C : Addr} {fd fd2 : FuncData} {gs : M (List L)} {F : Fn}
theorem PE.cool {e : Expr} {t : TE} (h : PE X e t) : PE X e (fun σ H Q => t σ H (fun v H' => ∃ a vs, H' a = some (.lst vs) ∧ Q v (upd H' a (.ext (CurL a vs))))) :=
  ⟨fun pins s σ H Q I q => thn (h.run pins s σ H _ I q) fun u s' hf => by
    obtain ⟨v, H', I', r, a, vs, e, q'⟩ := hf
    exact ⟨v, _, Inv.cool I' e, r, q'⟩⟩
theorem ev_tmp (tk : Takes X W) (cc : CurCls X.K C) (M : Mk X.K C f) (Fi : FnOk X.prog X.w X.K X.mg X.base (L2.CX X.prog X.w) k f fd ["self", "kinds", "rules", "words", "text"] (spInit X.K)) (hr : Room (k + 1) X.A) (hg : Gl X x) (hm : X.mg x = some (.ref C)) (hb : Binds X.K fd ["self", "kinds", "rules", "words", "text"] [])
    (hmt : Meth X.K C m f2) (Fk : FnOk X.prog X.w X.K X.mg X.base (L2.CX X.prog X.w) k2 f2 fd2 ["self"] (spG X.K ca 1 F)) (hr2 : Room k2 X.A) (hb2 : Binds X.K fd2 ["self"] []) (ha : PA X (e :: es) (tGA X.K ca W gs))
    (hl : ∀ vk vr vw vn b l, (curF vk vr vw vn b l).lookup m = none := by intros; rfl)
    (hdb : (x == ("__debug__" : Str)) = false := by decide) (he : starEach (e :: es) X.env = (false, eval e X.env) :: starEach es X.env := by rfl) (hpl : (backTo pos (starEach es X.env)).any (·.1) = false := by rfl) {p3 : Pos} {pl : Sem Bool}
    (ht : eval (.Call (.Attribute (.Call (.Name x p) (e :: es) [] pos) m apos) [] [] p3) X.env = (do
      let ov ← eval (.Call (.Name x p) (e :: es) [] pos) X.env
      standAt apos.atName
      let (f, first) ← holding [ov] (getMethod ov m pl)
      callWith p3 f first (backTo p3 (starEach [] X.env)) (backToKw p3 (keywordEach [] X.env))) := by rfl) :
    PE X (.Call (.Attribute (.Call (.Name x p) (e :: es) [] pos) m apos) [] [] p3) (tG X.K ca W (cTmp F gs)) :=
  PE.weak (pe_methX0 (sp := spG X.K ca 1 F) (PE.cool (PE.cool (pe_make M Fi hr hg hm hb .nil passF ha hdb he hpl))) cc.cls hmt Fk hr2 hb2 (fun σ => passAt tk σ) ht) fun σ H Q ⟨c, ρ, n, S, h⟩ => by
    unfold cTmp at h
    refine ⟨c, ρ, n, S, (Res.post_bind h).mono (fun ls n1 h1 vs H1 g1 r1 => ?_) (fun e m h => h)⟩
    intro x dx hx hdx hxd
    have S1 := (S.ext g1).loose
    split at h1
    · rename_i dk dr dw dt hfour
      have hds := four_some hfour
      have rs := r1.ds hds
      split at h1
      · rename_i hcond
        obtain ⟨c1, c2, c3, c4, c5, c6⟩ := hcond
        cases rs with
        | @cons vk _ vs1 _ q1 rs => cases rs with
          | @cons vr _ vs2 _ q2 rs => cases rs with
            | @cons vw _ vs3 _ q3 rs => cases rs with
              | @cons vt _ vs4 _ q4 rs =>
                cases rs
                refine ⟨x, C, dx, _, _, _, _, rfl, cc.c, upd_same, fun tp b l o H' ho htp hb hl' n1' n2' n3' f1 f2 f3 f4 f5 => ⟨rfl, ?_⟩⟩
                obtain ⟨S2, se⟩ := new_post (i := 0) S1 rfl rfl c1 cc.c q1 q2 q3 q4 c2 c3 c4 c5 hx hdx hxd ho htp hb hl' n1' n2' n3' f1 f2 f3 f4 f5
                have same : Same H1 (upd (upd H' b (.ext (CurL b []))) l (.ext (CurL l []))) := fun y u e => by
                  obtain ⟨tx, tp2⟩ := upd_none htp
                  obtain ⟨td, tp3⟩ := upd_none tp2
                  obtain ⟨bx, b2⟩ := upd_none hb
                  obtain ⟨bd, b3⟩ := upd_none b2
                  obtain ⟨lx, l2⟩ := upd_none hl'
                  obtain ⟨ld, l3⟩ := upd_none l2
                  have y1 : y ≠ x := fun z => by rw [z, hx] at e; cases e
                  have y2 : y ≠ dx := fun z => by rw [z, hdx] at e; cases e
                  have y3 : y ≠ tp := fun z => by rw [z, tp3] at e; cases e
                  have y4 : y ≠ b := fun z => by rw [z, b3] at e; cases e
                  have y5 : y ≠ l := fun z => by rw [z, l3] at e; cases e
                  rw [upd_ne y5, upd_ne y4, f5 y y1 y3 y4 y5, upd_ne y1, upd_ne y2]
                  exact e
                refine ⟨b, [], f3, l, [], by rw [upd_ne n2'.symm]; exact f4, x, dx, _, rfl, ?_, hl vk vr vw (.ref tp) b l, ?_⟩
                · obtain ⟨tx, tp2⟩ := upd_none htp
                  obtain ⟨bx, b2⟩ := upd_none hb
                  obtain ⟨lx, l2⟩ := upd_none hl'
                  rw [upd_ne lx.symm, upd_ne bx.symm]
                  exact f1
                · obtain ⟨v, hv, rl⟩ := S2.slot 0 .cur (by rw [List.getElem?_set_self (by rw [List.length_map]; exact c1)])
                  rw [List.getElem?_set_self (by rw [S.len]; exact c1)] at hv
                  cases hv
                  refine ⟨rfl, _, [.cur], _, S2.sub, S2.tB, S2.all, S2.town, S2.rk, S2.cur, S2.nt, S2.cl, S2.two, .cons ⟨rfl, rl⟩ .nil, ?_⟩
                  split at h1
                  · rename_i e1 m1 qF
                    split at h1
                    · rename_i em
                      subst em
                      rw [qF]
                      intro H3 g3
                      refine h1 H3 ⟨?_, ?_, ?_⟩
                      · exact g1.ext.trans ((Ext.of_same same).trans g3.ext)
                      · have := g3.town
                        rwa [zer_mod (cnew_mod n1 _)] at this
                      · have z := g3.cur
                        have rk : c.R = CurOk X.K := S1.rk
                        have z : c.R (c.B ++ [x]) H3 (cnew n1 ⟨dk, dr, dw, .tuple [dt, .int 0, .none], [], []⟩) := z
                        show c.R c.B H3 n1
                        rw [rk] at z ⊢
                        refine ⟨fun r er => ?_, (fun r er => by rw [c6] at er; cases er), (fun q r _ er => by rw [c6] at er; cases er)⟩
                        have := z.p r (by rw [pq_cnew]; exact er)
                        rwa [pkOf_app S.ne] at this
                    · exact h1.elim
                  · exact h1.elim
      · exact h1.elim
    · exact h1.elim
end
theorem roomE {k j : Nat} {A : Around} {v : Option Value} (r : Room k A) (h : j ≤ k) : L2H.RoomH j (A.mark v) := ⟨(r.mono h).dp, (r.mono h).un⟩
/-! ### the other cursor forgotten -/
noncomputable def fgt (n : Nat) : Nat := stset n (cq n, none)
theorem fgt_mod (n : Nat) : fgt n % 33554432 = n % 33554432 := stset_mod _ _
theorem cq_fgt (n : Nat) : cq (fgt n) = cq n := by show (st2 (stset n (cq n, none))).1 = _; rw [st2_stset]
theorem pq_fgt (n : Nat) : pq (fgt n) = none := by show (st2 (stset n (cq n, none))).2 = _; rw [st2_stset]
theorem SR.fgt {K : PySem.W.Frag} {c : Fm} {σ : L2.St} {H : Hp} {ρ : G.Env} {n : Nat} (S : SR K c σ H ρ n) : SR K c σ H ρ (fgt n) :=
  ⟨S.len, S.sub, S.tB, S.old, S.all, S.keep, by rw [zer_mod (fgt_mod n)]; exact S.town, S.rk, by
    have z := S.cur
    rw [S.rk] at z ⊢
    exact ⟨fun q e => z.c q (by rw [cq_fgt] at e; exact e), (fun q e => by rw [pq_fgt] at e; cases e), (fun q r _ e => by rw [pq_fgt] at e; cases e)⟩, S.nt, S.cb, S.cl, S.two, S.pin, S.slot, S.dist⟩
noncomputable def sFgt (f : MS) : MS := fun ρ n => match f ρ n with
  | .nx ρ1 n1 => .nx ρ1 (fgt n1)
  | _ => .bad
theorem es_fgt {X : Cx} {ca : String → Addr} {W : WX} {st : Stmt} {f : MS} (h : PS X st (tS X.K ca W f)) : PS X st (tS X.K ca W (sFgt f)) :=
  PS.weak h fun E σ H ⟨c, ρ, n, S, hh⟩ => by
    refine ⟨c, ρ, n, S, ?_⟩
    unfold sFgt at hh
    cases q : f ρ n with
    | nx ρ1 n1 => rw [q] at hh; exact fun σ2 H2 B2 S2 s2 => hh σ2 H2 B2 S2.fgt s2
    | rt d n1 => rw [q] at hh; exact hh.elim
    | bk ρ1 n1 => rw [q] at hh; exact hh.elim
    | ct ρ1 n1 => rw [q] at hh; exact hh.elim
    | ex e ρ1 n1 => rw [q] at hh; exact hh.elim
    | bad => rw [q] at hh; exact hh.elim
end G

/-! zip over two texts, too -/
namespace G
open PySem PySem.Spec PyProof.Rows L2
/-- two texts at once, the signs in new pairs -/
def ItZS (x y : Str) : It :=
  ⟨fun i _ => i < x.cps.size ∧ i < y.cps.size,
    fun i H v H' => ∃ (T : Addr) (c d : Nat) (o : Obj), v = .ref T ∧ o.dict = none ∧ H T = none ∧ H' = upd H T (.frz o (.tup [.str ⟨#[c]⟩, .str ⟨#[d]⟩])) ∧ x.cps[i]? = some c ∧ y.cps[i]? = some d,
    fun i _ => x.cps.size ≤ i ∨ y.cps.size ≤ i⟩
theorem strIt_ob {h : Heap} {it : Addr} {ty : String} {x : Str} {t : Tok} {i : Nat} (z : h.IsStrIter it ty x t i) : ∃ o, h.get? it = some o ∧ ∀ v, o.data ≠ .cell v := by
  obtain ⟨o, ho, hc, hd⟩ := z
  exact ⟨o, ho, fun v q => by rw [hd] at q; cases q⟩
theorem strIt_at {h h' : Heap} {it : Addr} {ty : String} {x : Str} {t : Tok} {i : Nat} (z : h.IsStrIter it ty x t i) (e : ∀ o, h.get? it = some o → h'.get? it = some o) : h'.IsStrIter it ty x t i := by
  obtain ⟨o, ho, r⟩ := z
  exact ⟨o, e o ho, r⟩
theorem turn_zs {P : Program} {w : World} {K : PySem.W.Frag} {elts : List Expr} {kk : Nat} {tpos : Pos} {x y : Str} {tx ty : Tok} {z TI TO i1 i2 : Addr} (D : Apart z TI TO i1 i2) :
    Turn P w K (.Tuple elts kk tpos) (ItZS x y) [z, TI, TO, i1, i2] z (fun i h => IsZip h z TI TO .none ∧ IsPair h TI (.ref i1) (.ref i2) ∧ (∃ a b, IsPair h TO a b) ∧ h.IsStrIter i1 (strIterType x) x tx i ∧ h.IsStrIter i2 (strIterType y) y ty i ∧ i ≤ x.cps.size ∧ i ≤ y.cps.size) where
  mem := by simp
  obj := fun i h st c hc => by
    obtain ⟨hz, hTI, ⟨a, b, hTO⟩, h1, h2, _, _⟩ := st
    have e' : c = z ∨ c = TI ∨ c = TO ∨ c = i1 ∨ c = i2 := by simpa using hc
    rcases e' with q | q | q | q | q
    · rw [q]; exact ⟨_, hz, fun v q => nomatch q⟩
    · rw [q]; exact ⟨_, hTI, fun v q => nomatch q⟩
    · rw [q]; exact ⟨_, hTO, fun v q => nomatch q⟩
    · rw [q]; exact strIt_ob h1
    · rw [q]; exact strIt_ob h2
  keep := fun i h h' st k => by
    obtain ⟨hz, hTI, ⟨a, b, hTO⟩, h1, h2, n1, n2⟩ := st
    exact ⟨k z (by simp) _ hz, k TI (by simp) _ hTI, ⟨a, b, k TO (by simp) _ hTO⟩, strIt_at h1 fun o q => k i1 (by simp) o q, strIt_at h2 fun o q => k i2 (by simp) o q, n1, n2⟩
  item := by
    intro X hP hw hK hc i pins s σ H E I hf st hg
    subst hP hw hK
    obtain ⟨hz, hTI, ⟨x0, y0, hTO⟩, h1, h2, n1, n2⟩ := st
    obtain ⟨g1, g2⟩ := hg
    have hzl : z < s.heap.objs.size := Heap.lt_size hz
    have S : ZipSep2 z TI TO i1 i2 [i1] [i2] := {
      TIz := D.h1, TOz := D.h2, TITO := D.h3, TIi1 := D.h4, mem1 := by simp
      zf1 := by simp [D.h6], Tf1 := by simp [D.h8]
      TIi2 := D.h5, mem2 := by simp
      zf2 := by simp [D.h7], Tf2 := by simp [D.h9]
      sep1_2 := by simp [D.h10], sep2_1 := by simp [Ne.symm D.h10] }
    refine wpAny_pyNext_zipD2_item S (Draws.text (by simp [I.ok.hd hc]) i1 x tx) (Draws.text (by simp [I.ok.hd hc]) i2 y ty) hz hTI hTO h1 h2 g1 g2 fun y1 y2 h' tk e1 e2 z' TO' s1 s2 hT hsz hk => ?_
    obtain ⟨c, u, q1, rfl⟩ := e1
    obtain ⟨d, u2, q2, rfl⟩ := e2
    refine ⟨_, rfl, wpAny_letOwnedTupleGo_zip (s := { s with heap := h', toks := tk }) z' fun h'' z'' sb => ?_⟩
    have hT2 : h''.get? s.heap.objs.size = some { cls := .type "tuple", data := .seq #[.str ⟨#[c]⟩ u, .str ⟨#[d]⟩ u2] } := (sb.2 _ (Nat.ne_of_gt hzl)).trans hT
    have new : ObjOk X.prog X.w (upd H s.heap.objs.size (.frz (plainO #[.str ⟨#[c]⟩ u, .str ⟨#[d]⟩ u2]) (.tup [.str ⟨#[c]⟩, .str ⟨#[d]⟩]))) h'' s.heap.objs.size (.frz (plainO #[.str ⟨#[c]⟩ u, .str ⟨#[d]⟩ u2]) (.tup [.str ⟨#[c]⟩, .str ⟨#[d]⟩])) :=
      ⟨hT2, by show 2 ≤ sizeLine; decide, [.str ⟨#[c]⟩ u, .str ⟨#[d]⟩ u2], .cons ⟨_, rfl⟩ (.cons ⟨_, rfl⟩ .nil), ⟨_, hT2, rfl, _, rfl⟩⟩
    have I1 : Inv X pins σ (upd H s.heap.objs.size (.frz (plainO #[.str ⟨#[c]⟩ u, .str ⟨#[d]⟩ u2]) (.tup [.str ⟨#[c]⟩, .str ⟨#[d]⟩]))) { s with heap := h'', toks := tk } :=
      I.turnedNew (t' := tk) (ch := [z, TI, TO, i1, i2]) (fun c o hb q => (sb.2 c (fun q' => hb (by simp [q']))).trans (hk c o (fun q' => hb (by simp [q'])) (fun q' => hb (by simp [q'])) (fun q' => hb (by simp [q'])) (fun q' => hb (by simp [q'])) q)) hf (Nat.le_refl _) new
    refine ⟨.ref s.heap.objs.size, _, I1, rfl, ⟨_, c, d, _, rfl, rfl, I.hok.fresh (Nat.le_refl _), rfl, q1, q2⟩, ⟨z'', ?_, ⟨.str ⟨#[c]⟩ u, .str ⟨#[d]⟩ u2, ?_⟩, ?_, ?_, g1, g2⟩, fun c hcm => ?_⟩
    · exact (sb.2 _ D.h1).trans (hk _ _ D.h1 D.h3 D.h4 D.h5 hTI)
    · exact (sb.2 _ D.h2).trans TO'
    · exact strIt_at s1 fun o q => (sb.2 _ (Ne.symm D.h6)).trans q
    · exact strIt_at s2 fun o q => (sb.2 _ (Ne.symm D.h7)).trans q
    · have hlt : c < s.heap.objs.size := by
        have e' : c = z ∨ c = TI ∨ c = TO ∨ c = i1 ∨ c = i2 := by simpa using hcm
        rcases e' with q | q | q | q | q
        · rw [q]; exact hzl
        · rw [q]; exact Heap.lt_size hTI
        · rw [q]; exact Heap.lt_size hTO
        · rw [q]; obtain ⟨_, e1, _⟩ := strIt_ob h1; exact Heap.lt_size e1
        · rw [q]; obtain ⟨_, e2, _⟩ := strIt_ob h2; exact Heap.lt_size e2
      rw [upd_ne (Nat.ne_of_lt hlt)]
      exact (hf c hcm).1
  done := by
    intro X hP hw hK hc i pins s σ H E I hf st hg
    subst hP hw hK
    obtain ⟨hz, hTI, ⟨x0, y0, hTO⟩, h1, h2, n1, n2⟩ := st
    have hend : x.cps.size ≤ i ∨ y.cps.size ≤ i := hg
    have S : ZipSep2 z TI TO i1 i2 [i1] [i2] := {
      TIz := D.h1, TOz := D.h2, TITO := D.h3, TIi1 := D.h4, mem1 := by simp
      zf1 := by simp [D.h6], Tf1 := by simp [D.h8]
      TIi2 := D.h5, mem2 := by simp
      zf2 := by simp [D.h7], Tf2 := by simp [D.h9]
      sep1_2 := by simp [D.h10], sep2_1 := by simp [Ne.symm D.h10] }
    refine wpAny_pyNext_zipD2_end S (Draws.text (by simp [I.ok.hd hc]) i1 x tx) (Draws.text (by simp [I.ok.hd hc]) i2 y ty) hz hTI hTO h1 h2 n1 n2 (by omega) fun h' tk hk => ⟨rfl, I.turnedL (t' := tk) (ch := [z, TI, TO, i1, i2]) (fun c o hb q =>
      hk c o (fun q' => hb (by simp [q'])) (fun q' => hb (by simp [q'])) (fun q' => hb (by simp [q'])) (fun q' => hb (by simp [q'])) q) hf⟩
  self := fun A i s Q E st h => wpAny_pyIter_zip st.1 h
def iZpA (K : PySem.W.Frag) (ta : TA) : TI := fun σ H R => ta σ H fun vs H1 => (∃ (t1 t2 : Bool) (a b : Addr) (xs ys : List V), vs = [.ref a, .ref b] ∧ SqB K t1 H1 a xs ∧ SqB K t2 H1 b ys ∧ R (ItZ K t1 t2 a b 0) H1) ∨
  ∃ x y : Str, vs = [.str x, .str y] ∧ R (ItZS x y) H1
def strsD (x : Str) : List D := x.cps.toList.map fun c => T [c]
def fZipA : List D → Option (List D)
  | [.str a, .str b] => some (zipD (strsD a) (strsD b))
  | ds => fZip ds
def gZipA (g : M (List L)) : M (List D) := gRng fZipA g
theorem strsD_get {x : Str} {i : Nat} {d : D} (h : (strsD x)[i]? = some d) : ∃ c, x.cps[i]? = some c ∧ d = T [c] := by
  unfold strsD at h
  rw [List.getElem?_map] at h
  rw [← Array.getElem?_toList]
  cases q : x.cps.toList[i]? with
  | none => rw [q] at h; cases h
  | some c => rw [q] at h; cases h; exact ⟨c, rfl, rfl⟩
theorem it_zs {K : PySem.W.Frag} {B : List Addr} {H : Hp} {x y : Str} : ItOk K B H (ItZS x y) (zipD (strsD x) (strsD y)) := fun i B' H' se all => by
  have l1 : (strsD x).length = x.cps.size := by simp [strsD]
  have l2 : (strsD y).length = y.cps.size := by simp [strsD]
  rw [zip_len]
  refine ⟨fun hi => ⟨by omega, by omega⟩, fun hi => ?_, fun d v H2 hd yy => ?_⟩
  · show x.cps.size ≤ i ∨ y.cps.size ≤ i
    omega
  · obtain ⟨T', c, d', o, rfl, ho, hT, rfl, y1, y2⟩ := yy
    obtain ⟨d1, d2, e1, e2, rfl⟩ := zip_get _ _ i d hd
    obtain ⟨c1, f1, rfl⟩ := strsD_get e1
    obtain ⟨c2, f2, rfl⟩ := strsD_get e2
    rw [y1] at f1
    rw [y2] at f2
    cases f1
    cases f2
    exact ⟨same_upd hT, new_tup ho all hT (.cons (.str _) (.cons (.str _) .nil))⟩
section
variable {X : Cx} {ca : String → Addr} {W : WX}
theorem pi_zpA {e e2 : Expr} {ta : TA} {p pos tpos : Pos} {elts : List Expr} {kk : Nat} (hg : Gl X "zip") (hm : X.mg "zip" = none) (ha : PA X [e, e2] ta)
    (hs : starEach [e, e2] X.env = (false, eval e X.env) :: starEach [e2] X.env := by rfl) (hpl : (backTo pos (starEach [e2] X.env)).any (·.1) = false := by rfl) :
    PI X (.Tuple elts kk tpos) (.Call (.Name "zip" p) [e, e2] [] pos) (iZpA X.K ta) := by
  refine ⟨fun pins s σ H R I h => ?_⟩
  refine Call_ (ld_blt I hg hm boot_zip (PyProof.Rows.callWith_type1 (thn (ha.run pos pins s σ H _ I h) fun us s1 ⟨vs, H1, I1, r1, q1⟩ => ?_) hs hpl))
  rcases q1 with ⟨t1, t2, a, b, xs, ys, ex, hq, hq2, q⟩ | ⟨x, y, ex, q⟩
  · subst ex
    cases r1 with
    | cons r rr =>
      cases rr with
      | cons r' rr =>
        cases rr
        cases r
        cases r'
        obtain ⟨its, rv, p1, hz⟩ := sqB_at I1 hq
        obtain ⟨its2, rv2, p2, hz2⟩ := sqB_at I1 hq2
        have la := sqAt_lt p1
        have lb := sqAt_lt p2
        refine zip_begins2 (begins t1 a its.toArray) (begins t2 b its2.toArray) p1 p2 fun h' zz zT zO g1 g2 hsz hk => wpAny_pyIter_zip zz ?_
        have I2 : Inv X pins σ H1 { s1 with heap := h' } := I1.kept (t' := s1.toks) hk
        have ne : ∀ i j : Nat, i ≠ j → s1.heap.objs.size + i ≠ s1.heap.objs.size + j := fun i j h e => h (Nat.add_left_cancel e)
        have D : Apart (s1.heap.objs.size + 4) (s1.heap.objs.size + 2) (s1.heap.objs.size + 3) s1.heap.objs.size (s1.heap.objs.size + 1) :=
          ⟨ne 2 4 (by decide), ne 3 4 (by decide), ne 2 3 (by decide), ne 2 0 (by decide), ne 2 1 (by decide), ne 4 0 (by decide), ne 4 1 (by decide), ne 3 0 (by decide), ne 3 1 (by decide), ne 0 1 (by decide)⟩
        have lt : ∀ c i : Nat, c < s1.heap.objs.size → c < s1.heap.objs.size + i := fun c i h => Nat.lt_of_lt_of_le h (Nat.le_add_right _ _)
        refine ⟨s1.heap.objs.size + 4, [s1.heap.objs.size + 4, s1.heap.objs.size + 2, s1.heap.objs.size + 3, s1.heap.objs.size, s1.heap.objs.size + 1], _, _, H1, rfl, I2,
          turn_zp t1 t2 0 D ⟨lt _ 4 la, lt _ 2 la, lt _ 3 la, la, lt _ 1 la⟩ ⟨lt _ 4 lb, lt _ 2 lb, lt _ 3 lb, lb, lt _ 1 lb⟩, ⟨zz, zT, ⟨_, _, zO⟩, itAt_new g1, itAt_new g2⟩, fun c hc => ?_, q⟩
        have hle : s1.heap.objs.size ≤ c := by
          have e' : c = s1.heap.objs.size + 4 ∨ c = s1.heap.objs.size + 2 ∨ c = s1.heap.objs.size + 3 ∨ c = s1.heap.objs.size ∨ c = s1.heap.objs.size + 1 := by simpa using hc
          rcases e' with z | z | z | z | z
          · rw [z]; exact Nat.le_add_right _ _
          · rw [z]; exact Nat.le_add_right _ _
          · rw [z]; exact Nat.le_add_right _ _
          · rw [z]; exact Nat.le_refl _
          · rw [z]; exact Nat.le_add_right _ _
        exact I1.fpOk hle (I1.hok.fresh hle)
  · subst ex
    cases r1 with
    | cons r rr =>
      cases rr with
      | cons r' rr =>
        cases rr
        obtain ⟨tx, rfl⟩ := r
        obtain ⟨ty, rfl⟩ := r'
        refine zip_begins2 (begins_text x tx) (begins_text y ty) trivial trivial fun h' zz zT zO g1 g2 hsz hk => wpAny_pyIter_zip zz ?_
        have I2 : Inv X pins σ H1 { s1 with heap := h' } := I1.kept (t' := s1.toks) hk
        have ne : ∀ i j : Nat, i ≠ j → s1.heap.objs.size + i ≠ s1.heap.objs.size + j := fun i j h e => h (Nat.add_left_cancel e)
        have D : Apart (s1.heap.objs.size + 4) (s1.heap.objs.size + 2) (s1.heap.objs.size + 3) s1.heap.objs.size (s1.heap.objs.size + 1) :=
          ⟨ne 2 4 (by decide), ne 3 4 (by decide), ne 2 3 (by decide), ne 2 0 (by decide), ne 2 1 (by decide), ne 4 0 (by decide), ne 4 1 (by decide), ne 3 0 (by decide), ne 3 1 (by decide), ne 0 1 (by decide)⟩
        refine ⟨s1.heap.objs.size + 4, [s1.heap.objs.size + 4, s1.heap.objs.size + 2, s1.heap.objs.size + 3, s1.heap.objs.size, s1.heap.objs.size + 1], _, _, H1, rfl, I2,
          turn_zs D, ⟨zz, zT, ⟨_, _, zO⟩, ⟨_, g1, rfl, rfl⟩, ⟨_, g2, rfl, rfl⟩, Nat.zero_le _, Nat.zero_le _⟩, fun c hc => ?_, q⟩
        have hle : s1.heap.objs.size ≤ c := by
          have e' : c = s1.heap.objs.size + 4 ∨ c = s1.heap.objs.size + 2 ∨ c = s1.heap.objs.size + 3 ∨ c = s1.heap.objs.size ∨ c = s1.heap.objs.size + 1 := by simpa using hc
          rcases e' with z | z | z | z | z
          · rw [z]; exact Nat.le_add_right _ _
          · rw [z]; exact Nat.le_add_right _ _
          · rw [z]; exact Nat.le_add_right _ _
          · rw [z]; exact Nat.le_refl _
          · rw [z]; exact Nat.le_add_right _ _
        exact I1.fpOk hle (I1.hok.fresh hle)
theorem ig_zipA {e e2 : Expr} {ga : M (List L)} {p pos tpos : Pos} {elts : List Expr} {kk : Nat} (hg : Gl X "zip") (hm : X.mg "zip" = none) (ha : PA X [e, e2] (tGA X.K ca W ga))
    (hs : starEach [e, e2] X.env = (false, eval e X.env) :: starEach [e2] X.env := by rfl) (hpl : (backTo pos (starEach [e2] X.env)).any (·.1) = false := by rfl) :
    PI X (.Tuple elts kk tpos) (.Call (.Name "zip" p) [e, e2] [] pos) (iG X.K ca W (gZipA ga)) :=
  ⟨fun pins s σ H R I ⟨c, ρ, n, S, h⟩ => by
    refine (pi_zpA hg hm ha hs hpl).run pins s σ H R I ⟨c, ρ, n, S, (Res.post_bind h).mono (fun ls n1 h1 vs H1 g1 r1 => ?_) (fun e m h => h)⟩
    obtain ⟨ds, e, h2⟩ := Res.post_lift (Res.post_bind h1)
    obtain ⟨is, e2, h3⟩ := Res.post_lift h2
    have r2 := r1.ds e
    by_cases hc : ∃ a b : Str, ds = [.str a, .str b]
    · obtain ⟨a, b, rfl⟩ := hc
      cases e2
      cases r2 with
      | cons k1 r3 =>
        cases r3 with
        | cons k2 r4 =>
          cases r4
          cases k1
          cases k2
          exact .inr ⟨a, b, rfl, h3 _ H1 g1 it_zs⟩
    · have e3 : fZip ds = some is := by
        rw [← e2]
        unfold fZipA
        split
        · rename_i a b; exact (hc ⟨a, b, rfl⟩).elim
        · rfl
      refine .inl ?_
      unfold fZip at e3
      split at e3
      · rename_i d1 d2
        cases r2 with
        | cons k1 r3 =>
          cases r3 with
          | cons k2 r4 =>
            cases r4
            cases q1 : rowD d1 with
            | none => rw [q1] at e3; cases e3
            | some xs =>
              rw [q1, Option.bind_some] at e3
              cases q2 : rowD d2 with
              | none => rw [q2] at e3; cases e3
              | some ys =>
                rw [q2] at e3
                cases e3
                obtain ⟨t1, a, vs1, rfl, w1, w2⟩ := rowD_rep k1 q1
                obtain ⟨t2, b, vs2, rfl, w3, w4⟩ := rowD_rep k2 q2
                exact ⟨t1, t2, a, b, vs1, vs2, rfl, sqB_mono (fun _ _ => hid_sub) w1, sqB_mono (fun _ _ => hid_sub) w3, h3 _ H1 g1 (it_zp w1 w2 w3 w4)⟩
      · cases e3⟩
end
@[simp] theorem e_gZipA {gl : M (List L)} {ρ : G.Env} {n : Nat} : gZipA gl ρ n = (gl ρ n).bind fun ls n1 => (asDs ls n1).bind fun ds n2 => Res.lift (fZipA ds) n2 := rfl
@[simp] theorem x_zipA_tt {xs ys : List D} : fZipA [.tuple xs, .tuple ys] = some (zipD xs ys) := rfl
@[simp] theorem x_zipA_ll {xs ys : List D} : fZipA [.list xs, .list ys] = some (zipD xs ys) := rfl
@[simp] theorem x_zipA_lt {xs ys : List D} : fZipA [.list xs, .tuple ys] = some (zipD xs ys) := rfl
@[simp] theorem x_zipA_tl {xs ys : List D} : fZipA [.tuple xs, .list ys] = some (zipD xs ys) := rfl
@[simp] theorem x_zipA_TT {a b : List Nat} : fZipA [T a, T b] = some (zipD (a.map fun c => T [c]) (b.map fun c => T [c])) := rfl
end G

namespace W
open PySem PySem.Spec PyProof.Rows L2 G
def topS (i : Nat) : Stmt := PySem.Challenge.pw_eyecuts_k20_whole_refusals.main.body.getD i (.Pass ⟨0, 0, 0, 0⟩)
abbrev s_Cursor_text : Stmt := clsS (topS 50) 1
abbrev nm_Cursor_text : List Str := ["self"]
theorem sc_Cursor_text : FnScope nm_Cursor_text ["self"] (defScope s_Cursor_text) := ⟨rfl, rfl, rfl, by decide +kernel, rfl, by decide +kernel, by decide +kernel⟩
abbrev s_Cursor_place : Stmt := clsS (topS 50) 2
abbrev nm_Cursor_place : List Str := ["self"]
theorem sc_Cursor_place : FnScope nm_Cursor_place ["self"] (defScope s_Cursor_place) := ⟨rfl, rfl, rfl, by decide +kernel, rfl, by decide +kernel, by decide +kernel⟩
abbrev s_Cursor_stretch : Stmt := clsS (topS 50) 3
abbrev nm_Cursor_stretch : List Str := ["self", "text", "place", "mark"]
theorem sc_Cursor_stretch : FnScope nm_Cursor_stretch ["self"] (defScope s_Cursor_stretch) := ⟨rfl, rfl, rfl, by decide +kernel, rfl, by decide +kernel, by decide +kernel⟩
abbrev s_kinds_of : Stmt := topS 18
abbrev nm_kinds_of : List Str := ["kinds", "text", "table", "sign"]
theorem sc_kinds_of : FnScope nm_kinds_of ["kinds", "text"] (defScope s_kinds_of) := ⟨rfl, rfl, rfl, by decide +kernel, rfl, by decide +kernel, by decide +kernel⟩
abbrev s_is_in : Stmt := topS 19
abbrev nm_is_in : List Str := ["item", "kind"]
theorem sc_is_in : FnScope nm_is_in ["item", "kind"] (defScope s_is_in) := ⟨rfl, rfl, rfl, by decide +kernel, rfl, by decide +kernel, by decide +kernel⟩
abbrev s_places_on : Stmt := topS 20
abbrev nm_places_on : List Str := ["row", "items", "place", "found", "item", "after", "at"]
theorem sc_places_on : FnScope nm_places_on ["row", "items", "place"] (defScope s_places_on) := ⟨rfl, rfl, rfl, by decide +kernel, rfl, by decide +kernel, by decide +kernel⟩
abbrev s_leads_on : Stmt := topS 21
abbrev nm_leads_on : List Str := ["row", "items", "place"]
theorem sc_leads_on : FnScope nm_leads_on ["row", "items", "place"] (defScope s_leads_on) := ⟨rfl, rfl, rfl, by decide +kernel, rfl, by decide +kernel, by decide +kernel⟩
abbrev s_leads_back : Stmt := topS 22
abbrev nm_leads_back : List Str := ["row", "items", "place"]
theorem sc_leads_back : FnScope nm_leads_back ["row", "items", "place"] (defScope s_leads_back) := ⟨rfl, rfl, rfl, by decide +kernel, rfl, by decide +kernel, by decide +kernel⟩
abbrev s_rule_at : Stmt := topS 24
abbrev nm_rule_at : List Str := ["row", "rules", "place", "number", "left", "is_cut", "right"]
theorem sc_rule_at : FnScope nm_rule_at ["row", "rules", "place"] (defScope s_rule_at) := ⟨rfl, rfl, rfl, by decide +kernel, rfl, by decide +kernel, by decide +kernel⟩
abbrev s_is_cut_at : Stmt := topS 25
abbrev nm_is_cut_at : List Str := ["row", "rules", "place", "number"]
theorem sc_is_cut_at : FnScope nm_is_cut_at ["row", "rules", "place"] (defScope s_is_cut_at) := ⟨rfl, rfl, rfl, by decide +kernel, rfl, by decide +kernel, by decide +kernel⟩
abbrev s_need : Stmt := topS 26
abbrev nm_need : List Str := ["text", "place"]
theorem sc_need : FnScope nm_need ["text", "place"] (defScope s_need) := ⟨rfl, rfl, rfl, by decide +kernel, rfl, by decide +kernel, by decide +kernel⟩
abbrev s_next_cut : Stmt := topS 31
abbrev nm_next_cut : List Str := ["kinds", "rules", "text", "place", "row", "at"]
theorem sc_next_cut : FnScope nm_next_cut ["kinds", "rules", "text", "place"] (defScope s_next_cut) := ⟨rfl, rfl, rfl, by decide +kernel, rfl, by decide +kernel, by decide +kernel⟩
abbrev s_last_cut : Stmt := topS 32
abbrev nm_last_cut : List Str := ["kinds", "rules", "text", "place", "row", "at"]
theorem sc_last_cut : FnScope nm_last_cut ["kinds", "rules", "text", "place"] (defScope s_last_cut) := ⟨rfl, rfl, rfl, by decide +kernel, rfl, by decide +kernel, by decide +kernel⟩
abbrev s_Cursor_stand : Stmt := clsS (topS 50) 4
abbrev nm_Cursor_stand : List Str := ["self", "place", "is_held", "text", "old", "mark"]
theorem sc_Cursor_stand : FnScope nm_Cursor_stand ["self", "place", "is_held"] (defScope s_Cursor_stand) := ⟨rfl, rfl, rfl, by decide +kernel, rfl, by decide +kernel, by decide +kernel⟩
abbrev s_Cursor_step : Stmt := clsS (topS 50) 5
abbrev nm_Cursor_step : List Str := ["self", "is_on", "is_word", "is_held", "rules", "place"]
theorem sc_Cursor_step : FnScope nm_Cursor_step ["self", "is_on", "is_word", "is_held"] (defScope s_Cursor_step) := ⟨rfl, rfl, rfl, by decide +kernel, rfl, by decide +kernel, by decide +kernel⟩
abbrev s_is_cut : Stmt := topS 27
abbrev nm_is_cut : List Str := ["kinds", "rules", "text", "place"]
theorem sc_is_cut : FnScope nm_is_cut ["kinds", "rules", "text", "place"] (defScope s_is_cut) := ⟨rfl, rfl, rfl, by decide +kernel, rfl, by decide +kernel, by decide +kernel⟩
abbrev s_Cursor_change : Stmt := clsS (topS 50) 7
abbrev nm_Cursor_change : List Str := ["self", "first", "last", "new", "text", "place"]
theorem sc_Cursor_change : FnScope nm_Cursor_change ["self", "first", "last", "new"] (defScope s_Cursor_change) := ⟨rfl, rfl, rfl, by decide +kernel, rfl, by decide +kernel, by decide +kernel⟩
abbrev s_Cursor_typed : Stmt := clsS (topS 50) 8
abbrev nm_Cursor_typed : List Str := ["self", "new", "found"]
theorem sc_Cursor_typed : FnScope nm_Cursor_typed ["self", "new"] (defScope s_Cursor_typed) := ⟨rfl, rfl, rfl, by decide +kernel, rfl, by decide +kernel, by decide +kernel⟩
abbrev s_law_draw : Stmt := topS 64
abbrev nm_law_draw : List Str := ["_law_script", "_law_town", "_law_many", "_law_k", "_law_cell", "_law_number", "_law_more"]
theorem sc_law_draw : FnScope nm_law_draw ["_law_script", "_law_town", "_law_many"] (defScope s_law_draw) := ⟨rfl, rfl, rfl, by decide +kernel, rfl, by decide +kernel, by decide +kernel⟩
abbrev s_law_pick : Stmt := topS 65
abbrev nm_law_pick : List Str := ["_law_script", "_law_town", "_law_some"]
theorem sc_law_pick : FnScope nm_law_pick ["_law_script", "_law_town", "_law_some"] (defScope s_law_pick) := ⟨rfl, rfl, rfl, by decide +kernel, rfl, by decide +kernel, by decide +kernel⟩
abbrev s_law_names : Stmt := topS 66
abbrev nm_law_names : List Str := ["_law_e", "_law_names_here"]
theorem sc_law_names : FnScope nm_law_names ["_law_e"] (defScope s_law_names) := ⟨rfl, rfl, rfl, by decide +kernel, rfl, by decide +kernel, by decide +kernel⟩
abbrev s_why : Stmt := topS 28
abbrev nm_why : List Str := ["kinds", "rules", "text", "place"]
theorem sc_why : FnScope nm_why ["kinds", "rules", "text", "place"] (defScope s_why) := ⟨rfl, rfl, rfl, by decide +kernel, rfl, by decide +kernel, by decide +kernel⟩
abbrev s_piece_at : Stmt := topS 33
abbrev nm_piece_at : List Str := ["kinds", "rules", "text", "place", "first"]
theorem sc_piece_at : FnScope nm_piece_at ["kinds", "rules", "text", "place"] (defScope s_piece_at) := ⟨rfl, rfl, rfl, by decide +kernel, rfl, by decide +kernel, by decide +kernel⟩
abbrev s_cuts : Stmt := topS 29
abbrev nm_cuts : List Str := ["kinds", "rules", "text", "row", "place"]
theorem sc_cuts : FnScope nm_cuts ["kinds", "rules", "text"] (defScope s_cuts) := ⟨rfl, rfl, rfl, by decide +kernel, rfl, by decide +kernel, by decide +kernel⟩
abbrev s_pieces : Stmt := topS 30
abbrev nm_pieces : List Str := ["kinds", "rules", "text", "found", "one", "two"]
theorem sc_pieces : FnScope nm_pieces ["kinds", "rules", "text"] (defScope s_pieces) := ⟨rfl, rfl, rfl, by decide +kernel, rfl, by decide +kernel, by decide +kernel⟩
abbrev s_piece_number : Stmt := topS 34
abbrev nm_piece_number : List Str := ["kinds", "rules", "text", "number", "every"]
theorem sc_piece_number : FnScope nm_piece_number ["kinds", "rules", "text", "number"] (defScope s_piece_number) := ⟨rfl, rfl, rfl, by decide +kernel, rfl, by decide +kernel, by decide +kernel⟩
abbrev s_nearest : Stmt := topS 35
abbrev nm_nearest : List Str := ["kinds", "rules", "text", "place", "found", "at"]
theorem sc_nearest : FnScope nm_nearest ["kinds", "rules", "text", "place"] (defScope s_nearest) := ⟨rfl, rfl, rfl, by decide +kernel, rfl, by decide +kernel, by decide +kernel⟩
abbrev s_parts_of : Stmt := topS 38
abbrev nm_parts_of : List Str := ["book", "sign", "base", "mark", "whole"]
theorem sc_parts_of : FnScope nm_parts_of ["book", "sign"] (defScope s_parts_of) := ⟨rfl, rfl, rfl, by decide +kernel, rfl, by decide +kernel, by decide +kernel⟩
abbrev s_class_of : Stmt := topS 37
abbrev nm_class_of : List Str := ["book", "sign", "one", "number"]
theorem sc_class_of : FnScope nm_class_of ["book", "sign"] (defScope s_class_of) := ⟨rfl, rfl, rfl, by decide +kernel, rfl, by decide +kernel, by decide +kernel⟩
abbrev s_in_order : Stmt := topS 39
abbrev nm_in_order : List Str := ["book", "text", "found", "run", "sign", "number", "high", "at", "mark"]
theorem sc_in_order : FnScope nm_in_order ["book", "text"] (defScope s_in_order) := ⟨rfl, rfl, rfl, by decide +kernel, rfl, by decide +kernel, by decide +kernel⟩
abbrev s_parted : Stmt := topS 40
abbrev nm_parted : List Str := ["book", "text", "sign"]
theorem sc_parted : FnScope nm_parted ["book", "text"] (defScope s_parted) := ⟨rfl, rfl, rfl, by decide +kernel, rfl, by decide +kernel, by decide +kernel⟩
abbrev s_alike : Stmt := topS 42
abbrev nm_alike : List Str := ["book", "one", "other"]
theorem sc_alike : FnScope nm_alike ["book", "one", "other"] (defScope s_alike) := ⟨rfl, rfl, rfl, by decide +kernel, rfl, by decide +kernel, by decide +kernel⟩
abbrev s_halves : Stmt := topS 44
abbrev nm_halves : List Str := ["book", "sign", "base", "mark", "whole"]
theorem sc_halves : FnScope nm_halves ["book", "sign"] (defScope s_halves) := ⟨rfl, rfl, rfl, by decide +kernel, rfl, by decide +kernel, by decide +kernel⟩
abbrev s_whole_of : Stmt := topS 41
abbrev nm_whole_of : List Str := ["book", "base", "mark", "one", "other", "whole"]
theorem sc_whole_of : FnScope nm_whole_of ["book", "base", "mark"] (defScope s_whole_of) := ⟨rfl, rfl, rfl, by decide +kernel, rfl, by decide +kernel, by decide +kernel⟩
abbrev s_stepped : Stmt := topS 45
abbrev nm_stepped : List Str := ["book", "text", "step", "word", "at", "whole", "one", "other"]
theorem sc_stepped : FnScope nm_stepped ["book", "text", "step"] (defScope s_stepped) := ⟨rfl, rfl, rfl, by decide +kernel, rfl, by decide +kernel, by decide +kernel⟩
abbrev s_steps_down : Stmt := topS 46
abbrev nm_steps_down : List Str := ["book", "text", "found", "at", "one", "other"]
theorem sc_steps_down : FnScope nm_steps_down ["book", "text"] (defScope s_steps_down) := ⟨rfl, rfl, rfl, by decide +kernel, rfl, by decide +kernel, by decide +kernel⟩
abbrev s_back_step : Stmt := topS 47
abbrev nm_back_step : List Str := ["step"]
theorem sc_back_step : FnScope nm_back_step ["step"] (defScope s_back_step) := ⟨rfl, rfl, rfl, by decide +kernel, rfl, by decide +kernel, by decide +kernel⟩
abbrev s_chain : Stmt := topS 48
abbrev nm_chain : List Str := ["book", "one", "other", "back", "step"]
theorem sc_chain : FnScope nm_chain ["book", "one", "other"] (defScope s_chain) := ⟨rfl, rfl, rfl, by decide +kernel, rfl, by decide +kernel, by decide +kernel⟩
abbrev s_Cursor_go : Stmt := clsS (topS 50) 6
abbrev nm_Cursor_go : List Str := ["self", "place", "is_held"]
theorem sc_Cursor_go : FnScope nm_Cursor_go ["self", "place", "is_held"] (defScope s_Cursor_go) := ⟨rfl, rfl, rfl, by decide +kernel, rfl, by decide +kernel, by decide +kernel⟩
abbrev s_Cursor_back : Stmt := clsS (topS 50) 10
abbrev nm_Cursor_back : List Str := ["self"]
theorem sc_Cursor_back : FnScope nm_Cursor_back ["self"] (defScope s_Cursor_back) := ⟨rfl, rfl, rfl, by decide +kernel, rfl, by decide +kernel, by decide +kernel⟩
abbrev s_Cursor_forth : Stmt := clsS (topS 50) 11
abbrev nm_Cursor_forth : List Str := ["self"]
theorem sc_Cursor_forth : FnScope nm_Cursor_forth ["self"] (defScope s_Cursor_forth) := ⟨rfl, rfl, rfl, by decide +kernel, rfl, by decide +kernel, by decide +kernel⟩
abbrev s_is_kind : Stmt := topS 12
abbrev nm_is_kind : List Str := ["thing"]
theorem sc_is_kind : FnScope nm_is_kind ["thing"] (defScope s_is_kind) := ⟨rfl, rfl, rfl, by decide +kernel, rfl, by decide +kernel, by decide +kernel⟩
abbrev s_are_rising : Stmt := topS 13
abbrev nm_are_rising : List Str := ["row", "one", "two"]
theorem sc_are_rising : FnScope nm_are_rising ["row"] (defScope s_are_rising) := ⟨rfl, rfl, rfl, by decide +kernel, rfl, by decide +kernel, by decide +kernel⟩
abbrev s_is_item : Stmt := topS 14
abbrev nm_is_item : List Str := ["thing", "kind"]
theorem sc_is_item : FnScope nm_is_item ["thing"] (defScope s_is_item) := ⟨rfl, rfl, rfl, by decide +kernel, rfl, by decide +kernel, by decide +kernel⟩
abbrev s_is_side : Stmt := topS 15
abbrev nm_is_side : List Str := ["thing", "one"]
theorem sc_is_side : FnScope nm_is_side ["thing"] (defScope s_is_side) := ⟨rfl, rfl, rfl, by decide +kernel, rfl, by decide +kernel, by decide +kernel⟩
abbrev s_is_rule : Stmt := topS 16
abbrev nm_is_rule : List Str := ["thing"]
theorem sc_is_rule : FnScope nm_is_rule ["thing"] (defScope s_is_rule) := ⟨rfl, rfl, rfl, by decide +kernel, rfl, by decide +kernel, by decide +kernel⟩
abbrev s_are_rules : Stmt := topS 17
abbrev nm_are_rules : List Str := ["thing", "one"]
theorem sc_are_rules : FnScope nm_are_rules ["thing"] (defScope s_are_rules) := ⟨rfl, rfl, rfl, by decide +kernel, rfl, by decide +kernel, by decide +kernel⟩
abbrev s_item_text : Stmt := topS 52
abbrev nm_item_text : List Str := ["item", "found"]
theorem sc_item_text : FnScope nm_item_text ["item"] (defScope s_item_text) := ⟨rfl, rfl, rfl, by decide +kernel, rfl, by decide +kernel, by decide +kernel⟩
abbrev s_written : Stmt := topS 53
abbrev nm_written : List Str := ["rules", "found", "left", "is_cut", "right", "words", "item"]
theorem sc_written : FnScope nm_written ["rules"] (defScope s_written) := ⟨rfl, rfl, rfl, by decide +kernel, rfl, by decide +kernel, by decide +kernel⟩
abbrev s_item_in : Stmt := topS 54
abbrev nm_item_in : List Str := ["word", "many"]
theorem sc_item_in : FnScope nm_item_in ["word"] (defScope s_item_in) := ⟨rfl, rfl, rfl, by decide +kernel, rfl, by decide +kernel, by decide +kernel⟩
abbrev s_rule_in : Stmt := topS 55
abbrev nm_rule_in : List Str := ["line", "words", "signs", "at", "word", "left"]
theorem sc_rule_in : FnScope nm_rule_in ["line"] (defScope s_rule_in) := ⟨rfl, rfl, rfl, by decide +kernel, rfl, by decide +kernel, by decide +kernel⟩
abbrev s_read : Stmt := topS 56
abbrev nm_read : List Str := ["text", "rules", "line"]
theorem sc_read : FnScope nm_read ["text"] (defScope s_read) := ⟨rfl, rfl, rfl, by decide +kernel, rfl, by decide +kernel, by decide +kernel⟩
abbrev s_piece_width : Stmt := topS 58
abbrev nm_piece_width : List Str := ["widths", "piece", "table", "sign"]
theorem sc_piece_width : FnScope nm_piece_width ["widths", "piece"] (defScope s_piece_width) := ⟨rfl, rfl, rfl, by decide +kernel, rfl, by decide +kernel, by decide +kernel⟩
abbrev s_width : Stmt := topS 59
abbrev nm_width : List Str := ["kinds", "rules", "widths", "text", "piece"]
theorem sc_width : FnScope nm_width ["kinds", "rules", "widths", "text"] (defScope s_width) := ⟨rfl, rfl, rfl, by decide +kernel, rfl, by decide +kernel, by decide +kernel⟩
abbrev s_cut_to : Stmt := topS 60
abbrev nm_cut_to : List Str := ["kinds", "rules", "widths", "text", "most", "found", "wide", "piece"]
theorem sc_cut_to : FnScope nm_cut_to ["kinds", "rules", "widths", "text", "most"] (defScope s_cut_to) := ⟨rfl, rfl, rfl, by decide +kernel, rfl, by decide +kernel, by decide +kernel⟩
abbrev s_shown : Stmt := topS 61
abbrev nm_shown : List Str := ["kinds", "rules", "widths", "text", "most", "end", "left"]
theorem sc_shown : FnScope nm_shown ["kinds", "rules", "widths", "text", "most", "end"] (defScope s_shown) := ⟨rfl, rfl, rfl, by decide +kernel, rfl, by decide +kernel, by decide +kernel⟩
abbrev s_column_of : Stmt := topS 62
abbrev nm_column_of : List Str := ["kinds", "rules", "widths", "text", "place", "ends", "parts", "one", "two", "part"]
theorem sc_column_of : FnScope nm_column_of ["kinds", "rules", "widths", "text", "place"] (defScope s_column_of) := ⟨rfl, rfl, rfl, by decide +kernel, rfl, by decide +kernel, by decide +kernel⟩
abbrev s_law_deed : Stmt := topS 67
abbrev nm_law_deed : List Str := ["_law_k", "_law_text", "_law_place", "_law_cursor", "_law_book"]
theorem sc_law_deed : FnScope nm_law_deed ["_law_k", "_law_text", "_law_place", "_law_cursor"] (defScope s_law_deed) := ⟨rfl, rfl, rfl, by decide +kernel, rfl, by decide +kernel, by decide +kernel⟩
abbrev s_law_ask : Stmt := topS 68
abbrev nm_law_ask : List Str := ["_law_k", "_law_text", "_law_place", "_law_cursor", "_law_names_here", "_law_e"]
theorem sc_law_ask : FnScope nm_law_ask ["_law_k", "_law_text", "_law_place", "_law_cursor"] (defScope s_law_ask) := ⟨rfl, rfl, rfl, by decide +kernel, rfl, by decide +kernel, by decide +kernel⟩
abbrev s_law : Stmt := topS 69
abbrev nm_law : List Str := ["_law_script", "_law_town", "_law_k", "_law_text", "_law_place", "_law_cursor", "_law_now", "_law_due", "_law_spot", "_law_told", "_law_j"]
theorem sc_law : FnScope nm_law ["_law_script"] (defScope s_law) := ⟨rfl, rfl, rfl, by decide +kernel, rfl, by decide +kernel, by decide +kernel⟩
abbrev s_init : Stmt := clsS (topS 50) 0
theorem sc_init : FnScope ["self", "kinds", "rules", "words", "text"] ["self", "kinds", "rules", "words", "text"] (defScope s_init) := ⟨rfl, rfl, rfl, by decide +kernel, rfl, by decide +kernel, by decide +kernel⟩
noncomputable def g_Cursor_text : MS :=
    (sRet (c2 opIx (cFld 0 CurS.now) (cC (.int 0))))
noncomputable def Fn_Cursor_text : Fn := runF 1 g_Cursor_text
noncomputable def g_Cursor_place : MS :=
    (sRet (c2 opIx (cFld 0 CurS.now) (cC (.int 1))))
noncomputable def Fn_Cursor_place : Fn := runF 1 g_Cursor_place
noncomputable def g_Cursor_stretch : MS :=
    (sSeq (sTup (tgP [(tgN 1), (tgN 2), (tgN 3)]) (cFld 0 CurS.now))
    (sSeq (sIf (bOr (cB (c2 opIsN (cVar 3) (cC .none))) (cB (c2 opEq (cVar 3) (cVar 2))))
    (sRet (cC .none))
    sNx)
    (sRet (cTup (aCons (cBt fMin2 (aVar 3 (aVar 2 aNil))) (aCons (cBt fMax2 (aVar 3 (aVar 2 aNil))) aNil))))))
noncomputable def Fn_Cursor_stretch : Fn := runF 4 g_Cursor_stretch
noncomputable def g_kinds_of : MS :=
    (sSeq (sDic 2 (cDic (cVar 0)))
    (sRet (cM1 mJoin (cC (T [])) (cF (cLc [3] (tgN 3) (gItems (cVar 1)) bYes (cDGet 2 (cVar 3) (cC (T [79]))))))))
noncomputable def Fn_kinds_of : Fn := runF 4 g_kinds_of
noncomputable def g_is_in : MS :=
    (sRet (vOr (c2 opEq (c2 opIx (cVar 0) (cC (.int 0))) (cC (T []))) (c2 opIn (cVar 1) (c2 opIx (cVar 0) (cC (.int 0))))))
noncomputable def Fn_is_in : Fn := runF 2 g_is_in
noncomputable def g_places_on : MS :=
    (sSeq (sSet 3 (cF (cLst (aVar 2 aNil))))
    (sSeq (sFor (tgN 4) (gItems (cVar 1))
    (sSeq (sOwn 5 (cLst aNil))
    (sSeq (sFor (tgN 6) (gItems (cVar 3))
    (sIf (cB (c2 opEq (c2 opIx (cVar 4) (cC (.int 1))) (cC (T [42]))))
    (sSeq (sApp 5 (cVar 6))
    (sWhile (bAnd (cB (c2 opLt (cVar 6) (cBt fLen (aVar 0 aNil)))) (cTru (cCall 2 Fn_is_in (aVar 4 (aCons (c2 opIx (cVar 0) (cVar 6)) aNil)))))
    (sSeq (sSet 6 (c2 opAdd (cVar 6) (cC (.int 1))))
    (sApp 5 (cVar 6)))))
    (sIf (bAnd (cB (c2 opLt (cVar 6) (cBt fLen (aVar 0 aNil)))) (cTru (cCall 2 Fn_is_in (aVar 4 (aCons (c2 opIx (cVar 0) (cVar 6)) aNil)))))
    (sApp 5 (c2 opAdd (cVar 6) (cC (.int 1))))
    sNx)))
    (sSet 3 (cF (borrowF 5 (cUp (cVar 5))))))))
    (sRet (cVar 3))))
noncomputable def Fn_places_on : Fn := runF 7 g_places_on
noncomputable def g_leads_on : MS :=
    (sRet (c2 opNe (cCall 3 Fn_places_on (aVar 0 (aVar 1 (aVar 2 aNil)))) (cF (cLst aNil))))
noncomputable def Fn_leads_on : Fn := runF 3 g_leads_on
noncomputable def g_leads_back : MS :=
    (sRet (c2 opNe (cCall 3 Fn_places_on (aCons (c1 opRev (cSl (cVar 0) gNoPart (gPart (cVar 2)))) (aCons (c1 opRev (cVar 1)) (aCons (cC (.int 0)) aNil)))) (cF (cLst aNil))))
noncomputable def Fn_leads_back : Fn := runF 3 g_leads_back
noncomputable def g_rule_at : MS :=
    (sSeq (sFor (tgP [(tgN 3), (tgP [(tgN 4), (tgN 5), (tgN 6)])]) (gEnumerate (aVar 1 aNil))
    (sIf (bAnd (cTru (cCall 3 Fn_leads_back (aVar 0 (aVar 4 (aVar 2 aNil))))) (cTru (cCall 3 Fn_leads_on (aVar 0 (aVar 6 (aVar 2 aNil))))))
    (sRet (cVar 3))
    sNx))
    (sRet (cC .none)))
noncomputable def Fn_rule_at : Fn := runF 7 g_rule_at
noncomputable def g_is_cut_at : MS :=
    (sSeq (sIf (cB (c2 opIn (cVar 2) (cTup (aCons (cC (.int 0)) (aCons (cBt fLen (aVar 0 aNil)) aNil)))))
    (sRet (c2 opGt (cBt fLen (aVar 0 aNil)) (cC (.int 0))))
    sNx)
    (sSeq (sSet 3 (cCall 3 Fn_rule_at (aVar 0 (aVar 1 (aVar 2 aNil)))))
    (sRet (vOr (c2 opIsN (cVar 3) (cC .none)) (c2 opIx (c2 opIx (cVar 1) (cVar 3)) (cC (.int 1)))))))
noncomputable def Fn_is_cut_at : Fn := runF 4 g_is_cut_at
noncomputable def g_need : MS :=
    (sIf (bNot (cB (cCh opLe opLe (cC (.int 0)) (cVar 1) (cBt fLen (aVar 0 aNil)))))
    (sRaise "NoPlace")
    sNx)
noncomputable def Fn_need : Fn := runF 2 g_need
noncomputable def g_next_cut : MS :=
    (sSeq (sDrop (cCall 2 Fn_need (aVar 2 (aVar 3 aNil))))
    (sSeq (sSet 4 (cCall 2 Fn_kinds_of (aVar 0 (aVar 2 aNil))))
    (sSeq (sFor (tgN 5) (gRng fRng2 (aCons (c2 opAdd (cVar 3) (cC (.int 1))) (aCons (c2 opAdd (cBt fLen (aVar 2 aNil)) (cC (.int 1))) aNil)))
    (sIf (cTru (cCall 3 Fn_is_cut_at (aVar 4 (aVar 1 (aVar 5 aNil)))))
    (sRet (cVar 5))
    sNx))
    (sRet (cC .none)))))
noncomputable def Fn_next_cut : Fn := runF 6 g_next_cut
noncomputable def g_last_cut : MS :=
    (sSeq (sDrop (cCall 2 Fn_need (aVar 2 (aVar 3 aNil))))
    (sSeq (sSet 4 (cCall 2 Fn_kinds_of (aVar 0 (aVar 2 aNil))))
    (sSeq (sFor (tgN 5) (gRng fRng3 (aCons (c2 opSub (cVar 3) (cC (.int 1))) (aCons (c1 opNeg (cC (.int 1))) (aCons (c1 opNeg (cC (.int 1))) aNil))))
    (sIf (cTru (cCall 3 Fn_is_cut_at (aVar 4 (aVar 1 (aVar 5 aNil)))))
    (sRet (cVar 5))
    sNx))
    (sRet (cC .none)))))
noncomputable def Fn_last_cut : Fn := runF 6 g_last_cut
noncomputable def g_Cursor_stand : MS :=
    (sSeq (sTup (tgP [(tgN 3), (tgN 4), (tgN 5)]) (cFld 0 CurS.now))
    (sSeq (sIf (bNot (cTru (cVar 2)))
    (sSet 5 (cC .none))
    (sIf (cB (c2 opIsN (cVar 5) (cC .none)))
    (sSet 5 (cVar 4))
    sNx))
    (sNow 0 (cTup (aVar 3 (aVar 1 (aVar 5 aNil)))))))
noncomputable def Fn_Cursor_stand : Fn := runF 6 g_Cursor_stand
noncomputable def g_Cursor_step : MS :=
    (sSeq (sSet 4 (cFld 0 CurS.rl))
    (sSeq (sIf (cTru (cVar 2))
    (sSet 4 (cFld 0 CurS.wd))
    sNx)
    (sSeq (sIf (cTru (cVar 1))
    (sSet 5 (cCall 4 Fn_next_cut (aCons (cFld 0 CurS.kd) (aVar 4 (aCons (cCall 1 Fn_Cursor_text (aCur 0 aNil)) (aCons (cCall 1 Fn_Cursor_place (aCur 0 aNil)) aNil))))))
    (sSet 5 (cCall 4 Fn_last_cut (aCons (cFld 0 CurS.kd) (aVar 4 (aCons (cCall 1 Fn_Cursor_text (aCur 0 aNil)) (aCons (cCall 1 Fn_Cursor_place (aCur 0 aNil)) aNil)))))))
    (sSeq (sIf (cB (c2 opIsN (cVar 5) (cC .none)))
    (sSet 5 (cCall 1 Fn_Cursor_place (aCur 0 aNil)))
    sNx)
    (sDrop (cCall 3 Fn_Cursor_stand (aCur 0 (aVar 5 (aVar 3 aNil)))))))))
noncomputable def Fn_Cursor_step : Fn := runF 6 g_Cursor_step
noncomputable def g_is_cut : MS :=
    (sSeq (sDrop (cCall 2 Fn_need (aVar 2 (aVar 3 aNil))))
    (sRet (cCall 3 Fn_is_cut_at (aCons (cCall 2 Fn_kinds_of (aVar 0 (aVar 2 aNil))) (aVar 1 (aVar 3 aNil))))))
noncomputable def Fn_is_cut : Fn := runF 4 g_is_cut
noncomputable def g_Cursor_change : MS :=
    (sSeq (sBefApp 0)
    (sSeq (sLatNew 0)
    (sSeq (sSet 4 (c2 opAdd (c2 opAdd (cSl (cCall 1 Fn_Cursor_text (aCur 0 aNil)) gNoPart (gPart (cVar 1))) (cVar 3)) (cSl (cCall 1 Fn_Cursor_text (aCur 0 aNil)) (gPart (cVar 2)) gNoPart)))
    (sSeq (sSet 5 (c2 opAdd (cVar 1) (cBt fLen (aVar 3 aNil))))
    (sSeq (sIf (bAnd (cB (c2 opNe (cVar 4) (cC (T [])))) (bNot (cTru (cCall 4 Fn_is_cut (aCons (cFld 0 CurS.kd) (aCons (cFld 0 CurS.rl) (aVar 4 (aVar 5 aNil))))))))
    (sSet 5 (cCall 4 Fn_next_cut (aCons (cFld 0 CurS.kd) (aCons (cFld 0 CurS.rl) (aVar 4 (aVar 5 aNil))))))
    sNx)
    (sNow 0 (cTup (aVar 4 (aVar 5 (aCons (cC .none) aNil))))))))))
noncomputable def Fn_Cursor_change : Fn := runF 6 g_Cursor_change
noncomputable def g_Cursor_typed : MS :=
    (sSeq (sSet 2 (cCall 1 Fn_Cursor_stretch (aCur 0 aNil)))
    (sSeq (sIf (cB (c2 opIsN (cVar 2) (cC .none)))
    (sSet 2 (cTup (aCons (cCall 1 Fn_Cursor_place (aCur 0 aNil)) (aCons (cCall 1 Fn_Cursor_place (aCur 0 aNil)) aNil))))
    sNx)
    (sDrop (cCall 4 Fn_Cursor_change (aCur 0 (aCons (c2 opIx (cVar 2) (cC (.int 0))) (aCons (c2 opIx (cVar 2) (cC (.int 1))) (aVar 1 aNil))))))))
noncomputable def Fn_Cursor_typed : Fn := runF 3 g_Cursor_typed
noncomputable def g_law_draw : MS :=
    (sSeq (sTown 1)
    (sSeq (sSet 3 (cLenV 1))
    (sSeq (sSet 4 (cC (.int 0)))
    (sSeq (sIf (cScrT 0)
    (sSet 4 (cScrIx 0 (c2 opMod (cVar 3) (cLenV 0))))
    sNx)
    (sSeq (sSet 5 (c2 opMod (c2 opAdd (cVar 4) (c2 opMulA (cC (.int 104729)) (cVar 3))) (cC (.int 4294967291))))
    (sSeq (sSet 5 (c2 opMod (c2 opMulA (c2 opMod (c2 opMulA (cVar 5) (cVar 5)) (cC (.int 4294967279))) (cC (.int 48271))) (cC (.int 4294967291))))
    (sSeq (sSet 6 (c2 opMod (c2 opMulA (c2 opMod (c2 opMulA (cVar 5) (cVar 5)) (cC (.int 4294967279))) (cC (.int 69621))) (cC (.int 4294967291))))
    (sRet (c2 opMod (c2 opAdd (c2 opMulA (c2 opDiv (cVar 5) (cC (.int 64))) (cC (.int 67108864))) (c2 opDiv (cVar 6) (cC (.int 64)))) (cVar 2))))))))))
noncomputable def Fn_law_draw : Fn := runF 7 g_law_draw
noncomputable def g_law_pick : MS :=
    (sRet (c2 opIx (cVar 2) (cCall 3 Fn_law_draw (aVar 0 (aVar 1 (aCons (cBt fLen (aVar 2 aNil)) aNil))))))
noncomputable def Fn_law_pick : Fn := runF 3 g_law_pick
noncomputable def g_law_names (a : Addr) (e : String) : MS :=
    (sSeq (sSet 1 (c2 opAdd (c2 opMulA (cF (cLst (aCons (cC (T [78, 111, 80, 108, 97, 99, 101])) aNil))) (cBt fInt (aCons (cIsX 0 a (decide (e = "NoPlace"))) aNil))) (c2 opMulA (cF (cLst (aCons (cC (T [78, 111, 67, 104, 97, 105, 110])) aNil))) (cBt fInt (aCons (cIsX 0 a (decide (e = "NoChain"))) aNil)))))
    (sSeq (sSet 1 (c2 opAdd (c2 opAdd (cVar 1) (c2 opMulA (cF (cLst (aCons (cC (T [78, 111, 83, 116, 101, 112])) aNil))) (cBt fInt (aCons (cIsX 0 a (decide (e = "NoStep"))) aNil)))) (c2 opMulA (cF (cLst (aCons (cC (T [78, 111, 84, 101, 120, 116])) aNil))) (cBt fInt (aCons (cIsX 0 a (decide (e = "NoText"))) aNil)))))
    (sSeq (sIf (bNot (cTru (cIsX 0 a true)))
    (sRet (cF (cLst (aCons (cC (T [111, 116, 104, 101, 114])) aNil))))
    sNx)
    (sRet (cVar 1)))))
noncomputable def Fn_law_names (a : Addr) (e : String) : Fn := runF 2 (g_law_names a e)
def nmL (e : String) : List Nat := if e = "NoPlace" then [78, 111, 80, 108, 97, 99, 101] else if e = "NoChain" then [78, 111, 67, 104, 97, 105, 110] else if e = "NoStep" then [78, 111, 83, 116, 101, 112] else [78, 111, 84, 101, 120, 116]
noncomputable def nmR (e : String) (n : Nat) : Res D := .ok (.list [T (nmL e)]) n
theorem nm_eq : ∀ (a : Addr) (e : String) (n : Nat), e ∈ ["NoPlace", "NoChain", "NoStep", "NoText"] → Fn_law_names a e [.exn a] n = nmR e n := by
  intro a e n h
  have i1 : ∀ (b : Bool) (r : Option L) (n : Nat), cIsX 0 a b [some (.exn a), r] n = .ok (.bool b) n := fun b r n => by simp [cIsX]
  have f1 : ∀ b : Bool, fInt [.bool b] = some (.int (if b then 1 else 0)) := fun b => rfl
  have m1 : ∀ l : List Nat, opMul (.list [T l]) (.int 1) = some (.list [T l]) := fun l => by simp [opMul]
  have m0 : ∀ l : List Nat, opMul (.list [T l]) (.int 0) = some (.list []) := fun l => by simp [opMul]
  have a0 : ∀ l m : List D, l.length + m.length ≤ 8 → opAdd (PyData.list l) (PyData.list m) = some (PyData.list (l ++ m)) := fun l m hl => by
    show (if l.length + m.length ≤ sizeLine then some (PyData.list (l ++ m)) else none) = _
    rw [if_pos (Nat.le_trans hl (by decide))]
  have d1 : ∀ b : Bool, dsOf [L.d (.bool b)] = some [.bool b] := fun b => rfl
  simp only [List.mem_cons, List.not_mem_nil, or_false] at h
  rcases h with rfl | rfl | rfl | rfl <;>
    simp [Fn_law_names, runF, g_law_names, i1, nmR, nmL, sSeq, sSet, ofR, sIf, sRet, sNx, f1, m1, m0, a0, d1, Res.bind, Res.lift]
noncomputable def g_why : MS :=
    (sSeq (sIf (bNot (cB (cCh opLt opLt (cC (.int 0)) (cVar 3) (cBt fLen (aVar 2 aNil)))))
    (sRaise "NoPlace")
    sNx)
    (sRet (cCall 3 Fn_rule_at (aCons (cCall 2 Fn_kinds_of (aVar 0 (aVar 2 aNil))) (aVar 1 (aVar 3 aNil))))))
noncomputable def Fn_why : Fn := runF 4 g_why
noncomputable def g_piece_at : MS :=
    (sSeq (sIf (bNot (cB (cCh opLe opLt (cC (.int 0)) (cVar 3) (cBt fLen (aVar 2 aNil)))))
    (sRaise "NoPlace")
    sNx)
    (sSeq (sSet 4 (cVar 3))
    (sSeq (sIf (bNot (cTru (cCall 4 Fn_is_cut (aVar 0 (aVar 1 (aVar 2 (aVar 3 aNil)))))))
    (sSet 4 (cCall 4 Fn_last_cut (aVar 0 (aVar 1 (aVar 2 (aVar 3 aNil))))))
    sNx)
    (sRet (cTup (aVar 4 (aCons (cCall 4 Fn_next_cut (aVar 0 (aVar 1 (aVar 2 (aVar 3 aNil))))) aNil)))))))
noncomputable def Fn_piece_at : Fn := runF 5 g_piece_at
noncomputable def g_cuts : MS :=
    (sSeq (sSet 3 (cCall 2 Fn_kinds_of (aVar 0 (aVar 2 aNil))))
    (sRet (cBt fTuple (aCons (cF (cLc [4] (tgN 4) (gRng fRng1 (aCons (c2 opAdd (cBt fLen (aVar 2 aNil)) (cC (.int 1))) aNil)) (cTru (cCall 3 Fn_is_cut_at (aVar 3 (aVar 1 (aVar 4 aNil))))) (cVar 4))) aNil))))
noncomputable def Fn_cuts : Fn := runF 5 g_cuts
noncomputable def g_pieces : MS :=
    (sSeq (sSet 3 (cCall 3 Fn_cuts (aVar 0 (aVar 1 (aVar 2 aNil)))))
    (sRet (cBt fTuple (aCons (cF (cLc [4, 5] (tgP [(tgN 4), (tgN 5)]) (gZip (aCons (cSl (cVar 3) gNoPart (gPart (c1 opNeg (cC (.int 1))))) (aCons (cSl (cVar 3) (gPart (cC (.int 1))) gNoPart) aNil))) bYes (cSl (cVar 2) (gPart (cVar 4)) (gPart (cVar 5))))) aNil))))
noncomputable def Fn_pieces : Fn := runF 6 g_pieces
noncomputable def g_piece_number : MS :=
    (sSeq (sSet 4 (cCall 3 Fn_pieces (aVar 0 (aVar 1 (aVar 2 aNil)))))
    (sSeq (sIf (bNot (cB (cCh opLe opLt (cC (.int 0)) (cVar 3) (cBt fLen (aVar 4 aNil)))))
    (sRaise "NoPlace")
    sNx)
    (sRet (c2 opIx (cVar 4) (cVar 3)))))
noncomputable def Fn_piece_number : Fn := runF 5 g_piece_number
noncomputable def g_nearest : MS :=
    (sSeq (sDrop (cCall 2 Fn_need (aVar 2 (aVar 3 aNil))))
    (sSeq (sSet 4 (cCall 3 Fn_cuts (aVar 0 (aVar 1 (aVar 2 aNil)))))
    (sSeq (sIf (bNot (cTru (cVar 4)))
    (sRet (cC .none))
    sNx)
    (sRet (c2 opIx (cBt (fBest PySem.W.minD) (aCons (cF (cLc [5] (tgN 5) (gItems (cVar 4)) bYes (cTup (aCons (cBt fAbs (aCons (c2 opSub (cVar 5) (cVar 3)) aNil)) (aVar 5 aNil))))) aNil)) (cC (.int 1)))))))
noncomputable def Fn_nearest : Fn := runF 6 g_nearest
noncomputable def g_parts_of (rec : Fn) : MS :=
    (sSeq (sFor (tgP [(tgN 2), (tgN 3), (tgN 4)]) (gItems (c2 opIx (cVar 0) (cC (.int 1))))
    (sIf (cB (c2 opEq (cVar 4) (cVar 1)))
    (sRet (c2 opAdd (cCall 2 rec (aVar 0 (aVar 2 aNil))) (cVar 3)))
    sNx))
    (sRet (cVar 1)))
noncomputable def Fn_parts_of_at : Nat → Fn
  | 0 => fun _ _ => .bad
  | k + 1 => runF 5 (g_parts_of (Fn_parts_of_at k))
noncomputable def Fn_parts_of : Fn := Fn_parts_of_at 12
noncomputable def g_class_of : MS :=
    (sSeq (sFor (tgP [(tgN 2), (tgN 3)]) (gItems (c2 opIx (cVar 0) (cC (.int 0))))
    (sIf (cB (c2 opEq (cVar 2) (cVar 1)))
    (sRet (cVar 3))
    sNx))
    (sRet (cC (.int 0))))
noncomputable def Fn_class_of : Fn := runF 4 g_class_of
noncomputable def g_in_order : MS :=
    (sSeq (sOwn 2 (cLst aNil))
    (sSeq (sOwn 3 (cLst aNil))
    (sSeq (sFor (tgN 4) (gItems (cVar 1))
    (sSeq (sSet 5 (cCall 2 Fn_class_of (aVar 0 (aVar 4 aNil))))
    (sIf (cB (c2 opEq (cVar 5) (cC (.int 0))))
    (sSeq (sExt 2 (cF (borrowF 3 (cLc [6, 7, 8] (tgP [(tgN 6), (tgN 7), (tgN 8)]) (gItems (cF (cBtF fSortA (aVar 3 aNil)))) bYes (cVar 8)))))
    (sSeq (sApp 2 (cVar 4))
    (sOwn 3 (cLst aNil))))
    (sApp 3 (borrow 3 (cTup (aVar 5 (aCons (cBt fLen (aVar 3 aNil)) (aVar 4 aNil)))))))))
    (sSeq (sExt 2 (cF (borrowF 3 (cLc [6, 7, 8] (tgP [(tgN 6), (tgN 7), (tgN 8)]) (gItems (cF (cBtF fSortA (aVar 3 aNil)))) bYes (cVar 8)))))
    (sRet (borrow 2 (cM1 mJoin (cC (T [])) (cVar 2))))))))
noncomputable def Fn_in_order : Fn := runF 9 g_in_order
noncomputable def g_parted : MS :=
    (sRet (cCall 2 Fn_in_order (aVar 0 (aCons (cM1 mJoin (cC (T [])) (cF (cLc [2] (tgN 2) (gItems (cVar 1)) bYes (cCall 2 Fn_parts_of (aVar 0 (aVar 2 aNil)))))) aNil))))
noncomputable def Fn_parted : Fn := runF 3 g_parted
noncomputable def g_alike : MS :=
    (sRet (c2 opEq (cCall 2 Fn_parted (aVar 0 (aVar 1 aNil))) (cCall 2 Fn_parted (aVar 0 (aVar 2 aNil)))))
noncomputable def Fn_alike : Fn := runF 3 g_alike
noncomputable def g_halves : MS :=
    (sSeq (sFor (tgP [(tgN 2), (tgN 3), (tgN 4)]) (gItems (c2 opIx (cVar 0) (cC (.int 1))))
    (sIf (cB (c2 opEq (cVar 4) (cVar 1)))
    (sRet (c2 opAdd (cVar 2) (cVar 3)))
    sNx))
    (sRet (cC .none)))
noncomputable def Fn_halves : Fn := runF 5 g_halves
noncomputable def g_whole_of : MS :=
    (sSeq (sFor (tgP [(tgN 3), (tgN 4), (tgN 5)]) (gItems (c2 opIx (cVar 0) (cC (.int 1))))
    (sIf (cB (c2 opEq (cTup (aVar 3 (aVar 4 aNil))) (cTup (aVar 1 (aVar 2 aNil)))))
    (sRet (cVar 5))
    sNx))
    (sRet (cC .none)))
noncomputable def Fn_whole_of : Fn := runF 6 g_whole_of
noncomputable def g_stepped : MS :=
    (sSeq (sTup (tgP [(tgN 3), (tgN 4)]) (cVar 2))
    (sSeq (sIf (cB (c2 opEq (cVar 3) (cC (T [112, 97, 114, 116]))))
    (sSeq (sIf (bOr (bNot (cB (cCh opLe opLt (cC (.int 0)) (cVar 4) (cBt fLen (aVar 1 aNil))))) (cB (c2 opIsN (cCall 2 Fn_halves (aVar 0 (aCons (c2 opIx (cVar 1) (cVar 4)) aNil))) (cC .none))))
    (sRet (cC .none))
    sNx)
    (sRet (c2 opAdd (c2 opAdd (cSl (cVar 1) gNoPart (gPart (cVar 4))) (cCall 2 Fn_halves (aVar 0 (aCons (c2 opIx (cVar 1) (cVar 4)) aNil)))) (cSl (cVar 1) (gPart (c2 opAdd (cVar 4) (cC (.int 1)))) gNoPart))))
    sNx)
    (sSeq (sIf (bNot (cB (cCh opLe opLt (cC (.int 0)) (cVar 4) (c2 opSub (cBt fLen (aVar 1 aNil)) (cC (.int 1))))))
    (sRet (cC .none))
    sNx)
    (sSeq (sIf (cB (c2 opEq (cVar 3) (cC (T [106, 111, 105, 110]))))
    (sSeq (sSet 5 (cCall 3 Fn_whole_of (aVar 0 (aCons (c2 opIx (cVar 1) (cVar 4)) (aCons (c2 opIx (cVar 1) (c2 opAdd (cVar 4) (cC (.int 1)))) aNil)))))
    (sSeq (sIf (cB (c2 opIsN (cVar 5) (cC .none)))
    (sRet (cC .none))
    sNx)
    (sRet (c2 opAdd (c2 opAdd (cSl (cVar 1) gNoPart (gPart (cVar 4))) (cVar 5)) (cSl (cVar 1) (gPart (c2 opAdd (cVar 4) (cC (.int 2)))) gNoPart)))))
    sNx)
    (sSeq (sSet 6 (cCall 2 Fn_class_of (aVar 0 (aCons (c2 opIx (cVar 1) (cVar 4)) aNil))))
    (sSeq (sSet 7 (cCall 2 Fn_class_of (aVar 0 (aCons (c2 opIx (cVar 1) (c2 opAdd (cVar 4) (cC (.int 1)))) aNil))))
    (sSeq (sIf (bOr (cB (c2 opEq (cVar 6) (cC (.int 0)))) (bOr (cB (c2 opEq (cVar 7) (cC (.int 0)))) (cB (c2 opEq (cVar 6) (cVar 7)))))
    (sRet (cC .none))
    sNx)
    (sRet (c2 opAdd (c2 opAdd (c2 opAdd (cSl (cVar 1) gNoPart (gPart (cVar 4))) (c2 opIx (cVar 1) (c2 opAdd (cVar 4) (cC (.int 1))))) (c2 opIx (cVar 1) (cVar 4))) (cSl (cVar 1) (gPart (c2 opAdd (cVar 4) (cC (.int 2)))) gNoPart))))))))))
noncomputable def Fn_stepped : Fn := runF 8 g_stepped
noncomputable def g_steps_down : MS :=
    (sSeq (sOwn 2 (cLst aNil))
    (sSeq (sSet 3 (cC (.int 0)))
    (sSeq (sWhile (cB (c2 opLt (cVar 3) (cBt fLen (aVar 1 aNil))))
    (sIf (cB (c2 opNotN (cCall 2 Fn_halves (aVar 0 (aCons (c2 opIx (cVar 1) (cVar 3)) aNil))) (cC .none)))
    (sSeq (sApp 2 (cTup (aCons (cC (T [112, 97, 114, 116])) (aVar 3 aNil))))
    (sSet 1 (cCall 3 Fn_stepped (aVar 0 (aVar 1 (aCons (cTup (aCons (cC (T [112, 97, 114, 116])) (aVar 3 aNil))) aNil))))))
    (sSet 3 (c2 opAdd (cVar 3) (cC (.int 1))))))
    (sSeq (sSet 3 (cC (.int 0)))
    (sSeq (sWhile (cB (c2 opLt (cVar 3) (c2 opSub (cBt fLen (aVar 1 aNil)) (cC (.int 1)))))
    (sSeq (sSet 4 (cCall 2 Fn_class_of (aVar 0 (aCons (c2 opIx (cVar 1) (cVar 3)) aNil))))
    (sSeq (sSet 5 (cCall 2 Fn_class_of (aVar 0 (aCons (c2 opIx (cVar 1) (c2 opAdd (cVar 3) (cC (.int 1)))) aNil))))
    (sIf (cB (cCh opLt opLt (cC (.int 0)) (cVar 5) (cVar 4)))
    (sSeq (sApp 2 (cTup (aCons (cC (T [115, 119, 97, 112])) (aVar 3 aNil))))
    (sSeq (sSet 1 (cCall 3 Fn_stepped (aVar 0 (aVar 1 (aCons (cTup (aCons (cC (T [115, 119, 97, 112])) (aVar 3 aNil))) aNil)))))
    (sSet 3 (cBt fMax2 (aCons (cC (.int 0)) (aCons (c2 opSub (cVar 3) (cC (.int 1))) aNil))))))
    (sSet 3 (c2 opAdd (cVar 3) (cC (.int 1))))))))
    (sRel 2 (sRet (cVar 2))))))))
noncomputable def Fn_steps_down : Fn := runF 6 g_steps_down
noncomputable def g_back_step : MS :=
    (sSeq (sIf (cB (c2 opEq (c2 opIx (cVar 0) (cC (.int 0))) (cC (T [112, 97, 114, 116]))))
    (sRet (cTup (aCons (cC (T [106, 111, 105, 110])) (aCons (c2 opIx (cVar 0) (cC (.int 1))) aNil))))
    sNx)
    (sRet (cVar 0)))
noncomputable def Fn_back_step : Fn := runF 1 g_back_step
noncomputable def g_chain : MS :=
    (sSeq (sIf (bNot (cTru (cCall 3 Fn_alike (aVar 0 (aVar 1 (aVar 2 aNil))))))
    (sRaise "NoChain")
    sNx)
    (sSeq (sSet 3 (cF (cLc [4] (tgN 4) (gItems (c1 opRev (cCall 2 Fn_steps_down (aVar 0 (aVar 2 aNil))))) bYes (cCall 1 Fn_back_step (aVar 4 aNil)))))
    (sRet (cBt fTuple (aCons (c2 opAdd (cCall 2 Fn_steps_down (aVar 0 (aVar 1 aNil))) (cVar 3)) aNil)))))
noncomputable def Fn_chain : Fn := runF 5 g_chain
noncomputable def g_Cursor_go : MS :=
    (sSeq (sIf (bAnd (bNot (cTru (cCall 4 Fn_is_cut (aCons (cFld 0 CurS.kd) (aCons (cFld 0 CurS.rl) (aCons (cCall 1 Fn_Cursor_text (aCur 0 aNil)) (aVar 1 aNil))))))) (cB (c2 opNe (cCall 1 Fn_Cursor_text (aCur 0 aNil)) (cC (T [])))))
    (sRaise "NoPlace")
    sNx)
    (sDrop (cCall 3 Fn_Cursor_stand (aCur 0 (aVar 1 (aVar 2 aNil))))))
noncomputable def Fn_Cursor_go : Fn := runF 3 g_Cursor_go
noncomputable def g_Cursor_back : MS :=
    (sSeq (sIf (bNot (bBef 0))
    (sRaise "NoStep")
    sNx)
    (sSeq (sLatApp 0)
    (sBefPop 0)))
noncomputable def Fn_Cursor_back : Fn := runF 1 g_Cursor_back
noncomputable def g_Cursor_forth : MS :=
    (sSeq (sIf (bNot (bLat 0))
    (sRaise "NoStep")
    sNx)
    (sSeq (sBefApp 0)
    (sLatPop 0)))
noncomputable def Fn_Cursor_forth : Fn := runF 1 g_Cursor_forth
noncomputable def g_is_kind : MS :=
    (sRet (vAnd (c1 (fun d => some (.bool (isStr d))) (cVar 0)) (vAnd (c2 opEq (cBt fLen (aVar 0 aNil)) (cC (.int 1))) (cCh opLe opLe (cC (T [65])) (cVar 0) (cC (T [90]))))))
noncomputable def Fn_is_kind : Fn := runF 1 g_is_kind
noncomputable def g_are_rising : MS :=
    (sRet (cBt fAll (aCons (cF (cLc [1, 2] (tgP [(tgN 1), (tgN 2)]) (gZipA (aCons (cSl (cVar 0) gNoPart (gPart (c1 opNeg (cC (.int 1))))) (aCons (cSl (cVar 0) (gPart (cC (.int 1))) gNoPart) aNil))) bYes (c2 opLt (cVar 1) (cVar 2)))) aNil)))
noncomputable def Fn_are_rising : Fn := runF 3 g_are_rising
noncomputable def g_is_item : MS :=
    (sSeq (sIf (bOr (bNot (cTru (c1 (fun d => some (.bool (isTup d))) (cVar 0)))) (bOr (cB (c2 opNe (cBt fLen (aVar 0 aNil)) (cC (.int 2)))) (bNot (cTru (c1 (fun d => some (.bool (isStr d))) (c2 opIx (cVar 0) (cC (.int 0))))))))
    (sRet (cC (.bool false)))
    sNx)
    (sSeq (sIf (bOr (bNot (cTru (cBt fAll (aCons (cF (cLc [1] (tgN 1) (gItems (c2 opIx (cVar 0) (cC (.int 0)))) bYes (cCall 1 Fn_is_kind (aVar 1 aNil)))) aNil)))) (bNot (cTru (cCall 1 Fn_are_rising (aCons (c2 opIx (cVar 0) (cC (.int 0))) aNil)))))
    (sRet (cC (.bool false)))
    sNx)
    (sRet (vAnd (c1 (fun d => some (.bool (isStr d))) (c2 opIx (cVar 0) (cC (.int 1)))) (c2 opIn (c2 opIx (cVar 0) (cC (.int 1))) (cC (.tuple [T [49], T [42]])))))))
noncomputable def Fn_is_item : Fn := runF 2 g_is_item
noncomputable def g_is_side : MS :=
    (sRet (vAnd (c1 (fun d => some (.bool (isTup d))) (cVar 0)) (vAnd (c2 opLe (cBt fLen (aVar 0 aNil)) (cC (.int 3))) (cBt fAll (aCons (cF (cLc [1] (tgN 1) (gItems (cVar 0)) bYes (cCall 1 Fn_is_item (aVar 1 aNil)))) aNil)))))
noncomputable def Fn_is_side : Fn := runF 2 g_is_side
noncomputable def g_is_rule : MS :=
    (sSeq (sIf (bOr (bNot (cTru (c1 (fun d => some (.bool (isTup d))) (cVar 0)))) (bOr (cB (c2 opNe (cBt fLen (aVar 0 aNil)) (cC (.int 3)))) (bNot (cTru (c1 (fun d => some (.bool (isBool d))) (c2 opIx (cVar 0) (cC (.int 1))))))))
    (sRet (cC (.bool false)))
    sNx)
    (sRet (vAnd (cCall 1 Fn_is_side (aCons (c2 opIx (cVar 0) (cC (.int 0))) aNil)) (cCall 1 Fn_is_side (aCons (c2 opIx (cVar 0) (cC (.int 2))) aNil)))))
noncomputable def Fn_is_rule : Fn := runF 1 g_is_rule
noncomputable def g_are_rules : MS :=
    (sRet (vAnd (c1 (fun d => some (.bool (isTup d))) (cVar 0)) (vAnd (c2 opLe (cBt fLen (aVar 0 aNil)) (cC (.int 20))) (cBt fAll (aCons (cF (cLc [1] (tgN 1) (gItems (cVar 0)) bYes (cCall 1 Fn_is_rule (aVar 1 aNil)))) aNil)))))
noncomputable def Fn_are_rules : Fn := runF 2 g_are_rules
noncomputable def g_item_text : MS :=
    (sSeq (sSet 1 (c2 opIx (cVar 0) (cC (.int 0))))
    (sSeq (sIf (cB (c2 opEq (cVar 1) (cC (T []))))
    (sSet 1 (cC (T [46])))
    sNx)
    (sSeq (sIf (cB (c2 opEq (c2 opIx (cVar 0) (cC (.int 1))) (cC (T [42]))))
    (sSet 1 (c2 opAdd (cVar 1) (cC (T [42]))))
    sNx)
    (sRet (cVar 1)))))
noncomputable def Fn_item_text : Fn := runF 2 g_item_text
noncomputable def g_written : MS :=
    (sSeq (sSet 1 (cC (T [])))
    (sSeq (sFor (tgP [(tgN 2), (tgN 3), (tgN 4)]) (gItems (cVar 0))
    (sSeq (sOwn 5 (cLc [6] (tgN 6) (gItems (cVar 2)) bYes (cCall 1 Fn_item_text (aVar 6 aNil))))
    (sSeq (sApp 5 (cIf (cTru (cVar 3)) (cC (T [47])) (cC (T [120]))))
    (sSeq (sExt 5 (cF (cLc [6] (tgN 6) (gItems (cVar 4)) bYes (cCall 1 Fn_item_text (aVar 6 aNil)))))
    (sSet 1 (borrow 5 (c2 opAdd (c2 opAdd (cVar 1) (cM1 mJoin (cC (T [32])) (cVar 5))) (cC (T [10])))))))))
    (sRet (cVar 1))))
noncomputable def Fn_written : Fn := runF 7 g_written
noncomputable def g_item_in : MS :=
    (sSeq (sSet 1 (cC (T [49])))
    (sSeq (sIf (cB (c2 opEq (cSl (cVar 0) (gPart (c1 opNeg (cC (.int 1)))) gNoPart) (cC (T [42]))))
    (sSeq (sSet 1 (cC (T [42])))
    (sSet 0 (cSl (cVar 0) gNoPart (gPart (c1 opNeg (cC (.int 1)))))))
    sNx)
    (sSeq (sIf (cB (c2 opEq (cVar 0) (cC (T [46]))))
    (sSet 0 (cC (T [])))
    (sIf (cB (c2 opEq (cVar 0) (cC (T []))))
    (sRaise "NoText")
    sNx))
    (sRet (cTup (aVar 0 (aVar 1 aNil)))))))
noncomputable def Fn_item_in : Fn := runF 2 g_item_in
noncomputable def g_rule_in : MS :=
    (sSeq (sSet 1 (cF (cM1F mSplit (cVar 0) (cC (T [32])))))
    (sSeq (sSet 2 (cF (cLc [3, 4] (tgP [(tgN 3), (tgN 4)]) (gEnumerate (aVar 1 aNil)) (cB (c2 opIn (cVar 4) (cTup (aCons (cC (T [47])) (aCons (cC (T [120])) aNil))))) (cVar 3))))
    (sSeq (sIf (cB (c2 opNe (cBt fLen (aVar 2 aNil)) (cC (.int 1))))
    (sRaise "NoText")
    sNx)
    (sSeq (sSet 3 (c2 opIx (cVar 2) (cC (.int 0))))
    (sSeq (sSet 5 (cBt fTuple (aCons (cF (cLc [4] (tgN 4) (gItems (cSl (cVar 1) gNoPart (gPart (cVar 3)))) bYes (cCall 1 Fn_item_in (aVar 4 aNil)))) aNil)))
    (sRet (cTup (aVar 5 (aCons (c2 opEq (c2 opIx (cVar 1) (cVar 3)) (cC (T [47]))) (aCons (cBt fTuple (aCons (cF (cLc [4] (tgN 4) (gItems (cSl (cVar 1) (gPart (c2 opAdd (cVar 3) (cC (.int 1)))) gNoPart)) bYes (cCall 1 Fn_item_in (aVar 4 aNil)))) aNil)) aNil))))))))))
noncomputable def Fn_rule_in : Fn := runF 6 g_rule_in
noncomputable def g_read : MS :=
    (sSeq (sSet 1 (cBt fTuple (aCons (cF (cLc [2] (tgN 2) (gItems (cSl (cF (cM1F mSplit (cVar 0) (cC (T [10])))) gNoPart (gPart (c1 opNeg (cC (.int 1)))))) bYes (cCall 1 Fn_rule_in (aVar 2 aNil)))) aNil)))
    (sSeq (sIf (bOr (bNot (cTru (cCall 1 Fn_are_rules (aVar 1 aNil)))) (cB (c2 opNe (cCall 1 Fn_written (aVar 1 aNil)) (cVar 0))))
    (sRaise "NoText")
    sNx)
    (sRet (cVar 1))))
noncomputable def Fn_read : Fn := runF 3 g_read
noncomputable def g_piece_width : MS :=
    (sSeq (sDic 2 (cDic (cVar 0)))
    (sRet (cBt (fBest PySem.W.maxD) (aCons (c2 opAdd (cF (cLst (aCons (cC (.int 0)) aNil))) (cF (cLc [3] (tgN 3) (gItems (cVar 1)) bYes (cDGet 2 (cVar 3) (cC (.int 1)))))) aNil))))
noncomputable def Fn_piece_width : Fn := runF 4 g_piece_width
noncomputable def g_width : MS :=
    (sRet (cBt fSum (aCons (cF (cLc [4] (tgN 4) (gItems (cCall 3 Fn_pieces (aVar 0 (aVar 1 (aVar 3 aNil))))) bYes (cCall 2 Fn_piece_width (aVar 2 (aVar 4 aNil))))) aNil)))
noncomputable def Fn_width : Fn := runF 5 g_width
noncomputable def g_cut_to : MS :=
    (sSeq (sSet 5 (cC (T [])))
    (sSeq (sSet 6 (cC (.int 0)))
    (sSeq (sFor (tgN 7) (gItems (cCall 3 Fn_pieces (aVar 0 (aVar 1 (aVar 3 aNil)))))
    (sSeq (sSet 6 (c2 opAdd (cVar 6) (cCall 2 Fn_piece_width (aVar 2 (aVar 7 aNil)))))
    (sSeq (sIf (cB (c2 opGt (cVar 6) (cVar 4)))
    (sRet (cVar 5))
    sNx)
    (sSet 5 (c2 opAdd (cVar 5) (cVar 7))))))
    (sRet (cVar 5)))))
noncomputable def Fn_cut_to : Fn := runF 8 g_cut_to
noncomputable def g_shown : MS :=
    (sSeq (sIf (cB (c2 opLe (cCall 4 Fn_width (aVar 0 (aVar 1 (aVar 2 (aVar 3 aNil))))) (cVar 4)))
    (sRet (cVar 3))
    sNx)
    (sSeq (sSet 6 (c2 opSub (cVar 4) (cCall 4 Fn_width (aVar 0 (aVar 1 (aVar 2 (aVar 5 aNil)))))))
    (sSeq (sIf (cB (c2 opLt (cVar 6) (cC (.int 0))))
    (sRaise "NoPlace")
    sNx)
    (sRet (c2 opAdd (cCall 5 Fn_cut_to (aVar 0 (aVar 1 (aVar 2 (aVar 3 (aVar 6 aNil)))))) (cVar 5))))))
noncomputable def Fn_shown : Fn := runF 7 g_shown
noncomputable def g_column_of : MS :=
    (sSeq (sIf (bNot (cB (cCh opLe opLe (cC (.int 0)) (cVar 4) (cBt fLen (aVar 3 aNil)))))
    (sRaise "NoPlace")
    sNx)
    (sSeq (sSet 5 (cCall 3 Fn_cuts (aVar 0 (aVar 1 (aVar 3 aNil)))))
    (sSeq (sSet 6 (cF (cLc [7, 8] (tgP [(tgN 7), (tgN 8)]) (gZip (aCons (cSl (cVar 5) gNoPart (gPart (c1 opNeg (cC (.int 1))))) (aCons (cSl (cVar 5) (gPart (cC (.int 1))) gNoPart) aNil))) (cB (c2 opLe (cVar 8) (cVar 4))) (cSl (cVar 3) (gPart (cVar 7)) (gPart (cVar 8))))))
    (sRet (cBt fSum (aCons (cF (cLc [9] (tgN 9) (gItems (cVar 6)) bYes (cCall 2 Fn_piece_width (aVar 2 (aVar 9 aNil))))) aNil))))))
noncomputable def Fn_column_of : Fn := runF 10 g_column_of
noncomputable def g_law_deed : MS :=
    (sSeq (sSet 4 (cTup (aCons (cTup (aCons (cTup (aCons (cC (T [94])) (aCons (cC (.int 1)) aNil))) (aCons (cTup (aCons (cC (T [126])) (aCons (cC (.int 2)) aNil))) aNil))) (aCons (cTup (aCons (cTup (aCons (cC (T [97])) (aCons (cC (T [94])) (aCons (cC (T [65])) aNil)))) aNil)) aNil))))
    (sIf (cB (c2 opEq (cVar 0) (cC (.int 0))))
    (sDrop (cCall 4 Fn_is_cut (aCons (cTup aNil) (aCons (cTup aNil) (aVar 1 (aVar 2 aNil))))))
    (sIf (cB (c2 opEq (cVar 0) (cC (.int 1))))
    (sDrop (cCall 4 Fn_why (aCons (cTup aNil) (aCons (cTup aNil) (aVar 1 (aVar 2 aNil))))))
    (sIf (cB (c2 opEq (cVar 0) (cC (.int 2))))
    (sDrop (cCall 4 Fn_why (aCons (cTup aNil) (aCons (cTup aNil) (aVar 1 (aCons (cC (.int 0)) aNil))))))
    (sIf (cB (c2 opEq (cVar 0) (cC (.int 3))))
    (sDrop (cCall 4 Fn_next_cut (aCons (cTup aNil) (aCons (cTup aNil) (aVar 1 (aVar 2 aNil))))))
    (sIf (cB (c2 opEq (cVar 0) (cC (.int 4))))
    (sDrop (cCall 4 Fn_last_cut (aCons (cTup aNil) (aCons (cTup aNil) (aVar 1 (aVar 2 aNil))))))
    (sIf (cB (c2 opEq (cVar 0) (cC (.int 5))))
    (sDrop (cCall 4 Fn_piece_at (aCons (cTup aNil) (aCons (cTup aNil) (aVar 1 (aCons (cBt fLen (aVar 1 aNil)) aNil))))))
    (sIf (cB (c2 opEq (cVar 0) (cC (.int 6))))
    (sDrop (cCall 4 Fn_piece_number (aCons (cTup aNil) (aCons (cTup aNil) (aVar 1 (aVar 2 aNil))))))
    (sIf (cB (c2 opEq (cVar 0) (cC (.int 7))))
    (sDrop (cCall 4 Fn_nearest (aCons (cTup aNil) (aCons (cTup aNil) (aVar 1 (aVar 2 aNil))))))
    (sIf (cB (c2 opEq (cVar 0) (cC (.int 8))))
    (sDrop (cCall 5 Fn_column_of (aCons (cTup aNil) (aCons (cTup aNil) (aCons (cTup aNil) (aVar 1 (aVar 2 aNil)))))))
    (sIf (cB (c2 opEq (cVar 0) (cC (.int 9))))
    (sDrop (cCall 6 Fn_shown (aCons (cTup aNil) (aCons (cTup aNil) (aCons (cTup aNil) (aCons (c2 opAdd (cVar 1) (cC (T [97, 98]))) (aCons (c2 opAdd (cBt fLen (aVar 1 aNil)) (cC (.int 1))) (aCons (c2 opAdd (cVar 1) (cC (T [97, 98, 99]))) aNil))))))))
    (sIf (cB (c2 opEq (cVar 0) (cC (.int 10))))
    (sDrop (cCall 3 Fn_Cursor_go (aCur 3 (aVar 2 (aCons (c2 opGt (cVar 2) (cC (.int 0))) aNil)))))
    (sIf (cB (c2 opEq (cVar 0) (cC (.int 11))))
    (sDrop (cCall 3 Fn_chain (aVar 4 (aCons (c2 opAdd (cC (T [97, 94])) (cVar 1)) (aCons (c2 opAdd (c2 opAdd (cC (T [65])) (cVar 1)) (cC (T [94]))) aNil)))))
    (sIf (cB (c2 opEq (cVar 0) (cC (.int 12))))
    (sDrop (cCall 1 Fn_Cursor_forth (aCur 3 aNil)))
    (sIf (cB (c2 opEq (cVar 0) (cC (.int 13))))
    (sDrop (cTmp Fn_Cursor_back (aCons (cTup aNil) (aCons (cTup aNil) (aCons (cTup aNil) (aVar 1 aNil))))))
    (sDrop (cCall 1 Fn_read (aCons (c2 opAdd (cC (T [65, 32, 120])) (cVar 1)) aNil))))))))))))))))))
noncomputable def Fn_law_deed : Fn := runF 5 g_law_deed
noncomputable def g_law_ask : MS :=
    (sSeq (sSet 4 (cF (cLst aNil)))
    (sSeq (sTryAs ["NoPlace", "NoChain", "NoStep", "NoText"] 5 4
    (sDrop (cCall 4 Fn_law_deed (aVar 0 (aVar 1 (aVar 2 (aVar 3 aNil)))))) nmR)
    (sRet (cVar 4))))
noncomputable def Fn_law_ask : Fn := runF 6 g_law_ask
noncomputable def g_law : MS :=
    (sSeq (sFor (tgN 2) (gRng fRng1 (aCons (cC (.int 4)) aNil))
    (sSeq (sSet 3 (c2 opMulA (cC (T [98])) (cCall 3 Fn_law_draw (aVar 0 (aVar 1 (aCons (cC (.int 5)) aNil))))))
    (sSeq (sSet 4 (cCall 3 Fn_law_pick (aVar 0 (aVar 1 (aCons (cF (cLst (aCons (c1 opNeg (cC (.int 1))) (aCons (c1 opNeg (cC (.int 9))) (aCons (c2 opAdd (cBt fLen (aVar 3 aNil)) (cC (.int 1))) (aCons (c2 opAdd (cBt fLen (aVar 3 aNil)) (cC (.int 30))) aNil)))))) aNil)))))
    (sSeq (sFgt (sNew 5 1 (aCons (cTup aNil) (aCons (cTup aNil) (aCons (cTup aNil) (aCons (cC (T [97, 98, 99])) aNil))))))
    (sSeq (sDrop (cCall 4 Fn_Cursor_step (aCur 5 (aCons (cC (.bool true)) (aCons (cC (.bool false)) (aCons (cC (.bool true)) aNil))))))
    (sSeq (sDrop (cCall 2 Fn_Cursor_typed (aCur 5 (aVar 3 aNil))))
    (sSeq (sSet 6 (cTup (aCons (cCall 1 Fn_Cursor_text (aCur 5 aNil)) (aCons (cCall 1 Fn_Cursor_place (aCur 5 aNil)) (aCons (cCall 1 Fn_Cursor_stretch (aCur 5 aNil)) aNil)))))
    (sSeq (sSet 7 (c2 opAdd (c2 opAdd (c2 opAdd (c2 opMulA (cF (cLst (aCons (cF (cLst (aCons (cC (T [78, 111, 80, 108, 97, 99, 101])) aNil))) aNil))) (cC (.int 11))) (cF (cLst (aCons (cF (cLst (aCons (cC (T [78, 111, 67, 104, 97, 105, 110])) aNil))) aNil)))) (c2 opMulA (cF (cLst (aCons (cF (cLst (aCons (cC (T [78, 111, 83, 116, 101, 112])) aNil))) aNil))) (cC (.int 2)))) (cF (cLst (aCons (cF (cLst (aCons (cC (T [78, 111, 84, 101, 120, 116])) aNil))) aNil)))))
    (sSeq (sSet 8 (cIf (cB (c2 opLt (cVar 4) (cC (.int 0)))) (cVar 4) (c2 opAdd (cVar 4) (cC (.int 3)))))
    (sSeq (sSet 9 (cF (cLc [10] (tgN 10) (gRng fRng1 (aCons (cC (.int 15)) aNil)) bYes (cCall 4 Fn_law_ask (aVar 10 (aVar 3 (aVar 8 (aVar 5 aNil))))))))
    (sIf (bOr (cB (c2 opNe (cVar 9) (cVar 7))) (cB (c2 opNe (cTup (aCons (cCall 1 Fn_Cursor_text (aCur 5 aNil)) (aCons (cCall 1 Fn_Cursor_place (aCur 5 aNil)) (aCons (cCall 1 Fn_Cursor_stretch (aCur 5 aNil)) aNil)))) (cVar 6))))
    (sRet (cC (.bool false)))
    sNx)))))))))))
    (sRet (cC (.bool true))))
structure TX (K : PySem.W.Frag) (mg : Str → Option Value) (ca : String → Addr) where
  X_NoPlace : ExcAt K mg "NoPlace" (ca "NoPlace")
  X_NoChain : ExcAt K mg "NoChain" (ca "NoChain")
  X_NoStep : ExcAt K mg "NoStep" (ca "NoStep")
  X_NoText : ExcAt K mg "NoText" (ca "NoText")
  h_CutError : mg "CutError" = some (.ref (ca "CutError"))
  M_CutError : ∀ e ∈ ["NoPlace", "NoChain", "NoStep", "NoText"], PySem.W.exmOne K (.ref (ca e)) (.ref (ca "CutError")) = some true
  EC : ∀ e ∈ ["NoPlace", "NoChain", "NoStep", "NoText"], ExcC K (ca e)
  KV : ∀ e ∈ ["NoPlace", "NoChain", "NoStep", "NoText"], PySem.W.kitOne K (.ref (ca e)) (.type "ValueError") = some true
  KI_NoPlace : ∀ e ∈ ["NoPlace", "NoChain", "NoStep", "NoText"], PySem.W.kitOne K (.ref (ca e)) (.ref (ca "NoPlace")) = some (decide (e = "NoPlace"))
  KI_NoChain : ∀ e ∈ ["NoPlace", "NoChain", "NoStep", "NoText"], PySem.W.kitOne K (.ref (ca e)) (.ref (ca "NoChain")) = some (decide (e = "NoChain"))
  KI_NoStep : ∀ e ∈ ["NoPlace", "NoChain", "NoStep", "NoText"], PySem.W.kitOne K (.ref (ca e)) (.ref (ca "NoStep")) = some (decide (e = "NoStep"))
  KI_NoText : ∀ e ∈ ["NoPlace", "NoChain", "NoStep", "NoText"], PySem.W.kitOne K (.ref (ca e)) (.ref (ca "NoText")) = some (decide (e = "NoText"))
  c_C : Addr
  c_i : Addr
  c_d : FuncData
  C : ClsA K mg c_C s_init c_i c_d
  a_Cursor_text : Addr
  d_Cursor_text : FuncData
  A_Cursor_text : MethAt K c_C "text" "Cursor.text" s_Cursor_text ["self"] a_Cursor_text d_Cursor_text
  a_Cursor_place : Addr
  d_Cursor_place : FuncData
  A_Cursor_place : MethAt K c_C "place" "Cursor.place" s_Cursor_place ["self"] a_Cursor_place d_Cursor_place
  a_Cursor_stretch : Addr
  d_Cursor_stretch : FuncData
  A_Cursor_stretch : MethAt K c_C "stretch" "Cursor.stretch" s_Cursor_stretch ["self"] a_Cursor_stretch d_Cursor_stretch
  a_kinds_of : Addr
  d_kinds_of : FuncData
  A_kinds_of : DefAt K mg "kinds_of" s_kinds_of ["kinds", "text"] a_kinds_of d_kinds_of
  a_is_in : Addr
  d_is_in : FuncData
  A_is_in : DefAt K mg "is_in" s_is_in ["item", "kind"] a_is_in d_is_in
  a_places_on : Addr
  d_places_on : FuncData
  A_places_on : DefAt K mg "places_on" s_places_on ["row", "items", "place"] a_places_on d_places_on
  a_leads_on : Addr
  d_leads_on : FuncData
  A_leads_on : DefAt K mg "leads_on" s_leads_on ["row", "items", "place"] a_leads_on d_leads_on
  a_leads_back : Addr
  d_leads_back : FuncData
  A_leads_back : DefAt K mg "leads_back" s_leads_back ["row", "items", "place"] a_leads_back d_leads_back
  a_rule_at : Addr
  d_rule_at : FuncData
  A_rule_at : DefAt K mg "rule_at" s_rule_at ["row", "rules", "place"] a_rule_at d_rule_at
  a_is_cut_at : Addr
  d_is_cut_at : FuncData
  A_is_cut_at : DefAt K mg "is_cut_at" s_is_cut_at ["row", "rules", "place"] a_is_cut_at d_is_cut_at
  a_need : Addr
  d_need : FuncData
  A_need : DefAt K mg "need" s_need ["text", "place"] a_need d_need
  a_next_cut : Addr
  d_next_cut : FuncData
  A_next_cut : DefAt K mg "next_cut" s_next_cut ["kinds", "rules", "text", "place"] a_next_cut d_next_cut
  a_last_cut : Addr
  d_last_cut : FuncData
  A_last_cut : DefAt K mg "last_cut" s_last_cut ["kinds", "rules", "text", "place"] a_last_cut d_last_cut
  a_Cursor_stand : Addr
  d_Cursor_stand : FuncData
  A_Cursor_stand : MethAt K c_C "stand" "Cursor.stand" s_Cursor_stand ["self", "place", "is_held"] a_Cursor_stand d_Cursor_stand
  a_Cursor_step : Addr
  d_Cursor_step : FuncData
  A_Cursor_step : MethAt K c_C "step" "Cursor.step" s_Cursor_step ["self", "is_on", "is_word", "is_held"] a_Cursor_step d_Cursor_step
  a_is_cut : Addr
  d_is_cut : FuncData
  A_is_cut : DefAt K mg "is_cut" s_is_cut ["kinds", "rules", "text", "place"] a_is_cut d_is_cut
  a_Cursor_change : Addr
  d_Cursor_change : FuncData
  A_Cursor_change : MethAt K c_C "change" "Cursor.change" s_Cursor_change ["self", "first", "last", "new"] a_Cursor_change d_Cursor_change
  a_Cursor_typed : Addr
  d_Cursor_typed : FuncData
  A_Cursor_typed : MethAt K c_C "typed" "Cursor.typed" s_Cursor_typed ["self", "new"] a_Cursor_typed d_Cursor_typed
  a_law_draw : Addr
  d_law_draw : FuncData
  A_law_draw : DefAt K mg "_law_draw" s_law_draw ["_law_script", "_law_town", "_law_many"] a_law_draw d_law_draw
  a_law_pick : Addr
  d_law_pick : FuncData
  A_law_pick : DefAt K mg "_law_pick" s_law_pick ["_law_script", "_law_town", "_law_some"] a_law_pick d_law_pick
  a_law_names : Addr
  d_law_names : FuncData
  A_law_names : DefAt K mg "_law_names" s_law_names ["_law_e"] a_law_names d_law_names
  a_why : Addr
  d_why : FuncData
  A_why : DefAt K mg "why" s_why ["kinds", "rules", "text", "place"] a_why d_why
  a_piece_at : Addr
  d_piece_at : FuncData
  A_piece_at : DefAt K mg "piece_at" s_piece_at ["kinds", "rules", "text", "place"] a_piece_at d_piece_at
  a_cuts : Addr
  d_cuts : FuncData
  A_cuts : DefAt K mg "cuts" s_cuts ["kinds", "rules", "text"] a_cuts d_cuts
  a_pieces : Addr
  d_pieces : FuncData
  A_pieces : DefAt K mg "pieces" s_pieces ["kinds", "rules", "text"] a_pieces d_pieces
  a_piece_number : Addr
  d_piece_number : FuncData
  A_piece_number : DefAt K mg "piece_number" s_piece_number ["kinds", "rules", "text", "number"] a_piece_number d_piece_number
  a_nearest : Addr
  d_nearest : FuncData
  A_nearest : DefAt K mg "nearest" s_nearest ["kinds", "rules", "text", "place"] a_nearest d_nearest
  a_parts_of : Addr
  d_parts_of : FuncData
  A_parts_of : DefAt K mg "parts_of" s_parts_of ["book", "sign"] a_parts_of d_parts_of
  a_class_of : Addr
  d_class_of : FuncData
  A_class_of : DefAt K mg "class_of" s_class_of ["book", "sign"] a_class_of d_class_of
  a_in_order : Addr
  d_in_order : FuncData
  A_in_order : DefAt K mg "in_order" s_in_order ["book", "text"] a_in_order d_in_order
  a_parted : Addr
  d_parted : FuncData
  A_parted : DefAt K mg "parted" s_parted ["book", "text"] a_parted d_parted
  a_alike : Addr
  d_alike : FuncData
  A_alike : DefAt K mg "alike" s_alike ["book", "one", "other"] a_alike d_alike
  a_halves : Addr
  d_halves : FuncData
  A_halves : DefAt K mg "halves" s_halves ["book", "sign"] a_halves d_halves
  a_whole_of : Addr
  d_whole_of : FuncData
  A_whole_of : DefAt K mg "whole_of" s_whole_of ["book", "base", "mark"] a_whole_of d_whole_of
  a_stepped : Addr
  d_stepped : FuncData
  A_stepped : DefAt K mg "stepped" s_stepped ["book", "text", "step"] a_stepped d_stepped
  a_steps_down : Addr
  d_steps_down : FuncData
  A_steps_down : DefAt K mg "steps_down" s_steps_down ["book", "text"] a_steps_down d_steps_down
  a_back_step : Addr
  d_back_step : FuncData
  A_back_step : DefAt K mg "back_step" s_back_step ["step"] a_back_step d_back_step
  a_chain : Addr
  d_chain : FuncData
  A_chain : DefAt K mg "chain" s_chain ["book", "one", "other"] a_chain d_chain
  a_Cursor_go : Addr
  d_Cursor_go : FuncData
  A_Cursor_go : MethAt K c_C "go" "Cursor.go" s_Cursor_go ["self", "place", "is_held"] a_Cursor_go d_Cursor_go
  a_Cursor_back : Addr
  d_Cursor_back : FuncData
  A_Cursor_back : MethAt K c_C "back" "Cursor.back" s_Cursor_back ["self"] a_Cursor_back d_Cursor_back
  a_Cursor_forth : Addr
  d_Cursor_forth : FuncData
  A_Cursor_forth : MethAt K c_C "forth" "Cursor.forth" s_Cursor_forth ["self"] a_Cursor_forth d_Cursor_forth
  a_is_kind : Addr
  d_is_kind : FuncData
  A_is_kind : DefAt K mg "is_kind" s_is_kind ["thing"] a_is_kind d_is_kind
  a_are_rising : Addr
  d_are_rising : FuncData
  A_are_rising : DefAt K mg "are_rising" s_are_rising ["row"] a_are_rising d_are_rising
  a_is_item : Addr
  d_is_item : FuncData
  A_is_item : DefAt K mg "is_item" s_is_item ["thing"] a_is_item d_is_item
  a_is_side : Addr
  d_is_side : FuncData
  A_is_side : DefAt K mg "is_side" s_is_side ["thing"] a_is_side d_is_side
  a_is_rule : Addr
  d_is_rule : FuncData
  A_is_rule : DefAt K mg "is_rule" s_is_rule ["thing"] a_is_rule d_is_rule
  a_are_rules : Addr
  d_are_rules : FuncData
  A_are_rules : DefAt K mg "are_rules" s_are_rules ["thing"] a_are_rules d_are_rules
  a_item_text : Addr
  d_item_text : FuncData
  A_item_text : DefAt K mg "item_text" s_item_text ["item"] a_item_text d_item_text
  a_written : Addr
  d_written : FuncData
  A_written : DefAt K mg "written" s_written ["rules"] a_written d_written
  a_item_in : Addr
  d_item_in : FuncData
  A_item_in : DefAt K mg "item_in" s_item_in ["word"] a_item_in d_item_in
  a_rule_in : Addr
  d_rule_in : FuncData
  A_rule_in : DefAt K mg "rule_in" s_rule_in ["line"] a_rule_in d_rule_in
  a_read : Addr
  d_read : FuncData
  A_read : DefAt K mg "read" s_read ["text"] a_read d_read
  a_piece_width : Addr
  d_piece_width : FuncData
  A_piece_width : DefAt K mg "piece_width" s_piece_width ["widths", "piece"] a_piece_width d_piece_width
  a_width : Addr
  d_width : FuncData
  A_width : DefAt K mg "width" s_width ["kinds", "rules", "widths", "text"] a_width d_width
  a_cut_to : Addr
  d_cut_to : FuncData
  A_cut_to : DefAt K mg "cut_to" s_cut_to ["kinds", "rules", "widths", "text", "most"] a_cut_to d_cut_to
  a_shown : Addr
  d_shown : FuncData
  A_shown : DefAt K mg "shown" s_shown ["kinds", "rules", "widths", "text", "most", "end"] a_shown d_shown
  a_column_of : Addr
  d_column_of : FuncData
  A_column_of : DefAt K mg "column_of" s_column_of ["kinds", "rules", "widths", "text", "place"] a_column_of d_column_of
  a_law_deed : Addr
  d_law_deed : FuncData
  A_law_deed : DefAt K mg "_law_deed" s_law_deed ["_law_k", "_law_text", "_law_place", "_law_cursor"] a_law_deed d_law_deed
  a_law_ask : Addr
  d_law_ask : FuncData
  A_law_ask : DefAt K mg "_law_ask" s_law_ask ["_law_k", "_law_text", "_law_place", "_law_cursor"] a_law_ask d_law_ask
  a_law : Addr
  d_law : FuncData
  A_law : DefAt K mg "law" s_law ["_law_script"] a_law d_law
  m_ValueError : mg "ValueError" = none
  m_abs : mg "abs" = none
  m_all : mg "all" = none
  m_bool : mg "bool" = none
  m_dict : mg "dict" = none
  m_enumerate : mg "enumerate" = none
  m_int : mg "int" = none
  m_isinstance : mg "isinstance" = none
  m_len : mg "len" = none
  m_max : mg "max" = none
  m_min : mg "min" = none
  m_range : mg "range" = none
  m_set : mg "set" = none
  m_sorted : mg "sorted" = none
  m_str : mg "str" = none
  m_sum : mg "sum" = none
  m_tuple : mg "tuple" = none
  m_zip : mg "zip" = none
  u_ITEMS_MOST : Tok
  k_ITEMS_MOST : mg "ITEMS_MOST" = some (.int 3 u_ITEMS_MOST)
  u_MANY : Addr
  k_MANY : mg "MANY" = some (.ref u_MANY)
  r_MANY : ∀ H, Rep K H (.ref u_MANY) (.tuple [T [49], T [42]])
  u_OTHER : Tok
  k_OTHER : mg "OTHER" = some (.str ⟨#[79]⟩ u_OTHER)
  u_RULES_MOST : Tok
  k_RULES_MOST : mg "RULES_MOST" = some (.int 20 u_RULES_MOST)
section
variable {P : Program} {w : World} {K : PySem.W.Frag} {mg : Str → Option Value} {base : Heap} {ca : String → Addr}
theorem ok_init (Tx : TX K mg ca) : FnOk P w K mg base (L2.CX P w) 1 Tx.c_i Tx.c_d ["self", "kinds", "rules", "words", "text"] (spInit K) :=
  Tx.C.F.okX sc_init (fun vs H Q E h => by obtain ⟨_, _, _, _, _, _, _, rfl, _⟩ := h; rfl) fun cdv A outer s H vs Q E hr h => ⟨_,
    pss_cons (ps_fld (pv 0) (pv 1) (by rfl)) (pss_cons (ps_fld (pv 0) (pv 2) (by rfl)) (pss_cons (ps_fld (pv 0) (pv 3) (by rfl)) (pss_cons (ps_fld (pv 0) (pe_tupP (pa_cons (pv 4) (pa_cons pe_int (pa_cons pe_non pa_nil)))) (by rfl)) (pss_cons (ps_fld (pv 0) (pe_lst pa_nil) (by rfl)) (pss_one (ps_fld (pv 0) (pe_lst pa_nil) (by rfl))))))),
    init_read Tx.C.cc (fun _ _ => rfl) h (fun v e => start_get e) (fun v e => start_get e) (fun v e => start_get e) (fun v e => start_get e) (fun v e => start_get e)⟩
theorem ok_Cursor_text (Tx : TX K mg ca) : FnOk P w K mg base (L2.CX P w) 1 Tx.a_Cursor_text Tx.d_Cursor_text ["self"] (spG K ca (["self"] : List Str).length Fn_Cursor_text) :=
  fn_ok2 (N := nm_Cursor_text) (g := g_Cursor_text) Tx.A_Cursor_text.F sc_Cursor_text fun cdv A outer s H E hr tk hp =>
    (ss_one (es_ret (ev_ix (ev_now 0 Tx.C.cc) ev_int)))
theorem ok_Cursor_place (Tx : TX K mg ca) : FnOk P w K mg base (L2.CX P w) 1 Tx.a_Cursor_place Tx.d_Cursor_place ["self"] (spG K ca (["self"] : List Str).length Fn_Cursor_place) :=
  fn_ok2 (N := nm_Cursor_place) (g := g_Cursor_place) Tx.A_Cursor_place.F sc_Cursor_place fun cdv A outer s H E hr tk hp =>
    (ss_one (es_ret (ev_ix (ev_now 0 Tx.C.cc) ev_int)))
theorem ok_Cursor_stretch (Tx : TX K mg ca) : FnOk P w K mg base (L2.CX P w) 1 Tx.a_Cursor_stretch Tx.d_Cursor_stretch ["self"] (spG K ca (["self"] : List Str).length Fn_Cursor_stretch) :=
  fn_ok2 (N := nm_Cursor_stretch) (g := g_Cursor_stretch) Tx.A_Cursor_stretch.F sc_Cursor_stretch fun cdv A outer s H E hr tk hp =>
    (ss_cons (es_tup (ev_now 0 Tx.C.cc) (pg_seq rfl (pgs_cons (pg_name (i := 1) sc_Cursor_stretch.nd rfl (by first | exact Or.inl rfl | exact Or.inr rfl)) (pgs_cons (pg_name (i := 2) sc_Cursor_stretch.nd rfl (by first | exact Or.inl rfl | exact Or.inr rfl)) (pgs_cons (pg_name (i := 3) sc_Cursor_stretch.nd rfl (by first | exact Or.inl rfl | exact Or.inr rfl)) pgs_nil)))) (tok_tup (tok_cons (tok_name 1) (tok_cons (tok_name 2) (tok_cons (tok_name 3) tok_nil))) rfl))
    (ss_cons (es_if (PW.pt (ew_or (et_cmp op_isN o_isN (ev_var 3) ev_non (by rfl)) (ew_or1 (et_cmp (op_eqD hr.units) o_eq (ev_var 3) (ev_var 2) (by rfl)))))
    (ss_one (es_ret ev_non))
    ss_nil)
    (ss_one (es_ret (ev_tup (ea_cons (ev_bt (call_min2 rfl) o_min2 (by rfl) Tx.m_min (by decide +kernel) (ea_var 3 (ea_var 2 ea_nil))) (ea_cons (ev_bt (call_max2 rfl) o_max2 (by rfl) Tx.m_max (by decide +kernel) (ea_var 3 (ea_var 2 ea_nil))) ea_nil)))))))
theorem ok_kinds_of (Tx : TX K mg ca) : FnOk P w K mg base (L2.CX P w) 1 Tx.a_kinds_of Tx.d_kinds_of ["kinds", "text"] (spG K ca (["kinds", "text"] : List Str).length Fn_kinds_of) :=
  fn_ok2 (N := nm_kinds_of) (g := g_kinds_of) Tx.A_kinds_of.F sc_kinds_of fun cdv A outer s H E hr tk hp =>
    (ss_cons (es_dic (i := 2) sc_kinds_of.nd rfl (by first | exact Or.inl rfl | exact Or.inr rfl) (ed_dict rfl (by rfl) Tx.m_dict (ev_var 0)))
    (ss_one (es_ret (ev_m1 PySem.F.slot_str_join PySem.F.type_str_join mt_join om_join (ev_str (l := [])) (ev_F (ef_lc (own := [("sign", 3)]) rfl sc_kinds_of.nd (ig_any (ev_var 1)) (blkOk_by (N := nm_kinds_of) (sc := defScope s_kinds_of) (by decide +kernel)) (fun _ _ _ _ _ => (pg_name (i := 3) sc_kinds_of.nd rfl (by first | exact Or.inl rfl | exact Or.inr rfl))) (tok_name 3) (by decide) (fun _ _ _ _ _ => gts_nil) (fun _ _ _ _ _ => (ev_dget2 (i := 2) hr.units (ev_var 3) (ev_const (v := (.str ⟨#[79]⟩)) (d := (T [79])) Tx.k_OTHER ⟨_, rfl⟩ (fun _ => (.str _)))))))))))
theorem ok_is_in (Tx : TX K mg ca) : FnOk P w K mg base (L2.CX P w) 1 Tx.a_is_in Tx.d_is_in ["item", "kind"] (spG K ca (["item", "kind"] : List Str).length Fn_is_in) :=
  fn_ok2 (N := nm_is_in) (g := g_is_in) Tx.A_is_in.F sc_is_in fun cdv A outer s H E hr tk hp =>
    (ss_one (es_ret (ev_or (ev_cmp (op_eqD hr.units) o_eq (ev_ix (ev_var 0) ev_int) (ev_str (l := [])) (by rfl)) (ev_one (ev_cmp (or_in hr) o_in (ev_var 1) (ev_ix (ev_var 0) ev_int) (by rfl))))))
theorem ok_places_on (Tx : TX K mg ca) : FnOk P w K mg base (L2.CX P w) 2 Tx.a_places_on Tx.d_places_on ["row", "items", "place"] (spG K ca (["row", "items", "place"] : List Str).length Fn_places_on) :=
  fn_ok2 (N := nm_places_on) (g := g_places_on) Tx.A_places_on.F sc_places_on fun cdv A outer s H E hr tk hp =>
    (ss_cons (es_set (i := 3) sc_places_on.nd rfl (by first | exact Or.inl rfl | exact Or.inr rfl) (ev_F (ef_lst (ea_var 2 ea_nil))))
    (ss_cons (es_for hp rfl (ig_any (ev_var 1)) (pg_name (i := 4) sc_places_on.nd rfl (by first | exact Or.inl rfl | exact Or.inr rfl)) (tok_name 4)
    (ss_cons (es_own (i := 5) sc_places_on.nd rfl (by first | exact Or.inl rfl | exact Or.inr rfl) (ef_lst ea_nil))
    (ss_cons (es_for hp rfl (ig_any (ev_var 3)) (pg_name (i := 6) sc_places_on.nd rfl (by first | exact Or.inl rfl | exact Or.inr rfl)) (tok_name 6)
    (ss_one (es_if (et_cmp (op_eqD hr.units) o_eq (ev_ix (ev_var 4) ev_int) (ev_str (l := [42])) (by rfl))
    (ss_cons (es_app (i := 5) (ev_var 6))
    (ss_one (es_while hp (PW.pt (ew_and (et_cmp or_lt o_lt (ev_var 6) (ev_bt call_len o_len (by rfl) Tx.m_len PySem.boot_len (ea_var 0 ea_nil)) (by rfl)) (ew_and1 (et_truth (ev_call tk (ok_is_in Tx) (hr.mono (by decide)) (by rfl) Tx.A_is_in.g Tx.A_is_in.F.kp Tx.A_is_in.b (ea_var 4 (ea_cons (ev_ix (ev_var 0) (ev_var 6)) ea_nil)))))))
    (ss_cons (es_set (i := 6) sc_places_on.nd rfl (by first | exact Or.inl rfl | exact Or.inr rfl) (ev_op2 or_add o_add (ev_var 6) ev_int))
    (ss_one (es_app (i := 5) (ev_var 6)))))))
    (ss_one (es_if (PW.pt (ew_and (et_cmp or_lt o_lt (ev_var 6) (ev_bt call_len o_len (by rfl) Tx.m_len PySem.boot_len (ea_var 0 ea_nil)) (by rfl)) (ew_and1 (et_truth (ev_call tk (ok_is_in Tx) (hr.mono (by decide)) (by rfl) Tx.A_is_in.g Tx.A_is_in.F.kp Tx.A_is_in.b (ea_var 4 (ea_cons (ev_ix (ev_var 0) (ev_var 6)) ea_nil)))))))
    (ss_one (es_app (i := 5) (ev_op2 or_add o_add (ev_var 6) ev_int)))
    ss_nil)))))
    (ss_one (es_set (i := 3) sc_places_on.nd rfl (by first | exact Or.inl rfl | exact Or.inr rfl) (ev_F (ef_borrow 5 (ef_up rfl hr.units (by rfl) Tx.m_sorted (by rfl) Tx.m_set (ev_var 5)))))))))
    (ss_one (es_ret (ev_var 3)))))
theorem ok_leads_on (Tx : TX K mg ca) : FnOk P w K mg base (L2.CX P w) 3 Tx.a_leads_on Tx.d_leads_on ["row", "items", "place"] (spG K ca (["row", "items", "place"] : List Str).length Fn_leads_on) :=
  fn_ok2 (N := nm_leads_on) (g := g_leads_on) Tx.A_leads_on.F sc_leads_on fun cdv A outer s H E hr tk hp =>
    (ss_one (es_ret (ev_cmp (op_neD hr.units) o_ne (ev_call tk (ok_places_on Tx) (hr.mono (by decide)) (by rfl) Tx.A_places_on.g Tx.A_places_on.F.kp Tx.A_places_on.b (ea_var 0 (ea_var 1 (ea_var 2 ea_nil)))) (ev_F (ef_lst ea_nil)) (by rfl))))
theorem ok_leads_back (Tx : TX K mg ca) : FnOk P w K mg base (L2.CX P w) 3 Tx.a_leads_back Tx.d_leads_back ["row", "items", "place"] (spG K ca (["row", "items", "place"] : List Str).length Fn_leads_back) :=
  fn_ok2 (N := nm_leads_back) (g := g_leads_back) Tx.A_leads_back.F sc_leads_back fun cdv A outer s H E hr tk hp =>
    (ss_one (es_ret (ev_cmp (op_neD hr.units) o_ne (ev_call tk (ok_places_on Tx) (hr.mono (by decide)) (by rfl) Tx.A_places_on.g Tx.A_places_on.F.kp Tx.A_places_on.b (ea_cons (ev_rev (ev_sl (ev_var 0) eo_none (eo_some (ev_var 2)))) (ea_cons (ev_rev (ev_var 1)) (ea_cons ev_int ea_nil)))) (ev_F (ef_lst ea_nil)) (by rfl))))
theorem ok_rule_at (Tx : TX K mg ca) : FnOk P w K mg base (L2.CX P w) 4 Tx.a_rule_at Tx.d_rule_at ["row", "rules", "place"] (spG K ca (["row", "rules", "place"] : List Str).length Fn_rule_at) :=
  fn_ok2 (N := nm_rule_at) (g := g_rule_at) Tx.A_rule_at.F sc_rule_at fun cdv A outer s H E hr tk hp =>
    (ss_cons (es_for hp rfl (ig_enumerate (by rfl) Tx.m_enumerate (ea_var 1 ea_nil)) (pg_seq rfl (pgs_cons (pg_name (i := 3) sc_rule_at.nd rfl (by first | exact Or.inl rfl | exact Or.inr rfl)) (pgs_cons (pg_seq rfl (pgs_cons (pg_name (i := 4) sc_rule_at.nd rfl (by first | exact Or.inl rfl | exact Or.inr rfl)) (pgs_cons (pg_name (i := 5) sc_rule_at.nd rfl (by first | exact Or.inl rfl | exact Or.inr rfl)) (pgs_cons (pg_name (i := 6) sc_rule_at.nd rfl (by first | exact Or.inl rfl | exact Or.inr rfl)) pgs_nil)))) pgs_nil))) (tok_tup (tok_cons (tok_name 3) (tok_cons (tok_tup (tok_cons (tok_name 4) (tok_cons (tok_name 5) (tok_cons (tok_name 6) tok_nil))) rfl) tok_nil)) rfl)
    (ss_one (es_if (PW.pt (ew_and (et_truth (ev_call tk (ok_leads_back Tx) (hr.mono (by decide)) (by rfl) Tx.A_leads_back.g Tx.A_leads_back.F.kp Tx.A_leads_back.b (ea_var 0 (ea_var 4 (ea_var 2 ea_nil))))) (ew_and1 (et_truth (ev_call tk (ok_leads_on Tx) (hr.mono (by decide)) (by rfl) Tx.A_leads_on.g Tx.A_leads_on.F.kp Tx.A_leads_on.b (ea_var 0 (ea_var 6 (ea_var 2 ea_nil))))))))
    (ss_one (es_ret (ev_var 3)))
    ss_nil)))
    (ss_one (es_ret ev_non)))
theorem ok_is_cut_at (Tx : TX K mg ca) : FnOk P w K mg base (L2.CX P w) 5 Tx.a_is_cut_at Tx.d_is_cut_at ["row", "rules", "place"] (spG K ca (["row", "rules", "place"] : List Str).length Fn_is_cut_at) :=
  fn_ok2 (N := nm_is_cut_at) (g := g_is_cut_at) Tx.A_is_cut_at.F sc_is_cut_at fun cdv A outer s H E hr tk hp =>
    (ss_cons (es_if (et_cmp (or_in hr) o_in (ev_var 2) (ev_tup (ea_cons ev_int (ea_cons (ev_bt call_len o_len (by rfl) Tx.m_len PySem.boot_len (ea_var 0 ea_nil)) ea_nil))) (by rfl))
    (ss_one (es_ret (ev_cmp or_gt o_gt (ev_bt call_len o_len (by rfl) Tx.m_len PySem.boot_len (ea_var 0 ea_nil)) ev_int (by rfl))))
    ss_nil)
    (ss_cons (es_set (i := 3) sc_is_cut_at.nd rfl (by first | exact Or.inl rfl | exact Or.inr rfl) (ev_call tk (ok_rule_at Tx) (hr.mono (by decide)) (by rfl) Tx.A_rule_at.g Tx.A_rule_at.F.kp Tx.A_rule_at.b (ea_var 0 (ea_var 1 (ea_var 2 ea_nil)))))
    (ss_one (es_ret (ev_or (ev_cmp op_isN o_isN (ev_var 3) ev_non (by rfl)) (ev_one (ev_ix (ev_ix (ev_var 1) (ev_var 3)) ev_int)))))))
theorem ok_need (Tx : TX K mg ca) : FnOk P w K mg base (L2.CX P w) 1 Tx.a_need Tx.d_need ["text", "place"] (spG K ca (["text", "place"] : List Str).length Fn_need) :=
  fn_ok2 (N := nm_need) (g := g_need) Tx.A_need.F sc_need fun cdv A outer s H E hr tk hp =>
    (ss_one (es_if (et_not (et_chain or_le o_le or_le o_le ev_int (ev_var 1) (ev_bt call_len o_len (by rfl) Tx.m_len PySem.boot_len (ea_var 0 ea_nil))))
    (ss_one (es_raise rfl tk Tx.X_NoPlace (by rfl)))
    ss_nil))
theorem ok_next_cut (Tx : TX K mg ca) : FnOk P w K mg base (L2.CX P w) 6 Tx.a_next_cut Tx.d_next_cut ["kinds", "rules", "text", "place"] (spG K ca (["kinds", "rules", "text", "place"] : List Str).length Fn_next_cut) :=
  fn_ok2 (N := nm_next_cut) (g := g_next_cut) Tx.A_next_cut.F sc_next_cut fun cdv A outer s H E hr tk hp =>
    (ss_cons (es_drop (ev_call tk (ok_need Tx) (hr.mono (by decide)) (by rfl) Tx.A_need.g Tx.A_need.F.kp Tx.A_need.b (ea_var 2 (ea_var 3 ea_nil))))
    (ss_cons (es_set (i := 4) sc_next_cut.nd rfl (by first | exact Or.inl rfl | exact Or.inr rfl) (ev_call tk (ok_kinds_of Tx) (hr.mono (by decide)) (by rfl) Tx.A_kinds_of.g Tx.A_kinds_of.F.kp Tx.A_kinds_of.b (ea_var 0 (ea_var 2 ea_nil))))
    (ss_cons (es_for hp rfl (ig_rng2 (by rfl) Tx.m_range (ea_cons (ev_op2 or_add o_add (ev_var 3) ev_int) (ea_cons (ev_op2 or_add o_add (ev_bt call_len o_len (by rfl) Tx.m_len PySem.boot_len (ea_var 2 ea_nil)) ev_int) ea_nil))) (pg_name (i := 5) sc_next_cut.nd rfl (by first | exact Or.inl rfl | exact Or.inr rfl)) (tok_name 5)
    (ss_one (es_if (et_truth (ev_call tk (ok_is_cut_at Tx) (hr.mono (by decide)) (by rfl) Tx.A_is_cut_at.g Tx.A_is_cut_at.F.kp Tx.A_is_cut_at.b (ea_var 4 (ea_var 1 (ea_var 5 ea_nil)))))
    (ss_one (es_ret (ev_var 5)))
    ss_nil)))
    (ss_one (es_ret ev_non)))))
theorem ok_last_cut (Tx : TX K mg ca) : FnOk P w K mg base (L2.CX P w) 6 Tx.a_last_cut Tx.d_last_cut ["kinds", "rules", "text", "place"] (spG K ca (["kinds", "rules", "text", "place"] : List Str).length Fn_last_cut) :=
  fn_ok2 (N := nm_last_cut) (g := g_last_cut) Tx.A_last_cut.F sc_last_cut fun cdv A outer s H E hr tk hp =>
    (ss_cons (es_drop (ev_call tk (ok_need Tx) (hr.mono (by decide)) (by rfl) Tx.A_need.g Tx.A_need.F.kp Tx.A_need.b (ea_var 2 (ea_var 3 ea_nil))))
    (ss_cons (es_set (i := 4) sc_last_cut.nd rfl (by first | exact Or.inl rfl | exact Or.inr rfl) (ev_call tk (ok_kinds_of Tx) (hr.mono (by decide)) (by rfl) Tx.A_kinds_of.g Tx.A_kinds_of.F.kp Tx.A_kinds_of.b (ea_var 0 (ea_var 2 ea_nil))))
    (ss_cons (es_for hp rfl (ig_rng3 (by rfl) Tx.m_range (ea_cons (ev_op2 op_sub o_sub (ev_var 3) ev_int) (ea_cons (ev_op1 un_neg o_neg ev_int) (ea_cons (ev_op1 un_neg o_neg ev_int) ea_nil)))) (pg_name (i := 5) sc_last_cut.nd rfl (by first | exact Or.inl rfl | exact Or.inr rfl)) (tok_name 5)
    (ss_one (es_if (et_truth (ev_call tk (ok_is_cut_at Tx) (hr.mono (by decide)) (by rfl) Tx.A_is_cut_at.g Tx.A_is_cut_at.F.kp Tx.A_is_cut_at.b (ea_var 4 (ea_var 1 (ea_var 5 ea_nil)))))
    (ss_one (es_ret (ev_var 5)))
    ss_nil)))
    (ss_one (es_ret ev_non)))))
theorem ok_Cursor_stand (Tx : TX K mg ca) : FnOk P w K mg base (L2.CX P w) 1 Tx.a_Cursor_stand Tx.d_Cursor_stand ["self", "place", "is_held"] (spG K ca (["self", "place", "is_held"] : List Str).length Fn_Cursor_stand) :=
  fn_ok2 (N := nm_Cursor_stand) (g := g_Cursor_stand) Tx.A_Cursor_stand.F sc_Cursor_stand fun cdv A outer s H E hr tk hp =>
    (ss_cons (es_tup (ev_now 0 Tx.C.cc) (pg_seq rfl (pgs_cons (pg_name (i := 3) sc_Cursor_stand.nd rfl (by first | exact Or.inl rfl | exact Or.inr rfl)) (pgs_cons (pg_name (i := 4) sc_Cursor_stand.nd rfl (by first | exact Or.inl rfl | exact Or.inr rfl)) (pgs_cons (pg_name (i := 5) sc_Cursor_stand.nd rfl (by first | exact Or.inl rfl | exact Or.inr rfl)) pgs_nil)))) (tok_tup (tok_cons (tok_name 3) (tok_cons (tok_name 4) (tok_cons (tok_name 5) tok_nil))) rfl))
    (ss_cons (es_if (et_not (et_truth (ev_var 2)))
    (ss_one (es_set (i := 5) sc_Cursor_stand.nd rfl (by first | exact Or.inl rfl | exact Or.inr rfl) ev_non))
    (ss_one (es_if (et_cmp op_isN o_isN (ev_var 5) ev_non (by rfl))
    (ss_one (es_set (i := 5) sc_Cursor_stand.nd rfl (by first | exact Or.inl rfl | exact Or.inr rfl) (ev_var 4)))
    ss_nil)))
    (ss_one (es_now 0 Tx.C.cc (ev_tup (ea_var 3 (ea_var 1 (ea_var 5 ea_nil))))))))
theorem ok_Cursor_step (Tx : TX K mg ca) : FnOk P w K mg base (L2.CX P w) 7 Tx.a_Cursor_step Tx.d_Cursor_step ["self", "is_on", "is_word", "is_held"] (spG K ca (["self", "is_on", "is_word", "is_held"] : List Str).length Fn_Cursor_step) :=
  fn_ok2 (N := nm_Cursor_step) (g := g_Cursor_step) Tx.A_Cursor_step.F sc_Cursor_step fun cdv A outer s H E hr tk hp =>
    (ss_cons (es_set (i := 4) sc_Cursor_step.nd rfl (by first | exact Or.inl rfl | exact Or.inr rfl) (ev_rules 0 Tx.C.cc))
    (ss_cons (es_if (et_truth (ev_var 2))
    (ss_one (es_set (i := 4) sc_Cursor_step.nd rfl (by first | exact Or.inl rfl | exact Or.inr rfl) (ev_words 0 Tx.C.cc)))
    ss_nil)
    (ss_cons (es_if (et_truth (ev_var 1))
    (ss_one (es_set (i := 5) sc_Cursor_step.nd rfl (by first | exact Or.inl rfl | exact Or.inr rfl) (ev_call tk (ok_next_cut Tx) (hr.mono (by decide)) (by rfl) Tx.A_next_cut.g Tx.A_next_cut.F.kp Tx.A_next_cut.b (ea_cons (ev_kinds 0 Tx.C.cc) (ea_var 4 (ea_cons (ev_meth0 0 tk Tx.C.cc Tx.A_Cursor_text.m (ok_Cursor_text Tx) (hr.mono (by decide)) Tx.A_Cursor_text.b) (ea_cons (ev_meth0 0 tk Tx.C.cc Tx.A_Cursor_place.m (ok_Cursor_place Tx) (hr.mono (by decide)) Tx.A_Cursor_place.b) ea_nil)))))))
    (ss_one (es_set (i := 5) sc_Cursor_step.nd rfl (by first | exact Or.inl rfl | exact Or.inr rfl) (ev_call tk (ok_last_cut Tx) (hr.mono (by decide)) (by rfl) Tx.A_last_cut.g Tx.A_last_cut.F.kp Tx.A_last_cut.b (ea_cons (ev_kinds 0 Tx.C.cc) (ea_var 4 (ea_cons (ev_meth0 0 tk Tx.C.cc Tx.A_Cursor_text.m (ok_Cursor_text Tx) (hr.mono (by decide)) Tx.A_Cursor_text.b) (ea_cons (ev_meth0 0 tk Tx.C.cc Tx.A_Cursor_place.m (ok_Cursor_place Tx) (hr.mono (by decide)) Tx.A_Cursor_place.b) ea_nil))))))))
    (ss_cons (es_if (et_cmp op_isN o_isN (ev_var 5) ev_non (by rfl))
    (ss_one (es_set (i := 5) sc_Cursor_step.nd rfl (by first | exact Or.inl rfl | exact Or.inr rfl) (ev_meth0 0 tk Tx.C.cc Tx.A_Cursor_place.m (ok_Cursor_place Tx) (hr.mono (by decide)) Tx.A_Cursor_place.b)))
    ss_nil)
    (ss_one (es_drop (ev_meth 0 tk Tx.C.cc Tx.A_Cursor_stand.m (ok_Cursor_stand Tx) (hr.mono (by decide)) Tx.A_Cursor_stand.b (ea_var 5 (ea_var 3 ea_nil)))))))))
theorem ok_is_cut (Tx : TX K mg ca) : FnOk P w K mg base (L2.CX P w) 6 Tx.a_is_cut Tx.d_is_cut ["kinds", "rules", "text", "place"] (spG K ca (["kinds", "rules", "text", "place"] : List Str).length Fn_is_cut) :=
  fn_ok2 (N := nm_is_cut) (g := g_is_cut) Tx.A_is_cut.F sc_is_cut fun cdv A outer s H E hr tk hp =>
    (ss_cons (es_drop (ev_call tk (ok_need Tx) (hr.mono (by decide)) (by rfl) Tx.A_need.g Tx.A_need.F.kp Tx.A_need.b (ea_var 2 (ea_var 3 ea_nil))))
    (ss_one (es_ret (ev_call tk (ok_is_cut_at Tx) (hr.mono (by decide)) (by rfl) Tx.A_is_cut_at.g Tx.A_is_cut_at.F.kp Tx.A_is_cut_at.b (ea_cons (ev_call tk (ok_kinds_of Tx) (hr.mono (by decide)) (by rfl) Tx.A_kinds_of.g Tx.A_kinds_of.F.kp Tx.A_kinds_of.b (ea_var 0 (ea_var 2 ea_nil))) (ea_var 1 (ea_var 3 ea_nil)))))))
theorem ok_Cursor_change (Tx : TX K mg ca) : FnOk P w K mg base (L2.CX P w) 7 Tx.a_Cursor_change Tx.d_Cursor_change ["self", "first", "last", "new"] (spG K ca (["self", "first", "last", "new"] : List Str).length Fn_Cursor_change) :=
  fn_ok2 (N := nm_Cursor_change) (g := g_Cursor_change) Tx.A_Cursor_change.F sc_Cursor_change fun cdv A outer s H E hr tk hp =>
    (ss_cons (es_befApp 0 Tx.C.cc)
    (ss_cons (es_latNew 0 Tx.C.cc)
    (ss_cons (es_set (i := 4) sc_Cursor_change.nd rfl (by first | exact Or.inl rfl | exact Or.inr rfl) (ev_op2 or_add o_add (ev_op2 or_add o_add (ev_sl (ev_meth0 0 tk Tx.C.cc Tx.A_Cursor_text.m (ok_Cursor_text Tx) (hr.mono (by decide)) Tx.A_Cursor_text.b) eo_none (eo_some (ev_var 1))) (ev_var 3)) (ev_sl (ev_meth0 0 tk Tx.C.cc Tx.A_Cursor_text.m (ok_Cursor_text Tx) (hr.mono (by decide)) Tx.A_Cursor_text.b) (eo_some (ev_var 2)) eo_none)))
    (ss_cons (es_set (i := 5) sc_Cursor_change.nd rfl (by first | exact Or.inl rfl | exact Or.inr rfl) (ev_op2 or_add o_add (ev_var 1) (ev_bt call_len o_len (by rfl) Tx.m_len PySem.boot_len (ea_var 3 ea_nil))))
    (ss_cons (es_if (PW.pt (ew_and (et_cmp (op_neD hr.units) o_ne (ev_var 4) (ev_str (l := [])) (by rfl)) (ew_and1 (et_not (et_truth (ev_call tk (ok_is_cut Tx) (hr.mono (by decide)) (by rfl) Tx.A_is_cut.g Tx.A_is_cut.F.kp Tx.A_is_cut.b (ea_cons (ev_kinds 0 Tx.C.cc) (ea_cons (ev_rules 0 Tx.C.cc) (ea_var 4 (ea_var 5 ea_nil))))))))))
    (ss_one (es_set (i := 5) sc_Cursor_change.nd rfl (by first | exact Or.inl rfl | exact Or.inr rfl) (ev_call tk (ok_next_cut Tx) (hr.mono (by decide)) (by rfl) Tx.A_next_cut.g Tx.A_next_cut.F.kp Tx.A_next_cut.b (ea_cons (ev_kinds 0 Tx.C.cc) (ea_cons (ev_rules 0 Tx.C.cc) (ea_var 4 (ea_var 5 ea_nil)))))))
    ss_nil)
    (ss_one (es_now 0 Tx.C.cc (ev_tup (ea_var 4 (ea_var 5 (ea_cons ev_non ea_nil)))))))))))
theorem ok_Cursor_typed (Tx : TX K mg ca) : FnOk P w K mg base (L2.CX P w) 8 Tx.a_Cursor_typed Tx.d_Cursor_typed ["self", "new"] (spG K ca (["self", "new"] : List Str).length Fn_Cursor_typed) :=
  fn_ok2 (N := nm_Cursor_typed) (g := g_Cursor_typed) Tx.A_Cursor_typed.F sc_Cursor_typed fun cdv A outer s H E hr tk hp =>
    (ss_cons (es_set (i := 2) sc_Cursor_typed.nd rfl (by first | exact Or.inl rfl | exact Or.inr rfl) (ev_meth0 0 tk Tx.C.cc Tx.A_Cursor_stretch.m (ok_Cursor_stretch Tx) (hr.mono (by decide)) Tx.A_Cursor_stretch.b))
    (ss_cons (es_if (et_cmp op_isN o_isN (ev_var 2) ev_non (by rfl))
    (ss_one (es_set (i := 2) sc_Cursor_typed.nd rfl (by first | exact Or.inl rfl | exact Or.inr rfl) (ev_tup (ea_cons (ev_meth0 0 tk Tx.C.cc Tx.A_Cursor_place.m (ok_Cursor_place Tx) (hr.mono (by decide)) Tx.A_Cursor_place.b) (ea_cons (ev_meth0 0 tk Tx.C.cc Tx.A_Cursor_place.m (ok_Cursor_place Tx) (hr.mono (by decide)) Tx.A_Cursor_place.b) ea_nil)))))
    ss_nil)
    (ss_one (es_drop (ev_meth 0 tk Tx.C.cc Tx.A_Cursor_change.m (ok_Cursor_change Tx) (hr.mono (by decide)) Tx.A_Cursor_change.b (ea_cons (ev_ix (ev_var 2) ev_int) (ea_cons (ev_ix (ev_var 2) ev_int) (ea_var 1 ea_nil))))))))
theorem ok_law_draw (Tx : TX K mg ca) : FnOk P w K mg base (L2.CX P w) 1 Tx.a_law_draw Tx.d_law_draw ["_law_script", "_law_town", "_law_many"] (spG K ca (["_law_script", "_law_town", "_law_many"] : List Str).length Fn_law_draw) :=
  fn_ok2 (N := nm_law_draw) (g := g_law_draw) Tx.A_law_draw.F sc_law_draw fun cdv A outer s H E hr tk hp =>
    (ss_cons (es_town (i := 1))
    (ss_cons (es_set (i := 3) sc_law_draw.nd rfl (by first | exact Or.inl rfl | exact Or.inr rfl) (ev_lenV 1 (by rfl) Tx.m_len))
    (ss_cons (es_set (i := 4) sc_law_draw.nd rfl (by first | exact Or.inl rfl | exact Or.inr rfl) ev_int)
    (ss_cons (es_if (et_scr 0)
    (ss_one (es_set (i := 4) sc_law_draw.nd rfl (by first | exact Or.inl rfl | exact Or.inr rfl) (ev_scrIx 0 (ev_op2 op_mod o_mod (ev_var 3) (ev_lenV 0 (by rfl) Tx.m_len)))))
    ss_nil)
    (ss_cons (es_set (i := 5) sc_law_draw.nd rfl (by first | exact Or.inl rfl | exact Or.inr rfl) (ev_op2 op_mod o_mod (ev_op2 or_add o_add (ev_var 4) (ev_op2 or_mulA o_mulA ev_int (ev_var 3))) ev_int))
    (ss_cons (es_set (i := 5) sc_law_draw.nd rfl (by first | exact Or.inl rfl | exact Or.inr rfl) (ev_op2 op_mod o_mod (ev_op2 or_mulA o_mulA (ev_op2 op_mod o_mod (ev_op2 or_mulA o_mulA (ev_var 5) (ev_var 5)) ev_int) ev_int) ev_int))
    (ss_cons (es_set (i := 6) sc_law_draw.nd rfl (by first | exact Or.inl rfl | exact Or.inr rfl) (ev_op2 op_mod o_mod (ev_op2 or_mulA o_mulA (ev_op2 op_mod o_mod (ev_op2 or_mulA o_mulA (ev_var 5) (ev_var 5)) ev_int) ev_int) ev_int))
    (ss_one (es_ret (ev_op2 op_mod o_mod (ev_op2 or_add o_add (ev_op2 or_mulA o_mulA (ev_op2 op_fdiv o_div (ev_var 5) ev_int) ev_int) (ev_op2 op_fdiv o_div (ev_var 6) ev_int)) (ev_var 2)))))))))))
theorem ok_law_pick (Tx : TX K mg ca) : FnOk P w K mg base (L2.CX P w) 2 Tx.a_law_pick Tx.d_law_pick ["_law_script", "_law_town", "_law_some"] (spG K ca (["_law_script", "_law_town", "_law_some"] : List Str).length Fn_law_pick) :=
  fn_ok2 (N := nm_law_pick) (g := g_law_pick) Tx.A_law_pick.F sc_law_pick fun cdv A outer s H E hr tk hp =>
    (ss_one (es_ret (ev_ix (ev_var 2) (ev_call tk (ok_law_draw Tx) (hr.mono (by decide)) (by rfl) Tx.A_law_draw.g Tx.A_law_draw.F.kp Tx.A_law_draw.b (ea_var 0 (ea_var 1 (ea_cons (ev_bt call_len o_len (by rfl) Tx.m_len PySem.boot_len (ea_var 2 ea_nil)) ea_nil)))))))
theorem ok_law_names (Tx : TX K mg ca) : FnE P w K mg base ca ["NoPlace", "NoChain", "NoStep", "NoText"] 1 Tx.a_law_names Tx.d_law_names ["_law_e"] Fn_law_names :=
  fn_okE (N := nm_law_names) (g := g_law_names) Tx.A_law_names.F sc_law_names fun cdv A outer s H E p e he hz hf =>
    (ss_cons (es_set (i := 1) sc_law_names.nd rfl (by first | exact Or.inl rfl | exact Or.inr rfl) (ev_op2 or_add o_add (ev_op2 or_mulA o_mulA (ev_F (ef_lst (ea_cons (ev_str (l := [78, 111, 80, 108, 97, 99, 101])) ea_nil))) (ev_bty call_int1 o_int (by rfl) Tx.m_int (by decide +kernel) (ea_cons (ev_isX (i := 0) (List.mem_singleton.mpr rfl) (Tx.EC _ he) hz hf (pe_glob (v := .ref (ca "NoPlace")) (by rfl) Tx.X_NoPlace.g rfl (by decide)) (fun u h => h) (Tx.KI_NoPlace _ he) (by rfl) Tx.m_isinstance) ea_nil))) (ev_op2 or_mulA o_mulA (ev_F (ef_lst (ea_cons (ev_str (l := [78, 111, 67, 104, 97, 105, 110])) ea_nil))) (ev_bty call_int1 o_int (by rfl) Tx.m_int (by decide +kernel) (ea_cons (ev_isX (i := 0) (List.mem_singleton.mpr rfl) (Tx.EC _ he) hz hf (pe_glob (v := .ref (ca "NoChain")) (by rfl) Tx.X_NoChain.g rfl (by decide)) (fun u h => h) (Tx.KI_NoChain _ he) (by rfl) Tx.m_isinstance) ea_nil)))))
    (ss_cons (es_set (i := 1) sc_law_names.nd rfl (by first | exact Or.inl rfl | exact Or.inr rfl) (ev_op2 or_add o_add (ev_op2 or_add o_add (ev_var 1) (ev_op2 or_mulA o_mulA (ev_F (ef_lst (ea_cons (ev_str (l := [78, 111, 83, 116, 101, 112])) ea_nil))) (ev_bty call_int1 o_int (by rfl) Tx.m_int (by decide +kernel) (ea_cons (ev_isX (i := 0) (List.mem_singleton.mpr rfl) (Tx.EC _ he) hz hf (pe_glob (v := .ref (ca "NoStep")) (by rfl) Tx.X_NoStep.g rfl (by decide)) (fun u h => h) (Tx.KI_NoStep _ he) (by rfl) Tx.m_isinstance) ea_nil)))) (ev_op2 or_mulA o_mulA (ev_F (ef_lst (ea_cons (ev_str (l := [78, 111, 84, 101, 120, 116])) ea_nil))) (ev_bty call_int1 o_int (by rfl) Tx.m_int (by decide +kernel) (ea_cons (ev_isX (i := 0) (List.mem_singleton.mpr rfl) (Tx.EC _ he) hz hf (pe_glob (v := .ref (ca "NoText")) (by rfl) Tx.X_NoText.g rfl (by decide)) (fun u h => h) (Tx.KI_NoText _ he) (by rfl) Tx.m_isinstance) ea_nil)))))
    (ss_cons (es_if (et_not (et_truth (ev_isX (i := 0) (List.mem_singleton.mpr rfl) (Tx.EC _ he) hz hf (pe_bltn (v := .ty "ValueError") (by rfl) Tx.m_ValueError (by decide +kernel) rfl (by decide) (by decide)) (fun u h => h) (Tx.KV _ he) (by rfl) Tx.m_isinstance)))
    (ss_one (es_ret (ev_F (ef_lst (ea_cons (ev_str (l := [111, 116, 104, 101, 114])) ea_nil)))))
    ss_nil)
    (ss_one (es_ret (ev_var 1))))))
theorem ok_why (Tx : TX K mg ca) : FnOk P w K mg base (L2.CX P w) 5 Tx.a_why Tx.d_why ["kinds", "rules", "text", "place"] (spG K ca (["kinds", "rules", "text", "place"] : List Str).length Fn_why) :=
  fn_ok2 (N := nm_why) (g := g_why) Tx.A_why.F sc_why fun cdv A outer s H E hr tk hp =>
    (ss_cons (es_if (et_not (et_chain or_lt o_lt or_lt o_lt ev_int (ev_var 3) (ev_bt call_len o_len (by rfl) Tx.m_len PySem.boot_len (ea_var 2 ea_nil))))
    (ss_one (es_raise rfl tk Tx.X_NoPlace (by rfl)))
    ss_nil)
    (ss_one (es_ret (ev_call tk (ok_rule_at Tx) (hr.mono (by decide)) (by rfl) Tx.A_rule_at.g Tx.A_rule_at.F.kp Tx.A_rule_at.b (ea_cons (ev_call tk (ok_kinds_of Tx) (hr.mono (by decide)) (by rfl) Tx.A_kinds_of.g Tx.A_kinds_of.F.kp Tx.A_kinds_of.b (ea_var 0 (ea_var 2 ea_nil))) (ea_var 1 (ea_var 3 ea_nil)))))))
theorem ok_piece_at (Tx : TX K mg ca) : FnOk P w K mg base (L2.CX P w) 7 Tx.a_piece_at Tx.d_piece_at ["kinds", "rules", "text", "place"] (spG K ca (["kinds", "rules", "text", "place"] : List Str).length Fn_piece_at) :=
  fn_ok2 (N := nm_piece_at) (g := g_piece_at) Tx.A_piece_at.F sc_piece_at fun cdv A outer s H E hr tk hp =>
    (ss_cons (es_if (et_not (et_chain or_le o_le or_lt o_lt ev_int (ev_var 3) (ev_bt call_len o_len (by rfl) Tx.m_len PySem.boot_len (ea_var 2 ea_nil))))
    (ss_one (es_raise rfl tk Tx.X_NoPlace (by rfl)))
    ss_nil)
    (ss_cons (es_set (i := 4) sc_piece_at.nd rfl (by first | exact Or.inl rfl | exact Or.inr rfl) (ev_var 3))
    (ss_cons (es_if (et_not (et_truth (ev_call tk (ok_is_cut Tx) (hr.mono (by decide)) (by rfl) Tx.A_is_cut.g Tx.A_is_cut.F.kp Tx.A_is_cut.b (ea_var 0 (ea_var 1 (ea_var 2 (ea_var 3 ea_nil)))))))
    (ss_one (es_set (i := 4) sc_piece_at.nd rfl (by first | exact Or.inl rfl | exact Or.inr rfl) (ev_call tk (ok_last_cut Tx) (hr.mono (by decide)) (by rfl) Tx.A_last_cut.g Tx.A_last_cut.F.kp Tx.A_last_cut.b (ea_var 0 (ea_var 1 (ea_var 2 (ea_var 3 ea_nil)))))))
    ss_nil)
    (ss_one (es_ret (ev_tup (ea_var 4 (ea_cons (ev_call tk (ok_next_cut Tx) (hr.mono (by decide)) (by rfl) Tx.A_next_cut.g Tx.A_next_cut.F.kp Tx.A_next_cut.b (ea_var 0 (ea_var 1 (ea_var 2 (ea_var 3 ea_nil))))) ea_nil))))))))
theorem ok_cuts (Tx : TX K mg ca) : FnOk P w K mg base (L2.CX P w) 6 Tx.a_cuts Tx.d_cuts ["kinds", "rules", "text"] (spG K ca (["kinds", "rules", "text"] : List Str).length Fn_cuts) :=
  fn_ok2 (N := nm_cuts) (g := g_cuts) Tx.A_cuts.F sc_cuts fun cdv A outer s H E hr tk hp =>
    (ss_cons (es_set (i := 3) sc_cuts.nd rfl (by first | exact Or.inl rfl | exact Or.inr rfl) (ev_call tk (ok_kinds_of Tx) (hr.mono (by decide)) (by rfl) Tx.A_kinds_of.g Tx.A_kinds_of.F.kp Tx.A_kinds_of.b (ea_var 0 (ea_var 2 ea_nil))))
    (ss_one (es_ret (ev_bty call_tupP o_tuple (by rfl) Tx.m_tuple (by decide +kernel) (ea_cons (ev_F (ef_lc (own := [("place", 4)]) rfl sc_cuts.nd (ig_rng1 (by rfl) Tx.m_range (ea_cons (ev_op2 or_add o_add (ev_bt call_len o_len (by rfl) Tx.m_len PySem.boot_len (ea_var 2 ea_nil)) ev_int) ea_nil)) (blkOk_by (N := nm_cuts) (sc := defScope s_cuts) (by decide +kernel)) (fun _ _ _ _ _ => (pg_name (i := 4) sc_cuts.nd rfl (by first | exact Or.inl rfl | exact Or.inr rfl))) (tok_name 4) (by decide) (fun _ _ _ _ _ => (gts_one (et_truth (ev_call takes0 (ok_is_cut_at Tx) (hr.mono (by decide)) (by rfl) Tx.A_is_cut_at.g Tx.A_is_cut_at.F.kp Tx.A_is_cut_at.b (ea_var 3 (ea_var 1 (ea_var 4 ea_nil))))))) (fun _ _ _ _ _ => (ev_var 4)))) ea_nil)))))
theorem ok_pieces (Tx : TX K mg ca) : FnOk P w K mg base (L2.CX P w) 7 Tx.a_pieces Tx.d_pieces ["kinds", "rules", "text"] (spG K ca (["kinds", "rules", "text"] : List Str).length Fn_pieces) :=
  fn_ok2 (N := nm_pieces) (g := g_pieces) Tx.A_pieces.F sc_pieces fun cdv A outer s H E hr tk hp =>
    (ss_cons (es_set (i := 3) sc_pieces.nd rfl (by first | exact Or.inl rfl | exact Or.inr rfl) (ev_call tk (ok_cuts Tx) (hr.mono (by decide)) (by rfl) Tx.A_cuts.g Tx.A_cuts.F.kp Tx.A_cuts.b (ea_var 0 (ea_var 1 (ea_var 2 ea_nil)))))
    (ss_one (es_ret (ev_bty call_tupP o_tuple (by rfl) Tx.m_tuple (by decide +kernel) (ea_cons (ev_F (ef_lc (own := [("one", 4), ("two", 5)]) rfl sc_pieces.nd (ig_zip (by rfl) Tx.m_zip (ea_cons (ev_sl (ev_var 3) eo_none (eo_some (ev_op1 un_neg o_neg ev_int))) (ea_cons (ev_sl (ev_var 3) (eo_some ev_int) eo_none) ea_nil))) (blkOk_by (N := nm_pieces) (sc := defScope s_pieces) (by decide +kernel)) (fun _ _ _ _ _ => (pg_seq rfl (pgs_cons (pg_name (i := 4) sc_pieces.nd rfl (by first | exact Or.inl rfl | exact Or.inr rfl)) (pgs_cons (pg_name (i := 5) sc_pieces.nd rfl (by first | exact Or.inl rfl | exact Or.inr rfl)) pgs_nil)))) (tok_tup (tok_cons (tok_name 4) (tok_cons (tok_name 5) tok_nil)) rfl) (by decide) (fun _ _ _ _ _ => gts_nil) (fun _ _ _ _ _ => (ev_sl (ev_var 2) (eo_some (ev_var 4)) (eo_some (ev_var 5)))))) ea_nil)))))
theorem ok_piece_number (Tx : TX K mg ca) : FnOk P w K mg base (L2.CX P w) 8 Tx.a_piece_number Tx.d_piece_number ["kinds", "rules", "text", "number"] (spG K ca (["kinds", "rules", "text", "number"] : List Str).length Fn_piece_number) :=
  fn_ok2 (N := nm_piece_number) (g := g_piece_number) Tx.A_piece_number.F sc_piece_number fun cdv A outer s H E hr tk hp =>
    (ss_cons (es_set (i := 4) sc_piece_number.nd rfl (by first | exact Or.inl rfl | exact Or.inr rfl) (ev_call tk (ok_pieces Tx) (hr.mono (by decide)) (by rfl) Tx.A_pieces.g Tx.A_pieces.F.kp Tx.A_pieces.b (ea_var 0 (ea_var 1 (ea_var 2 ea_nil)))))
    (ss_cons (es_if (et_not (et_chain or_le o_le or_lt o_lt ev_int (ev_var 3) (ev_bt call_len o_len (by rfl) Tx.m_len PySem.boot_len (ea_var 4 ea_nil))))
    (ss_one (es_raise rfl tk Tx.X_NoPlace (by rfl)))
    ss_nil)
    (ss_one (es_ret (ev_ix (ev_var 4) (ev_var 3))))))
theorem ok_nearest (Tx : TX K mg ca) : FnOk P w K mg base (L2.CX P w) 7 Tx.a_nearest Tx.d_nearest ["kinds", "rules", "text", "place"] (spG K ca (["kinds", "rules", "text", "place"] : List Str).length Fn_nearest) :=
  fn_ok2 (N := nm_nearest) (g := g_nearest) Tx.A_nearest.F sc_nearest fun cdv A outer s H E hr tk hp =>
    (ss_cons (es_drop (ev_call tk (ok_need Tx) (hr.mono (by decide)) (by rfl) Tx.A_need.g Tx.A_need.F.kp Tx.A_need.b (ea_var 2 (ea_var 3 ea_nil))))
    (ss_cons (es_set (i := 4) sc_nearest.nd rfl (by first | exact Or.inl rfl | exact Or.inr rfl) (ev_call tk (ok_cuts Tx) (hr.mono (by decide)) (by rfl) Tx.A_cuts.g Tx.A_cuts.F.kp Tx.A_cuts.b (ea_var 0 (ea_var 1 (ea_var 2 ea_nil)))))
    (ss_cons (es_if (et_not (et_truth (ev_var 4)))
    (ss_one (es_ret ev_non))
    ss_nil)
    (ss_one (es_ret (ev_ix (ev_bt (cr_minD rfl hr.units) o_best (by rfl) Tx.m_min (by decide +kernel) (ea_cons (ev_F (ef_lc (own := [("at", 5)]) rfl sc_nearest.nd (ig_any (ev_var 4)) (blkOk_by (N := nm_nearest) (sc := defScope s_nearest) (by decide +kernel)) (fun _ _ _ _ _ => (pg_name (i := 5) sc_nearest.nd rfl (by first | exact Or.inl rfl | exact Or.inr rfl))) (tok_name 5) (by decide) (fun _ _ _ _ _ => gts_nil) (fun _ _ _ _ _ => (ev_tup (ea_cons (ev_bt call_abs o_abs (by rfl) Tx.m_abs (by decide +kernel) (ea_cons (ev_op2 op_sub o_sub (ev_var 5) (ev_var 3)) ea_nil)) (ea_var 5 ea_nil)))))) ea_nil)) ev_int))))))
theorem ok_parts_of_at (Tx : TX K mg ca) : ∀ k : Nat, FnOk P w K mg base (L2.CX P w) (0 + k) Tx.a_parts_of Tx.d_parts_of ["book", "sign"] (spG K ca (["book", "sign"] : List Str).length (Fn_parts_of_at k))
  | 0 => fn_bad rfl
  | k + 1 => fn_ok2 (N := nm_parts_of) (g := g_parts_of (Fn_parts_of_at k)) Tx.A_parts_of.F sc_parts_of fun cdv A outer s H E hr tk hp =>
    have ih := ok_parts_of_at Tx k
    (ss_cons (es_for hp rfl (ig_any (ev_ix (ev_var 0) ev_int)) (pg_seq rfl (pgs_cons (pg_name (i := 2) sc_parts_of.nd rfl (by first | exact Or.inl rfl | exact Or.inr rfl)) (pgs_cons (pg_name (i := 3) sc_parts_of.nd rfl (by first | exact Or.inl rfl | exact Or.inr rfl)) (pgs_cons (pg_name (i := 4) sc_parts_of.nd rfl (by first | exact Or.inl rfl | exact Or.inr rfl)) pgs_nil)))) (tok_tup (tok_cons (tok_name 2) (tok_cons (tok_name 3) (tok_cons (tok_name 4) tok_nil))) rfl)
    (ss_one (es_if (et_cmp (op_eqD hr.units) o_eq (ev_var 4) (ev_var 1) (by rfl))
    (ss_one (es_ret (ev_op2 or_add o_add (ev_call tk ih (hr.mono (Nat.le_refl _)) (by rfl) Tx.A_parts_of.g Tx.A_parts_of.F.kp Tx.A_parts_of.b (ea_var 0 (ea_var 2 ea_nil))) (ev_var 3))))
    ss_nil)))
    (ss_one (es_ret (ev_var 1))))
theorem ok_parts_of (Tx : TX K mg ca) : FnOk P w K mg base (L2.CX P w) 12 Tx.a_parts_of Tx.d_parts_of ["book", "sign"] (spG K ca (["book", "sign"] : List Str).length Fn_parts_of) := ok_parts_of_at Tx 12
theorem ok_class_of (Tx : TX K mg ca) : FnOk P w K mg base (L2.CX P w) 1 Tx.a_class_of Tx.d_class_of ["book", "sign"] (spG K ca (["book", "sign"] : List Str).length Fn_class_of) :=
  fn_ok2 (N := nm_class_of) (g := g_class_of) Tx.A_class_of.F sc_class_of fun cdv A outer s H E hr tk hp =>
    (ss_cons (es_for hp rfl (ig_any (ev_ix (ev_var 0) ev_int)) (pg_seq rfl (pgs_cons (pg_name (i := 2) sc_class_of.nd rfl (by first | exact Or.inl rfl | exact Or.inr rfl)) (pgs_cons (pg_name (i := 3) sc_class_of.nd rfl (by first | exact Or.inl rfl | exact Or.inr rfl)) pgs_nil))) (tok_tup (tok_cons (tok_name 2) (tok_cons (tok_name 3) tok_nil)) rfl)
    (ss_one (es_if (et_cmp (op_eqD hr.units) o_eq (ev_var 2) (ev_var 1) (by rfl))
    (ss_one (es_ret (ev_var 3)))
    ss_nil)))
    (ss_one (es_ret ev_int)))
theorem ok_in_order (Tx : TX K mg ca) : FnOk P w K mg base (L2.CX P w) 2 Tx.a_in_order Tx.d_in_order ["book", "text"] (spG K ca (["book", "text"] : List Str).length Fn_in_order) :=
  fn_ok2 (N := nm_in_order) (g := g_in_order) Tx.A_in_order.F sc_in_order fun cdv A outer s H E hr tk hp =>
    (ss_cons (es_own (i := 2) sc_in_order.nd rfl (by first | exact Or.inl rfl | exact Or.inr rfl) (ef_lst ea_nil))
    (ss_cons (es_own (i := 3) sc_in_order.nd rfl (by first | exact Or.inl rfl | exact Or.inr rfl) (ef_lst ea_nil))
    (ss_cons (es_for hp rfl (ig_any (ev_var 1)) (pg_name (i := 4) sc_in_order.nd rfl (by first | exact Or.inl rfl | exact Or.inr rfl)) (tok_name 4)
    (ss_cons (es_set (i := 5) sc_in_order.nd rfl (by first | exact Or.inl rfl | exact Or.inr rfl) (ev_call tk (ok_class_of Tx) (hr.mono (by decide)) (by rfl) Tx.A_class_of.g Tx.A_class_of.F.kp Tx.A_class_of.b (ea_var 0 (ea_var 4 ea_nil))))
    (ss_one (es_if (et_cmp (op_eqD hr.units) o_eq (ev_var 5) ev_int (by rfl))
    (ss_cons (es_ext (i := 2) (ev_F (ef_borrow 3 (ef_lc (own := [("high", 6), ("at", 7), ("mark", 8)]) rfl sc_in_order.nd (ig_any (ev_F (ef_bt (cr_sortA rfl hr.units) o_sortA (by rfl) Tx.m_sorted (by decide +kernel) (ea_var 3 ea_nil)))) (blkOk_by (N := nm_in_order) (sc := defScope s_in_order) (by decide +kernel)) (fun _ _ _ _ _ => (pg_seq rfl (pgs_cons (pg_name (i := 6) sc_in_order.nd rfl (by first | exact Or.inl rfl | exact Or.inr rfl)) (pgs_cons (pg_name (i := 7) sc_in_order.nd rfl (by first | exact Or.inl rfl | exact Or.inr rfl)) (pgs_cons (pg_name (i := 8) sc_in_order.nd rfl (by first | exact Or.inl rfl | exact Or.inr rfl)) pgs_nil))))) (tok_tup (tok_cons (tok_name 6) (tok_cons (tok_name 7) (tok_cons (tok_name 8) tok_nil))) rfl) (by decide) (fun _ _ _ _ _ => gts_nil) (fun _ _ _ _ _ => (ev_var 8))))))
    (ss_cons (es_app (i := 2) (ev_var 4))
    (ss_one (es_own (i := 3) sc_in_order.nd rfl (by first | exact Or.inl rfl | exact Or.inr rfl) (ef_lst ea_nil)))))
    (ss_one (es_app (i := 3) (ev_borrow 3 (ev_tup (ea_var 5 (ea_cons (ev_bt call_len o_len (by rfl) Tx.m_len PySem.boot_len (ea_var 3 ea_nil)) (ea_var 4 ea_nil)))))))))))
    (ss_cons (es_ext (i := 2) (ev_F (ef_borrow 3 (ef_lc (own := [("high", 6), ("at", 7), ("mark", 8)]) rfl sc_in_order.nd (ig_any (ev_F (ef_bt (cr_sortA rfl hr.units) o_sortA (by rfl) Tx.m_sorted (by decide +kernel) (ea_var 3 ea_nil)))) (blkOk_by (N := nm_in_order) (sc := defScope s_in_order) (by decide +kernel)) (fun _ _ _ _ _ => (pg_seq rfl (pgs_cons (pg_name (i := 6) sc_in_order.nd rfl (by first | exact Or.inl rfl | exact Or.inr rfl)) (pgs_cons (pg_name (i := 7) sc_in_order.nd rfl (by first | exact Or.inl rfl | exact Or.inr rfl)) (pgs_cons (pg_name (i := 8) sc_in_order.nd rfl (by first | exact Or.inl rfl | exact Or.inr rfl)) pgs_nil))))) (tok_tup (tok_cons (tok_name 6) (tok_cons (tok_name 7) (tok_cons (tok_name 8) tok_nil))) rfl) (by decide) (fun _ _ _ _ _ => gts_nil) (fun _ _ _ _ _ => (ev_var 8))))))
    (ss_one (es_ret (ev_borrow 2 (ev_m1 PySem.F.slot_str_join PySem.F.type_str_join mt_join om_join (ev_str (l := [])) (ev_var 2)))))))))
theorem ok_parted (Tx : TX K mg ca) : FnOk P w K mg base (L2.CX P w) 13 Tx.a_parted Tx.d_parted ["book", "text"] (spG K ca (["book", "text"] : List Str).length Fn_parted) :=
  fn_ok2 (N := nm_parted) (g := g_parted) Tx.A_parted.F sc_parted fun cdv A outer s H E hr tk hp =>
    (ss_one (es_ret (ev_call tk (ok_in_order Tx) (hr.mono (by decide)) (by rfl) Tx.A_in_order.g Tx.A_in_order.F.kp Tx.A_in_order.b (ea_var 0 (ea_cons (ev_m1 PySem.F.slot_str_join PySem.F.type_str_join mt_join om_join (ev_str (l := [])) (ev_F (ef_lc (own := [("sign", 2)]) rfl sc_parted.nd (ig_any (ev_var 1)) (blkOk_by (N := nm_parted) (sc := defScope s_parted) (by decide +kernel)) (fun _ _ _ _ _ => (pg_name (i := 2) sc_parted.nd rfl (by first | exact Or.inl rfl | exact Or.inr rfl))) (tok_name 2) (by decide) (fun _ _ _ _ _ => gts_nil) (fun _ _ _ _ _ => (ev_call takes0 (ok_parts_of Tx) (hr.mono (by decide)) (by rfl) Tx.A_parts_of.g Tx.A_parts_of.F.kp Tx.A_parts_of.b (ea_var 0 (ea_var 2 ea_nil))))))) ea_nil)))))
theorem ok_alike (Tx : TX K mg ca) : FnOk P w K mg base (L2.CX P w) 14 Tx.a_alike Tx.d_alike ["book", "one", "other"] (spG K ca (["book", "one", "other"] : List Str).length Fn_alike) :=
  fn_ok2 (N := nm_alike) (g := g_alike) Tx.A_alike.F sc_alike fun cdv A outer s H E hr tk hp =>
    (ss_one (es_ret (ev_cmp (op_eqD hr.units) o_eq (ev_call tk (ok_parted Tx) (hr.mono (by decide)) (by rfl) Tx.A_parted.g Tx.A_parted.F.kp Tx.A_parted.b (ea_var 0 (ea_var 1 ea_nil))) (ev_call tk (ok_parted Tx) (hr.mono (by decide)) (by rfl) Tx.A_parted.g Tx.A_parted.F.kp Tx.A_parted.b (ea_var 0 (ea_var 2 ea_nil))) (by rfl))))
theorem ok_halves (Tx : TX K mg ca) : FnOk P w K mg base (L2.CX P w) 1 Tx.a_halves Tx.d_halves ["book", "sign"] (spG K ca (["book", "sign"] : List Str).length Fn_halves) :=
  fn_ok2 (N := nm_halves) (g := g_halves) Tx.A_halves.F sc_halves fun cdv A outer s H E hr tk hp =>
    (ss_cons (es_for hp rfl (ig_any (ev_ix (ev_var 0) ev_int)) (pg_seq rfl (pgs_cons (pg_name (i := 2) sc_halves.nd rfl (by first | exact Or.inl rfl | exact Or.inr rfl)) (pgs_cons (pg_name (i := 3) sc_halves.nd rfl (by first | exact Or.inl rfl | exact Or.inr rfl)) (pgs_cons (pg_name (i := 4) sc_halves.nd rfl (by first | exact Or.inl rfl | exact Or.inr rfl)) pgs_nil)))) (tok_tup (tok_cons (tok_name 2) (tok_cons (tok_name 3) (tok_cons (tok_name 4) tok_nil))) rfl)
    (ss_one (es_if (et_cmp (op_eqD hr.units) o_eq (ev_var 4) (ev_var 1) (by rfl))
    (ss_one (es_ret (ev_op2 or_add o_add (ev_var 2) (ev_var 3))))
    ss_nil)))
    (ss_one (es_ret ev_non)))
theorem ok_whole_of (Tx : TX K mg ca) : FnOk P w K mg base (L2.CX P w) 1 Tx.a_whole_of Tx.d_whole_of ["book", "base", "mark"] (spG K ca (["book", "base", "mark"] : List Str).length Fn_whole_of) :=
  fn_ok2 (N := nm_whole_of) (g := g_whole_of) Tx.A_whole_of.F sc_whole_of fun cdv A outer s H E hr tk hp =>
    (ss_cons (es_for hp rfl (ig_any (ev_ix (ev_var 0) ev_int)) (pg_seq rfl (pgs_cons (pg_name (i := 3) sc_whole_of.nd rfl (by first | exact Or.inl rfl | exact Or.inr rfl)) (pgs_cons (pg_name (i := 4) sc_whole_of.nd rfl (by first | exact Or.inl rfl | exact Or.inr rfl)) (pgs_cons (pg_name (i := 5) sc_whole_of.nd rfl (by first | exact Or.inl rfl | exact Or.inr rfl)) pgs_nil)))) (tok_tup (tok_cons (tok_name 3) (tok_cons (tok_name 4) (tok_cons (tok_name 5) tok_nil))) rfl)
    (ss_one (es_if (et_cmp (op_eqD hr.units) o_eq (ev_tup (ea_var 3 (ea_var 4 ea_nil))) (ev_tup (ea_var 1 (ea_var 2 ea_nil))) (by rfl))
    (ss_one (es_ret (ev_var 5)))
    ss_nil)))
    (ss_one (es_ret ev_non)))
theorem ok_stepped (Tx : TX K mg ca) : FnOk P w K mg base (L2.CX P w) 2 Tx.a_stepped Tx.d_stepped ["book", "text", "step"] (spG K ca (["book", "text", "step"] : List Str).length Fn_stepped) :=
  fn_ok2 (N := nm_stepped) (g := g_stepped) Tx.A_stepped.F sc_stepped fun cdv A outer s H E hr tk hp =>
    (ss_cons (es_tup (ev_var 2) (pg_seq rfl (pgs_cons (pg_name (i := 3) sc_stepped.nd rfl (by first | exact Or.inl rfl | exact Or.inr rfl)) (pgs_cons (pg_name (i := 4) sc_stepped.nd rfl (by first | exact Or.inl rfl | exact Or.inr rfl)) pgs_nil))) (tok_tup (tok_cons (tok_name 3) (tok_cons (tok_name 4) tok_nil)) rfl))
    (ss_cons (es_if (et_cmp (op_eqD hr.units) o_eq (ev_var 3) (ev_str (l := [112, 97, 114, 116])) (by rfl))
    (ss_cons (es_if (PW.pt (ew_or (et_not (et_chain or_le o_le or_lt o_lt ev_int (ev_var 4) (ev_bt call_len o_len (by rfl) Tx.m_len PySem.boot_len (ea_var 1 ea_nil)))) (ew_or1 (et_cmp op_isN o_isN (ev_call tk (ok_halves Tx) (hr.mono (by decide)) (by rfl) Tx.A_halves.g Tx.A_halves.F.kp Tx.A_halves.b (ea_var 0 (ea_cons (ev_ix (ev_var 1) (ev_var 4)) ea_nil))) ev_non (by rfl)))))
    (ss_one (es_ret ev_non))
    ss_nil)
    (ss_one (es_ret (ev_op2 or_add o_add (ev_op2 or_add o_add (ev_sl (ev_var 1) eo_none (eo_some (ev_var 4))) (ev_call tk (ok_halves Tx) (hr.mono (by decide)) (by rfl) Tx.A_halves.g Tx.A_halves.F.kp Tx.A_halves.b (ea_var 0 (ea_cons (ev_ix (ev_var 1) (ev_var 4)) ea_nil)))) (ev_sl (ev_var 1) (eo_some (ev_op2 or_add o_add (ev_var 4) ev_int)) eo_none)))))
    ss_nil)
    (ss_cons (es_if (et_not (et_chain or_le o_le or_lt o_lt ev_int (ev_var 4) (ev_op2 op_sub o_sub (ev_bt call_len o_len (by rfl) Tx.m_len PySem.boot_len (ea_var 1 ea_nil)) ev_int)))
    (ss_one (es_ret ev_non))
    ss_nil)
    (ss_cons (es_if (et_cmp (op_eqD hr.units) o_eq (ev_var 3) (ev_str (l := [106, 111, 105, 110])) (by rfl))
    (ss_cons (es_set (i := 5) sc_stepped.nd rfl (by first | exact Or.inl rfl | exact Or.inr rfl) (ev_call tk (ok_whole_of Tx) (hr.mono (by decide)) (by rfl) Tx.A_whole_of.g Tx.A_whole_of.F.kp Tx.A_whole_of.b (ea_var 0 (ea_cons (ev_ix (ev_var 1) (ev_var 4)) (ea_cons (ev_ix (ev_var 1) (ev_op2 or_add o_add (ev_var 4) ev_int)) ea_nil)))))
    (ss_cons (es_if (et_cmp op_isN o_isN (ev_var 5) ev_non (by rfl))
    (ss_one (es_ret ev_non))
    ss_nil)
    (ss_one (es_ret (ev_op2 or_add o_add (ev_op2 or_add o_add (ev_sl (ev_var 1) eo_none (eo_some (ev_var 4))) (ev_var 5)) (ev_sl (ev_var 1) (eo_some (ev_op2 or_add o_add (ev_var 4) ev_int)) eo_none))))))
    ss_nil)
    (ss_cons (es_set (i := 6) sc_stepped.nd rfl (by first | exact Or.inl rfl | exact Or.inr rfl) (ev_call tk (ok_class_of Tx) (hr.mono (by decide)) (by rfl) Tx.A_class_of.g Tx.A_class_of.F.kp Tx.A_class_of.b (ea_var 0 (ea_cons (ev_ix (ev_var 1) (ev_var 4)) ea_nil))))
    (ss_cons (es_set (i := 7) sc_stepped.nd rfl (by first | exact Or.inl rfl | exact Or.inr rfl) (ev_call tk (ok_class_of Tx) (hr.mono (by decide)) (by rfl) Tx.A_class_of.g Tx.A_class_of.F.kp Tx.A_class_of.b (ea_var 0 (ea_cons (ev_ix (ev_var 1) (ev_op2 or_add o_add (ev_var 4) ev_int)) ea_nil))))
    (ss_cons (es_if (PW.pt (ew_or (et_cmp (op_eqD hr.units) o_eq (ev_var 6) ev_int (by rfl)) (ew_or (et_cmp (op_eqD hr.units) o_eq (ev_var 7) ev_int (by rfl)) (ew_or1 (et_cmp (op_eqD hr.units) o_eq (ev_var 6) (ev_var 7) (by rfl))))))
    (ss_one (es_ret ev_non))
    ss_nil)
    (ss_one (es_ret (ev_op2 or_add o_add (ev_op2 or_add o_add (ev_op2 or_add o_add (ev_sl (ev_var 1) eo_none (eo_some (ev_var 4))) (ev_ix (ev_var 1) (ev_op2 or_add o_add (ev_var 4) ev_int))) (ev_ix (ev_var 1) (ev_var 4))) (ev_sl (ev_var 1) (eo_some (ev_op2 or_add o_add (ev_var 4) ev_int)) eo_none)))))))))))
theorem ok_steps_down (Tx : TX K mg ca) : FnOk P w K mg base (L2.CX P w) 3 Tx.a_steps_down Tx.d_steps_down ["book", "text"] (spG K ca (["book", "text"] : List Str).length Fn_steps_down) :=
  fn_ok2 (N := nm_steps_down) (g := g_steps_down) Tx.A_steps_down.F sc_steps_down fun cdv A outer s H E hr tk hp =>
    (ss_cons (es_own (i := 2) sc_steps_down.nd rfl (by first | exact Or.inl rfl | exact Or.inr rfl) (ef_lst ea_nil))
    (ss_cons (es_set (i := 3) sc_steps_down.nd rfl (by first | exact Or.inl rfl | exact Or.inr rfl) ev_int)
    (ss_cons (es_while hp (et_cmp or_lt o_lt (ev_var 3) (ev_bt call_len o_len (by rfl) Tx.m_len PySem.boot_len (ea_var 1 ea_nil)) (by rfl))
    (ss_one (es_if (et_cmp op_notN o_notN (ev_call tk (ok_halves Tx) (hr.mono (by decide)) (by rfl) Tx.A_halves.g Tx.A_halves.F.kp Tx.A_halves.b (ea_var 0 (ea_cons (ev_ix (ev_var 1) (ev_var 3)) ea_nil))) ev_non (by rfl))
    (ss_cons (es_app (i := 2) (ev_tup (ea_cons (ev_str (l := [112, 97, 114, 116])) (ea_var 3 ea_nil))))
    (ss_one (es_set (i := 1) sc_steps_down.nd rfl (by first | exact Or.inl rfl | exact Or.inr rfl) (ev_call tk (ok_stepped Tx) (hr.mono (by decide)) (by rfl) Tx.A_stepped.g Tx.A_stepped.F.kp Tx.A_stepped.b (ea_var 0 (ea_var 1 (ea_cons (ev_tup (ea_cons (ev_str (l := [112, 97, 114, 116])) (ea_var 3 ea_nil))) ea_nil)))))))
    (ss_one (es_set (i := 3) sc_steps_down.nd rfl (by first | exact Or.inl rfl | exact Or.inr rfl) (ev_op2 or_add o_add (ev_var 3) ev_int))))))
    (ss_cons (es_set (i := 3) sc_steps_down.nd rfl (by first | exact Or.inl rfl | exact Or.inr rfl) ev_int)
    (ss_cons (es_while hp (et_cmp or_lt o_lt (ev_var 3) (ev_op2 op_sub o_sub (ev_bt call_len o_len (by rfl) Tx.m_len PySem.boot_len (ea_var 1 ea_nil)) ev_int) (by rfl))
    (ss_cons (es_set (i := 4) sc_steps_down.nd rfl (by first | exact Or.inl rfl | exact Or.inr rfl) (ev_call tk (ok_class_of Tx) (hr.mono (by decide)) (by rfl) Tx.A_class_of.g Tx.A_class_of.F.kp Tx.A_class_of.b (ea_var 0 (ea_cons (ev_ix (ev_var 1) (ev_var 3)) ea_nil))))
    (ss_cons (es_set (i := 5) sc_steps_down.nd rfl (by first | exact Or.inl rfl | exact Or.inr rfl) (ev_call tk (ok_class_of Tx) (hr.mono (by decide)) (by rfl) Tx.A_class_of.g Tx.A_class_of.F.kp Tx.A_class_of.b (ea_var 0 (ea_cons (ev_ix (ev_var 1) (ev_op2 or_add o_add (ev_var 3) ev_int)) ea_nil))))
    (ss_one (es_if (et_chain or_lt o_lt or_lt o_lt ev_int (ev_var 5) (ev_var 4))
    (ss_cons (es_app (i := 2) (ev_tup (ea_cons (ev_str (l := [115, 119, 97, 112])) (ea_var 3 ea_nil))))
    (ss_cons (es_set (i := 1) sc_steps_down.nd rfl (by first | exact Or.inl rfl | exact Or.inr rfl) (ev_call tk (ok_stepped Tx) (hr.mono (by decide)) (by rfl) Tx.A_stepped.g Tx.A_stepped.F.kp Tx.A_stepped.b (ea_var 0 (ea_var 1 (ea_cons (ev_tup (ea_cons (ev_str (l := [115, 119, 97, 112])) (ea_var 3 ea_nil))) ea_nil)))))
    (ss_one (es_set (i := 3) sc_steps_down.nd rfl (by first | exact Or.inl rfl | exact Or.inr rfl) (ev_bt (call_max2 rfl) o_max2 (by rfl) Tx.m_max (by decide +kernel) (ea_cons ev_int (ea_cons (ev_op2 op_sub o_sub (ev_var 3) ev_int) ea_nil)))))))
    (ss_one (es_set (i := 3) sc_steps_down.nd rfl (by first | exact Or.inl rfl | exact Or.inr rfl) (ev_op2 or_add o_add (ev_var 3) ev_int))))))))
    (ss_one (es_rel 2 (es_ret (ev_var 2)))))))))
theorem ok_back_step (Tx : TX K mg ca) : FnOk P w K mg base (L2.CX P w) 1 Tx.a_back_step Tx.d_back_step ["step"] (spG K ca (["step"] : List Str).length Fn_back_step) :=
  fn_ok2 (N := nm_back_step) (g := g_back_step) Tx.A_back_step.F sc_back_step fun cdv A outer s H E hr tk hp =>
    (ss_cons (es_if (et_cmp (op_eqD hr.units) o_eq (ev_ix (ev_var 0) ev_int) (ev_str (l := [112, 97, 114, 116])) (by rfl))
    (ss_one (es_ret (ev_tup (ea_cons (ev_str (l := [106, 111, 105, 110])) (ea_cons (ev_ix (ev_var 0) ev_int) ea_nil)))))
    ss_nil)
    (ss_one (es_ret (ev_var 0))))
theorem ok_chain (Tx : TX K mg ca) : FnOk P w K mg base (L2.CX P w) 15 Tx.a_chain Tx.d_chain ["book", "one", "other"] (spG K ca (["book", "one", "other"] : List Str).length Fn_chain) :=
  fn_ok2 (N := nm_chain) (g := g_chain) Tx.A_chain.F sc_chain fun cdv A outer s H E hr tk hp =>
    (ss_cons (es_if (et_not (et_truth (ev_call tk (ok_alike Tx) (hr.mono (by decide)) (by rfl) Tx.A_alike.g Tx.A_alike.F.kp Tx.A_alike.b (ea_var 0 (ea_var 1 (ea_var 2 ea_nil))))))
    (ss_one (es_raise rfl tk Tx.X_NoChain (by rfl)))
    ss_nil)
    (ss_cons (es_setLc (own := [("step", 4)]) (i := 3) rfl sc_chain.nd rfl rfl (sw_true rfl rfl rfl (by decide +kernel)) (ig_any (ev_rev (ev_call tk (ok_steps_down Tx) (hr.mono (by decide)) (by rfl) Tx.A_steps_down.g Tx.A_steps_down.F.kp Tx.A_steps_down.b (ea_var 0 (ea_var 2 ea_nil))))) (blkOk_by (N := nm_chain) (sc := defScope s_chain) (by decide +kernel)) (fun _ _ _ _ _ => (pg_name (i := 4) sc_chain.nd rfl (by first | exact Or.inl rfl | exact Or.inr rfl))) (tok_name 4) (by decide) (fun _ _ _ _ _ => gts_nil) (fun _ _ _ _ _ => (ev_call takes0 (ok_back_step Tx) (hr.mono (by decide)) (by rfl) Tx.A_back_step.g Tx.A_back_step.F.kp Tx.A_back_step.b (ea_var 4 ea_nil))))
    (ss_one (es_ret (ev_bty call_tupP o_tuple (by rfl) Tx.m_tuple (by decide +kernel) (ea_cons (ev_op2 or_add o_add (ev_call tk (ok_steps_down Tx) (hr.mono (by decide)) (by rfl) Tx.A_steps_down.g Tx.A_steps_down.F.kp Tx.A_steps_down.b (ea_var 0 (ea_var 1 ea_nil))) (ev_var 3)) ea_nil))))))
theorem ok_Cursor_go (Tx : TX K mg ca) : FnOk P w K mg base (L2.CX P w) 7 Tx.a_Cursor_go Tx.d_Cursor_go ["self", "place", "is_held"] (spG K ca (["self", "place", "is_held"] : List Str).length Fn_Cursor_go) :=
  fn_ok2 (N := nm_Cursor_go) (g := g_Cursor_go) Tx.A_Cursor_go.F sc_Cursor_go fun cdv A outer s H E hr tk hp =>
    (ss_cons (es_if (PW.pt (ew_and (et_not (et_truth (ev_call tk (ok_is_cut Tx) (hr.mono (by decide)) (by rfl) Tx.A_is_cut.g Tx.A_is_cut.F.kp Tx.A_is_cut.b (ea_cons (ev_kinds 0 Tx.C.cc) (ea_cons (ev_rules 0 Tx.C.cc) (ea_cons (ev_meth0 0 tk Tx.C.cc Tx.A_Cursor_text.m (ok_Cursor_text Tx) (hr.mono (by decide)) Tx.A_Cursor_text.b) (ea_var 1 ea_nil))))))) (ew_and1 (et_cmp (op_neD hr.units) o_ne (ev_meth0 0 tk Tx.C.cc Tx.A_Cursor_text.m (ok_Cursor_text Tx) (hr.mono (by decide)) Tx.A_Cursor_text.b) (ev_str (l := [])) (by rfl)))))
    (ss_one (es_raise rfl tk Tx.X_NoPlace (by rfl)))
    ss_nil)
    (ss_one (es_drop (ev_meth 0 tk Tx.C.cc Tx.A_Cursor_stand.m (ok_Cursor_stand Tx) (hr.mono (by decide)) Tx.A_Cursor_stand.b (ea_var 1 (ea_var 2 ea_nil))))))
theorem ok_Cursor_back (Tx : TX K mg ca) : FnOk P w K mg base (L2.CX P w) 1 Tx.a_Cursor_back Tx.d_Cursor_back ["self"] (spG K ca (["self"] : List Str).length Fn_Cursor_back) :=
  fn_ok2 (N := nm_Cursor_back) (g := g_Cursor_back) Tx.A_Cursor_back.F sc_Cursor_back fun cdv A outer s H E hr tk hp =>
    (ss_cons (es_if (et_not (et_bef 0 Tx.C.cc))
    (ss_one (es_raise rfl tk Tx.X_NoStep (by rfl)))
    ss_nil)
    (ss_cons (es_latApp 0 Tx.C.cc)
    (ss_one (es_befPop 0 Tx.C.cc))))
theorem ok_Cursor_forth (Tx : TX K mg ca) : FnOk P w K mg base (L2.CX P w) 1 Tx.a_Cursor_forth Tx.d_Cursor_forth ["self"] (spG K ca (["self"] : List Str).length Fn_Cursor_forth) :=
  fn_ok2 (N := nm_Cursor_forth) (g := g_Cursor_forth) Tx.A_Cursor_forth.F sc_Cursor_forth fun cdv A outer s H E hr tk hp =>
    (ss_cons (es_if (et_not (et_lat 0 Tx.C.cc))
    (ss_one (es_raise rfl tk Tx.X_NoStep (by rfl)))
    ss_nil)
    (ss_cons (es_befApp 0 Tx.C.cc)
    (ss_one (es_latPop 0 Tx.C.cc))))
theorem ok_is_kind (Tx : TX K mg ca) : FnOk P w K mg base (L2.CX P w) 1 Tx.a_is_kind Tx.d_is_kind ["thing"] (spG K ca (["thing"] : List Str).length Fn_is_kind) :=
  fn_ok2 (N := nm_is_kind) (g := g_is_kind) Tx.A_is_kind.F sc_is_kind fun cdv A outer s H E hr tk hp =>
    (ss_one (es_ret (ev_and (ev_isi kd_str (by rfl) Tx.m_isinstance (by rfl) Tx.m_str (by decide +kernel) (ev_var 0)) (ev_and (ev_cmp (op_eqD hr.units) o_eq (ev_bt call_len o_len (by rfl) Tx.m_len PySem.boot_len (ea_var 0 ea_nil)) ev_int (by rfl)) (ev_one (ev_chain or_le o_le or_le o_le (ev_str (l := [65])) (ev_var 0) (ev_str (l := [90]))))))))
theorem ok_are_rising (Tx : TX K mg ca) : FnOk P w K mg base (L2.CX P w) 1 Tx.a_are_rising Tx.d_are_rising ["row"] (spG K ca (["row"] : List Str).length Fn_are_rising) :=
  fn_ok2 (N := nm_are_rising) (g := g_are_rising) Tx.A_are_rising.F sc_are_rising fun cdv A outer s H E hr tk hp =>
    (ss_one (es_ret (ev_bt (cr_all rfl) o_all (by rfl) Tx.m_all (by decide +kernel) (ea_cons (ev_F (ef_lc (own := [("one", 1), ("two", 2)]) rfl sc_are_rising.nd (ig_zipA (by rfl) Tx.m_zip (ea_cons (ev_sl (ev_var 0) eo_none (eo_some (ev_op1 un_neg o_neg ev_int))) (ea_cons (ev_sl (ev_var 0) (eo_some ev_int) eo_none) ea_nil))) (blkOk_by (N := nm_are_rising) (sc := defScope s_are_rising) (by decide +kernel)) (fun _ _ _ _ _ => (pg_seq rfl (pgs_cons (pg_name (i := 1) sc_are_rising.nd rfl (by first | exact Or.inl rfl | exact Or.inr rfl)) (pgs_cons (pg_name (i := 2) sc_are_rising.nd rfl (by first | exact Or.inl rfl | exact Or.inr rfl)) pgs_nil)))) (tok_tup (tok_cons (tok_name 1) (tok_cons (tok_name 2) tok_nil)) rfl) (by decide) (fun _ _ _ _ _ => gts_nil) (fun _ _ _ _ _ => (ev_cmp or_lt o_lt (ev_var 1) (ev_var 2) (by rfl))))) ea_nil))))
theorem ok_is_item (Tx : TX K mg ca) : FnOk P w K mg base (L2.CX P w) 2 Tx.a_is_item Tx.d_is_item ["thing"] (spG K ca (["thing"] : List Str).length Fn_is_item) :=
  fn_ok2 (N := nm_is_item) (g := g_is_item) Tx.A_is_item.F sc_is_item fun cdv A outer s H E hr tk hp =>
    (ss_cons (es_if (PW.pt (ew_or (et_not (et_truth (ev_isi kd_tuple (by rfl) Tx.m_isinstance (by rfl) Tx.m_tuple (by decide +kernel) (ev_var 0)))) (ew_or (et_cmp (op_neD hr.units) o_ne (ev_bt call_len o_len (by rfl) Tx.m_len PySem.boot_len (ea_var 0 ea_nil)) ev_int (by rfl)) (ew_or1 (et_not (et_truth (ev_isi kd_str (by rfl) Tx.m_isinstance (by rfl) Tx.m_str (by decide +kernel) (ev_ix (ev_var 0) ev_int))))))))
    (ss_one (es_ret ev_bl))
    ss_nil)
    (ss_cons (es_if (PW.pt (ew_or (et_not (et_truth (ev_bt (cr_all rfl) o_all (by rfl) Tx.m_all (by decide +kernel) (ea_cons (ev_F (ef_lc (own := [("kind", 1)]) rfl sc_is_item.nd (ig_any (ev_ix (ev_var 0) ev_int)) (blkOk_by (N := nm_is_item) (sc := defScope s_is_item) (by decide +kernel)) (fun _ _ _ _ _ => (pg_name (i := 1) sc_is_item.nd rfl (by first | exact Or.inl rfl | exact Or.inr rfl))) (tok_name 1) (by decide) (fun _ _ _ _ _ => gts_nil) (fun _ _ _ _ _ => (ev_call takes0 (ok_is_kind Tx) (hr.mono (by decide)) (by rfl) Tx.A_is_kind.g Tx.A_is_kind.F.kp Tx.A_is_kind.b (ea_var 1 ea_nil))))) ea_nil)))) (ew_or1 (et_not (et_truth (ev_call tk (ok_are_rising Tx) (hr.mono (by decide)) (by rfl) Tx.A_are_rising.g Tx.A_are_rising.F.kp Tx.A_are_rising.b (ea_cons (ev_ix (ev_var 0) ev_int) ea_nil)))))))
    (ss_one (es_ret ev_bl))
    ss_nil)
    (ss_one (es_ret (ev_and (ev_isi kd_str (by rfl) Tx.m_isinstance (by rfl) Tx.m_str (by decide +kernel) (ev_ix (ev_var 0) ev_int)) (ev_one (ev_cmp (or_in hr) o_in (ev_ix (ev_var 0) ev_int) (ev_const (v := .ref Tx.u_MANY) (d := (.tuple [T [49], T [42]])) Tx.k_MANY rfl Tx.r_MANY) (by rfl))))))))
theorem ok_is_side (Tx : TX K mg ca) : FnOk P w K mg base (L2.CX P w) 3 Tx.a_is_side Tx.d_is_side ["thing"] (spG K ca (["thing"] : List Str).length Fn_is_side) :=
  fn_ok2 (N := nm_is_side) (g := g_is_side) Tx.A_is_side.F sc_is_side fun cdv A outer s H E hr tk hp =>
    (ss_one (es_ret (ev_and (ev_isi kd_tuple (by rfl) Tx.m_isinstance (by rfl) Tx.m_tuple (by decide +kernel) (ev_var 0)) (ev_and (ev_cmp or_le o_le (ev_bt call_len o_len (by rfl) Tx.m_len PySem.boot_len (ea_var 0 ea_nil)) (ev_const (v := (.int 3)) (d := (.int 3)) Tx.k_ITEMS_MOST ⟨_, rfl⟩ (fun _ => (.int _))) (by rfl)) (ev_one (ev_bt (cr_all rfl) o_all (by rfl) Tx.m_all (by decide +kernel) (ea_cons (ev_F (ef_lc (own := [("one", 1)]) rfl sc_is_side.nd (ig_any (ev_var 0)) (blkOk_by (N := nm_is_side) (sc := defScope s_is_side) (by decide +kernel)) (fun _ _ _ _ _ => (pg_name (i := 1) sc_is_side.nd rfl (by first | exact Or.inl rfl | exact Or.inr rfl))) (tok_name 1) (by decide) (fun _ _ _ _ _ => gts_nil) (fun _ _ _ _ _ => (ev_call takes0 (ok_is_item Tx) (hr.mono (by decide)) (by rfl) Tx.A_is_item.g Tx.A_is_item.F.kp Tx.A_is_item.b (ea_var 1 ea_nil))))) ea_nil)))))))
theorem ok_is_rule (Tx : TX K mg ca) : FnOk P w K mg base (L2.CX P w) 4 Tx.a_is_rule Tx.d_is_rule ["thing"] (spG K ca (["thing"] : List Str).length Fn_is_rule) :=
  fn_ok2 (N := nm_is_rule) (g := g_is_rule) Tx.A_is_rule.F sc_is_rule fun cdv A outer s H E hr tk hp =>
    (ss_cons (es_if (PW.pt (ew_or (et_not (et_truth (ev_isi kd_tuple (by rfl) Tx.m_isinstance (by rfl) Tx.m_tuple (by decide +kernel) (ev_var 0)))) (ew_or (et_cmp (op_neD hr.units) o_ne (ev_bt call_len o_len (by rfl) Tx.m_len PySem.boot_len (ea_var 0 ea_nil)) ev_int (by rfl)) (ew_or1 (et_not (et_truth (ev_isi kd_bool (by rfl) Tx.m_isinstance (by rfl) Tx.m_bool (by decide +kernel) (ev_ix (ev_var 0) ev_int))))))))
    (ss_one (es_ret ev_bl))
    ss_nil)
    (ss_one (es_ret (ev_and (ev_call tk (ok_is_side Tx) (hr.mono (by decide)) (by rfl) Tx.A_is_side.g Tx.A_is_side.F.kp Tx.A_is_side.b (ea_cons (ev_ix (ev_var 0) ev_int) ea_nil)) (ev_one (ev_call tk (ok_is_side Tx) (hr.mono (by decide)) (by rfl) Tx.A_is_side.g Tx.A_is_side.F.kp Tx.A_is_side.b (ea_cons (ev_ix (ev_var 0) ev_int) ea_nil)))))))
theorem ok_are_rules (Tx : TX K mg ca) : FnOk P w K mg base (L2.CX P w) 5 Tx.a_are_rules Tx.d_are_rules ["thing"] (spG K ca (["thing"] : List Str).length Fn_are_rules) :=
  fn_ok2 (N := nm_are_rules) (g := g_are_rules) Tx.A_are_rules.F sc_are_rules fun cdv A outer s H E hr tk hp =>
    (ss_one (es_ret (ev_and (ev_isi kd_tuple (by rfl) Tx.m_isinstance (by rfl) Tx.m_tuple (by decide +kernel) (ev_var 0)) (ev_and (ev_cmp or_le o_le (ev_bt call_len o_len (by rfl) Tx.m_len PySem.boot_len (ea_var 0 ea_nil)) (ev_const (v := (.int 20)) (d := (.int 20)) Tx.k_RULES_MOST ⟨_, rfl⟩ (fun _ => (.int _))) (by rfl)) (ev_one (ev_bt (cr_all rfl) o_all (by rfl) Tx.m_all (by decide +kernel) (ea_cons (ev_F (ef_lc (own := [("one", 1)]) rfl sc_are_rules.nd (ig_any (ev_var 0)) (blkOk_by (N := nm_are_rules) (sc := defScope s_are_rules) (by decide +kernel)) (fun _ _ _ _ _ => (pg_name (i := 1) sc_are_rules.nd rfl (by first | exact Or.inl rfl | exact Or.inr rfl))) (tok_name 1) (by decide) (fun _ _ _ _ _ => gts_nil) (fun _ _ _ _ _ => (ev_call takes0 (ok_is_rule Tx) (hr.mono (by decide)) (by rfl) Tx.A_is_rule.g Tx.A_is_rule.F.kp Tx.A_is_rule.b (ea_var 1 ea_nil))))) ea_nil)))))))
theorem ok_item_text (Tx : TX K mg ca) : FnOk P w K mg base (L2.CX P w) 1 Tx.a_item_text Tx.d_item_text ["item"] (spG K ca (["item"] : List Str).length Fn_item_text) :=
  fn_ok2 (N := nm_item_text) (g := g_item_text) Tx.A_item_text.F sc_item_text fun cdv A outer s H E hr tk hp =>
    (ss_cons (es_set (i := 1) sc_item_text.nd rfl (by first | exact Or.inl rfl | exact Or.inr rfl) (ev_ix (ev_var 0) ev_int))
    (ss_cons (es_if (et_cmp (op_eqD hr.units) o_eq (ev_var 1) (ev_str (l := [])) (by rfl))
    (ss_one (es_set (i := 1) sc_item_text.nd rfl (by first | exact Or.inl rfl | exact Or.inr rfl) (ev_str (l := [46]))))
    ss_nil)
    (ss_cons (es_if (et_cmp (op_eqD hr.units) o_eq (ev_ix (ev_var 0) ev_int) (ev_str (l := [42])) (by rfl))
    (ss_one (es_set (i := 1) sc_item_text.nd rfl (by first | exact Or.inl rfl | exact Or.inr rfl) (ev_op2 or_add o_add (ev_var 1) (ev_str (l := [42])))))
    ss_nil)
    (ss_one (es_ret (ev_var 1))))))
theorem ok_written (Tx : TX K mg ca) : FnOk P w K mg base (L2.CX P w) 2 Tx.a_written Tx.d_written ["rules"] (spG K ca (["rules"] : List Str).length Fn_written) :=
  fn_ok2 (N := nm_written) (g := g_written) Tx.A_written.F sc_written fun cdv A outer s H E hr tk hp =>
    (ss_cons (es_set (i := 1) sc_written.nd rfl (by first | exact Or.inl rfl | exact Or.inr rfl) (ev_str (l := [])))
    (ss_cons (es_for hp rfl (ig_any (ev_var 0)) (pg_seq rfl (pgs_cons (pg_name (i := 2) sc_written.nd rfl (by first | exact Or.inl rfl | exact Or.inr rfl)) (pgs_cons (pg_name (i := 3) sc_written.nd rfl (by first | exact Or.inl rfl | exact Or.inr rfl)) (pgs_cons (pg_name (i := 4) sc_written.nd rfl (by first | exact Or.inl rfl | exact Or.inr rfl)) pgs_nil)))) (tok_tup (tok_cons (tok_name 2) (tok_cons (tok_name 3) (tok_cons (tok_name 4) tok_nil))) rfl)
    (ss_cons (es_ownLc (own := [("item", 6)]) (i := 5) rfl sc_written.nd rfl rfl (sw_true rfl rfl rfl (by decide +kernel)) (ig_any (ev_var 2)) (blkOk_by (N := nm_written) (sc := defScope s_written) (by decide +kernel)) (fun _ _ _ _ _ => (pg_name (i := 6) sc_written.nd rfl (by first | exact Or.inl rfl | exact Or.inr rfl))) (tok_name 6) (by decide) (fun _ _ _ _ _ => gts_nil) (fun _ _ _ _ _ => (ev_call takes0 (ok_item_text Tx) (hr.mono (by decide)) (by rfl) Tx.A_item_text.g Tx.A_item_text.F.kp Tx.A_item_text.b (ea_var 6 ea_nil))))
    (ss_cons (es_app (i := 5) (ev_if (et_truth (ev_var 3)) (ev_str (l := [47])) (ev_str (l := [120]))))
    (ss_cons (es_ext (i := 5) (ev_F (ef_lc (own := [("item", 6)]) rfl sc_written.nd (ig_any (ev_var 4)) (blkOk_by (N := nm_written) (sc := defScope s_written) (by decide +kernel)) (fun _ _ _ _ _ => (pg_name (i := 6) sc_written.nd rfl (by first | exact Or.inl rfl | exact Or.inr rfl))) (tok_name 6) (by decide) (fun _ _ _ _ _ => gts_nil) (fun _ _ _ _ _ => (ev_call takes0 (ok_item_text Tx) (hr.mono (by decide)) (by rfl) Tx.A_item_text.g Tx.A_item_text.F.kp Tx.A_item_text.b (ea_var 6 ea_nil))))))
    (ss_one (es_set (i := 1) sc_written.nd rfl (by first | exact Or.inl rfl | exact Or.inr rfl) (ev_borrow 5 (ev_op2 or_add o_add (ev_op2 or_add o_add (ev_var 1) (ev_m1 PySem.F.slot_str_join PySem.F.type_str_join mt_join om_join (ev_str (l := [32])) (ev_var 5))) (ev_str (l := [10]))))))))))
    (ss_one (es_ret (ev_var 1)))))
theorem ok_item_in (Tx : TX K mg ca) : FnOk P w K mg base (L2.CX P w) 1 Tx.a_item_in Tx.d_item_in ["word"] (spG K ca (["word"] : List Str).length Fn_item_in) :=
  fn_ok2 (N := nm_item_in) (g := g_item_in) Tx.A_item_in.F sc_item_in fun cdv A outer s H E hr tk hp =>
    (ss_cons (es_set (i := 1) sc_item_in.nd rfl (by first | exact Or.inl rfl | exact Or.inr rfl) (ev_str (l := [49])))
    (ss_cons (es_if (et_cmp (op_eqD hr.units) o_eq (ev_sl (ev_var 0) (eo_some (ev_op1 un_neg o_neg ev_int)) eo_none) (ev_str (l := [42])) (by rfl))
    (ss_cons (es_set (i := 1) sc_item_in.nd rfl (by first | exact Or.inl rfl | exact Or.inr rfl) (ev_str (l := [42])))
    (ss_one (es_set (i := 0) sc_item_in.nd rfl (by first | exact Or.inl rfl | exact Or.inr rfl) (ev_sl (ev_var 0) eo_none (eo_some (ev_op1 un_neg o_neg ev_int))))))
    ss_nil)
    (ss_cons (es_if (et_cmp (op_eqD hr.units) o_eq (ev_var 0) (ev_str (l := [46])) (by rfl))
    (ss_one (es_set (i := 0) sc_item_in.nd rfl (by first | exact Or.inl rfl | exact Or.inr rfl) (ev_str (l := []))))
    (ss_one (es_if (et_cmp (op_eqD hr.units) o_eq (ev_var 0) (ev_str (l := [])) (by rfl))
    (ss_one (es_raise rfl tk Tx.X_NoText (by rfl)))
    ss_nil)))
    (ss_one (es_ret (ev_tup (ea_var 0 (ea_var 1 ea_nil))))))))
theorem ok_rule_in (Tx : TX K mg ca) : FnOk P w K mg base (L2.CX P w) 2 Tx.a_rule_in Tx.d_rule_in ["line"] (spG K ca (["line"] : List Str).length Fn_rule_in) :=
  fn_ok2 (N := nm_rule_in) (g := g_rule_in) Tx.A_rule_in.F sc_rule_in fun cdv A outer s H E hr tk hp =>
    (ss_cons (es_set (i := 1) sc_rule_in.nd rfl (by first | exact Or.inl rfl | exact Or.inr rfl) (ev_F (ef_m1 PySem.F.slot_str_split PySem.F.type_str_split mt_split om_split (ev_var 0) (ev_str (l := [32])))))
    (ss_cons (es_setLc (own := [("at", 3), ("word", 4)]) (i := 2) rfl sc_rule_in.nd rfl rfl (sw_true rfl rfl rfl (by decide +kernel)) (ig_enumerate (by rfl) Tx.m_enumerate (ea_var 1 ea_nil)) (blkOk_by (N := nm_rule_in) (sc := defScope s_rule_in) (by decide +kernel)) (fun _ _ _ _ _ => (pg_seq rfl (pgs_cons (pg_name (i := 3) sc_rule_in.nd rfl (by first | exact Or.inl rfl | exact Or.inr rfl)) (pgs_cons (pg_name (i := 4) sc_rule_in.nd rfl (by first | exact Or.inl rfl | exact Or.inr rfl)) pgs_nil)))) (tok_tup (tok_cons (tok_name 3) (tok_cons (tok_name 4) tok_nil)) rfl) (by decide) (fun _ _ _ _ _ => (gts_one (et_cmp (or_in hr) o_in (ev_var 4) (ev_tup (ea_cons (ev_str (l := [47])) (ea_cons (ev_str (l := [120])) ea_nil))) (by rfl)))) (fun _ _ _ _ _ => (ev_var 3)))
    (ss_cons (es_if (et_cmp (op_neD hr.units) o_ne (ev_bt call_len o_len (by rfl) Tx.m_len PySem.boot_len (ea_var 2 ea_nil)) ev_int (by rfl))
    (ss_one (es_raise rfl tk Tx.X_NoText (by rfl)))
    ss_nil)
    (ss_cons (es_set (i := 3) sc_rule_in.nd rfl (by first | exact Or.inl rfl | exact Or.inr rfl) (ev_ix (ev_var 2) ev_int))
    (ss_cons (es_set (i := 5) sc_rule_in.nd rfl (by first | exact Or.inl rfl | exact Or.inr rfl) (ev_bty call_tupP o_tuple (by rfl) Tx.m_tuple (by decide +kernel) (ea_cons (ev_F (ef_lc (own := [("word", 4)]) rfl sc_rule_in.nd (ig_any (ev_sl (ev_var 1) eo_none (eo_some (ev_var 3)))) (blkOk_by (N := nm_rule_in) (sc := defScope s_rule_in) (by decide +kernel)) (fun _ _ _ _ _ => (pg_name (i := 4) sc_rule_in.nd rfl (by first | exact Or.inl rfl | exact Or.inr rfl))) (tok_name 4) (by decide) (fun _ _ _ _ _ => gts_nil) (fun _ _ _ _ _ => (ev_call takes0 (ok_item_in Tx) (hr.mono (by decide)) (by rfl) Tx.A_item_in.g Tx.A_item_in.F.kp Tx.A_item_in.b (ea_var 4 ea_nil))))) ea_nil)))
    (ss_one (es_ret (ev_tup (ea_var 5 (ea_cons (ev_cmp (op_eqD hr.units) o_eq (ev_ix (ev_var 1) (ev_var 3)) (ev_str (l := [47])) (by rfl)) (ea_cons (ev_bty call_tupP o_tuple (by rfl) Tx.m_tuple (by decide +kernel) (ea_cons (ev_F (ef_lc (own := [("word", 4)]) rfl sc_rule_in.nd (ig_any (ev_sl (ev_var 1) (eo_some (ev_op2 or_add o_add (ev_var 3) ev_int)) eo_none)) (blkOk_by (N := nm_rule_in) (sc := defScope s_rule_in) (by decide +kernel)) (fun _ _ _ _ _ => (pg_name (i := 4) sc_rule_in.nd rfl (by first | exact Or.inl rfl | exact Or.inr rfl))) (tok_name 4) (by decide) (fun _ _ _ _ _ => gts_nil) (fun _ _ _ _ _ => (ev_call takes0 (ok_item_in Tx) (hr.mono (by decide)) (by rfl) Tx.A_item_in.g Tx.A_item_in.F.kp Tx.A_item_in.b (ea_var 4 ea_nil))))) ea_nil)) ea_nil)))))))))))
theorem ok_read (Tx : TX K mg ca) : FnOk P w K mg base (L2.CX P w) 6 Tx.a_read Tx.d_read ["text"] (spG K ca (["text"] : List Str).length Fn_read) :=
  fn_ok2 (N := nm_read) (g := g_read) Tx.A_read.F sc_read fun cdv A outer s H E hr tk hp =>
    (ss_cons (es_set (i := 1) sc_read.nd rfl (by first | exact Or.inl rfl | exact Or.inr rfl) (ev_bty call_tupP o_tuple (by rfl) Tx.m_tuple (by decide +kernel) (ea_cons (ev_F (ef_lc (own := [("line", 2)]) rfl sc_read.nd (ig_any (ev_sl (ev_F (ef_m1 PySem.F.slot_str_split PySem.F.type_str_split mt_split om_split (ev_var 0) (ev_str (l := [10])))) eo_none (eo_some (ev_op1 un_neg o_neg ev_int)))) (blkOk_by (N := nm_read) (sc := defScope s_read) (by decide +kernel)) (fun _ _ _ _ _ => (pg_name (i := 2) sc_read.nd rfl (by first | exact Or.inl rfl | exact Or.inr rfl))) (tok_name 2) (by decide) (fun _ _ _ _ _ => gts_nil) (fun _ _ _ _ _ => (ev_call takes0 (ok_rule_in Tx) (hr.mono (by decide)) (by rfl) Tx.A_rule_in.g Tx.A_rule_in.F.kp Tx.A_rule_in.b (ea_var 2 ea_nil))))) ea_nil)))
    (ss_cons (es_if (PW.pt (ew_or (et_not (et_truth (ev_call tk (ok_are_rules Tx) (hr.mono (by decide)) (by rfl) Tx.A_are_rules.g Tx.A_are_rules.F.kp Tx.A_are_rules.b (ea_var 1 ea_nil)))) (ew_or1 (et_cmp (op_neD hr.units) o_ne (ev_call tk (ok_written Tx) (hr.mono (by decide)) (by rfl) Tx.A_written.g Tx.A_written.F.kp Tx.A_written.b (ea_var 1 ea_nil)) (ev_var 0) (by rfl)))))
    (ss_one (es_raise rfl tk Tx.X_NoText (by rfl)))
    ss_nil)
    (ss_one (es_ret (ev_var 1)))))
theorem ok_piece_width (Tx : TX K mg ca) : FnOk P w K mg base (L2.CX P w) 1 Tx.a_piece_width Tx.d_piece_width ["widths", "piece"] (spG K ca (["widths", "piece"] : List Str).length Fn_piece_width) :=
  fn_ok2 (N := nm_piece_width) (g := g_piece_width) Tx.A_piece_width.F sc_piece_width fun cdv A outer s H E hr tk hp =>
    (ss_cons (es_dic (i := 2) sc_piece_width.nd rfl (by first | exact Or.inl rfl | exact Or.inr rfl) (ed_dict rfl (by rfl) Tx.m_dict (ev_var 0)))
    (ss_one (es_ret (ev_bt (cr_maxD rfl hr.units) o_best (by rfl) Tx.m_max (by decide +kernel) (ea_cons (ev_op2 or_add o_add (ev_F (ef_lst (ea_cons ev_int ea_nil))) (ev_F (ef_lc (own := [("sign", 3)]) rfl sc_piece_width.nd (ig_any (ev_var 1)) (blkOk_by (N := nm_piece_width) (sc := defScope s_piece_width) (by decide +kernel)) (fun _ _ _ _ _ => (pg_name (i := 3) sc_piece_width.nd rfl (by first | exact Or.inl rfl | exact Or.inr rfl))) (tok_name 3) (by decide) (fun _ _ _ _ _ => gts_nil) (fun _ _ _ _ _ => (ev_dget2 (i := 2) hr.units (ev_var 3) ev_int))))) ea_nil)))))
theorem ok_width (Tx : TX K mg ca) : FnOk P w K mg base (L2.CX P w) 8 Tx.a_width Tx.d_width ["kinds", "rules", "widths", "text"] (spG K ca (["kinds", "rules", "widths", "text"] : List Str).length Fn_width) :=
  fn_ok2 (N := nm_width) (g := g_width) Tx.A_width.F sc_width fun cdv A outer s H E hr tk hp =>
    (ss_one (es_ret (ev_bt (cr_sum rfl) o_sum (by rfl) Tx.m_sum (by decide +kernel) (ea_cons (ev_F (ef_lc (own := [("piece", 4)]) rfl sc_width.nd (ig_any (ev_call tk (ok_pieces Tx) (hr.mono (by decide)) (by rfl) Tx.A_pieces.g Tx.A_pieces.F.kp Tx.A_pieces.b (ea_var 0 (ea_var 1 (ea_var 3 ea_nil))))) (blkOk_by (N := nm_width) (sc := defScope s_width) (by decide +kernel)) (fun _ _ _ _ _ => (pg_name (i := 4) sc_width.nd rfl (by first | exact Or.inl rfl | exact Or.inr rfl))) (tok_name 4) (by decide) (fun _ _ _ _ _ => gts_nil) (fun _ _ _ _ _ => (ev_call takes0 (ok_piece_width Tx) (hr.mono (by decide)) (by rfl) Tx.A_piece_width.g Tx.A_piece_width.F.kp Tx.A_piece_width.b (ea_var 2 (ea_var 4 ea_nil)))))) ea_nil))))
theorem ok_cut_to (Tx : TX K mg ca) : FnOk P w K mg base (L2.CX P w) 8 Tx.a_cut_to Tx.d_cut_to ["kinds", "rules", "widths", "text", "most"] (spG K ca (["kinds", "rules", "widths", "text", "most"] : List Str).length Fn_cut_to) :=
  fn_ok2 (N := nm_cut_to) (g := g_cut_to) Tx.A_cut_to.F sc_cut_to fun cdv A outer s H E hr tk hp =>
    (ss_cons (es_set (i := 5) sc_cut_to.nd rfl (by first | exact Or.inl rfl | exact Or.inr rfl) (ev_str (l := [])))
    (ss_cons (es_set (i := 6) sc_cut_to.nd rfl (by first | exact Or.inl rfl | exact Or.inr rfl) ev_int)
    (ss_cons (es_for hp rfl (ig_any (ev_call tk (ok_pieces Tx) (hr.mono (by decide)) (by rfl) Tx.A_pieces.g Tx.A_pieces.F.kp Tx.A_pieces.b (ea_var 0 (ea_var 1 (ea_var 3 ea_nil))))) (pg_name (i := 7) sc_cut_to.nd rfl (by first | exact Or.inl rfl | exact Or.inr rfl)) (tok_name 7)
    (ss_cons (es_set (i := 6) sc_cut_to.nd rfl (by first | exact Or.inl rfl | exact Or.inr rfl) (ev_op2 or_add o_add (ev_var 6) (ev_call tk (ok_piece_width Tx) (hr.mono (by decide)) (by rfl) Tx.A_piece_width.g Tx.A_piece_width.F.kp Tx.A_piece_width.b (ea_var 2 (ea_var 7 ea_nil)))))
    (ss_cons (es_if (et_cmp or_gt o_gt (ev_var 6) (ev_var 4) (by rfl))
    (ss_one (es_ret (ev_var 5)))
    ss_nil)
    (ss_one (es_set (i := 5) sc_cut_to.nd rfl (by first | exact Or.inl rfl | exact Or.inr rfl) (ev_op2 or_add o_add (ev_var 5) (ev_var 7)))))))
    (ss_one (es_ret (ev_var 5))))))
theorem ok_shown (Tx : TX K mg ca) : FnOk P w K mg base (L2.CX P w) 9 Tx.a_shown Tx.d_shown ["kinds", "rules", "widths", "text", "most", "end"] (spG K ca (["kinds", "rules", "widths", "text", "most", "end"] : List Str).length Fn_shown) :=
  fn_ok2 (N := nm_shown) (g := g_shown) Tx.A_shown.F sc_shown fun cdv A outer s H E hr tk hp =>
    (ss_cons (es_if (et_cmp or_le o_le (ev_call tk (ok_width Tx) (hr.mono (by decide)) (by rfl) Tx.A_width.g Tx.A_width.F.kp Tx.A_width.b (ea_var 0 (ea_var 1 (ea_var 2 (ea_var 3 ea_nil))))) (ev_var 4) (by rfl))
    (ss_one (es_ret (ev_var 3)))
    ss_nil)
    (ss_cons (es_set (i := 6) sc_shown.nd rfl (by first | exact Or.inl rfl | exact Or.inr rfl) (ev_op2 op_sub o_sub (ev_var 4) (ev_call tk (ok_width Tx) (hr.mono (by decide)) (by rfl) Tx.A_width.g Tx.A_width.F.kp Tx.A_width.b (ea_var 0 (ea_var 1 (ea_var 2 (ea_var 5 ea_nil)))))))
    (ss_cons (es_if (et_cmp or_lt o_lt (ev_var 6) ev_int (by rfl))
    (ss_one (es_raise rfl tk Tx.X_NoPlace (by rfl)))
    ss_nil)
    (ss_one (es_ret (ev_op2 or_add o_add (ev_call tk (ok_cut_to Tx) (hr.mono (by decide)) (by rfl) Tx.A_cut_to.g Tx.A_cut_to.F.kp Tx.A_cut_to.b (ea_var 0 (ea_var 1 (ea_var 2 (ea_var 3 (ea_var 6 ea_nil)))))) (ev_var 5)))))))
theorem ok_column_of (Tx : TX K mg ca) : FnOk P w K mg base (L2.CX P w) 7 Tx.a_column_of Tx.d_column_of ["kinds", "rules", "widths", "text", "place"] (spG K ca (["kinds", "rules", "widths", "text", "place"] : List Str).length Fn_column_of) :=
  fn_ok2 (N := nm_column_of) (g := g_column_of) Tx.A_column_of.F sc_column_of fun cdv A outer s H E hr tk hp =>
    (ss_cons (es_if (et_not (et_chain or_le o_le or_le o_le ev_int (ev_var 4) (ev_bt call_len o_len (by rfl) Tx.m_len PySem.boot_len (ea_var 3 ea_nil))))
    (ss_one (es_raise rfl tk Tx.X_NoPlace (by rfl)))
    ss_nil)
    (ss_cons (es_set (i := 5) sc_column_of.nd rfl (by first | exact Or.inl rfl | exact Or.inr rfl) (ev_call tk (ok_cuts Tx) (hr.mono (by decide)) (by rfl) Tx.A_cuts.g Tx.A_cuts.F.kp Tx.A_cuts.b (ea_var 0 (ea_var 1 (ea_var 3 ea_nil)))))
    (ss_cons (es_setLc (own := [("one", 7), ("two", 8)]) (i := 6) rfl sc_column_of.nd rfl rfl (sw_true rfl rfl rfl (by decide +kernel)) (ig_zip (by rfl) Tx.m_zip (ea_cons (ev_sl (ev_var 5) eo_none (eo_some (ev_op1 un_neg o_neg ev_int))) (ea_cons (ev_sl (ev_var 5) (eo_some ev_int) eo_none) ea_nil))) (blkOk_by (N := nm_column_of) (sc := defScope s_column_of) (by decide +kernel)) (fun _ _ _ _ _ => (pg_seq rfl (pgs_cons (pg_name (i := 7) sc_column_of.nd rfl (by first | exact Or.inl rfl | exact Or.inr rfl)) (pgs_cons (pg_name (i := 8) sc_column_of.nd rfl (by first | exact Or.inl rfl | exact Or.inr rfl)) pgs_nil)))) (tok_tup (tok_cons (tok_name 7) (tok_cons (tok_name 8) tok_nil)) rfl) (by decide) (fun _ _ _ _ _ => (gts_one (et_cmp or_le o_le (ev_var 8) (ev_var 4) (by rfl)))) (fun _ _ _ _ _ => (ev_sl (ev_var 3) (eo_some (ev_var 7)) (eo_some (ev_var 8)))))
    (ss_one (es_ret (ev_bt (cr_sum rfl) o_sum (by rfl) Tx.m_sum (by decide +kernel) (ea_cons (ev_F (ef_lc (own := [("part", 9)]) rfl sc_column_of.nd (ig_any (ev_var 6)) (blkOk_by (N := nm_column_of) (sc := defScope s_column_of) (by decide +kernel)) (fun _ _ _ _ _ => (pg_name (i := 9) sc_column_of.nd rfl (by first | exact Or.inl rfl | exact Or.inr rfl))) (tok_name 9) (by decide) (fun _ _ _ _ _ => gts_nil) (fun _ _ _ _ _ => (ev_call takes0 (ok_piece_width Tx) (hr.mono (by decide)) (by rfl) Tx.A_piece_width.g Tx.A_piece_width.F.kp Tx.A_piece_width.b (ea_var 2 (ea_var 9 ea_nil)))))) ea_nil)))))))
theorem ok_law_deed (Tx : TX K mg ca) : FnOk P w K mg base (L2.CX P w) 16 Tx.a_law_deed Tx.d_law_deed ["_law_k", "_law_text", "_law_place", "_law_cursor"] (spG K ca (["_law_k", "_law_text", "_law_place", "_law_cursor"] : List Str).length Fn_law_deed) :=
  fn_ok2 (N := nm_law_deed) (g := g_law_deed) Tx.A_law_deed.F sc_law_deed fun cdv A outer s H E hr tk hp =>
    (ss_cons (es_set (i := 4) sc_law_deed.nd rfl (by first | exact Or.inl rfl | exact Or.inr rfl) (ev_tup (ea_cons (ev_tup (ea_cons (ev_tup (ea_cons (ev_str (l := [94])) (ea_cons ev_int ea_nil))) (ea_cons (ev_tup (ea_cons (ev_str (l := [126])) (ea_cons ev_int ea_nil))) ea_nil))) (ea_cons (ev_tup (ea_cons (ev_tup (ea_cons (ev_str (l := [97])) (ea_cons (ev_str (l := [94])) (ea_cons (ev_str (l := [65])) ea_nil)))) ea_nil)) ea_nil))))
    (ss_one (es_if (et_cmp (op_eqD hr.units) o_eq (ev_var 0) ev_int (by rfl))
    (ss_one (es_drop (ev_call tk (ok_is_cut Tx) (hr.mono (by decide)) (by rfl) Tx.A_is_cut.g Tx.A_is_cut.F.kp Tx.A_is_cut.b (ea_cons (ev_tup ea_nil) (ea_cons (ev_tup ea_nil) (ea_var 1 (ea_var 2 ea_nil)))))))
    (ss_one (es_if (et_cmp (op_eqD hr.units) o_eq (ev_var 0) ev_int (by rfl))
    (ss_one (es_drop (ev_call tk (ok_why Tx) (hr.mono (by decide)) (by rfl) Tx.A_why.g Tx.A_why.F.kp Tx.A_why.b (ea_cons (ev_tup ea_nil) (ea_cons (ev_tup ea_nil) (ea_var 1 (ea_var 2 ea_nil)))))))
    (ss_one (es_if (et_cmp (op_eqD hr.units) o_eq (ev_var 0) ev_int (by rfl))
    (ss_one (es_drop (ev_call tk (ok_why Tx) (hr.mono (by decide)) (by rfl) Tx.A_why.g Tx.A_why.F.kp Tx.A_why.b (ea_cons (ev_tup ea_nil) (ea_cons (ev_tup ea_nil) (ea_var 1 (ea_cons ev_int ea_nil)))))))
    (ss_one (es_if (et_cmp (op_eqD hr.units) o_eq (ev_var 0) ev_int (by rfl))
    (ss_one (es_drop (ev_call tk (ok_next_cut Tx) (hr.mono (by decide)) (by rfl) Tx.A_next_cut.g Tx.A_next_cut.F.kp Tx.A_next_cut.b (ea_cons (ev_tup ea_nil) (ea_cons (ev_tup ea_nil) (ea_var 1 (ea_var 2 ea_nil)))))))
    (ss_one (es_if (et_cmp (op_eqD hr.units) o_eq (ev_var 0) ev_int (by rfl))
    (ss_one (es_drop (ev_call tk (ok_last_cut Tx) (hr.mono (by decide)) (by rfl) Tx.A_last_cut.g Tx.A_last_cut.F.kp Tx.A_last_cut.b (ea_cons (ev_tup ea_nil) (ea_cons (ev_tup ea_nil) (ea_var 1 (ea_var 2 ea_nil)))))))
    (ss_one (es_if (et_cmp (op_eqD hr.units) o_eq (ev_var 0) ev_int (by rfl))
    (ss_one (es_drop (ev_call tk (ok_piece_at Tx) (hr.mono (by decide)) (by rfl) Tx.A_piece_at.g Tx.A_piece_at.F.kp Tx.A_piece_at.b (ea_cons (ev_tup ea_nil) (ea_cons (ev_tup ea_nil) (ea_var 1 (ea_cons (ev_bt call_len o_len (by rfl) Tx.m_len PySem.boot_len (ea_var 1 ea_nil)) ea_nil)))))))
    (ss_one (es_if (et_cmp (op_eqD hr.units) o_eq (ev_var 0) ev_int (by rfl))
    (ss_one (es_drop (ev_call tk (ok_piece_number Tx) (hr.mono (by decide)) (by rfl) Tx.A_piece_number.g Tx.A_piece_number.F.kp Tx.A_piece_number.b (ea_cons (ev_tup ea_nil) (ea_cons (ev_tup ea_nil) (ea_var 1 (ea_var 2 ea_nil)))))))
    (ss_one (es_if (et_cmp (op_eqD hr.units) o_eq (ev_var 0) ev_int (by rfl))
    (ss_one (es_drop (ev_call tk (ok_nearest Tx) (hr.mono (by decide)) (by rfl) Tx.A_nearest.g Tx.A_nearest.F.kp Tx.A_nearest.b (ea_cons (ev_tup ea_nil) (ea_cons (ev_tup ea_nil) (ea_var 1 (ea_var 2 ea_nil)))))))
    (ss_one (es_if (et_cmp (op_eqD hr.units) o_eq (ev_var 0) ev_int (by rfl))
    (ss_one (es_drop (ev_call tk (ok_column_of Tx) (hr.mono (by decide)) (by rfl) Tx.A_column_of.g Tx.A_column_of.F.kp Tx.A_column_of.b (ea_cons (ev_tup ea_nil) (ea_cons (ev_tup ea_nil) (ea_cons (ev_tup ea_nil) (ea_var 1 (ea_var 2 ea_nil))))))))
    (ss_one (es_if (et_cmp (op_eqD hr.units) o_eq (ev_var 0) ev_int (by rfl))
    (ss_one (es_drop (ev_call tk (ok_shown Tx) (hr.mono (by decide)) (by rfl) Tx.A_shown.g Tx.A_shown.F.kp Tx.A_shown.b (ea_cons (ev_tup ea_nil) (ea_cons (ev_tup ea_nil) (ea_cons (ev_tup ea_nil) (ea_cons (ev_op2 or_add o_add (ev_var 1) (ev_str (l := [97, 98]))) (ea_cons (ev_op2 or_add o_add (ev_bt call_len o_len (by rfl) Tx.m_len PySem.boot_len (ea_var 1 ea_nil)) ev_int) (ea_cons (ev_op2 or_add o_add (ev_var 1) (ev_str (l := [97, 98, 99]))) ea_nil)))))))))
    (ss_one (es_if (et_cmp (op_eqD hr.units) o_eq (ev_var 0) ev_int (by rfl))
    (ss_one (es_drop (ev_meth 3 tk Tx.C.cc Tx.A_Cursor_go.m (ok_Cursor_go Tx) (hr.mono (by decide)) Tx.A_Cursor_go.b (ea_var 2 (ea_cons (ev_cmp or_gt o_gt (ev_var 2) ev_int (by rfl)) ea_nil)))))
    (ss_one (es_if (et_cmp (op_eqD hr.units) o_eq (ev_var 0) ev_int (by rfl))
    (ss_one (es_drop (ev_call tk (ok_chain Tx) (hr.mono (by decide)) (by rfl) Tx.A_chain.g Tx.A_chain.F.kp Tx.A_chain.b (ea_var 4 (ea_cons (ev_op2 or_add o_add (ev_str (l := [97, 94])) (ev_var 1)) (ea_cons (ev_op2 or_add o_add (ev_op2 or_add o_add (ev_str (l := [65])) (ev_var 1)) (ev_str (l := [94]))) ea_nil))))))
    (ss_one (es_if (et_cmp (op_eqD hr.units) o_eq (ev_var 0) ev_int (by rfl))
    (ss_one (es_drop (ev_meth0 3 tk Tx.C.cc Tx.A_Cursor_forth.m (ok_Cursor_forth Tx) (hr.mono (by decide)) Tx.A_Cursor_forth.b)))
    (ss_one (es_if (et_cmp (op_eqD hr.units) o_eq (ev_var 0) ev_int (by rfl))
    (ss_one (es_drop (ev_tmp tk Tx.C.cc Tx.C.made (ok_init Tx) (hr.mono (by decide)) (by rfl) Tx.C.g Tx.C.b Tx.A_Cursor_back.m (ok_Cursor_back Tx) (hr.mono (by decide)) Tx.A_Cursor_back.b (ea_cons (ev_tup ea_nil) (ea_cons (ev_tup ea_nil) (ea_cons (ev_tup ea_nil) (ea_var 1 ea_nil)))))))
    (ss_one (es_drop (ev_call tk (ok_read Tx) (hr.mono (by decide)) (by rfl) Tx.A_read.g Tx.A_read.F.kp Tx.A_read.b (ea_cons (ev_op2 or_add o_add (ev_str (l := [65, 32, 120])) (ev_var 1)) ea_nil)))))))))))))))))))))))))))))))))
theorem ok_law_ask (Tx : TX K mg ca) : FnOk P w K mg base (L2.CX P w) 17 Tx.a_law_ask Tx.d_law_ask ["_law_k", "_law_text", "_law_place", "_law_cursor"] (spG K ca (["_law_k", "_law_text", "_law_place", "_law_cursor"] : List Str).length Fn_law_ask) :=
  fn_ok2 (N := nm_law_ask) (g := g_law_ask) Tx.A_law_ask.F sc_law_ask fun cdv A outer s H E hr tk hp =>
    (ss_cons (es_set (i := 4) sc_law_ask.nd rfl (by first | exact Or.inl rfl | exact Or.inr rfl) (ev_F (ef_lst ea_nil)))
    (ss_cons (es_tryAs (cs := ["NoPlace", "NoChain", "NoStep", "NoText"]) (i := 5) (j := 4) (F := Fn_law_names) tk Tx.h_CutError Tx.M_CutError (by rfl) sc_law_ask.nd rfl rfl (by decide) nm_eq (fun _ _ _ tk hp => (ss_one (es_drop (ev_call tk (ok_law_deed Tx) (hr.mono (by decide)) (by rfl) Tx.A_law_deed.g Tx.A_law_deed.F.kp Tx.A_law_deed.b (ea_var 0 (ea_var 1 (ea_var 2 (ea_var 3 ea_nil))))))))
    (fun _ _ _ _ he hz hf => ss_cons (es_set sc_law_ask.nd rfl (by first | exact Or.inl rfl | exact Or.inr rfl) (ev_callE List.mem_cons_self he hz hf (ok_law_names Tx) (roomE hr (by decide)) (by rfl) Tx.A_law_names.g Tx.A_law_names.F.kp Tx.A_law_names.b)) ss_nil))
    (ss_one (es_ret (ev_var 4)))))
theorem ok_law (Tx : TX K mg ca) (law : LawTrue 9 g_law) : FnOk P w K mg base (L2.CX P w) 18 Tx.a_law Tx.d_law ["_law_script"] (spLaw K) :=
  law_ok2 (ca := ca) (g := g_law) Tx.A_law.F sc_law rfl rfl (by first | exact Or.inl rfl | exact Or.inr rfl) rfl (fun cdv A outer s H E hr tk hp =>
    (ss_cons (es_for hp rfl (ig_rng1 (by rfl) Tx.m_range (ea_cons ev_int ea_nil)) (pg_name (i := 2) sc_law.nd rfl (by first | exact Or.inl rfl | exact Or.inr rfl)) (tok_name 2)
    (ss_cons (es_set (i := 3) sc_law.nd rfl (by first | exact Or.inl rfl | exact Or.inr rfl) (ev_op2 or_mulA o_mulA (ev_str (l := [98])) (ev_call tk (ok_law_draw Tx) (hr.mono (by decide)) (by rfl) Tx.A_law_draw.g Tx.A_law_draw.F.kp Tx.A_law_draw.b (ea_var 0 (ea_var 1 (ea_cons ev_int ea_nil))))))
    (ss_cons (es_set (i := 4) sc_law.nd rfl (by first | exact Or.inl rfl | exact Or.inr rfl) (ev_call tk (ok_law_pick Tx) (hr.mono (by decide)) (by rfl) Tx.A_law_pick.g Tx.A_law_pick.F.kp Tx.A_law_pick.b (ea_var 0 (ea_var 1 (ea_cons (ev_F (ef_lst (ea_cons (ev_op1 un_neg o_neg ev_int) (ea_cons (ev_op1 un_neg o_neg ev_int) (ea_cons (ev_op2 or_add o_add (ev_bt call_len o_len (by rfl) Tx.m_len PySem.boot_len (ea_var 3 ea_nil)) ev_int) (ea_cons (ev_op2 or_add o_add (ev_bt call_len o_len (by rfl) Tx.m_len PySem.boot_len (ea_var 3 ea_nil)) ev_int) ea_nil)))))) ea_nil)))))
    (ss_cons (es_fgt (es_new (i := 5) (kt := 1) Tx.C.cc Tx.C.made (ok_init Tx) (hr.mono (by decide)) (by rfl) Tx.C.g Tx.C.b sc_law.nd rfl (by first | exact Or.inl rfl | exact Or.inr rfl) (ea_cons (ev_tup ea_nil) (ea_cons (ev_tup ea_nil) (ea_cons (ev_tup ea_nil) (ea_cons (ev_str (l := [97, 98, 99])) ea_nil))))))
    (ss_cons (es_drop (ev_meth 5 tk Tx.C.cc Tx.A_Cursor_step.m (ok_Cursor_step Tx) (hr.mono (by decide)) Tx.A_Cursor_step.b (ea_cons ev_bl (ea_cons ev_bl (ea_cons ev_bl ea_nil)))))
    (ss_cons (es_drop (ev_meth 5 tk Tx.C.cc Tx.A_Cursor_typed.m (ok_Cursor_typed Tx) (hr.mono (by decide)) Tx.A_Cursor_typed.b (ea_var 3 ea_nil)))
    (ss_cons (es_set (i := 6) sc_law.nd rfl (by first | exact Or.inl rfl | exact Or.inr rfl) (ev_tup (ea_cons (ev_meth0 5 tk Tx.C.cc Tx.A_Cursor_text.m (ok_Cursor_text Tx) (hr.mono (by decide)) Tx.A_Cursor_text.b) (ea_cons (ev_meth0 5 tk Tx.C.cc Tx.A_Cursor_place.m (ok_Cursor_place Tx) (hr.mono (by decide)) Tx.A_Cursor_place.b) (ea_cons (ev_meth0 5 tk Tx.C.cc Tx.A_Cursor_stretch.m (ok_Cursor_stretch Tx) (hr.mono (by decide)) Tx.A_Cursor_stretch.b) ea_nil)))))
    (ss_cons (es_set (i := 7) sc_law.nd rfl (by first | exact Or.inl rfl | exact Or.inr rfl) (ev_op2 or_add o_add (ev_op2 or_add o_add (ev_op2 or_add o_add (ev_op2 or_mulA o_mulA (ev_F (ef_lst (ea_cons (ev_F (ef_lst (ea_cons (ev_str (l := [78, 111, 80, 108, 97, 99, 101])) ea_nil))) ea_nil))) ev_int) (ev_F (ef_lst (ea_cons (ev_F (ef_lst (ea_cons (ev_str (l := [78, 111, 67, 104, 97, 105, 110])) ea_nil))) ea_nil)))) (ev_op2 or_mulA o_mulA (ev_F (ef_lst (ea_cons (ev_F (ef_lst (ea_cons (ev_str (l := [78, 111, 83, 116, 101, 112])) ea_nil))) ea_nil))) ev_int)) (ev_F (ef_lst (ea_cons (ev_F (ef_lst (ea_cons (ev_str (l := [78, 111, 84, 101, 120, 116])) ea_nil))) ea_nil)))))
    (ss_cons (es_set (i := 8) sc_law.nd rfl (by first | exact Or.inl rfl | exact Or.inr rfl) (ev_if (et_cmp or_lt o_lt (ev_var 4) ev_int (by rfl)) (ev_var 4) (ev_op2 or_add o_add (ev_var 4) ev_int)))
    (ss_cons (es_setLc (own := [("_law_j", 10)]) (i := 9) rfl sc_law.nd rfl rfl (sw_true rfl rfl rfl (by decide +kernel)) (ig_rng1 (by rfl) Tx.m_range (ea_cons ev_int ea_nil)) (blkOk_by (N := nm_law) (sc := defScope s_law) (by decide +kernel)) (fun _ _ _ _ _ => (pg_name (i := 10) sc_law.nd rfl (by first | exact Or.inl rfl | exact Or.inr rfl))) (tok_name 10) (by decide) (fun _ _ _ _ _ => gts_nil) (fun _ _ _ _ _ => (ev_call takes0 (ok_law_ask Tx) (hr.mono (by decide)) (by rfl) Tx.A_law_ask.g Tx.A_law_ask.F.kp Tx.A_law_ask.b (ea_var 10 (ea_var 3 (ea_var 8 (ea_var 5 ea_nil)))))))
    (ss_one (es_if (PW.pt (ew_or (et_cmp (op_neD hr.units) o_ne (ev_var 9) (ev_var 7) (by rfl)) (ew_or1 (et_cmp (op_neD hr.units) o_ne (ev_tup (ea_cons (ev_meth0 5 tk Tx.C.cc Tx.A_Cursor_text.m (ok_Cursor_text Tx) (hr.mono (by decide)) Tx.A_Cursor_text.b) (ea_cons (ev_meth0 5 tk Tx.C.cc Tx.A_Cursor_place.m (ok_Cursor_place Tx) (hr.mono (by decide)) Tx.A_Cursor_place.b) (ea_cons (ev_meth0 5 tk Tx.C.cc Tx.A_Cursor_stretch.m (ok_Cursor_stretch Tx) (hr.mono (by decide)) Tx.A_Cursor_stretch.b) ea_nil)))) (ev_var 6) (by rfl)))))
    (ss_one (es_ret ev_bl))
    ss_nil))))))))))))
    (ss_one (es_ret ev_bl)))) law
end
end W

namespace W
open PySem PySem.Spec PyProof.Rows L2 G
theorem mulOk_l {i j : Int} (h1 : -(2 ^ 64) < i) (h2 : i < 2 ^ 64) : mulOk i j = true := mulOk_iff.mpr (.inl ⟨h1, h2⟩)
theorem town_ok {n : Nat} (h : n < 1000000) : n < sizeLine := by rw [sizeLine_eq]; omega
def Drawn (m : Int) (d : D) : Prop := ∃ z, d = .int z ∧ 0 ≤ z ∧ z < m
theorem draw_tail (ns : List Int) (m : Int) (n : Nat) (hm : 0 < m) (c t : Int) : (sSeq (sSet 5 (c2 opMod (c2 opAdd (cVar 4) (c2 opMulA (cC (.int 104729)) (cVar 3))) (cC (.int 4294967291))))
    (sSeq (sSet 5 (c2 opMod (c2 opMulA (c2 opMod (c2 opMulA (cVar 5) (cVar 5)) (cC (.int 4294967279))) (cC (.int 48271))) (cC (.int 4294967291))))
    (sSeq (sSet 6 (c2 opMod (c2 opMulA (c2 opMod (c2 opMulA (cVar 5) (cVar 5)) (cC (.int 4294967279))) (cC (.int 69621))) (cC (.int 4294967291))))
    (sRet (c2 opMod (c2 opAdd (c2 opMulA (c2 opDiv (cVar 5) (cC (.int 64))) (cC (.int 67108864))) (c2 opDiv (cVar 6) (cC (.int 64)))) (cVar 2))))) 
      [some (L.scr ns), some L.town, some (L.d (PyData.int m)), some (L.d (PyData.int t)), some (L.d (PyData.int c)), none, none] (n + 1)).Sat no2 (fun d n' => n' = n + 1 ∧ Drawn m d) no2 no2 := by
  refine sat_seq ?_
  have b1 : mulOk 104729 t = true := mulOk_l (by decide) (by decide)
  simp [x_mul, b1]
  refine sat_seq ?_
  generalize ha : (c + 104729 * t) % 4294967291 = a
  have b2 : mulOk a a = true := mulOk_l (by omega) (by omega)
  have b3 : mulOk (a * a % 4294967279) 48271 = true := mulOk_l (by omega) (by omega)
  simp [x_mul, b2, b3]
  refine sat_seq ?_
  generalize hb : (a * a % 4294967279 * 48271) % 4294967291 = b
  have b4 : mulOk b b = true := mulOk_l (by omega) (by omega)
  have b5 : mulOk (b * b % 4294967279) 69621 = true := mulOk_l (by omega) (by omega)
  simp [x_mul, b4, b5]
  have b6 : mulOk (b / 64) 67108864 = true := mulOk_l (by omega) (by omega)
  simp [x_mul, b6, hm]
  exact ⟨_, rfl, Int.emod_nonneg _ (by omega), Int.emod_lt_of_pos _ hm⟩
/-- what is drawn lies below the bound -/
theorem draw_ok (ns : List Int) (m : Int) (n : Nat) (hm : 0 < m) (hn : n % 33554432 < 1000000) : ∃ v, Fn_law_draw [.scr ns, .town, .d (.int m)] n = .ok (.int v) (n + 1) ∧ 0 ≤ v ∧ v < m := by
  have hz := town_ok hn
  suffices h : ∃ v n', Fn_law_draw [.scr ns, .town, .d (.int m)] n = .ok v n' ∧ n' = n + 1 ∧ Drawn m v by
    obtain ⟨v, n', e, rfl, z, rfl, h⟩ := h
    exact ⟨z, e, h⟩
  refine run_ex ?_
  unfold g_law_draw
  refine sat_seq ?_
  simp only [e_sTown, List.map_cons, List.map_nil, List.length_cons, List.length_nil, List.cons_append, List.nil_append, List.getElem?_cons_succ, List.getElem?_cons_zero, hz, if_true, sat_nx]
  refine sat_seq ?_
  simp only [e_sSet, e_cLenV, List.getElem?_cons_succ, List.getElem?_cons_zero, ofR_ok]
  simp only [List.length_cons, List.length_nil, List.replicate, Nat.reduceAdd, Nat.reduceSub, Nat.reduceLT, if_true, List.set_cons_succ, List.set_cons_zero, sat_nx]
  generalize (((n + 1) % 33554432 : Nat) : Int) = t
  refine sat_seq ?_
  simp
  refine sat_seq ?_
  rw [e_sIf]
  cases ns with
  | nil =>
    simp only [e_cScrT, List.getElem?_cons_zero, List.isEmpty_nil, Bool.not_true, ofR_ok, Bool.false_eq_true, if_false, e_sNx, sat_nx]
    exact draw_tail _ m n hm 0 t
  | cons a r =>
    have hl : 0 < (a :: r).length := by simp
    obtain ⟨c, hc⟩ : ∃ c, atI (a :: r) (t % ((a :: r).length : Nat)) = some c := by
      have h1 := Int.emod_nonneg t (b := ((a :: r).length : Nat)) (by omega)
      have h2 := Int.emod_lt_of_pos t (show (0 : Int) < ((a :: r).length : Nat) by omega)
      obtain ⟨j, hj⟩ := Int.eq_ofNat_of_zero_le h1
      rw [hj]
      exact ⟨_, atI_nat (List.getElem?_eq_getElem (by omega))⟩
    generalize ho : a :: r = ns at *
    have he : ns.isEmpty = false := by rw [← ho]; rfl
    simp [he, hl, hc]
    exact draw_tail _ m n hm c t
theorem pick_ok (ns : List Int) (xs : List D) (n : Nat) (hx : xs ≠ []) (hn : n % 33554432 < 1000000) : ∃ x, Fn_law_pick [.scr ns, .town, .d (.list xs)] n = .ok x (n + 1) ∧ x ∈ xs := by
  have hl : 0 < xs.length := List.length_pos_iff.mpr hx
  obtain ⟨v, e, h0, h1⟩ := draw_ok ns xs.length n (by omega) hn
  obtain ⟨k, rfl⟩ := Int.eq_ofNat_of_zero_le h0
  have hk : k < xs.length := by omega
  refine ⟨xs[k], ?_, List.getElem_mem hk⟩
  refine run_eq ?_
  unfold g_law_pick
  have e2 : atI xs (k : Int) = some xs[k] := atI_nat (List.getElem?_eq_getElem hk)
  simp [e, e2]
theorem pickT_ok (ns : List Int) (xs : List Nat) (n : Nat) (hx : xs ≠ []) (hn : n % 33554432 < 1000000) (hl0 : xs.length ≤ 1000) : ∃ c, Fn_law_pick [.scr ns, .town, .d (T xs)] n = .ok (T [c]) (n + 1) ∧ c ∈ xs := by
  have hl : 0 < xs.length := List.length_pos_iff.mpr hx
  obtain ⟨v, e, h0, h1⟩ := draw_ok ns xs.length n (by omega) hn
  obtain ⟨k, rfl⟩ := Int.eq_ofNat_of_zero_le h0
  have hk : k < xs.length := by omega
  refine ⟨xs[k], ?_, List.getElem_mem hk⟩
  refine run_eq ?_
  unfold g_law_pick
  have e2 : atI xs (k : Int) = some xs[k] := atI_nat (List.getElem?_eq_getElem hk)
  have z : xs.length ≤ sizeLine := size_ok (by omega)
  simp [e, e2, z]
end W

/-! texts cut by rules: what the defs answer -/
namespace W
open PySem PySem.Spec PyProof.Rows L2 G
abbrev Item := List Nat × Bool
def encI (t : Item) : D := .tuple [T t.1, T (if t.2 = true then [42] else [49])]
def encIs (l : List Item) : D := .tuple (l.map encI)
abbrev Rule := List Item × Bool × List Item
def encR (r : Rule) : D := .tuple [encIs r.1, .bool r.2.1, encIs r.2.2]
def encRs (l : List Rule) : D := .tuple (l.map encR)
def okI (t : Item) : Prop := okT t.1 = true ∧ t.1.length ≤ 100
def okR (r : Rule) : Prop := (∀ t ∈ r.1, okI t) ∧ (∀ t ∈ r.2.2, okI t) ∧ r.1.length ≤ 100 ∧ r.2.2.length ≤ 100
/-! ### is_in -/
def isIn (t : Item) (k : Nat) : Bool := t.1 == [] || decide (k ∈ t.1)
theorem x_in_1 {l : List Nat} {k : Nat} : opIn (T [k]) (T l) = some (.bool (decide (k ∈ l))) := by
  show some (PyData.bool (PySem.Txt.contains ⟨l.toArray⟩ ⟨[k].toArray⟩)) = _
  congr 2
  exact StrLaws.found_one ⟨l.toArray⟩ k
theorem isin_ok (t : Item) (k n : Nat) (h : okI t) : Fn_is_in [.d (encI t), .d (T [k])] n = .ok (.bool (isIn t k)) n := by
  refine run_eq ?_
  unfold g_is_in
  have e0 : atI [T t.1, T (if t.2 = true then [42] else [49])] 0 = some (T t.1) := rfl
  unfold isIn
  cases hb : (t.1 == []) with
  | true => simp [encI, e0, x_eq_T h.1 (b := []) rfl, hb]
  | false => simp [encI, e0, x_eq_T h.1 (b := []) rfl, hb, x_in_1]
/-! ### places_on -/
def runs (t : Item) : Nat → List Nat → List Nat
  | _, [] => []
  | at_, c :: r => if isIn t c = true then (at_ + 1) :: runs t (at_ + 1) r else []
def one (t : Item) (at_ : Nat) : List Nat → List Nat
  | [] => []
  | c :: _ => if isIn t c = true then [at_ + 1] else []
theorem runs_cons (t : Item) (a c : Nat) (r : List Nat) : runs t a (c :: r) = if isIn t c = true then (a + 1) :: runs t (a + 1) r else [] := rfl
theorem one_cons (t : Item) (a c : Nat) (r : List Nat) : one t a (c :: r) = if isIn t c = true then [a + 1] else [] := rfl
def adv (row : List Nat) (t : Item) (at_ : Nat) : List Nat := if t.2 = true then at_ :: runs t at_ (row.drop at_) else one t at_ (row.drop at_)
def upN (l : List Nat) : List Nat := (upI (l.map fun k : Nat => (k : Int))).map Int.toNat
def placesM (row : List Nat) (items : List Item) (place : Nat) : List Nat := items.foldl (fun f t => upN (f.flatMap (adv row t))) [place]
theorem runs_le (t : Item) : ∀ (r : List Nat) (a : Nat), (∀ k ∈ runs t a r, k ≤ a + r.length) ∧ (runs t a r).length ≤ r.length
  | [], a => by simp [runs]
  | c :: r, a => by
    obtain ⟨h1, h2⟩ := runs_le t r (a + 1)
    unfold runs
    split
    · refine ⟨fun k hk => ?_, by simp; omega⟩
      rcases List.mem_cons.mp hk with e | e
      · rw [e, List.length_cons]; omega
      · have := h1 k e; rw [List.length_cons]; omega
    · simp
theorem adv_le {row : List Nat} {t : Item} {a : Nat} (ha : a ≤ row.length) : (∀ k ∈ adv row t a, k ≤ row.length) ∧ (adv row t a).length ≤ row.length + 1 := by
  unfold adv
  split
  · obtain ⟨h1, h2⟩ := runs_le t (row.drop a) a
    rw [List.length_drop] at h1 h2
    refine ⟨fun k hk => ?_, by rw [List.length_cons]; omega⟩
    rcases List.mem_cons.mp hk with e | e
    · omega
    · have := h1 k e; omega
  · cases hd : row.drop a with
    | nil => simp [one]
    | cons c r =>
      have hl : a < row.length := by
        have := congrArg List.length hd
        rw [List.length_drop, List.length_cons] at this
        omega
      have e1 : one t a (c :: r) = if isIn t c = true then [a + 1] else [] := rfl
      rw [e1]
      split
      · refine ⟨fun k hk => ?_, by simp⟩
        have := List.mem_singleton.mp hk
        omega
      · simp
theorem mem_upN {k : Nat} {l : List Nat} : k ∈ upN l ↔ k ∈ l := by
  unfold upN
  rw [List.mem_map]
  constructor
  · rintro ⟨z, h1, h2⟩
    rw [mem_upI, List.mem_map] at h1
    obtain ⟨j, hj, rfl⟩ := h1
    have : j = k := by simpa using h2
    rw [← this]; exact hj
  · intro h
    exact ⟨(k : Int), (mem_upI _ _).mpr (List.mem_map.mpr ⟨k, h, rfl⟩), by simp⟩
theorem rise_len : ∀ (l : List Int) (a b : Int), (∀ k ∈ l, a ≤ k ∧ k < b) → l.Pairwise (· < ·) → (l.length : Int) ≤ max 0 (b - a)
  | [], a, b, _, _ => by simp; omega
  | x :: r, a, b, h, p => by
    obtain ⟨p1, p2⟩ := List.pairwise_cons.mp p
    have hx := h x List.mem_cons_self
    have ih := rise_len r (x + 1) b (fun k hk => ⟨by have := p1 k hk; omega, (h k (List.mem_cons_of_mem _ hk)).2⟩) p2
    rw [List.length_cons]
    omega
theorem upI_len {l : List Nat} {m : Nat} (h : ∀ k ∈ l, k ≤ m) : (upI (l.map fun k : Nat => (k : Int))).length ≤ m + 1 := by
  have := rise_len (upI (l.map fun k : Nat => (k : Int))) 0 (m + 1) (fun k hk => by
    rw [mem_upI, List.mem_map] at hk
    obtain ⟨j, hj, rfl⟩ := hk
    have := h j hj
    omega) (rise_upI _)
  omega
theorem upI_nat (l : List Nat) : upI (l.map fun k : Nat => (k : Int)) = (upN l).map fun k : Nat => (k : Int) := by
  unfold upN
  rw [List.map_map]
  have : ∀ z ∈ upI (l.map fun k : Nat => (k : Int)), ((fun k : Nat => (k : Int)) ∘ Int.toNat) z = z := fun z hz => by
    rw [mem_upI, List.mem_map] at hz
    obtain ⟨j, hj, rfl⟩ := hz
    simp
  have e2 : (upI (l.map fun k : Nat => (k : Int))).map id = (upI (l.map fun k : Nat => (k : Int))).map ((fun k : Nat => (k : Int)) ∘ Int.toNat) := List.map_congr_left fun z hz => (this z hz).symm
  rw [List.map_id] at e2
  exact e2
theorem places_le {row : List Nat} {items : List Item} {place : Nat} (hp : place ≤ row.length) : (∀ k ∈ placesM row items place, k ≤ row.length) ∧ (placesM row items place).length ≤ row.length + 1 := by
  unfold placesM
  suffices h : ∀ (f : List Nat), (∀ k ∈ f, k ≤ row.length) ∧ f.length ≤ row.length + 1 → (∀ k ∈ items.foldl (fun f t => upN (f.flatMap (adv row t))) f, k ≤ row.length) ∧ (items.foldl (fun f t => upN (f.flatMap (adv row t))) f).length ≤ row.length + 1 from
    h [place] ⟨by simpa using hp, by simp⟩
  induction items with
  | nil => exact fun f h => h
  | cons t r ih =>
    intro f h
    rw [List.foldl_cons]
    have h1 : ∀ k ∈ f.flatMap (adv row t), k ≤ row.length := fun k hk => by
      obtain ⟨a, ha, hk⟩ := List.mem_flatMap.mp hk
      exact (adv_le (h.1 a ha)).1 k hk
    refine ih _ ⟨fun k hk => h1 k (mem_upN.mp hk), ?_⟩
    have := upI_len h1
    unfold upN
    rwa [List.length_map]
theorem flat_adv_len {row : List Nat} {t : Item} : ∀ {f : List Nat}, (∀ k ∈ f, k ≤ row.length) → (f.flatMap (adv row t)).length ≤ f.length * (row.length + 1)
  | [], _ => by simp
  | a :: f, h => by
    have h1 := (adv_le (t := t) (h a List.mem_cons_self)).2
    have h2 := flat_adv_len (t := t) fun k hk => h k (List.mem_cons_of_mem _ hk)
    rw [List.flatMap_cons, List.length_append, List.length_cons, Nat.succ_mul]
    omega
def μ6 (m : Nat) (ρ : G.Env) : Nat := match ρ[6]? with
  | some (some (L.d (PyData.int k))) => m - k.toNat
  | _ => 0
theorem nl_enc (l : List Nat) : noListA (l.map encN) = true := by
  induction l with
  | nil => simp [noListA]
  | cons a r ih => simp [noListA, noList, encN, ih]
theorem encN_map (l : List Nat) : l.map encN = (l.map fun k : Nat => (k : Int)).map PyData.int := by rw [List.map_map]; rfl
theorem places_ok (row : List Nat) (items : List Item) (place n : Nat) (hr : row.length ≤ 200) (hp : place ≤ row.length) (hi : ∀ t ∈ items, okI t) (hl : items.length ≤ 1000) :
    Fn_places_on [.d (T row), .d (encIs items), .d (encN place)] n = .ok (.list ((placesM row items place).map encN)) n := by
  have zr : row.length ≤ sizeLine := size_ok (by omega)
  refine run_eq ?_
  unfold g_places_on
  refine sat_sq [some (.d (T row)), some (.d (encIs items)), some (.d (encN place)), some (.d (.list ([place].map encN))), none, none, none] n (by simp [size_ok, encN]) ?_
  refine sat_seq ?_
  simp only [e_sFor, e_gItems, e_cVar, List.getElem?_cons_succ, List.getElem?_cons_zero, Res.bind_ok, encIs, x_it_tup, Res.lift_some, ofR_ok]
  refine sat_for encI (fun pre ρ m => m = n ∧ ∃ x4 x5 x6, ρ = [some (.d (T row)), some (.d (encIs items)), some (.d (encN place)), some (.d (.list ((placesM row pre place).map encN))), x4, x5, x6]) items ⟨rfl, none, none, none, rfl⟩ ?_ ?_
  · rintro pre a post ρ m e ⟨rfl, x4, x5, x6, rfl⟩
    refine ⟨_, tgN_ok (by simp), ?_⟩
    simp only [List.set_cons_succ, List.set_cons_zero]
    have hoka : okI a := hi a (by rw [e]; simp)
    obtain ⟨f1, f2⟩ := places_le (items := pre) hp
    generalize hf : placesM row pre place = f at f1 f2 ⊢
    refine sat_sq [some (.d (T row)), some (.d (encIs items)), some (.d (encN place)), some (.d (.list (f.map encN))), some (.d (encI a)), some (.own []), x6] m (by simp [size_ok]) ?_
    refine sat_seq ?_
    simp only [e_sFor, e_gItems, e_cVar, List.getElem?_cons_succ, List.getElem?_cons_zero, Res.bind_ok, x_it_lst, Res.lift_some, ofR_ok]
    refine sat_for encN (fun pre2 ρ m' => m' = m ∧ ∃ x6, ρ = [some (.d (T row)), some (.d (encIs items)), some (.d (encN place)), some (.d (.list (f.map encN))), some (.d (encI a)), some (.own ((pre2.flatMap (adv row a)).map encN)), x6]) f ⟨rfl, x6, rfl⟩ ?_ ?_
    · rintro pre2 k post2 ρ m' e2 ⟨rfl, x6, rfl⟩
      refine ⟨_, tgN_ok (by simp), ?_⟩
      simp only [List.set_cons_succ, List.set_cons_zero]
      have hk : k ≤ row.length := f1 k (by rw [e2]; simp)
      have hpl : pre2.length + 1 ≤ f.length := by rw [e2]; simp
      have hP : (pre2.flatMap (adv row a)).length ≤ 200 * 201 := by
        have h1 := flat_adv_len (t := a) (f := pre2) (row := row) fun j hj => f1 j (by rw [e2]; simp [hj])
        have h2 : pre2.length * (row.length + 1) ≤ 200 * 201 := Nat.mul_le_mul (by omega) (by omega)
        omega
      generalize hPe : pre2.flatMap (adv row a) = Pf at hP
      have goalP : (pre2 ++ [k]).flatMap (adv row a) = Pf ++ adv row a k := by rw [List.flatMap_append, hPe]; simp
      rw [goalP]
      have hadv := (adv_le (t := a) hk).2
      have e1 : atI [T a.1, T (if a.2 = true then [42] else [49])] 1 = some (T (if a.2 = true then [42] else [49])) := rfl
      have zP : Pf.length < sizeLine := size_lt (by omega)
      have tst : ∀ (x5 : Option L) (j : Nat), j ≤ row.length → (bAnd (cB (c2 opLt (cVar 6) (cBt fLen (aVar 0 aNil)))) (cTru (cCall 2 Fn_is_in (aVar 4 (aCons (c2 opIx (cVar 0) (cVar 6)) aNil)))))
          [some (.d (T row)), some (.d (encIs items)), some (.d (encN place)), some (.d (.list (f.map encN))), some (.d (encI a)), x5, some (.d (encN j))] m' = .ok (match row.drop j with | [] => false | c :: _ => isIn a c) m' := by
        intro x5 j hj
        cases hd : row.drop j with
        | nil =>
          have hj2 : row.length ≤ j := by simpa using hd
          have hj3 : ¬ ((j : Int) < row.length) := by omega
          simp [encN, zr]
          omega
        | cons c r =>
          have hl2 : j < row.length := by
            have := congrArg List.length hd
            rw [List.length_drop, List.length_cons] at this
            omega
          have hc : row[j]? = some c := by
            have := congrArg List.head? hd
            rw [List.head?_drop] at this
            simpa using this
          have ea : atI row (j : Int) = some c := atI_nat hc
          simp [encN, zr, hl2, ea, isin_ok a c m' hoka]
      cases hs : a.2 with
      | true =>
        have eadv : adv row a k = k :: runs a k (row.drop k) := by unfold adv; rw [if_pos hs]
        refine sat_if true m' ?_ (fun _ => ?_) (fun h => by cases h)
        · have e3 : atI [T a.1, T [42]] 1 = some (T [42]) := rfl
          simp [encI, e3, hs, x_eq_T (a := [42]) (b := [42]) rfl rfl]
        refine sat_sq [some (.d (T row)), some (.d (encIs items)), some (.d (encN place)), some (.d (.list (f.map encN))), some (.d (encI a)), some (.own ((Pf ++ [k]).map encN)), some (.d (encN k))] m' (by simp [zP]) ?_
        refine sat_while (fun ρ m2 => m2 = m' ∧ ∃ j acc, j ≤ row.length ∧ acc ++ runs a j (row.drop j) = adv row a k ∧ ρ = [some (.d (T row)), some (.d (encIs items)), some (.d (encN place)), some (.d (.list (f.map encN))), some (.d (encI a)), some (.own ((Pf ++ acc).map encN)), some (.d (encN j))]) (μ6 row.length) ?_ ⟨rfl, k, [k], hk, eadv.symm, rfl⟩
        rintro ρ m2 ⟨rfl, j, acc, hj, hacc, rfl⟩
        refine ⟨_, m2, tst _ j hj, fun hb => ?_, fun hb => ?_⟩
        · have : runs a j (row.drop j) = [] := by
            cases hd : row.drop j with
            | nil => rfl
            | cons c r => rw [hd] at hb; rw [runs_cons, if_neg (by rw [show isIn a c = false from hb]; decide)]
          rw [this, List.append_nil] at hacc
          rw [hacc]
          exact ⟨rfl, _, rfl⟩
        · cases hd : row.drop j with
          | nil => rw [hd] at hb; cases hb
          | cons c r =>
            rw [hd] at hb
            have hl2 : j < row.length := by
              have := congrArg List.length hd
              rw [List.length_drop, List.length_cons] at this
              omega
            have hd2 : row.drop (j + 1) = r := by
              have := congrArg List.tail hd
              rwa [List.tail_drop] at this
            have hruns : runs a j (row.drop j) = (j + 1) :: runs a (j + 1) (row.drop (j + 1)) := by rw [hd, hd2, runs_cons, if_pos (show isIn a c = true from hb)]
            have hal : acc.length ≤ 201 := by
              have := congrArg List.length hacc
              rw [List.length_append] at this
              omega
            have zA : (Pf ++ acc).length < sizeLine := size_lt (by rw [List.length_append]; omega)
            rw [List.length_append] at zA
            refine sat_sq [some (.d (T row)), some (.d (encIs items)), some (.d (encN place)), some (.d (.list (f.map encN))), some (.d (encI a)), some (.own ((Pf ++ acc).map encN)), some (.d (encN (j + 1)))] m2 (by simp [encN]) ?_
            refine sat_to (ρ1 := [some (.d (T row)), some (.d (encIs items)), some (.d (encN place)), some (.d (.list (f.map encN))), some (.d (encI a)), some (.own ((Pf ++ (acc ++ [j + 1])).map encN)), some (.d (encN (j + 1)))]) (n1 := m2) (by simp [zA]) ?_
            refine ⟨⟨rfl, j + 1, acc ++ [j + 1], hl2, ?_, rfl⟩, ?_⟩
            · rw [← hacc, hruns, List.append_assoc]; rfl
            · show row.length - ((j + 1 : Nat) : Int).toNat < row.length - (j : Int).toNat
              omega
      | false =>
        have eadv : adv row a k = one a k (row.drop k) := by unfold adv; rw [if_neg (by simp [hs])]
        refine sat_if false m' ?_ (fun h => by cases h) (fun _ => ?_)
        · have e3 : atI [T a.1, T [49]] 1 = some (T [49]) := rfl
          simp [encI, e3, hs, x_eq_T (a := [49]) (b := [42]) rfl rfl]
        refine sat_if _ m' (tst _ k hk) (fun hb => ?_) (fun hb => ?_)
        · cases hd : row.drop k with
          | nil => rw [hd] at hb; cases hb
          | cons c r =>
            rw [hd] at hb
            have : adv row a k = [k + 1] := by rw [eadv, hd, one_cons, if_pos (show isIn a c = true from hb)]
            rw [this]
            exact sat_to (ρ1 := [some (.d (T row)), some (.d (encIs items)), some (.d (encN place)), some (.d (.list (f.map encN))), some (.d (encI a)), some (.own ((Pf ++ [k + 1]).map encN)), some (.d (encN k))]) (n1 := m') (by simp [zP, encN]) ⟨rfl, _, rfl⟩
        · have : adv row a k = [] := by
            rw [eadv]
            cases hd : row.drop k with
            | nil => rfl
            | cons c r => rw [hd] at hb; rw [one_cons, if_neg (by rw [show isIn a c = false from hb]; decide)]
          rw [this, List.append_nil]
          exact sat_to e_sNx ⟨rfl, _, rfl⟩
    · rintro ρ m' ⟨rfl, x6, rfl⟩
      have hF := flat_adv_len (t := a) f1
      have hF2 : f.length * (row.length + 1) ≤ 201 * 201 := Nat.mul_le_mul (by omega) (by omega)
      have hin : ∀ k ∈ f.flatMap (adv row a), k ≤ row.length := fun k hk => by
        obtain ⟨b, hb, hk⟩ := List.mem_flatMap.mp hk
        exact (adv_le (f1 b hb)).1 k hk
      have hU := upI_len hin
      have step : placesM row (pre ++ [a]) place = upN (f.flatMap (adv row a)) := by rw [← hf]; unfold placesM; simp
      have cond : (upI ((f.flatMap (adv row a)).map fun k : Nat => (k : Int))).length ≤ 1000 := by omega
      refine sat_to (ρ1 := [some (.d (T row)), some (.d (encIs items)), some (.d (encN place)), some (.d (.list ((placesM row (pre ++ [a]) place).map encN))), some (.d (encI a)), some (.own ((f.flatMap (adv row a)).map encN)), x6]) (n1 := m') ?_ ⟨rfl, _, _, _, rfl⟩
      rw [step]
      have eu : fUp (.list ((f.flatMap (adv row a)).map encN)) = some ((upN (f.flatMap (adv row a))).map encN) := by
        rw [encN_map, x_up, if_pos cond, upI_nat, ← encN_map]
      have nl := nl_enc (upN (f.flatMap (adv row a)))
      simp only [e_sSet, e_cF, e_borrowF, e_bor, List.getElem?_cons_succ, List.getElem?_cons_zero, e_cUp, e_cVar, List.set_cons_succ, List.set_cons_zero, Res.bind_ok, eu, Res.lift_some, nl, if_true, ofR_ok]
      simp
  · rintro ρ m ⟨rfl, x4, x5, x6, rfl⟩
    simp
end W

namespace W
open PySem PySem.Spec PyProof.Rows L2 G
/-! lists of counts compared -/
theorem layAll_N (l : List Nat) : PyData.canLayAll0 (l.map encN) = true := by
  induction l with
  | nil => simp [PyData.canLayAll0]
  | cons a r ih => simp [PyData.canLayAll0, PyData.canLay0, encN, ih]
theorem depthAll_N (l : List Nat) : PyData.depthAll (l.map encN) = 0 := by
  induction l with
  | nil => simp [PyData.depthAll]
  | cons a r ih => simp [PyData.depthAll, PyData.depth, encN, ih]
theorem shaped_lN (l : List Nat) : SeqAt.shaped (.list (l.map encN)) = true := by
  unfold SeqAt.shaped
  simp [PyData.canLay0, PyData.depth, layAll_N, depthAll_N]
theorem shaped_tN (l : List Nat) : SeqAt.shaped (.tuple (l.map encN)) = true := by
  unfold SeqAt.shaped
  simp [PyData.canLay0, PyData.depth, layAll_N, depthAll_N]
theorem eqvAll_N : ∀ (a b : List Nat), PyData.eqvAll (a.map encN) (b.map encN) = (a == b)
  | [], [] => by simp [PyData.eqvAll]
  | [], _ :: _ => by simp [PyData.eqvAll]
  | _ :: _, [] => by simp [PyData.eqvAll]
  | x :: xs, y :: ys => by
    simp only [List.map_cons, PyData.eqvAll, eqvAll_N xs ys]
    rw [Bool.eq_iff_iff]
    simp [encN, PyData.eqv]
    omega
theorem x_ne_lN {a b : List Nat} : opNe (.list (a.map encN)) (.list (b.map encN)) = some (.bool (!(a == b))) := by
  unfold opNe
  rw [if_pos ⟨shaped_lN a, shaped_lN b⟩]
  simp only [PyData.eqv, eqvAll_N]
theorem x_ne_tN {a b : List Nat} : opNe (.tuple (a.map encN)) (.tuple (b.map encN)) = some (.bool (!(a == b))) := by
  unfold opNe
  rw [if_pos ⟨shaped_tN a, shaped_tN b⟩]
  simp only [PyData.eqv, eqvAll_N]
/-! ### leads_on, leads_back -/
def leadsO (row : List Nat) (items : List Item) (place : Nat) : Bool := !(placesM row items place == [])
def leadsB (row : List Nat) (items : List Item) (place : Nat) : Bool := !(placesM (row.take place).reverse items.reverse 0 == [])
theorem leadsO_ok (row : List Nat) (items : List Item) (place n : Nat) (hr : row.length ≤ 200) (hp : place ≤ row.length) (hi : ∀ t ∈ items, okI t) (hl : items.length ≤ 1000) :
    Fn_leads_on [.d (T row), .d (encIs items), .d (encN place)] n = .ok (.bool (leadsO row items place)) n := by
  refine run_eq ?_
  unfold g_leads_on
  have h := places_ok row items place n hr hp hi hl
  have e := x_ne_lN (a := placesM row items place) (b := [])
  rw [List.map_nil] at e
  simp [h, e, size_ok, leadsO]
theorem leadsB_ok (row : List Nat) (items : List Item) (place n : Nat) (hr : row.length ≤ 200) (hp : place ≤ row.length) (hi : ∀ t ∈ items, okI t) (hl : items.length ≤ 1000) :
    Fn_leads_back [.d (T row), .d (encIs items), .d (encN place)] n = .ok (.bool (leadsB row items place)) n := by
  refine run_eq ?_
  unfold g_leads_back
  have h := places_ok (row.take place).reverse items.reverse 0 n (by rw [List.length_reverse, List.length_take]; omega) (Nat.zero_le _) (fun t ht => hi t (List.mem_reverse.mp ht)) (by rw [List.length_reverse]; exact hl)
  have e := x_ne_lN (a := placesM (row.take place).reverse items.reverse 0) (b := [])
  rw [List.map_nil] at e
  have z1 : row.length ≤ sizeLine := size_ok (by omega)
  have z2 : min place row.length ≤ sizeLine := size_ok (by omega)
  have e1 : encIs items.reverse = .tuple (items.map encI).reverse := by unfold encIs; rw [List.map_reverse]
  rw [e1] at h
  simp only [e_sRet, e_c2, e_cCall, e_aCons, e_c1, e_cSl, e_cVar, e_gNoPart, e_gPart, e_cC, e_aNil, List.getElem?_cons_succ, List.getElem?_cons_zero, Res.bind_ok, encN, x_part, Res.lift_some, x_sl_T, z1, if_true, cutL_take, x_rev_T, encIs, x_rev_tup, List.length_take, z2]
  have h' : Fn_places_on [.d (T (row.take place).reverse), .d (.tuple (items.map encI).reverse), .d (.int 0)] n = .ok (.list ((placesM (row.take place).reverse items.reverse 0).map encN)) n := h
  simp [h', e, size_ok, leadsB, z1, z2, cutL_take]
/-! ### rule_at -/
def fits (row : List Nat) (r : Rule) (place : Nat) : Bool := leadsB row r.1 place && leadsO row r.2.2 place
def ruleFrom (row : List Nat) (place : Nat) : Nat → List Rule → Option Nat
  | _, [] => none
  | i, r :: rs => if fits row r place = true then some i else ruleFrom row place (i + 1) rs
def ruleAt (row : List Nat) (rules : List Rule) (place : Nat) : Option Nat := ruleFrom row place 0 rules
theorem ruleFrom_cons (row : List Nat) (place i : Nat) (r : Rule) (rs : List Rule) : ruleFrom row place i (r :: rs) = if fits row r place = true then some i else ruleFrom row place (i + 1) rs := rfl
theorem ruleFrom_app (row : List Nat) (place : Nat) (b : List Rule) : ∀ (a : List Rule) (i : Nat), ruleFrom row place i (a ++ b) = (ruleFrom row place i a).or (ruleFrom row place (i + a.length) b)
  | [], i => by simp [ruleFrom]
  | r :: a, i => by
    rw [List.cons_append, ruleFrom_cons, ruleFrom_cons]
    split
    · rfl
    · rw [ruleFrom_app row place b a (i + 1), List.length_cons, show i + 1 + a.length = i + (a.length + 1) by omega]
theorem enum_zip (f : Rule → D) : ∀ (l : List Rule) (k : Nat), enumFrom0 k (l.map f) = (l.zipIdx k).map fun p => .tuple [encN p.2, f p.1]
  | [], _ => rfl
  | a :: r, k => by
    rw [List.map_cons, List.zipIdx_cons, List.map_cons, ← enum_zip f r (k + 1)]
    rfl
theorem rule_ok (row : List Nat) (rules : List Rule) (place n : Nat) (hr : row.length ≤ 200) (hp : place ≤ row.length) (hi : ∀ r ∈ rules, okR r) :
    Fn_rule_at [.d (T row), .d (encRs rules), .d (encN place)] n = .ok (encO (ruleAt row rules place)) n := by
  refine run_eq ?_
  unfold g_rule_at
  refine sat_seq ?_
  simp only [e_sFor, e_gEnum, e_aVar, e_aNil, List.getElem?_cons_succ, List.getElem?_cons_zero, List.map_cons, List.map_nil, List.cons_append, Res.bind_ok, e_asDs, e_dsCons, e_dsNil, Option.map_some, Res.lift_some, encRs, x_enum_t, ofR_ok, enum_zip]
  refine sat_for (fun p : Rule × Nat => (PyData.tuple [encN p.2, encR p.1] : D)) (fun pre ρ m => m = n ∧ ruleFrom row place 0 (pre.map (·.1)) = none ∧ ∃ x3 x4 x5 x6, ρ = [some (.d (T row)), some (.d (encRs rules)), some (.d (encN place)), x3, x4, x5, x6]) rules.zipIdx ⟨rfl, rfl, none, none, none, none, rfl⟩ ?_ ?_
  · rintro pre ⟨r, i⟩ post ρ m e ⟨rfl, hn, x3, x4, x5, x6, rfl⟩
    have hi0 : i = pre.length ∧ r ∈ rules := by
      have h1 : rules.zipIdx[pre.length]? = some (r, i) := by rw [e]; simp
      rw [List.getElem?_zipIdx] at h1
      cases hq : rules[pre.length]? with
      | none => rw [hq] at h1; cases h1
      | some q =>
        rw [hq] at h1
        have : (q, pre.length + 0) = (r, i) := by simpa [Nat.add_comm] using h1
        cases this
        exact ⟨rfl, List.mem_of_getElem? hq⟩
    obtain ⟨rfl, hmem⟩ := hi0
    obtain ⟨o1, o2, o3, o4⟩ := hi r hmem
    have hrules : rules = pre.map (·.1) ++ r :: post.map (·.1) := by
      have := congrArg (List.map (·.1)) e
      rw [List.zipIdx_map_fst] at this
      simpa using this
    refine ⟨[some (.d (T row)), some (.d (encRs rules)), some (.d (encN place)), some (.d (encN pre.length)), some (.d (encIs r.1)), some (.d (.bool r.2.1)), some (.d (encIs r.2.2))], by simp [encR], ?_⟩
    have b1 := leadsB_ok row r.1 place m hr hp o1 (by omega)
    have b2 := leadsO_ok row r.2.2 place m hr hp o2 (by omega)
    refine sat_if (fits row r place) m ?_ (fun h => ?_) (fun h => ?_)
    · unfold fits
      cases hb : leadsB row r.1 place with
      | true => rw [hb] at b1; simp [b1, b2]
      | false => rw [hb] at b1; simp [b1]
    · refine Out.Sat.rt (n := m) ?_
      refine ⟨?_, rfl⟩
      have : ruleAt row rules place = some pre.length := by
        unfold ruleAt
        rw [hrules, ruleFrom_app, hn, ruleFrom_cons, if_pos h]
        simp
      rw [this]
      rfl
    · refine sat_to e_sNx ⟨rfl, ?_, _, _, _, _, rfl⟩
      rw [List.map_append, ruleFrom_app, hn]
      show (none : Option Nat).or (ruleFrom row place _ [r]) = none
      rw [ruleFrom_cons, if_neg (by simp [h])]
      rfl
  · rintro ρ m ⟨rfl, hn, x3, x4, x5, x6, rfl⟩
    have : ruleAt row rules place = none := by
      rw [List.zipIdx_map_fst] at hn
      exact hn
    rw [this]
    simp [encO]
end W

namespace W
open PySem PySem.Spec PyProof.Rows L2 G
/-! ### is_cut_at -/
def isCut (row : List Nat) (rules : List Rule) (place : Nat) : Bool :=
  if place = 0 ∨ place = row.length then decide (0 < row.length) else match ruleAt row rules place with
    | none => true
    | some i => match rules[i]? with
      | some r => r.2.1
      | none => true
theorem ruleFrom_lt (row : List Nat) (place : Nat) : ∀ (rs : List Rule) (i k : Nat), ruleFrom row place i rs = some k → i ≤ k ∧ k < i + rs.length
  | [], i, k, h => by cases h
  | r :: rs, i, k, h => by
    rw [ruleFrom_cons] at h
    split at h
    · cases h; simp
    · have := ruleFrom_lt row place rs (i + 1) k h
      rw [List.length_cons]
      omega
theorem isN_n : isNoneD .none = true := rfl
theorem isN_i (i : Int) : isNoneD (.int i) = false := rfl
theorem iscut_ok (row : List Nat) (rules : List Rule) (place n : Nat) (hr : row.length ≤ 200) (hp : place ≤ row.length) (hi : ∀ r ∈ rules, okR r) :
    Fn_is_cut_at [.d (T row), .d (encRs rules), .d (encN place)] n = .ok (.bool (isCut row rules place)) n := by
  have zr : row.length ≤ sizeLine := size_ok (by omega)
  have ein : opIn (encN place) (.tuple [.int 0, .int row.length]) = some (.bool (decide (place = 0 ∨ place = row.length))) := by
    show (if flatD (.int (place : Int)) = true ∧ [PyData.int 0, PyData.int row.length].all flatD = true then some (PyData.bool ([PyData.int 0, PyData.int row.length].any fun z => PyData.eqv z (.int (place : Int)))) else none) = _
    rw [if_pos ⟨rfl, rfl⟩]
    congr 2
    rw [Bool.eq_iff_iff]
    simp [PyData.eqv]
    omega
  refine run_eq ?_
  unfold g_is_cut_at
  refine sat_seq ?_
  refine sat_if (decide (place = 0 ∨ place = row.length)) n (by simp [zr, size_ok, ein]) (fun h => ?_) (fun h => ?_)
  · have h' : place = 0 ∨ place = row.length := by simpa using h
    have hc : isCut row rules place = decide (0 < row.length) := by unfold isCut; rw [if_pos h']
    rw [hc]
    simp [zr]
  · have h' : ¬ (place = 0 ∨ place = row.length) := by simpa using h
    refine sat_to e_sNx ?_
    have hrule := rule_ok row rules place n hr hp hi
    refine sat_sq [some (.d (T row)), some (.d (encRs rules)), some (.d (encN place)), some (.d (encO (ruleAt row rules place)))] n (by simp [hrule]) ?_
    cases hq : ruleAt row rules place with
    | none =>
      have hc : isCut row rules place = true := by unfold isCut; rw [if_neg h', hq]
      rw [hc]
      simp [encO, opIsN, isN_n]
    | some i =>
      obtain ⟨_, hlt⟩ := ruleFrom_lt row place rules 0 i hq
      rw [Nat.zero_add] at hlt
      have hc : isCut row rules place = rules[i].2.1 := by
        unfold isCut
        rw [if_neg h', hq]
        simp only [List.getElem?_eq_getElem hlt]
      have e1 : atI (rules.map encR) (i : Int) = some (encR rules[i]) := atI_nat (by rw [List.getElem?_map, List.getElem?_eq_getElem hlt]; rfl)
      have e2 : atI [encIs rules[i].1, .bool rules[i].2.1, encIs rules[i].2.2] 1 = some (.bool rules[i].2.1) := rfl
      rw [hc]
      simp [encO, encN, opIsN, isN_n, isN_i, encRs, e1, encR, e2]
/-! ### kinds_of -/
def encK (p : Nat × Nat) : D := .tuple [T [p.1], T [p.2]]
def encKs (ks : List (Nat × Nat)) : D := .tuple (ks.map encK)
def keyN (c : Nat) : Key := .inr ⟨[c].toArray⟩
def pairK (p : Nat × Nat) : Key × D := (keyN p.1, T [p.2])
def table (ks : List (Nat × Nat)) : List (Key × D) := mergeD [] (ks.map pairK)
theorem pairs_K (ks : List (Nat × Nat)) : pairsD (ks.map encK) = some (ks.map pairK) := by
  induction ks with
  | nil => rfl
  | cons p r ih =>
    rw [List.map_cons, List.map_cons]
    show (keyD (T [p.1])).bind (fun k => (pairsD (r.map encK)).map ((k, T [p.2]) :: ·)) = _
    rw [ih]
    rfl
theorem dic_K (ks : List (Nat × Nat)) : fDic (encKs ks) = some (table ks) := by
  unfold fDic encKs
  simp only [pairs_K]
  rfl
theorem mem_putD {kvs : List (Key × D)} {k : Key} {v : D} {p : Key × D} (h : p ∈ putD kvs k v) : p ∈ kvs ∨ p.2 = v := by
  unfold putD at h
  split at h
  · obtain ⟨q, hq, rfl⟩ := List.mem_map.mp h
    split
    · exact .inr rfl
    · exact .inl hq
  · rcases List.mem_append.mp h with h | h
    · exact .inl h
    · rw [List.mem_singleton.mp h]; exact .inr rfl
theorem mem_mergeD : ∀ (more kvs : List (Key × D)) {p : Key × D}, p ∈ mergeD kvs more → p ∈ kvs ∨ ∃ q ∈ more, p.2 = q.2
  | [], kvs, p, h => .inl h
  | m :: more, kvs, p, h => by
    rcases mem_mergeD more (putD kvs m.1 m.2) h with h | ⟨q, h1, h2⟩
    · rcases mem_putD h with h | h
      · exact .inl h
      · exact .inr ⟨m, List.mem_cons_self, h⟩
    · exact .inr ⟨q, List.mem_cons_of_mem _ h1, h2⟩
theorem look_mem {kvs : List (Key × D)} {k : Key} {d : D} (h : lookD kvs k = some d) : ∃ p ∈ kvs, p.2 = d := by
  unfold lookD at h
  cases hq : kvs.find? fun kv => decide (kv.1 = k) with
  | none => rw [hq] at h; cases h
  | some p =>
    rw [hq] at h
    exact ⟨p, List.mem_of_find?_eq_some hq, Option.some.inj h⟩
theorem kd_ex (ks : List (Nat × Nat)) (c : Nat) : ∃ k, (lookD (table ks) (keyN c)).getD (T [79]) = T [k] ∧ (k = 79 ∨ k ∈ ks.map (·.2)) := by
  cases h : lookD (table ks) (keyN c) with
  | none => exact ⟨79, rfl, .inl rfl⟩
  | some d =>
    obtain ⟨p, hp, rfl⟩ := look_mem h
    rcases mem_mergeD _ _ hp with z | ⟨q, hq, e⟩
    · cases z
    · obtain ⟨r, hr, rfl⟩ := List.mem_map.mp hq
      exact ⟨r.2, e, .inr (List.mem_map.mpr ⟨r, hr, rfl⟩)⟩
noncomputable def kd (ks : List (Nat × Nat)) (c : Nat) : Nat := (kd_ex ks c).choose
theorem kd_is (ks : List (Nat × Nat)) (c : Nat) : (lookD (table ks) (keyN c)).getD (T [79]) = T [kd ks c] := (kd_ex ks c).choose_spec.1
theorem kd_in (ks : List (Nat × Nat)) (c : Nat) : kd ks c = 79 ∨ kd ks c ∈ ks.map (·.2) := (kd_ex ks c).choose_spec.2
noncomputable def rowM (ks : List (Nat × Nat)) (text : List Nat) : List Nat := text.map (kd ks)
theorem rowM_len (ks : List (Nat × Nat)) (text : List Nat) : (rowM ks text).length = text.length := List.length_map _
theorem kinds_ok (ks : List (Nat × Nat)) (text : List Nat) (n : Nat) (hl : text.length ≤ 100000) : Fn_kinds_of [.d (encKs ks), .d (T text)] n = .ok (T (rowM ks text)) n := by
  refine run_eq ?_
  unfold g_kinds_of
  refine sat_sq [some (.d (encKs ks)), some (.d (T text)), some (.dic (table ks)), none] n (by simp [dic_K]) ?_
  have lc : cLc [3] (tgN 3) (gItems (cVar 1)) bYes (cDGet 2 (cVar 3) (cC (T [79]))) [some (.d (encKs ks)), some (.d (T text)), some (.dic (table ks)), none] n = .ok (text.map fun c => T [kd ks c]) n :=
    e_lcm (fun c => T [c]) _ text rfl (by omega) fun c hc => ⟨[some (.d (encKs ks)), some (.d (T text)), some (.dic (table ks)), some (.d (T [c]))], rfl, by
      have := kd_is ks c
      unfold keyN at this
      simp [this]⟩
  have e1 : (text.map fun c => T [kd ks c]) = (text.map fun c => [kd ks c]).map T := by rw [List.map_map]; rfl
  rw [e1] at lc
  have j : mJoin (T []) (.list ((text.map fun c => [kd ks c]).map T)) = some (T (rowM ks text)) := by
    rw [x_join_l (by rw [sum_flat, ones_flat, List.length_map]; omega), ones_flat]
    rfl
  simp only [e_sRet, e_cM1, e_cC, Res.bind_ok, onT_T, e_cF, lc, j, Res.lift_some, ofR_ok]
  exact .rt ⟨rfl, rfl⟩
/-! ### cuts, why -/
def cutsM (row : List Nat) (rules : List Rule) : List Nat := (List.range (row.length + 1)).filter (isCut row rules)
end W

namespace W
open PySem PySem.Spec PyProof.Rows L2 G
theorem cuts_ok (ks : List (Nat × Nat)) (rules : List Rule) (text : List Nat) (n : Nat) (hr : text.length ≤ 200) (hi : ∀ r ∈ rules, okR r) :
    Fn_cuts [.d (encKs ks), .d (encRs rules), .d (T text)] n = .ok (.tuple ((cutsM (rowM ks text) rules).map encN)) n := by
  have zr : text.length ≤ sizeLine := size_ok (by omega)
  have hk := kinds_ok ks text n (by omega)
  have hrl := rowM_len ks text
  generalize hrow : rowM ks text = row at hk hrl ⊢
  refine run_eq ?_
  unfold g_cuts
  refine sat_sq [some (.d (encKs ks)), some (.d (encRs rules)), some (.d (T text)), some (.d (T row)), none] n (by simp [hk]) ?_
  have lc : cLc [4] (tgN 4) (gRng fRng1 (aCons (c2 opAdd (cBt fLen (aVar 2 aNil)) (cC (.int 1))) aNil)) (cTru (cCall 3 Fn_is_cut_at (aVar 3 (aVar 1 (aVar 4 aNil))))) (cVar 4) [some (.d (encKs ks)), some (.d (encRs rules)), some (.d (T text)), some (.d (T row)), none] n
      = .ok (((List.range (row.length + 1)).filter (isCut row rules)).map encN) n := by
    refine e_lcf (fun i : Nat => PyData.int (0 + (i : Int))) _ _ (List.range (row.length + 1)) ?_ (by rw [List.length_range]; omega) fun i hi2 => ?_
    · exact e_rng1 (k := row.length + 1) (by simp [zr, hrl]) (by omega)
    · have hi3 : i < row.length + 1 := List.mem_range.mp hi2
      have e0 : (0 : Int) + (i : Int) = (i : Int) := by omega
      have hc := iscut_ok row rules i n (by omega) (by omega) hi
      refine ⟨[some (.d (encKs ks)), some (.d (encRs rules)), some (.d (T text)), some (.d (T row)), some (.d (encN i))], ?_, ?_, fun _ => ?_⟩
      · rw [e0]; rfl
      · simp [hc]
      · simp
  simp only [e_sRet, e_cBt, e_aCons, e_cF, lc, e_aNil, Res.bind_ok, e_asDs, e_dsCons, e_dsNil, Res.lift_some, Option.map_some, x_tup_lst, ofR_ok]
  exact .rt ⟨rfl, rfl⟩
end W

/-! need, is_cut, next_cut, last_cut -/
namespace W
open PySem PySem.Spec PyProof.Rows L2 G
theorem need_ok (text : List Nat) (p n : Nat) (hl : text.length ≤ 100000) (hp : p ≤ text.length) : Fn_need [.d (T text), .d (encN p)] n = .ok .none n := by
  have zr : text.length ≤ sizeLine := size_ok (by omega)
  have h1 : (0 : Int) ≤ (p : Int) := by omega
  have h2 : (p : Int) ≤ (text.length : Int) := by omega
  have e : g_need [some (.d (T text)), some (.d (encN p))] n = .nx [some (.d (T text)), some (.d (encN p))] n := by
    unfold g_need
    rw [e_sIf]
    simp only [e_bNot, e_cB, e_cCh, e_cC, e_cVar, e_cBt, e_aVar, e_aNil, List.getElem?_cons_succ, List.getElem?_cons_zero, Res.bind_ok, encN, x_le, Res.lift_some, e_asB, h1, decide_true, if_true, e_asDs, e_dsCons, e_dsNil, Option.map_some, x_len_T, zr, h2]
    rfl
  have e' : g_need ([L.d (T text), L.d (encN p)].map some ++ List.replicate (2 - [L.d (T text), L.d (encN p)].length) none) n = .nx [some (.d (T text)), some (.d (encN p))] n := e
  unfold Fn_need runF
  rw [e']
theorem iscutK_ok (ks : List (Nat × Nat)) (rules : List Rule) (text : List Nat) (p n : Nat) (hl : text.length ≤ 200) (hp : p ≤ text.length) (hi : ∀ r ∈ rules, okR r) :
    Fn_is_cut [.d (encKs ks), .d (encRs rules), .d (T text), .d (encN p)] n = .ok (.bool (isCut (rowM ks text) rules p)) n := by
  refine run_eq ?_
  unfold g_is_cut
  have hrl := rowM_len ks text
  have h1 := need_ok text p n (by omega) hp
  have h2 := kinds_ok ks text n (by omega)
  have h3 := iscut_ok (rowM ks text) rules p n (by omega) (by omega) hi
  refine sat_sq [some (.d (encKs ks)), some (.d (encRs rules)), some (.d (T text)), some (.d (encN p))] n (by simp [h1]) ?_
  simp [h2, h3]
def NextIs (row : List Nat) (rules : List Rule) (p : Nat) (o : Option Nat) : Prop := (o = none ∧ ∀ q, p < q → q ≤ row.length → isCut row rules q = false) ∨
  ∃ q, o = some q ∧ p < q ∧ q ≤ row.length ∧ isCut row rules q = true ∧ ∀ r, p < r → r < q → isCut row rules r = false
def LastIs (row : List Nat) (rules : List Rule) (p : Nat) (o : Option Nat) : Prop := (o = none ∧ ∀ q, q < p → isCut row rules q = false) ∨
  ∃ q, o = some q ∧ q < p ∧ isCut row rules q = true ∧ ∀ r, q < r → r < p → isCut row rules r = false
theorem next_ok (ks : List (Nat × Nat)) (rules : List Rule) (text : List Nat) (p n : Nat) (hl : text.length ≤ 200) (hp : p ≤ text.length) (hi : ∀ r ∈ rules, okR r) :
    ∃ o, Fn_next_cut [.d (encKs ks), .d (encRs rules), .d (T text), .d (encN p)] n = .ok (encO o) n ∧ NextIs (rowM ks text) rules p o := by
  have zr : text.length ≤ sizeLine := size_ok (by omega)
  have hrl := rowM_len ks text
  have h1 := need_ok text p n (by omega) hp
  have h2 := kinds_ok ks text n (by omega)
  generalize rowM ks text = row at hrl h2 ⊢
  suffices h : ∃ v n', Fn_next_cut [.d (encKs ks), .d (encRs rules), .d (T text), .d (encN p)] n = .ok v n' ∧ n' = n ∧ ∃ o, v = encO o ∧ NextIs row rules p o by
    obtain ⟨v, n', e, rfl, o, rfl, h⟩ := h
    exact ⟨o, e, h⟩
  refine run_ex ?_
  unfold g_next_cut
  refine sat_sq [some (.d (encKs ks)), some (.d (encRs rules)), some (.d (T text)), some (.d (encN p)), none, none] n (by simp [h1]) ?_
  refine sat_sq [some (.d (encKs ks)), some (.d (encRs rules)), some (.d (T text)), some (.d (encN p)), some (.d (T row)), none] n (by simp [h2]) ?_
  refine sat_seq ?_
  have er : gRng fRng2 (aCons (c2 opAdd (cVar 3) (cC (.int 1))) (aCons (c2 opAdd (cBt fLen (aVar 2 aNil)) (cC (.int 1))) aNil)) [some (.d (encKs ks)), some (.d (encRs rules)), some (.d (T text)), some (.d (encN p)), some (.d (T row)), none] n = .ok (rngL ((p : Int) + 1) (((text.length + 1 : Nat) : Int) - ((p : Int) + 1)).toNat) n :=
    e_rng2 (n1 := n) (k := text.length + 1) (by simp [encN]) (by simp [zr]) (by omega) (by omega) (by omega)
  have ek : (((text.length + 1 : Nat) : Int) - ((p : Int) + 1)).toNat = text.length - p := by omega
  rw [ek] at er
  simp only [e_sFor, er, ofR_ok]
  refine sat_rng (fun j ρ m => m = n ∧ (∀ q, p < q → q < p + 1 + j → isCut row rules q = false) ∧ ∃ x5, ρ = [some (.d (encKs ks)), some (.d (encRs rules)), some (.d (T text)), some (.d (encN p)), some (.d (T row)), x5]) ((p : Int) + 1) (text.length - p) ⟨rfl, fun q a b => by omega, none, rfl⟩ ?_ ?_
  · rintro j ρ m hj ⟨rfl, hn, x5, rfl⟩
    have e0 : (p : Int) + 1 + (j : Int) = ((p + 1 + j : Nat) : Int) := by omega
    refine ⟨[some (.d (encKs ks)), some (.d (encRs rules)), some (.d (T text)), some (.d (encN p)), some (.d (T row)), some (.d (encN (p + 1 + j)))], by rw [e0]; rfl, ?_⟩
    have h3 := iscut_ok row rules (p + 1 + j) m (by omega) (by omega) hi
    refine sat_if (isCut row rules (p + 1 + j)) m (by simp [h3]) (fun h => ?_) (fun h => ?_)
    · simp only [e_sRet, e_cVar, List.getElem?_cons_succ, List.getElem?_cons_zero, ofR_ok]
      exact .rt ⟨rfl, some (p + 1 + j), rfl, .inr ⟨_, rfl, by omega, by omega, h, fun r a b => hn r a b⟩⟩
    · refine sat_to e_sNx ⟨rfl, fun q a b => ?_, _, rfl⟩
      by_cases hq : q = p + 1 + j
      · rw [hq]; exact h
      · exact hn q a (by omega)
  · rintro ρ m ⟨rfl, hn, x5, rfl⟩
    simp only [e_sRet, e_cC, ofR_ok]
    exact .rt ⟨rfl, none, rfl, .inl ⟨rfl, fun q a b => hn q a (by omega)⟩⟩
/-- over a downward range, by the number of turns done -/
theorem sat_down {N B C : G.Env → Nat → Prop} {R : D → Nat → Prop} {ρ : G.Env} {n : Nat} {tg : D → G.Env → Option G.Env} {body : MS} (I : Nat → G.Env → Nat → Prop) (lo : Int) (k : Nat) (h0 : I 0 ρ n)
    (hs : ∀ i ρ n, i < k → I i ρ n → ∃ ρ1, tg (.int (lo + (i : Int) * (-1))) ρ = some ρ1 ∧ (body ρ1 n).Sat (I (i + 1)) R N (I (i + 1))) (hN : ∀ ρ n, I k ρ n → N ρ n) : (forL tg body (downL lo k) ρ n).Sat N R B C := by
  refine sat_for (fun i : Nat => PyData.int (lo + ((i : Nat) : Int) * (-1))) (fun pre ρ n => I pre.length ρ n) (List.range k) h0 (fun pre a post ρ n e h => ?_) (fun ρ n h => hN ρ n (by simpa using h))
  have hl : pre.length < k := by
    have := congrArg List.length e
    simp at this
    omega
  have ha : a = pre.length := by
    have h1 : (List.range k)[pre.length]? = some a := by rw [e]; simp
    rw [List.getElem?_range hl] at h1
    exact (Option.some.inj h1).symm
  subst ha
  obtain ⟨ρ1, e1, h1⟩ := hs _ ρ n hl h
  exact ⟨ρ1, e1, by simpa using h1⟩
theorem last_ok (ks : List (Nat × Nat)) (rules : List Rule) (text : List Nat) (p n : Nat) (hl : text.length ≤ 200) (hp : p ≤ text.length) (hi : ∀ r ∈ rules, okR r) :
    ∃ o, Fn_last_cut [.d (encKs ks), .d (encRs rules), .d (T text), .d (encN p)] n = .ok (encO o) n ∧ LastIs (rowM ks text) rules p o := by
  have hrl := rowM_len ks text
  have h1 := need_ok text p n (by omega) hp
  have h2 := kinds_ok ks text n (by omega)
  generalize rowM ks text = row at hrl h2 ⊢
  suffices h : ∃ v n', Fn_last_cut [.d (encKs ks), .d (encRs rules), .d (T text), .d (encN p)] n = .ok v n' ∧ n' = n ∧ ∃ o, v = encO o ∧ LastIs row rules p o by
    obtain ⟨v, n', e, rfl, o, rfl, h⟩ := h
    exact ⟨o, e, h⟩
  refine run_ex ?_
  unfold g_last_cut
  refine sat_sq [some (.d (encKs ks)), some (.d (encRs rules)), some (.d (T text)), some (.d (encN p)), none, none] n (by simp [h1]) ?_
  refine sat_sq [some (.d (encKs ks)), some (.d (encRs rules)), some (.d (T text)), some (.d (encN p)), some (.d (T row)), none] n (by simp [h2]) ?_
  refine sat_seq ?_
  have s1 : small62 ((p : Int) - 1) = true := small_int (by omega) (by omega)
  have s2 : small62 (-1) = true := small_int (by omega) (by omega)
  have er : gRng fRng3 (aCons (c2 opSub (cVar 3) (cC (.int 1))) (aCons (c1 opNeg (cC (.int 1))) (aCons (c1 opNeg (cC (.int 1))) aNil))) [some (.d (encKs ks)), some (.d (encRs rules)), some (.d (T text)), some (.d (encN p)), some (.d (T row)), none] n = .ok (downL ((p : Int) - 1) p) n := by
    have e3 : fRng3 [.int ((p : Int) - 1), .int (-1), .int (-1)] = some (downL ((p : Int) - 1) p) := by
      show (if (-1 : Int) = -1 ∧ small62 ((p : Int) - 1) = true ∧ small62 (-1) = true then some (downL ((p : Int) - 1) ((p : Int) - 1 - (-1)).toNat) else none) = _
      rw [if_pos ⟨rfl, s1, s2⟩, show ((p : Int) - 1 - (-1)).toNat = p by omega]
    simp only [e_gRng, e_aCons, e_c2, e_c1, e_cVar, e_cC, e_aNil, List.getElem?_cons_succ, List.getElem?_cons_zero, Res.bind_ok, encN, x_sub, x_neg, Res.lift_some, e_asDs, e_dsCons, e_dsNil, Option.map_some, e3]
  simp only [e_sFor, er, ofR_ok]
  refine sat_down (fun j ρ m => m = n ∧ (∀ q, p ≤ q + j → q < p → isCut row rules q = false) ∧ ∃ x5, ρ = [some (.d (encKs ks)), some (.d (encRs rules)), some (.d (T text)), some (.d (encN p)), some (.d (T row)), x5]) ((p : Int) - 1) p ⟨rfl, fun q a b => by omega, none, rfl⟩ ?_ ?_
  · rintro j ρ m hj ⟨rfl, hn, x5, rfl⟩
    have e0 : (p : Int) - 1 + (j : Int) * (-1) = ((p - 1 - j : Nat) : Int) := by omega
    refine ⟨[some (.d (encKs ks)), some (.d (encRs rules)), some (.d (T text)), some (.d (encN p)), some (.d (T row)), some (.d (encN (p - 1 - j)))], by rw [e0]; rfl, ?_⟩
    have h3 := iscut_ok row rules (p - 1 - j) m (by omega) (by omega) hi
    refine sat_if (isCut row rules (p - 1 - j)) m (by simp [h3]) (fun h => ?_) (fun h => ?_)
    · simp only [e_sRet, e_cVar, List.getElem?_cons_succ, List.getElem?_cons_zero, ofR_ok]
      exact .rt ⟨rfl, some (p - 1 - j), rfl, .inr ⟨_, rfl, by omega, h, fun r a b => hn r (by omega) b⟩⟩
    · refine sat_to e_sNx ⟨rfl, fun q a b => ?_, _, rfl⟩
      by_cases hq : q = p - 1 - j
      · rw [hq]; exact h
      · exact hn q (by omega) b
  · rintro ρ m ⟨rfl, hn, x5, rfl⟩
    simp only [e_sRet, e_cC, ofR_ok]
    exact .rt ⟨rfl, none, rfl, .inl ⟨rfl, fun q a => hn q (by omega) a⟩⟩
end W

/-! the cursor by hand: text, place, stretch, stand, step -/
namespace W
open PySem PySem.Spec PyProof.Rows L2 G
abbrev St := List Nat × Nat × Option Nat
def encS (s : St) : D := .tuple [T s.1, encN s.2.1, encO s.2.2]
def curQ (ks : List (Nat × Nat)) (rs ws : List Rule) (s : St) (b l : List St) : CurS := ⟨encKs ks, encRs rs, encRs ws, encS s, b.map encS, l.map encS⟩
theorem e_cFld {q : CurS} {n i : Nat} {f : CurS → D} {ρ : G.Env} (hq : cq n = some q) (h : ρ[i]? = some (some .cur)) : cFld i f ρ n = .ok (f q) n := by
  unfold cFld; rw [h, hq]
theorem e_aCur {q : CurS} {n i : Nat} {g : M (List L)} {ρ : G.Env} (hq : cq n = some q) (h : ρ[i]? = some (some .cur)) : aCur i g ρ n = (g ρ n).bind fun b n2 => .ok (.cur :: b) n2 := by
  unfold aCur; rw [h, hq]
theorem e_sNow {i n n1 : Nat} {g : M D} {d : D} {q : CurS} {ρ : G.Env} (e : g ρ n = .ok d n1) (hq : cq n1 = some q) (h : ρ[i]? = some (some .cur)) (nl : noList d = true) : sNow i g ρ n = .nx ρ (cset n1 { q with now := d }) := by
  unfold sNow
  rw [e]
  show (match ρ[i]? with | some (some .cur) => _ | _ => _ : Out) = _
  rw [h]
  show (match cq n1 with | some q => _ | none => _ : Out) = _
  rw [hq]
  show (if noList d = true then _ else _ : Out) = _
  rw [if_pos nl]
theorem run_nx {m : Nat} {g : MS} {ls : List L} {ρ0 : G.Env} {n n' : Nat} (e : ls.map some ++ List.replicate (m - ls.length) none = ρ0) (h : (g ρ0 n).Sat (fun _ k => k = n') (fun _ _ => False) no2 no2) : runF m g ls n = .ok .none n' := by
  subst e
  unfold runF
  cases q : g (ls.map some ++ List.replicate (m - ls.length) none) n with
  | nx ρ n1 => rw [q] at h; have := sat_nx.mp h; subst this; rfl
  | rt => rw [q] at h; exact (sat_rt.mp h).elim
  | bk => rw [q] at h; exact (sat_bk.mp h).elim
  | ct => rw [q] at h; exact (sat_ct.mp h).elim
  | ex => rw [q] at h; exact (sat_exc.mp h).elim
  | bad => rw [q] at h; exact (sat_bad.mp h).elim
theorem nl_T (l : List Nat) : noList (T l) = true := rfl
theorem nl_S (s : St) : noList (encS s) = true := by
  obtain ⟨t, p, mk⟩ := s
  cases mk <;> simp [encS, encO, encN, noList, noListA, T]
theorem ix0 (s : St) : opIx (encS s) (.int 0) = some (T s.1) := rfl
theorem ix1 (s : St) : opIx (encS s) (.int 1) = some (encN s.2.1) := rfl
theorem now_curQ (ks : List (Nat × Nat)) (rs ws : List Rule) (s : St) (b l : List St) : (curQ ks rs ws s b l).now = encS s := rfl
theorem x_min2 (i j : Nat) : fMin2 [encN i, encN j] = some (encN (min i j)) := by
  show some (PyData.int (if (j : Int) < (i : Int) then (j : Int) else (i : Int))) = some (PyData.int ((min i j : Nat) : Int))
  split
  · rw [Nat.min_eq_right (by omega)]
  · rw [Nat.min_eq_left (by omega)]
theorem x_max2 (i j : Nat) : fMax2 [encN i, encN j] = some (encN (max i j)) := by
  show some (PyData.int (if (j : Int) > (i : Int) then (j : Int) else (i : Int))) = some (PyData.int ((max i j : Nat) : Int))
  split
  · rw [Nat.max_eq_right (by omega)]
  · rw [Nat.max_eq_left (by omega)]
variable {ks : List (Nat × Nat)} {rs ws : List Rule} {s : St} {b l : List St} {n : Nat}
theorem textC (hq : cq n = some (curQ ks rs ws s b l)) : Fn_Cursor_text [.cur] n = .ok (T s.1) n := by
  refine run_to rfl ?_
  unfold g_Cursor_text
  exact sret (d := T s.1) (n1 := n) (by simp [e_cFld hq, now_curQ, ix0, ix1]) ⟨rfl, rfl⟩
theorem placeC (hq : cq n = some (curQ ks rs ws s b l)) : Fn_Cursor_place [.cur] n = .ok (encN s.2.1) n := by
  refine run_to rfl ?_
  unfold g_Cursor_place
  exact sret (d := encN s.2.1) (n1 := n) (by simp [e_cFld hq, now_curQ, ix0, ix1]) ⟨rfl, rfl⟩
/-- from, to -/
def strM (s : St) : Option (Nat × Nat) := match s.2.2 with
  | none => none
  | some m => if m = s.2.1 then none else some (min m s.2.1, max m s.2.1)
def encP : Option (Nat × Nat) → D
  | none => .none
  | some p => .tuple [encN p.1, encN p.2]
theorem stretchC (hq : cq n = some (curQ ks rs ws s b l)) : Fn_Cursor_stretch [.cur] n = .ok (encP (strM s)) n := by
  obtain ⟨t, p, mk⟩ := s
  refine run_to rfl ?_
  unfold g_Cursor_stretch
  refine sq (ρ1 := [some .cur, some (.d (T t)), some (.d (encN p)), some (.d (encO mk))]) (n1 := n) (by simp [e_cFld hq, curQ, encS]) ?_
  cases mk with
  | none =>
    refine sat_seq (sifT (n1 := n) (by simp [encO, opIsN, isN_n]) ?_)
    exact sret (d := .none) (n1 := n) (by simp) ⟨rfl, rfl⟩
  | some m =>
    by_cases h : m = p
    · refine sat_seq (sifT (n1 := n) (by simp [encO, encN, h, opIsN, isN_n, isN_i]) ?_)
      exact sret (d := .none) (n1 := n) (by simp) ⟨by simp [strM, h, encP], rfl⟩
    · refine sno (n1 := n) (by simp [encO, encN, opIsN, isN_n, isN_i]; omega) ?_
      refine sret (d := .tuple [encN (min m p), encN (max m p)]) (n1 := n) ?_ ⟨by simp [strM, h, encP], rfl⟩
      simp [encO, x_min2, x_max2]
def standM (s : St) (place : Nat) (held : Bool) : St := (s.1, place, if held = true then some (s.2.2.getD s.2.1) else none)
theorem standC (hq : cq n = some (curQ ks rs ws s b l)) (place : Nat) (held : Bool) : Fn_Cursor_stand [.cur, .d (encN place), .d (.bool held)] n = .ok .none (cset n (curQ ks rs ws (standM s place held) b l)) := by
  obtain ⟨t, p, mk⟩ := s
  have fin : ∀ mk' : Option Nat, (sNow 0 (cTup (aVar 3 (aVar 1 (aVar 5 aNil)))) [some .cur, some (.d (encN place)), some (.d (.bool held)), some (.d (T t)), some (.d (encN p)), some (.d (encO mk'))] n).Sat
      (fun _ n' => n' = cset n (curQ ks rs ws (t, place, mk') b l)) (fun _ _ => False) no2 no2 := fun mk' => by
    rw [e_sNow (d := encS (t, place, mk')) (by simp [encS]) hq rfl (nl_S _)]
    exact .nx rfl
  refine run_nx rfl ?_
  unfold g_Cursor_stand
  refine sq (ρ1 := [some .cur, some (.d (encN place)), some (.d (.bool held)), some (.d (T t)), some (.d (encN p)), some (.d (encO mk))]) (n1 := n) (by simp [e_cFld hq, curQ, encS]) ?_
  refine sat_seq ?_
  cases held with
  | false =>
    refine sifT (n1 := n) (by simp) ?_
    exact so (ρ1 := [some .cur, some (.d (encN place)), some (.d (.bool false)), some (.d (T t)), some (.d (encN p)), some (.d (encO none))]) (n1 := n) (by simp [encO]) (fin none)
  | true =>
    refine sifF (n1 := n) (by simp) ?_
    cases mk with
    | none =>
      refine sifT (n1 := n) (by simp [encO, opIsN, isN_n]) ?_
      exact so (ρ1 := [some .cur, some (.d (encN place)), some (.d (.bool true)), some (.d (T t)), some (.d (encN p)), some (.d (encO (some p)))]) (n1 := n) (by simp [encO]) (fin (some p))
    | some m =>
      refine sifF (n1 := n) (by simp [encO, encN, opIsN, isN_n, isN_i]) ?_
      exact so (ρ1 := [some .cur, some (.d (encN place)), some (.d (.bool true)), some (.d (T t)), some (.d (encN p)), some (.d (encO (some m)))]) (n1 := n) (by simp) (fin (some m))
/-! ### next, last -/
def nextM (row : List Nat) (rules : List Rule) (p : Nat) : Option Nat := (List.range (row.length + 1)).find? fun q => decide (p < q) && isCut row rules q
theorem next_uniq {row : List Nat} {rules : List Rule} {p : Nat} {o o' : Option Nat} (h : NextIs row rules p o) (h' : NextIs row rules p o') : o = o' := by
  rcases h with ⟨rfl, h⟩ | ⟨q, rfl, h1, h2, h3, h4⟩
  · rcases h' with ⟨rfl, _⟩ | ⟨q', rfl, k1, k2, k3, _⟩
    · rfl
    · rw [h q' k1 k2] at k3; cases k3
  · rcases h' with ⟨rfl, k⟩ | ⟨q', rfl, k1, k2, k3, k4⟩
    · rw [k q h1 h2] at h3; cases h3
    · rcases Nat.lt_trichotomy q q' with z | z | z
      · rw [k4 q h1 z] at h3; cases h3
      · rw [z]
      · rw [h4 q' k1 z] at k3; cases k3
theorem last_uniq {row : List Nat} {rules : List Rule} {p : Nat} {o o' : Option Nat} (h : LastIs row rules p o) (h' : LastIs row rules p o') : o = o' := by
  rcases h with ⟨rfl, h⟩ | ⟨q, rfl, h1, h3, h4⟩
  · rcases h' with ⟨rfl, _⟩ | ⟨q', rfl, k1, k3, _⟩
    · rfl
    · rw [h q' k1] at k3; cases k3
  · rcases h' with ⟨rfl, k⟩ | ⟨q', rfl, k1, k3, k4⟩
    · rw [k q h1] at h3; cases h3
    · rcases Nat.lt_trichotomy q q' with z | z | z
      · rw [h4 q' z k1] at k3; cases k3
      · rw [z]
      · rw [k4 q z h1] at h3; cases h3
theorem next_is (row : List Nat) (rules : List Rule) (p : Nat) : NextIs row rules p (nextM row rules p) := by
  unfold nextM
  cases e : (List.range (row.length + 1)).find? fun q => decide (p < q) && isCut row rules q with
  | none =>
    refine .inl ⟨rfl, fun q h1 h2 => ?_⟩
    have := List.find?_eq_none.mp e q (List.mem_range.mpr (by omega))
    simpa [h1] using this
  | some q =>
    obtain ⟨h1, i, hi, h2, h3⟩ := List.find?_eq_some_iff_getElem.mp e
    have h4 : i < row.length + 1 := by simpa using hi
    rw [List.getElem_range] at h2
    subst h2
    simp at h1
    refine .inr ⟨i, rfl, h1.1, by omega, h1.2, fun r a c => ?_⟩
    have := h3 r c
    rw [List.getElem_range] at this
    simpa [a] using this
noncomputable def lastM (row : List Nat) (rules : List Rule) (p : Nat) : Option Nat := (List.range p).reverse.find? fun q => isCut row rules q
theorem last_is (row : List Nat) (rules : List Rule) (p : Nat) : LastIs row rules p (lastM row rules p) := by
  unfold lastM
  cases e : (List.range p).reverse.find? fun q => isCut row rules q with
  | none =>
    refine .inl ⟨rfl, fun q h1 => ?_⟩
    have := List.find?_eq_none.mp e q (List.mem_reverse.mpr (List.mem_range.mpr h1))
    simpa using this
  | some q =>
    obtain ⟨h1, i, hi, h2, h3⟩ := List.find?_eq_some_iff_getElem.mp e
    have h4 : i < p := by simpa using hi
    rw [List.getElem_reverse, List.getElem_range, List.length_range] at h2
    refine .inr ⟨q, rfl, by omega, h1, fun r a c => ?_⟩
    have := h3 (p - 1 - r) (by omega)
    rw [List.getElem_reverse, List.getElem_range, List.length_range, show p - 1 - (p - 1 - r) = r by omega] at this
    simpa using this
theorem nextC (ks : List (Nat × Nat)) (rules : List Rule) (text : List Nat) (p n : Nat) (hl : text.length ≤ 200) (hp : p ≤ text.length) (hi : ∀ r ∈ rules, okR r) :
    Fn_next_cut [.d (encKs ks), .d (encRs rules), .d (T text), .d (encN p)] n = .ok (encO (nextM (rowM ks text) rules p)) n := by
  obtain ⟨o, e, h⟩ := next_ok ks rules text p n hl hp hi
  rw [e, next_uniq h (next_is _ _ _)]
theorem lastC (ks : List (Nat × Nat)) (rules : List Rule) (text : List Nat) (p n : Nat) (hl : text.length ≤ 200) (hp : p ≤ text.length) (hi : ∀ r ∈ rules, okR r) :
    Fn_last_cut [.d (encKs ks), .d (encRs rules), .d (T text), .d (encN p)] n = .ok (encO (lastM (rowM ks text) rules p)) n := by
  obtain ⟨o, e, h⟩ := last_ok ks rules text p n hl hp hi
  rw [e, last_uniq h (last_is _ _ _)]
theorem nextM_some {row : List Nat} {rules : List Rule} {p q : Nat} (h : nextM row rules p = some q) : p < q ∧ q ≤ row.length ∧ isCut row rules q = true ∧ ∀ r, p < r → r < q → isCut row rules r = false := by
  rcases next_is row rules p with ⟨e, _⟩ | ⟨q', e, h1⟩
  · rw [h] at e; cases e
  · rw [h] at e; cases e; exact h1
theorem nextM_none {row : List Nat} {rules : List Rule} {p : Nat} (h : nextM row rules p = none) : ∀ q, p < q → q ≤ row.length → isCut row rules q = false := by
  rcases next_is row rules p with ⟨e, h1⟩ | ⟨q', e, h1⟩
  · exact h1
  · rw [h] at e; cases e
theorem lastM_some {row : List Nat} {rules : List Rule} {p q : Nat} (h : lastM row rules p = some q) : q < p ∧ isCut row rules q = true ∧ ∀ r, q < r → r < p → isCut row rules r = false := by
  rcases last_is row rules p with ⟨e, _⟩ | ⟨q', e, h1⟩
  · rw [h] at e; cases e
  · rw [h] at e; cases e; exact h1
theorem lastM_none {row : List Nat} {rules : List Rule} {p : Nat} (h : lastM row rules p = none) : ∀ q, q < p → isCut row rules q = false := by
  rcases last_is row rules p with ⟨e, h1⟩ | ⟨q', e, h1⟩
  · exact h1
  · rw [h] at e; cases e
/-! ### step -/
noncomputable def stepP (row : List Nat) (rules : List Rule) (p : Nat) (on : Bool) : Nat := (if on = true then nextM row rules p else lastM row rules p).getD p
theorem stepP_le {row : List Nat} {rules : List Rule} {p : Nat} {on : Bool} (h : p ≤ row.length) : stepP row rules p on ≤ row.length := by
  unfold stepP
  cases on with
  | true =>
    rw [if_pos rfl]
    cases e : nextM row rules p with
    | none => exact h
    | some q => exact (nextM_some e).2.1
  | false =>
    rw [if_neg (by decide)]
    cases e : lastM row rules p with
    | none => exact h
    | some q => exact Nat.le_of_lt (Nat.lt_of_lt_of_le (lastM_some e).1 h)
theorem stepC (hq : cq n = some (curQ ks rs ws s b l)) (on word held : Bool) (hl : s.1.length ≤ 200) (hp : s.2.1 ≤ s.1.length) (hi : ∀ r ∈ rs, okR r) (hw : ∀ r ∈ ws, okR r) :
    Fn_Cursor_step [.cur, .d (.bool on), .d (.bool word), .d (.bool held)] n = .ok .none (cset n (curQ ks rs ws (standM s (stepP (rowM ks s.1) (if word = true then ws else rs) s.2.1 on) held) b l)) := by
  have fk : (curQ ks rs ws s b l).kd = encKs ks := rfl
  have fr : (curQ ks rs ws s b l).rl = encRs rs := rfl
  have fw : (curQ ks rs ws s b l).wd = encRs ws := rfl
  have tx := textC hq
  have pl := placeC hq
  refine run_nx rfl ?_
  unfold g_Cursor_step
  refine sq (ρ1 := [some .cur, some (.d (.bool on)), some (.d (.bool word)), some (.d (.bool held)), some (.d (encRs rs)), none]) (n1 := n) (by simp [e_cFld hq, fr]) ?_
  refine sq (ρ1 := [some .cur, some (.d (.bool on)), some (.d (.bool word)), some (.d (.bool held)), some (.d (encRs (if word = true then ws else rs))), none]) (n1 := n) (by cases word <;> simp [e_sIf, e_cFld hq, fw]) ?_
  generalize hR : (if word = true then ws else rs) = R
  have hR2 : ∀ r ∈ R, okR r := by rw [← hR]; cases word <;> assumption
  have e1 := nextC ks R s.1 s.2.1 n hl hp hR2
  have e2 := lastC ks R s.1 s.2.1 n hl hp hR2
  refine sq (ρ1 := [some .cur, some (.d (.bool on)), some (.d (.bool word)), some (.d (.bool held)), some (.d (encRs R)), some (.d (encO (if on = true then nextM (rowM ks s.1) R s.2.1 else lastM (rowM ks s.1) R s.2.1)))]) (n1 := n) (by cases on <;> simp [e_sIf, e_cFld hq, e_aCur hq, fk, tx, pl, e1, e2]) ?_
  unfold stepP
  generalize (if on = true then nextM (rowM ks s.1) R s.2.1 else lastM (rowM ks s.1) R s.2.1) = o
  refine sq (ρ1 := [some .cur, some (.d (.bool on)), some (.d (.bool word)), some (.d (.bool held)), some (.d (encRs R)), some (.d (encN (o.getD s.2.1)))]) (n1 := n) (by cases o <;> simp [e_sIf, encO, encN, e_aCur hq, pl, opIsN, isN_n, isN_i]) ?_
  have st := standC hq (o.getD s.2.1) held
  exact so (ρ1 := [some .cur, some (.d (.bool on)), some (.d (.bool word)), some (.d (.bool held)), some (.d (encRs R)), some (.d (encN (o.getD s.2.1)))]) (n1 := cset n (curQ ks rs ws (standM s (o.getD s.2.1) held) b l)) (by simp [e_aCur hq, st]) rfl
end W

/-! the cursor by hand: change, rub -/
namespace W
open PySem PySem.Spec PyProof.Rows L2 G
theorem up_bef (ks : List (Nat × Nat)) (rs ws : List Rule) (s : St) (b l : List St) : ({ curQ ks rs ws s b l with bef := (curQ ks rs ws s b l).bef ++ [(curQ ks rs ws s b l).now] } : CurS) = curQ ks rs ws s (b ++ [s]) l := by
  unfold curQ
  simp only [List.map_append, List.map_cons, List.map_nil]
theorem e_sBefApp {ks : List (Nat × Nat)} {rs ws : List Rule} {s : St} {b l : List St} {n i : Nat} {ρ : G.Env} (hq : cq n = some (curQ ks rs ws s b l)) (h : ρ[i]? = some (some .cur)) (hb : b.length < 1000) : sBefApp i ρ n = .nx ρ (cset n (curQ ks rs ws s (b ++ [s]) l)) := by
  have hz : (curQ ks rs ws s b l).bef.length < sizeLine := by
    have e : (curQ ks rs ws s b l).bef.length = b.length := List.length_map _
    rw [e]
    exact size_lt (by omega)
  unfold sBefApp
  simp only [h, hq]
  rw [if_pos hz, up_bef]
theorem e_sLatNew {ks : List (Nat × Nat)} {rs ws : List Rule} {s : St} {b l : List St} {n i : Nat} {ρ : G.Env} (hq : cq n = some (curQ ks rs ws s b l)) (h : ρ[i]? = some (some .cur)) : sLatNew i ρ n = .nx ρ (cset n (curQ ks rs ws s b [])) := by
  have e : ({ curQ ks rs ws s b l with lat := [] } : CurS) = curQ ks rs ws s b [] := rfl
  unfold sLatNew
  simp only [h, hq]
  rw [e]
theorem e_sNowS {ks : List (Nat × Nat)} {rs ws : List Rule} {s s' : St} {b l : List St} {n i : Nat} {g : M D} {ρ : G.Env} (hq : cq n = some (curQ ks rs ws s b l)) (e : g ρ n = .ok (encS s') n) (h : ρ[i]? = some (some .cur)) : sNow i g ρ n = .nx ρ (cset n (curQ ks rs ws s' b l)) := by
  have e1 := e_sNow (i := i) e hq h (nl_S s')
  have e2 : ({ curQ ks rs ws s b l with now := encS s' } : CurS) = curQ ks rs ws s' b l := rfl
  rw [e1, e2]
noncomputable def snapM (ks : List (Nat × Nat)) (rs : List Rule) (t : List Nat) (place : Nat) : Nat := if isCut (rowM ks t) rs place = true then place else (nextM (rowM ks t) rs place).getD place
def cutT (t : List Nat) (first last : Nat) (new : List Nat) : List Nat := t.take first ++ new ++ t.drop last
noncomputable def changeM (ks : List (Nat × Nat)) (rs : List Rule) (s : St) (first last : Nat) (new : List Nat) : St := (cutT s.1 first last new, snapM ks rs (cutT s.1 first last new) (first + new.length), none)
theorem isCut_end {row : List Nat} {rs : List Rule} {p : Nat} (h : p = 0 ∨ p = row.length) (h0 : row ≠ []) : isCut row rs p = true := by
  unfold isCut
  rw [if_pos h]
  exact decide_eq_true (List.length_pos_iff.mpr h0)
theorem isCut_nil {rs : List Rule} {p : Nat} (h : p = 0) : isCut [] rs p = false := by
  unfold isCut
  rw [if_pos (.inl h)]
  rfl
variable {ks : List (Nat × Nat)} {rs ws : List Rule} {s : St} {b l : List St} {n : Nat}
theorem changeC (hq : cq n = some (curQ ks rs ws s b l)) (first last : Nat) (new : List Nat) (hb : b.length < 1000) (hl : s.1.length ≤ 200) (hn : new.length ≤ 200) (h1 : first ≤ s.1.length) (hc : (cutT s.1 first last new).length ≤ 200) (ho : okT (cutT s.1 first last new) = true) (hi : ∀ r ∈ rs, okR r) :
    Fn_Cursor_change [.cur, .d (encN first), .d (encN last), .d (T new)] n = .ok .none (cset n (curQ ks rs ws (changeM ks rs s first last new) (b ++ [s]) [])) := by
  refine run_nx rfl ?_
  unfold g_Cursor_change
  refine sq (e_sBefApp hq rfl hb) ?_
  have hq1 := cq_cset n (curQ ks rs ws s (b ++ [s]) l)
  refine sq (e_sLatNew hq1 rfl) ?_
  rw [cset_cset]
  have hq2 := cq_cset n (curQ ks rs ws s (b ++ [s]) [])
  have hn2 : ∀ q, cset (cset n (curQ ks rs ws s (b ++ [s]) [])) q = cset n q := fun q => cset_cset _ _ _
  generalize cset n (curQ ks rs ws s (b ++ [s]) []) = n2 at hq2 hn2 ⊢
  have tx := textC hq2
  have fk : (curQ ks rs ws s (b ++ [s]) []).kd = encKs ks := rfl
  have fr : (curQ ks rs ws s (b ++ [s]) []).rl = encRs rs := rfl
  have z1 : s.1.length ≤ sizeLine := size_ok (by omega)
  have z2 : min first s.1.length + new.length ≤ sizeLine := size_ok (by omega)
  have z3 : min first s.1.length + new.length + (s.1.length - last) ≤ sizeLine := size_ok (by omega)
  have z4 : new.length ≤ sizeLine := size_ok (by omega)
  have sl1 : opSl (T s.1) none (some (first : Int)) = some (T (s.1.take first)) := by rw [x_sl_T, if_pos z1, cutL_take]
  have sl2 : opSl (T s.1) (some (last : Int)) none = some (T (s.1.drop last)) := by rw [x_sl_T, if_pos z1, cutL_drop]
  refine sq (ρ1 := [some .cur, some (.d (encN first)), some (.d (encN last)), some (.d (T new)), some (.d (T (cutT s.1 first last new))), none]) (n1 := n2) (by
    simp [e_aCur hq2, encN, tx, sl1, sl2, z2, z3, cutT]) ?_
  unfold changeM
  have hc0 : (cutT s.1 first last new).length = min first s.1.length + new.length + (s.1.length - last) := by unfold cutT; simp; omega
  generalize cutT s.1 first last new = t at hc ho hc0 ⊢
  refine sq (ρ1 := [some .cur, some (.d (encN first)), some (.d (encN last)), some (.d (T new)), some (.d (T t)), some (.d (encN (first + new.length)))]) (n1 := n2) (by simp [encN, z4]) ?_
  have hp : first + new.length ≤ t.length := by omega
  generalize first + new.length = p at hp ⊢
  have ic := iscutK_ok ks rs t p n2 hc hp hi
  have nc := nextC ks rs t p n2 hc hp hi
  have hrl := rowM_len ks t
  refine sq (ρ1 := [some .cur, some (.d (encN first)), some (.d (encN last)), some (.d (T new)), some (.d (T t)), some (.d (encN (snapM ks rs t p)))]) (n1 := n2) ?_ ?_
  · have ne := x_ne_T (a := t) (b := []) ho rfl
    unfold snapM
    cases e : isCut (rowM ks t) rs p with
    | true =>
      rw [e] at ic
      rw [if_pos rfl]
      cases h0 : t == [] <;> simp [e_sIf, e_cFld hq2, fk, fr, ne, h0, ic]
    | false =>
      rw [e] at ic
      rw [if_neg (by decide)]
      by_cases h0 : t = []
      · subst h0
        have ez : rowM ks [] = [] := rfl
        have : nextM (rowM ks []) rs p = none := by
          rcases next_is (rowM ks []) rs p with ⟨e2, _⟩ | ⟨q, e2, h2, h3, _⟩
          · exact e2
          · rw [ez, List.length_nil] at h3; omega
        rw [this]
        simp [e_sIf, ne]
      · have h1 : (t == []) = false := by simpa using h0
        have hlt : p < t.length := by
          rcases Nat.lt_or_ge p t.length with h | h
          · exact h
          · rw [isCut_end (.inr (by omega)) (fun z => h0 (List.length_eq_zero_iff.mp (by rw [← hrl, z]; rfl)))] at e
            cases e
        obtain ⟨q, hq'⟩ : ∃ q, nextM (rowM ks t) rs p = some q := by
          cases e2 : nextM (rowM ks t) rs p with
          | some q => exact ⟨q, rfl⟩
          | none =>
            have := nextM_none e2 t.length hlt (by omega)
            rw [isCut_end (.inr hrl.symm) (fun z => h0 (List.length_eq_zero_iff.mp (by rw [← hrl, z]; rfl)))] at this
            cases this
        rw [hq'] at nc ⊢
        simp [e_sIf, e_cFld hq2, fk, fr, ne, h1, ic, nc, encO]
  · rw [e_sNowS (s' := (t, snapM ks rs t p, none)) hq2 (by simp [encS, encO]) rfl, hn2]
    exact .nx rfl
theorem snapM_le {t : List Nat} {p : Nat} (h : p ≤ t.length) : snapM ks rs t p ≤ t.length := by
  unfold snapM
  split
  · exact h
  · cases e : nextM (rowM ks t) rs p with
    | none => exact h
    | some q => exact Nat.le_trans (nextM_some e).2.1 (Nat.le_of_eq (rowM_len ks t))
end W

/-! the cursor by hand: a state -/
namespace W
open PySem PySem.Spec PyProof.Rows L2 G
/-- as a cursor is -/
structure okS (s : St) : Prop where
  len : s.1.length ≤ 200
  pl : s.2.1 ≤ s.1.length
  mks : ∀ m, s.2.2 = some m → m ≤ s.1.length
  ok : okT s.1 = true
theorem okT_take {t : List Nat} {k : Nat} (h : okT t = true) : okT (t.take k) = true := by
  unfold okT at h ⊢
  rw [List.all_eq_true] at h ⊢
  exact fun c hc => h c (List.mem_of_mem_take hc)
theorem okT_drop {t : List Nat} {k : Nat} (h : okT t = true) : okT (t.drop k) = true := by
  unfold okT at h ⊢
  rw [List.all_eq_true] at h ⊢
  exact fun c hc => h c (List.mem_of_mem_drop hc)
theorem cutT_ok {t new : List Nat} {a z : Nat} (h : okT t = true) (hn : okT new = true) : okT (cutT t a z new) = true := by
  unfold cutT
  rw [okT_app, okT_app, okT_take h, hn, okT_drop h]
  rfl
theorem cutT_len (t new : List Nat) (a z : Nat) : (cutT t a z new).length = min a t.length + new.length + (t.length - z) := by unfold cutT; simp; omega
theorem strM_some {s : St} {a z : Nat} (h : strM s = some (a, z)) : ∃ m, s.2.2 = some m ∧ m ≠ s.2.1 ∧ a = min m s.2.1 ∧ z = max m s.2.1 := by
  unfold strM at h
  split at h
  · cases h
  · rename_i m e
    split at h
    · cases h
    · rename_i hm
      cases h
      exact ⟨m, e, hm, rfl, rfl⟩
theorem strM_le {s : St} (o : okS s) {a z : Nat} (h : strM s = some (a, z)) : a < z ∧ z ≤ s.1.length := by
  obtain ⟨m, e, hm, rfl, rfl⟩ := strM_some h
  have := o.mks m e
  have := o.pl
  omega
noncomputable def rubM (ks : List (Nat × Nat)) (rs : List Rule) (s : St) (on : Bool) : Option (Nat × Nat) := match strM s with
  | some p => some p
  | none => if on = true then (nextM (rowM ks s.1) rs s.2.1).map fun q => (s.2.1, q) else if s.2.1 = 0 then none else some (s.2.1 - 1, s.2.1)
variable {ks : List (Nat × Nat)} {rs ws : List Rule} {s : St} {b l : List St} {n : Nat}
theorem rubM_le (o : okS s) {on : Bool} {p : Nat × Nat} (h : rubM ks rs s on = some p) : p.1 < p.2 ∧ p.2 ≤ s.1.length := by
  unfold rubM at h
  split at h
  · rename_i q e
    cases h
    exact strM_le o e
  · split at h
    · cases e : nextM (rowM ks s.1) rs s.2.1 with
      | none => rw [e] at h; cases h
      | some q =>
        rw [e] at h
        cases h
        have := nextM_some e
        rw [rowM_len] at this
        exact ⟨this.1, this.2.1⟩
    · split at h
      · cases h
      · cases h
        have := o.pl
        exact ⟨by show s.2.1 - 1 < s.2.1; omega, this⟩
theorem changeM_ok (o : okS s) {a z : Nat} {new : List Nat} (ha : a ≤ s.1.length) (hn : okT new = true) (hl : (cutT s.1 a z new).length ≤ 200) : okS (changeM ks rs s a z new) := by
  refine ⟨hl, snapM_le (by rw [cutT_len]; omega), (fun m h => by cases h), cutT_ok o.ok hn⟩
theorem okS_stand (o : okS s) {p : Nat} (hp : p ≤ s.1.length) (held : Bool) : okS (standM s p held) := by
  refine ⟨o.len, hp, fun m h => ?_, o.ok⟩
  unfold standM at h
  simp only at h
  split at h
  · cases e : s.2.2 with
    | none => rw [e] at h; cases h; exact o.pl
    | some k => rw [e] at h; cases h; exact o.mks k e
  · cases h
/-- draws leave the cursor -/
theorem up_cq {n n' c : Nat} (h : n ≤ n' ∧ n' ≤ n + c) (hn : n % 33554432 + c < 33554432) : cq n' = cq n ∧ n % 33554432 ≤ n' % 33554432 ∧ n' % 33554432 ≤ n % 33554432 + c := by
  obtain ⟨k, rfl⟩ : ∃ k, n' = n + k := ⟨n' - n, by omega⟩
  refine ⟨cq_up (by omega), ?_⟩
  rw [up_mod (by omega)]
  omega
theorem nextM_lt (t : List Nat) {p : Nat} (h : p < t.length) : ∃ q, nextM (rowM ks t) rs p = some q := by
  cases e2 : nextM (rowM ks t) rs p with
  | some q => exact ⟨q, rfl⟩
  | none =>
    have hrl := rowM_len ks t
    have := nextM_none e2 t.length h (by omega)
    rw [isCut_end (.inr hrl.symm) (fun z => by rw [z] at hrl; simp at hrl; omega)] at this
    cases this
/-- a new cursor in its law -/
theorem e_newR {i k n n1 : Nat} {gs : M (List L)} {ρ : G.Env} {ks : List (Nat × Nat)} {rs ws : List Rule} {t : List Nat} (hk : ρ[k]? = some (some .twl)) (e : gs ρ n = .ok [.d (encKs ks), .d (encRs rs), .d (encRs ws), .d (T t)] n1) (hi : i < ρ.length) :
    newR i k gs ρ n = .ok (newE ρ i) (cnew n1 (curQ ks rs ws (t, 0, none) [] [])) := by
  have nk : ∀ ks : List (Nat × Nat), noListA (ks.map encK) = true := fun ks => by
    induction ks with
    | nil => rfl
    | cons a r ih => simp [noListA, noList, encK, T, ih]
  have ni : ∀ is : List Item, noListA (is.map encI) = true := fun is => by
    induction is with
    | nil => rfl
    | cons a r ih => simp [noListA, noList, encI, T, ih]
  have nr : ∀ rs : List Rule, noListA (rs.map encR) = true := fun rs => by
    induction rs with
    | nil => rfl
    | cons a r ih =>
      obtain ⟨x, y, z⟩ := a
      simp [noListA, noList, encR, encIs, ni, ih]
  unfold newR
  simp only [hk, e, Res.bind_ok]
  have hf : four (dsOf [.d (encKs ks), .d (encRs rs), .d (encRs ws), .d (T t)]) = some (encKs ks, encRs rs, encRs ws, T t) := rfl
  rw [hf]
  show (if _ then _ else _ : Res G.Env) = _
  rw [if_pos ⟨hi, by show noListA _ = true; exact nk ks, by show noListA _ = true; exact nr rs, by show noListA _ = true; exact nr ws, rfl⟩]
  rfl
end W

/-! the cursor by hand: typed -/
namespace W
open PySem PySem.Spec PyProof.Rows L2 G
variable {ks : List (Nat × Nat)} {rs ws : List Rule} {s : St} {b l : List St} {n : Nat}
/-- the stretch, or the place -/
def spanM (s : St) : Nat × Nat := (strM s).getD (s.2.1, s.2.1)
theorem spanM_le (o : okS s) : (spanM s).1 ≤ (spanM s).2 ∧ (spanM s).2 ≤ s.1.length := by
  unfold spanM
  cases e : strM s with
  | none => exact ⟨Nat.le_refl _, o.pl⟩
  | some p =>
    obtain ⟨h1, h2⟩ := strM_le o (a := p.1) (z := p.2) e
    exact ⟨Nat.le_of_lt h1, h2⟩
theorem typedC (hq : cq n = some (curQ ks rs ws s b l)) (o : okS s) (new : List Nat) (hb : b.length < 1000) (hl : s.1.length + new.length ≤ 200) (ho : okT new = true) (hi : ∀ r ∈ rs, okR r) :
    Fn_Cursor_typed [.cur, .d (T new)] n = .ok .none (cset n (curQ ks rs ws (changeM ks rs s (spanM s).1 (spanM s).2 new) (b ++ [s]) [])) := by
  have pl := placeC hq
  have sc := stretchC hq
  have sp := spanM_le o
  have ec : Fn_Cursor_change [.cur, .d (encN (spanM s).1), .d (encN (spanM s).2), .d (T new)] n = .ok .none (cset n (curQ ks rs ws (changeM ks rs s (spanM s).1 (spanM s).2 new) (b ++ [s]) [])) :=
    changeC hq _ _ new hb o.len (by omega) (by omega) (by rw [cutT_len]; omega) (cutT_ok o.ok ho) hi
  refine run_nx rfl ?_
  unfold g_Cursor_typed
  refine sq (ρ1 := [some .cur, some (.d (T new)), some (.d (encP (strM s)))]) (n1 := n) (by simp [e_aCur hq, sc]) ?_
  refine sq (ρ1 := [some .cur, some (.d (T new)), some (.d (.tuple [encN (spanM s).1, encN (spanM s).2]))]) (n1 := n) (by
    unfold spanM
    cases e : strM s with
    | none => simp [e_sIf, encP, opIsN, isN_n, e_aCur hq, pl]
    | some p => simp [e_sIf, encP, opIsN, isN_n, isNoneD]) ?_
  generalize spanM s = p at ec ⊢
  have i0 : opIx (.tuple [encN p.1, encN p.2]) (.int 0) = some (encN p.1) := rfl
  have i1 : opIx (.tuple [encN p.1, encN p.2]) (.int 1) = some (encN p.2) := rfl
  refine so (ρ1 := [some .cur, some (.d (T new)), some (.d (.tuple [encN p.1, encN p.2]))]) (n1 := cset n (curQ ks rs ws (changeM ks rs s p.1 p.2 new) (b ++ [s]) [])) ?_ rfl
  simp only [e_sDrop, e_cCall, e_aCur hq (show ([some .cur, some (.d (T new)), some (.d (.tuple [encN p.1, encN p.2]))] : G.Env)[0]? = some (some .cur) from rfl), e_aCons, e_aVar, e_aNil, e_c2, e_cVar, e_cC, List.getElem?_cons_succ, List.getElem?_cons_zero, Res.bind_ok, i0, i1, Res.lift_some, List.length_cons, List.length_nil, if_true, ec, ofR_ok]
end W

/-! what pieces are, in plain Lean -/
namespace W
open PySem PySem.Spec PyProof.Rows L2 G
def piecesM (text : List Nat) (c : List Nat) : List (List Nat) := (c.dropLast.zip c.tail).map fun p => (text.drop p.1).take (p.2 - p.1)
theorem cutsM_len (row : List Nat) (rules : List Rule) : (cutsM row rules).length ≤ row.length + 1 := by
  have := List.length_filter_le (isCut row rules) (List.range (row.length + 1))
  rwa [List.length_range] at this
theorem pieces_cons (text : List Nat) (a b : Nat) (r : List Nat) : piecesM text (a :: b :: r) = (text.drop a).take (b - a) :: piecesM text (b :: r) := by
  unfold piecesM
  simp
theorem pieces_one (text : List Nat) (a : Nat) : piecesM text [a] = [] := rfl
theorem pieces_nil (text : List Nat) : piecesM text [] = [] := rfl
theorem pieces_len (text : List Nat) : ∀ c : List Nat, (piecesM text c).length = c.length - 1
  | [] => rfl
  | [a] => rfl
  | a :: b :: r => by rw [pieces_cons, List.length_cons, pieces_len text (b :: r)]; simp
theorem take_drop_app (text : List Nat) {a b : Nat} (h : a ≤ b) : (text.drop a).take (b - a) ++ text.drop b = text.drop a := by
  have e : text.drop b = (text.drop a).drop (b - a) := by rw [List.drop_drop]; congr 1; omega
  rw [e, List.take_append_drop]
/-- from one cut on, pieces are the rest of the text -/
theorem pieces_flat (text : List Nat) : ∀ (r : List Nat) (a : Nat), (a :: r).Pairwise (· < ·) → (a :: r).getLast? = some text.length → (piecesM text (a :: r)).flatten = text.drop a
  | [], a, _, h => by
    have : a = text.length := by simpa using h
    rw [pieces_one, this, List.drop_length]
    rfl
  | b :: r, a, p, h => by
    obtain ⟨p1, p2⟩ := List.pairwise_cons.mp p
    have hab := p1 b List.mem_cons_self
    rw [pieces_cons, List.flatten_cons, pieces_flat text r b p2 (by simpa [List.getLast?_cons_cons] using h), take_drop_app text (by omega)]
/-- the first i pieces are the text up to the i-th cut -/
theorem pieces_take (text : List Nat) : ∀ (i : Nat) (c : List Nat) (a x : Nat), (a :: c).Pairwise (· < ·) → (a :: c)[i]? = some x → ((piecesM text (a :: c)).take i).flatten = (text.drop a).take (x - a)
  | 0, c, a, x, _, h => by
    have : a = x := by simpa using h
    rw [this]
    simp
  | i + 1, [], a, x, _, h => by simp at h
  | i + 1, b :: r, a, x, p, h => by
    obtain ⟨p1, p2⟩ := List.pairwise_cons.mp p
    have hab := p1 b List.mem_cons_self
    have hx : b ≤ x := by
      have h' : (b :: r)[i]? = some x := by simpa using h
      have hm := List.mem_of_getElem? h'
      rcases List.mem_cons.mp hm with e | e
      · omega
      · have := (List.pairwise_cons.mp p2).1 x e; omega
    rw [pieces_cons, List.take_succ_cons, List.flatten_cons, pieces_take text i r b x p2 (by simpa using h)]
    have e : text.drop b = (text.drop a).drop (b - a) := by rw [List.drop_drop]; congr 1; omega
    rw [e]
    have e2 : x - a = (b - a) + (x - b) := by omega
    rw [e2, List.take_add]
theorem pieces_get (text : List Nat) : ∀ (i : Nat) (c : List Nat) (x y : Nat), c[i]? = some x → c[i + 1]? = some y → (piecesM text c)[i]? = some ((text.drop x).take (y - x))
  | _, [], x, y, h, _ => by simp at h
  | _, [a], x, y, _, h => by simp at h
  | 0, a :: b :: r, x, y, h, h2 => by
    have e1 : a = x := by simpa using h
    have e2 : b = y := by simpa using h2
    rw [pieces_cons, e1, e2]
    rfl
  | i + 1, a :: b :: r, x, y, h, h2 => by
    rw [pieces_cons, List.getElem?_cons_succ]
    exact pieces_get text i (b :: r) x y (by simpa using h) (by simpa using h2)
theorem cuts_rise (row : List Nat) (rules : List Rule) : (cutsM row rules).Pairwise (· < ·) := List.Pairwise.filter _ List.pairwise_lt_range
theorem mem_cuts {row : List Nat} {rules : List Rule} {p : Nat} : p ∈ cutsM row rules ↔ p ≤ row.length ∧ isCut row rules p = true := by
  unfold cutsM
  rw [List.mem_filter, List.mem_range]
  constructor
  · rintro ⟨a, b⟩; exact ⟨by omega, b⟩
  · rintro ⟨a, b⟩; exact ⟨by omega, b⟩
theorem cut_end {row : List Nat} (rules : List Rule) (h : 0 < row.length) : isCut row rules 0 = true ∧ isCut row rules row.length = true := by
  unfold isCut
  rw [if_pos (.inl rfl), if_pos (.inr rfl), decide_eq_true h]
  exact ⟨rfl, rfl⟩
theorem cuts_none {row : List Nat} (rules : List Rule) (h : row.length = 0) : cutsM row rules = [] := by
  have : row = [] := List.eq_nil_of_length_eq_zero h
  subst this
  rfl
/-- the cuts of a text with signs: from 0 on, to its end -/
theorem cuts_shape {row : List Nat} (rules : List Rule) (h : 0 < row.length) : ∃ r, cutsM row rules = 0 :: r ∧ (0 :: r).getLast? = some row.length := by
  obtain ⟨h1, h2⟩ := cut_end rules h
  have m1 : 0 ∈ cutsM row rules := mem_cuts.mpr ⟨by omega, h1⟩
  have m2 : row.length ∈ cutsM row rules := mem_cuts.mpr ⟨by omega, h2⟩
  have hr := cuts_rise row rules
  cases hc : cutsM row rules with
  | nil => rw [hc] at m1; cases m1
  | cons a r =>
    rw [hc] at m1 m2 hr
    obtain ⟨p1, _⟩ := List.pairwise_cons.mp hr
    have ha : a = 0 := by
      rcases List.mem_cons.mp m1 with e | e
      · exact e.symm
      · have := p1 0 e; omega
    subst ha
    refine ⟨r, rfl, ?_⟩
    rcases List.eq_nil_or_concat (0 :: r) with e | ⟨i, z, e⟩
    · cases e
    · rw [e, List.concat_eq_append, List.getLast?_concat]
      rw [e, List.concat_eq_append] at hr m2
      have hz : z ≤ row.length := by
        have : z ∈ cutsM row rules := by rw [hc, e, List.concat_eq_append]; simp
        exact (mem_cuts.mp this).1
      rcases List.mem_append.mp m2 with q | q
      · have := (List.pairwise_append.mp hr).2.2 _ q z (by simp)
        omega
      · rw [List.mem_singleton.mp q]
end W

/-! pieces -/
namespace W
open PySem PySem.Spec PyProof.Rows L2 G
theorem pieces_ok (ks : List (Nat × Nat)) (rules : List Rule) (text : List Nat) (n : Nat) (hl : text.length ≤ 24) (hi : ∀ r ∈ rules, okR r) :
    Fn_pieces [.d (encKs ks), .d (encRs rules), .d (T text)] n = .ok (.tuple ((piecesM text (cutsM (rowM ks text) rules)).map T)) n := by
  have zr : text.length ≤ sizeLine := size_ok (by omega)
  have hc := cuts_ok ks rules text n (by omega) hi
  have hcl := cutsM_len (rowM ks text) rules
  rw [rowM_len] at hcl
  generalize cutsM (rowM ks text) rules = c at hc hcl ⊢
  refine run_eq ?_
  unfold g_pieces
  refine sat_sq [some (.d (encKs ks)), some (.d (encRs rules)), some (.d (T text)), some (.d (.tuple (c.map encN))), none, none] n (by simp [hc]) ?_
  have ez : gZip (aCons (cSl (cVar 3) gNoPart (gPart (c1 opNeg (cC (.int 1))))) (aCons (cSl (cVar 3) (gPart (cC (.int 1))) gNoPart) aNil)) [some (.d (encKs ks)), some (.d (encRs rules)), some (.d (T text)), some (.d (.tuple (c.map encN))), none, none] n
      = .ok ((c.dropLast.zip c.tail).map fun p => (PyData.tuple [encN p.1, encN p.2] : D)) n := by
    rw [← zip_N]
    simp only [e_gZip, e_aCons, e_cSl, e_cVar, e_gNoPart, e_gPart, e_c1, e_cC, e_aNil, List.getElem?_cons_succ, List.getElem?_cons_zero, Res.bind_ok, x_neg, Res.lift_some, x_part, x_sl_tup, e_asDs, e_dsCons, e_dsNil, Option.map_some, x_zip_tt, cutL_init, cutL_tail]
    rw [List.map_dropLast, List.map_tail]
  have lc : cLc [4, 5] (tgP [(tgN 4), (tgN 5)]) (gZip (aCons (cSl (cVar 3) gNoPart (gPart (c1 opNeg (cC (.int 1))))) (aCons (cSl (cVar 3) (gPart (cC (.int 1))) gNoPart) aNil))) bYes (cSl (cVar 2) (gPart (cVar 4)) (gPart (cVar 5))) [some (.d (encKs ks)), some (.d (encRs rules)), some (.d (T text)), some (.d (.tuple (c.map encN))), none, none] n
      = .ok ((c.dropLast.zip c.tail).map fun p => T ((text.drop p.1).take (p.2 - p.1))) n :=
    e_lcm (fun p : Nat × Nat => (PyData.tuple [encN p.1, encN p.2] : D)) _ (c.dropLast.zip c.tail) ez (by rw [List.length_zip, List.length_dropLast]; omega) fun p hp =>
      ⟨[some (.d (encKs ks)), some (.d (encRs rules)), some (.d (T text)), some (.d (.tuple (c.map encN))), some (.d (encN p.1)), some (.d (encN p.2))], by simp, by simp [encN, zr, cutL_mid]⟩
  have e1 : ((c.dropLast.zip c.tail).map fun p => T ((text.drop p.1).take (p.2 - p.1))) = (piecesM text c).map T := by unfold piecesM; rw [List.map_map]; rfl
  rw [e1] at lc
  simp only [e_sRet, e_cBt, e_aCons, e_cF, lc, e_aNil, Res.bind_ok, e_asDs, e_dsCons, e_dsNil, Res.lift_some, Option.map_some, x_tup_lst, ofR_ok]
  exact .rt ⟨rfl, rfl⟩
end W

/-! widths: piece_width, width -/
namespace W
open PySem PySem.Spec PyProof.Rows L2 G
abbrev Wds := List (Nat × Nat)
def encWd (p : Nat × Nat) : D := .tuple [T [p.1], encN p.2]
def encWds (w : Wds) : D := .tuple (w.map encWd)
def pairW (p : Nat × Nat) : Key × D := (keyN p.1, encN p.2)
def tableW (w : Wds) : List (Key × D) := mergeD [] (w.map pairW)
theorem pairs_W (w : Wds) : pairsD (w.map encWd) = some (w.map pairW) := by
  induction w with
  | nil => rfl
  | cons p r ih =>
    rw [List.map_cons, List.map_cons]
    show (keyD (T [p.1])).bind (fun k => (pairsD (r.map encWd)).map ((k, encN p.2) :: ·)) = _
    rw [ih]
    rfl
theorem dic_W (w : Wds) : fDic (encWds w) = some (tableW w) := by
  unfold fDic encWds
  simp only [pairs_W]
  rfl
theorem wd_ex (w : Wds) (c : Nat) : ∃ k : Nat, (lookD (tableW w) (keyN c)).getD (.int 1) = encN k ∧ (k = 1 ∨ k ∈ w.map (·.2)) := by
  cases h : lookD (tableW w) (keyN c) with
  | none => exact ⟨1, rfl, .inl rfl⟩
  | some d =>
    obtain ⟨p, hp, rfl⟩ := look_mem h
    rcases mem_mergeD _ _ hp with z | ⟨q, hq, e⟩
    · cases z
    · obtain ⟨r, hr, rfl⟩ := List.mem_map.mp hq
      exact ⟨r.2, e, .inr (List.mem_map.mpr ⟨r, hr, rfl⟩)⟩
noncomputable def wdM (w : Wds) (c : Nat) : Nat := (wd_ex w c).choose
theorem wd_is (w : Wds) (c : Nat) : (lookD (tableW w) (keyN c)).getD (.int 1) = encN (wdM w c) := (wd_ex w c).choose_spec.1
theorem wd_in (w : Wds) (c : Nat) : wdM w c = 1 ∨ wdM w c ∈ w.map (·.2) := (wd_ex w c).choose_spec.2
/-- no width is greater than four -/
def WdW (w : Wds) : Prop := ∀ p ∈ w, p.2 ≤ 4
theorem wd_le {w : Wds} (h : WdW w) (c : Nat) : wdM w c ≤ 4 := by
  rcases wd_in w c with e | e
  · omega
  · obtain ⟨p, hp, e2⟩ := List.mem_map.mp e
    rw [← e2]
    exact h p hp
/-! ### the greatest of numbers -/
def maxN (a : Nat) (l : List Nat) : Nat := l.foldl max a
theorem maxN_ge (l : List Nat) : ∀ a : Nat, a ≤ maxN a l ∧ ∀ x ∈ l, x ≤ maxN a l := by
  induction l with
  | nil => intro a; exact ⟨Nat.le_refl _, by simp⟩
  | cons b r ih =>
    intro a
    obtain ⟨h1, h2⟩ := ih (max a b)
    show a ≤ maxN (max a b) r ∧ ∀ x ∈ b :: r, x ≤ maxN (max a b) r
    refine ⟨by omega, fun x hx => ?_⟩
    rcases List.mem_cons.mp hx with z | z
    · rw [z]; omega
    · exact h2 x z
theorem maxN_mem (l : List Nat) : ∀ a : Nat, maxN a l = a ∨ maxN a l ∈ l := by
  induction l with
  | nil => intro a; exact .inl rfl
  | cons b r ih =>
    intro a
    show maxN (max a b) r = a ∨ maxN (max a b) r ∈ b :: r
    rcases ih (max a b) with h | h
    · rcases Nat.le_total a b with z | z
      · exact .inr (by rw [h, Nat.max_eq_right z]; exact List.mem_cons_self)
      · exact .inl (by rw [h, Nat.max_eq_left z])
    · exact .inr (List.mem_cons_of_mem _ h)
theorem maxD_N : ∀ (l : List Nat) (a : Nat), PySem.W.maxD (encN a) (l.map encN) = encN (maxN a l)
  | [], a => rfl
  | b :: r, a => by
    have ih := maxD_N r
    unfold PySem.W.maxD at ih ⊢
    rw [List.map_cons, List.foldl_cons]
    have e : PySem.W.dataLt (encN a) (encN b) = decide (a < b) := by
      unfold encN
      rw [PySem.W.dataLt_int, Bool.eq_iff_iff]
      simp
    rw [e]
    show _ = encN (maxN (max a b) r)
    by_cases h : a < b
    · rw [if_pos (by simpa using h), ih b, Nat.max_eq_right (by omega)]
    · rw [if_neg (by simpa using h), ih a, Nat.max_eq_left (by omega)]
theorem minOk_N (l : List Nat) : minOk (l.map encN) := by
  refine ⟨⟨fun x hx y hy => ?_, fun x hx => ?_⟩, ?_, ?_⟩
  · obtain ⟨a, _, rfl⟩ := List.mem_map.mp hx
    obtain ⟨b, _, rfl⟩ := List.mem_map.mp hy
    simp [encN, PySem.W.alike]
  · obtain ⟨a, _, rfl⟩ := List.mem_map.mp hx
    exact nofun
  · induction l with
    | nil => simp [PyData.canLayAll0]
    | cons a r ih => simp [PyData.canLayAll0, PyData.canLay0, encN, ih]
  · have : PyData.depthAll (l.map encN) ≤ 0 := by
      induction l with
      | nil => simp [PyData.depthAll]
      | cons a r ih =>
        have e : (encN a).depth = 0 := by simp [encN, PyData.depth]
        simp [PyData.depthAll, e]
        omega
    omega
theorem x_max_N (a : Nat) (l : List Nat) : fBest PySem.W.maxD [.list (encN a :: l.map encN)] = some (encN (maxN a l)) := by
  have := x_best_l (f := PySem.W.maxD) (x := encN a) (ds := l.map encN) (minOk_N (a :: l))
  rw [maxD_N] at this
  exact this
/-! ### piece_width -/
noncomputable def pwM (w : Wds) (t : List Nat) : Nat := maxN 0 (t.map (wdM w))
theorem pw_le {w : Wds} (h : WdW w) (t : List Nat) : pwM w t ≤ 4 := by
  rcases maxN_mem (t.map (wdM w)) 0 with e | e
  · unfold pwM; omega
  · obtain ⟨c, _, e2⟩ := List.mem_map.mp e
    have := wd_le h c
    unfold pwM
    omega
theorem pw_nil (w : Wds) : pwM w [] = 0 := rfl
theorem pw_one (w : Wds) (c : Nat) : pwM w [c] = wdM w c := by
  show max 0 (wdM w c) = _
  omega
theorem pw_ok (w : Wds) (t : List Nat) (n : Nat) (hl : t.length ≤ 100000) : Fn_piece_width [.d (encWds w), .d (T t)] n = .ok (encN (pwM w t)) n := by
  refine run_to (ρ0 := [some (.d (encWds w)), some (.d (T t)), none, none]) rfl ?_
  unfold g_piece_width
  refine sq (ρ1 := [some (.d (encWds w)), some (.d (T t)), some (.dic (tableW w)), none]) (n1 := n) (by simp [dic_W]) ?_
  have lc : cLc [3] (tgN 3) (gItems (cVar 1)) bYes (cDGet 2 (cVar 3) (cC (.int 1))) [some (.d (encWds w)), some (.d (T t)), some (.dic (tableW w)), none] n = .ok ((t.map (wdM w)).map encN) n := by
    rw [List.map_map]
    exact e_lcm (fun c => T [c]) _ t rfl (by omega) fun c hc => ⟨[some (.d (encWds w)), some (.d (T t)), some (.dic (tableW w)), some (.d (T [c]))], rfl, by
      have := wd_is w c
      unfold keyN at this
      simp [this]⟩
  have hm := x_max_N 0 (t.map (wdM w))
  have ea : opAdd (.list [.int 0]) (.list ((t.map (wdM w)).map encN)) = some (.list (encN 0 :: (t.map (wdM w)).map encN)) := add_l (by simp; omega)
  generalize ((t.map (wdM w)).map encN) = Q at lc hm ea
  exact sret (d := encN (pwM w t)) (n1 := n) (by simp only [e_cBt, e_aCons, e_aNil, e_c2, e_cF, e_cLst, e_cC, lc, Res.bind_ok, e_asDs, e_dsCons, e_dsNil, Option.map_some, Res.lift_some, List.length_cons, List.length_nil, Nat.reduceAdd, sz1, if_true, ea, hm]; rfl) ⟨rfl, rfl⟩
/-! ### width -/
noncomputable def piecesOf (ks : List (Nat × Nat)) (rules : List Rule) (text : List Nat) : List (List Nat) := piecesM text (cutsM (rowM ks text) rules)
noncomputable def widM (ks : List (Nat × Nat)) (rules : List Rule) (w : Wds) (text : List Nat) : Nat := ((piecesOf ks rules text).map (pwM w)).sum
theorem piecesOf_flat (ks : List (Nat × Nat)) (rules : List Rule) (text : List Nat) : (piecesOf ks rules text).flatten = text := by
  unfold piecesOf
  have hl := rowM_len ks text
  by_cases h : 0 < (rowM ks text).length
  · obtain ⟨r, e, hlast⟩ := cuts_shape rules h
    rw [e, pieces_flat text r 0 (by rw [← e]; exact cuts_rise _ _) (by rw [hlast, hl])]
    rfl
  · have h0 : text = [] := List.eq_nil_of_length_eq_zero (by omega)
    subst h0
    rw [cuts_none rules (by simpa using hl)]
    rfl
theorem mem_piece {ks : List (Nat × Nat)} {rules : List Rule} {text p : List Nat} (h : p ∈ piecesOf ks rules text) : p.length ≤ text.length ∧ ∀ c ∈ p, c ∈ text := by
  have hf := piecesOf_flat ks rules text
  constructor
  · have : p.length ≤ (piecesOf ks rules text).flatten.length := (List.sublist_flatten_of_mem h).length_le
    rwa [hf] at this
  · intro c hc
    rw [← hf]
    exact List.mem_flatten.mpr ⟨p, h, hc⟩
theorem piecesOf_len (ks : List (Nat × Nat)) (rules : List Rule) (text : List Nat) : (piecesOf ks rules text).length ≤ text.length := by
  unfold piecesOf
  rw [pieces_len]
  have := cutsM_len (rowM ks text) rules
  rw [rowM_len] at this
  omega
theorem pcs_ok (ks : List (Nat × Nat)) (rules : List Rule) (text : List Nat) (n : Nat) (hl : text.length ≤ 24) (hi : ∀ r ∈ rules, okR r) :
    Fn_pieces [.d (encKs ks), .d (encRs rules), .d (T text)] n = .ok (.tuple ((piecesOf ks rules text).map T)) n := pieces_ok ks rules text n hl hi
theorem wid_ok (ks : List (Nat × Nat)) (rules : List Rule) (w : Wds) (t : List Nat) (n : Nat) (hl : t.length ≤ 24) (hi : ∀ r ∈ rules, okR r) :
    Fn_width [.d (encKs ks), .d (encRs rules), .d (encWds w), .d (T t)] n = .ok (encN (widM ks rules w t)) n := by
  refine run_to (ρ0 := [some (.d (encKs ks)), some (.d (encRs rules)), some (.d (encWds w)), some (.d (T t)), none]) rfl ?_
  unfold g_width
  have hp := pcs_ok ks rules t n hl hi
  have hpl := piecesOf_len ks rules t
  have lc : cLc [4] (tgN 4) (gItems (cCall 3 Fn_pieces (aVar 0 (aVar 1 (aVar 3 aNil))))) bYes (cCall 2 Fn_piece_width (aVar 2 (aVar 4 aNil))) [some (.d (encKs ks)), some (.d (encRs rules)), some (.d (encWds w)), some (.d (T t)), none] n = .ok ((piecesOf ks rules t).map fun p => encN (pwM w p)) n :=
    e_lcm T _ (piecesOf ks rules t) (by simp [hp]) (by omega) fun p hpm => ⟨[some (.d (encKs ks)), some (.d (encRs rules)), some (.d (encWds w)), some (.d (T t)), some (.d (T p))], rfl, by
      have := pw_ok w p n (by have := (mem_piece hpm).1; omega)
      simp [this]⟩
  have hs := x_sum_n (f := pwM w) (l := piecesOf ks rules t)
  exact sret (d := encN (widM ks rules w t)) (n1 := n) (by simp only [e_cBt, e_aCons, e_aNil, e_cF, lc, Res.bind_ok, e_asDs, e_dsCons, e_dsNil, Option.map_some, Res.lift_some, hs]; rfl) ⟨rfl, rfl⟩
theorem sum_le4 {w : Wds} (h : WdW w) : ∀ ps : List (List Nat), (ps.map (pwM w)).sum ≤ 4 * ps.length
  | [] => by simp
  | p :: r => by
    have := sum_le4 h r
    have := pw_le h p
    simp
    omega
theorem wid_le {w : Wds} (h : WdW w) (ks : List (Nat × Nat)) (rules : List Rule) (t : List Nat) : widM ks rules w t ≤ 4 * t.length := by
  have h1 := sum_le4 h (piecesOf ks rules t)
  have h2 := piecesOf_len ks rules t
  unfold widM
  omega
/-! ### widths drawn -/
end W

/-! x.split(c), c.join(xs), c one sign -/
namespace W
open PySem PySem.Spec PyProof.Rows L2 G
def jnC (c : Nat) : List (List Nat) → List Nat
  | [] => []
  | [p] => p
  | p :: q :: r => p ++ c :: jnC c (q :: r)
theorem jnC_1 (c : Nat) (p : List Nat) : jnC c [p] = p := rfl
theorem jnC_2 (c : Nat) (p : List Nat) {r : List (List Nat)} (h : r ≠ []) : jnC c (p :: r) = p ++ c :: jnC c r := by
  cases r with
  | nil => exact (h rfl).elim
  | cons q r => rfl
/-- the parts between a sign -/
def spl (c : Nat) : List Nat → List (List Nat)
  | [] => [[]]
  | a :: r => if a = c then [] :: spl c r else match spl c r with
    | p :: ps => (a :: p) :: ps
    | [] => [[a]]
theorem spl_ne (c : Nat) : ∀ l, spl c l ≠ []
  | [] => by simp [spl]
  | a :: r => by
    unfold spl
    split
    · simp
    · split <;> simp
theorem spl_join (c : Nat) : ∀ l, jnC c (spl c l) = l
  | [] => rfl
  | a :: r => by
    have ih := spl_join c r
    unfold spl
    split
    · rename_i h
      rw [jnC_2 _ _ (spl_ne c r), ih, h]
      rfl
    · cases q : spl c r with
      | nil => exact (spl_ne c r q).elim
      | cons p ps =>
        rw [q] at ih
        show jnC c ((a :: p) :: ps) = _
        cases ps with
        | nil => rw [jnC_1] at ih ⊢; rw [ih]
        | cons p2 ps =>
          rw [jnC_2 _ _ (by simp)] at ih ⊢
          rw [← ih]
          rfl
theorem spl_free (c : Nat) : ∀ l, ∀ p ∈ spl c l, c ∉ p
  | [], p, h => by
    have : p = [] := by simpa [spl] using h
    rw [this]
    simp
  | a :: r, p, h => by
    have ih := spl_free c r
    unfold spl at h
    split at h
    · rcases List.mem_cons.mp h with z | z
      · rw [z]; simp
      · exact ih p z
    · rename_i hc
      cases q : spl c r with
      | nil => exact (spl_ne c r q).elim
      | cons p0 ps =>
        rw [q] at h ih
        rcases List.mem_cons.mp h with z | z
        · rw [z]
          intro hm
          rcases List.mem_cons.mp hm with e | e
          · exact hc e.symm
          · exact ih p0 List.mem_cons_self e
        · exact ih p (List.mem_cons_of_mem _ z)
theorem spl_pre {c : Nat} : ∀ (p l : List Nat), c ∉ p → spl c (p ++ c :: l) = p :: spl c l
  | [], l, _ => by
    show spl c (c :: l) = _
    rw [spl, if_pos rfl]
  | a :: p, l, h => by
    have h1 : a ≠ c := fun e => h (by rw [e]; exact List.mem_cons_self)
    have ih := spl_pre p l fun z => h (List.mem_cons_of_mem _ z)
    show spl c (a :: (p ++ c :: l)) = _
    rw [spl, if_neg h1, ih]
theorem spl_one {c : Nat} : ∀ (p : List Nat), c ∉ p → spl c p = [p]
  | [], _ => rfl
  | a :: p, h => by
    have h1 : a ≠ c := fun e => h (by rw [e]; exact List.mem_cons_self)
    have ih := spl_one p fun z => h (List.mem_cons_of_mem _ z)
    rw [spl, if_neg h1, ih]
theorem spl_jn {c : Nat} : ∀ ps : List (List Nat), ps ≠ [] → (∀ p ∈ ps, c ∉ p) → spl c (jnC c ps) = ps
  | [], h, _ => (h rfl).elim
  | [p], _, h => spl_one p (h p List.mem_cons_self)
  | p :: q :: r, _, h => by
    rw [jnC_2 _ _ (by simp), spl_pre p _ (h p List.mem_cons_self), spl_jn (q :: r) (by simp) fun x hx => h x (List.mem_cons_of_mem _ hx)]
theorem spl_rows {c : Nat} : ∀ (ls : List (List Nat)) (t : List Nat), (∀ p ∈ ls, c ∉ p) → spl c ((ls.map fun p => p ++ [c]).flatten ++ t) = ls ++ spl c t
  | [], t, _ => rfl
  | p :: r, t, h => by
    rw [List.map_cons, List.flatten_cons, List.append_assoc, List.append_assoc, List.singleton_append, spl_pre p _ (h p List.mem_cons_self), spl_rows r t fun x hx => h x (List.mem_cons_of_mem _ hx)]
    rfl
theorem spl_len (c : Nat) : ∀ l, (spl c l).length ≤ l.length + 1
  | [] => by simp [spl]
  | a :: r => by
    have ih := spl_len c r
    unfold spl
    split
    · simp; omega
    · cases q : spl c r with
      | nil => simp
      | cons p ps => rw [q] at ih; simp at ih ⊢; omega
theorem spl_part (c : Nat) : ∀ l, ∀ p ∈ spl c l, p.length ≤ l.length ∧ ∀ x ∈ p, x ∈ l
  | [], p, h => by
    have : p = [] := by simpa [spl] using h
    rw [this]
    simp
  | a :: r, p, h => by
    have ih := spl_part c r
    unfold spl at h
    split at h
    · rcases List.mem_cons.mp h with z | z
      · rw [z]; simp
      · obtain ⟨h1, h2⟩ := ih p z
        exact ⟨by simp; omega, fun x hx => List.mem_cons_of_mem _ (h2 x hx)⟩
    · cases q : spl c r with
      | nil => exact (spl_ne c r q).elim
      | cons p0 ps =>
        rw [q] at h ih
        rcases List.mem_cons.mp h with z | z
        · obtain ⟨h1, h2⟩ := ih p0 List.mem_cons_self
          rw [z]
          refine ⟨by simp; omega, fun x hx => ?_⟩
          rcases List.mem_cons.mp hx with e | e
          · rw [e]; exact List.mem_cons_self
          · exact List.mem_cons_of_mem _ (h2 x e)
        · obtain ⟨h1, h2⟩ := ih p (List.mem_cons_of_mem _ z)
          exact ⟨by simp; omega, fun x hx => List.mem_cons_of_mem _ (h2 x hx)⟩
/-! in the program's terms -/
theorem joinL_C (c : Nat) : ∀ ls : List (List Nat), TL.joinL [c] ls = jnC c ls
  | [] => rfl
  | [p] => rfl
  | p :: q :: r => by
    have ih := joinL_C c (q :: r)
    show p ++ ([c] ++ TL.joinL [c] (q :: r)) = p ++ c :: jnC c (q :: r)
    rw [ih]
    rfl
theorem join_sep (c : Nat) (ls : List (List Nat)) : PySem.Txt.join ⟨#[c]⟩ (ls.map fun l => ⟨l.toArray⟩) = ⟨(jnC c ls).toArray⟩ := by
  rw [TL.join_eq]
  apply TL.ext_tl
  rw [TL.tl_join, List.map_map]
  have e : (TL.tl ∘ fun l : List Nat => (⟨l.toArray⟩ : Str)) = id := by funext l; rfl
  rw [e, List.map_id, TL.tl_mk]
  exact joinL_C c ls
theorem x_join_c {c : Nat} {ls : List (List Nat)} (h : (ls.map List.length).sum + ls.length ≤ 16777216) : mJoin (T [c]) (.list (ls.map T)) = some (T (jnC c ls)) := by
  have e : mJoin (T [c]) (.list (ls.map T)) = (strsOf (ls.map T)).bind fun ys => if joinFit ⟨#[c]⟩ ys = true then some (.str (PySem.Txt.join ⟨#[c]⟩ ys)) else none := rfl
  have f := fit_T [c] ls
  have f' : joinFit ⟨#[c]⟩ (ls.map fun l => ⟨l.toArray⟩) = true := by
    rw [show (⟨#[c]⟩ : Str) = ⟨([c] : List Nat).toArray⟩ from rfl, f]
    simpa using h
  rw [e, strsOf_T, Option.bind_some, if_pos f', join_sep]
  rfl
theorem split_T (c : Nat) (l : List Nat) : PySem.Txt.split ⟨l.toArray⟩ ⟨#[c]⟩ = (spl c l).map fun p => ⟨p.toArray⟩ := by
  have h1 := StrLaws.join_split (⟨l.toArray⟩ : Str) ⟨#[c]⟩
  have h2 := StrLaws.split_free (⟨l.toArray⟩ : Str) c
  have h3 := split_pos (⟨l.toArray⟩ : Str) ⟨#[c]⟩
  generalize PySem.Txt.split ⟨l.toArray⟩ ⟨#[c]⟩ = S at h1 h2 h3
  have e : S = (S.map fun s => s.cps.toList).map fun p => (⟨p.toArray⟩ : Str) := by
    rw [List.map_map]
    exact (List.map_id' S).symm.trans (List.map_congr_left fun s _ => rfl)
  have e1 : jnC c (S.map fun s => s.cps.toList) = l := by
    have h4 : PySem.Txt.join ⟨#[c]⟩ S = ⟨l.toArray⟩ := by rw [TL.join_eq]; exact h1
    rw [e, join_sep] at h4
    have := congrArg (fun s : Str => s.cps.toList) h4
    simpa using this
  have e2 := spl_jn (c := c) (S.map fun s => s.cps.toList) (by
    intro z
    have := congrArg List.length z
    rw [List.length_map] at this
    simp at this
    rw [this] at h3
    simp at h3) (fun p hp => by
    obtain ⟨s, hs, rfl⟩ := List.mem_map.mp hp
    exact h2 s hs)
  rw [e1] at e2
  rw [e2]
  exact e
theorem x_split_T {c : Nat} {l : List Nat} (h : l.length ≤ 1000000) : mSplit (T l) (T [c]) = some ((spl c l).map T) := by
  have e : mSplit (T l) (T [c]) = if ((⟨#[c]⟩ : Str).length == 0) = false ∧ (⟨l.toArray⟩ : Str).length + 2 ≤ sizeLine then some ((PySem.Txt.split ⟨l.toArray⟩ ⟨#[c]⟩).map PyData.str) else none := rfl
  rw [e, if_pos ⟨rfl, by rw [show (⟨l.toArray⟩ : Str).length = l.length from T_len l]; exact size_ok (by omega)⟩, split_T, List.map_map]
  rfl
end W

/-! books of marks: class_of, parts_of -/
namespace W
open PySem PySem.Spec PyProof.Rows L2 G
abbrev Join := Nat × Nat × Nat
abbrev Book := List (Nat × Nat) × List Join
abbrev encC (c : Nat) : D := T [c]
def encCl (p : Nat × Nat) : D := .tuple [T [p.1], encN p.2]
def encJ (p : Join) : D := .tuple [T [p.1], T [p.2.1], T [p.2.2]]
def encB (b : Book) : D := .tuple [.tuple (b.1.map encCl), .tuple (b.2.map encJ)]
def clsM (cl : List (Nat × Nat)) (s : Nat) : Nat := ((cl.find? fun p => decide (p.1 = s)).map (·.2)).getD 0
def sg (c : Nat) : Prop := c < 128
theorem sg.ok {c : Nat} (h : sg c) : c < 0x110000 := by unfold sg at h; omega
structure BkS (b : Book) : Prop where
  c1 : ∀ p ∈ b.1, sg p.1
  c2 : ∀ p ∈ b.1, p.2 ≤ 9 ∧ 0 < p.2
  j : ∀ p ∈ b.2, sg p.1 ∧ sg p.2.1 ∧ sg p.2.2
  l1 : b.1.length ≤ 10
  l2 : b.2.length ≤ 10
theorem class_ok {b : Book} (hb : BkS b) (s n : Nat) (hs : sg s) : Fn_class_of [.d (encB b), .d (T [s])] n = .ok (encN (clsM b.1 s)) n := by
  refine run_to rfl ?_
  unfold g_class_of
  refine sat_seq ?_
  have e0 : atI [PyData.tuple (b.1.map encCl), .tuple (b.2.map encJ)] 0 = some (.tuple (b.1.map encCl)) := rfl
  simp only [e_sFor, e_gItems, e_c2, e_cVar, e_cC, List.getElem?_cons_succ, List.getElem?_cons_zero, Res.bind_ok, encB, x_ix_tup, e0, Res.lift_some, x_it_tup, ofR_ok]
  refine sat_find encCl (fun p => decide (p.1 = s)) (fun p => encN p.2) (fun ρ => ∃ x2 x3, ρ = [some (.d (encB b)), some (.d (T [s])), x2, x3]) b.1 ⟨_, _, rfl⟩ ?_ ?_ ?_
  · rintro p hp ρ ⟨x2, x3, rfl⟩
    refine ⟨[some (.d (encB b)), some (.d (T [s])), some (.d (T [p.1])), some (.d (encN p.2))], rfl, fun h => ?_, fun h => ⟨[some (.d (encB b)), some (.d (T [s])), some (.d (T [p.1])), some (.d (encN p.2))], ?_, _, _, rfl⟩⟩
    · simp [e_sIf, x_eq_C (hb.c1 p hp).ok hs.ok, h]
    · simp [e_sIf, x_eq_C (hb.c1 p hp).ok hs.ok, h]
  · intro p hp
    exact ⟨by unfold clsM; rw [hp]; rfl, rfl⟩
  · rintro hn ρ ⟨x2, x3, rfl⟩
    refine sret rfl ⟨by unfold clsM; rw [hn]; rfl, rfl⟩
/-! ### parts -/
def partsR : List Join → Nat → List Nat
  | [], s => [s]
  | (b, m, w) :: r, s => if w = s then partsR r b ++ [m] else partsR r s
def parts (J : List Join) (s : Nat) : List Nat := partsR J.reverse s
/-- no base is a whole of this or a later join, wholes are unlike -/
def wfJ : List Join → Prop
  | [] => True
  | (b, _, w) :: r => (∀ q ∈ r, q.2.2 ≠ w) ∧ b ≠ w ∧ (∀ q ∈ r, q.2.2 ≠ b) ∧ wfJ r
theorem partsR_app (s : Nat) : ∀ (a b : List Join), (∀ q ∈ a, q.2.2 ≠ s) → partsR (a ++ b) s = partsR b s
  | [], _, _ => rfl
  | (x, m, w) :: a, b, h => by
    have h1 := h (x, m, w) List.mem_cons_self
    show (if w = s then _ else partsR (a ++ b) s) = _
    rw [if_neg h1]
    exact partsR_app s a b fun q hq => h q (List.mem_cons_of_mem _ hq)
theorem partsR_none {s : Nat} {a : List Join} (h : ∀ q ∈ a, q.2.2 ≠ s) : partsR a s = [s] := by
  have := partsR_app s a [] h
  rw [List.append_nil] at this
  exact this
theorem parts_none {s : Nat} {J : List Join} (h : ∀ q ∈ J, q.2.2 ≠ s) : parts J s = [s] := partsR_none fun q hq => h q (List.mem_reverse.mp hq)
theorem wfJ_app : ∀ {a b : List Join}, wfJ (a ++ b) → wfJ b
  | [], _, h => h
  | (x, m, w) :: a, b, h => wfJ_app (a := a) h.2.2.2
theorem wfJ_uniq : ∀ {a b : List Join}, wfJ (a ++ b) → ∀ p ∈ a, ∀ q ∈ b, q.2.2 ≠ p.2.2
  | [], _, _, p, hp => by cases hp
  | (x, m, w) :: a, b, h, p, hp => fun q hq => by
    rcases List.mem_cons.mp hp with e | e
    · rw [e]; exact h.1 q (by simp [hq])
    · exact wfJ_uniq (a := a) h.2.2.2 p e q hq
theorem parts_at {A B : List Join} {b m w : Nat} (h : wfJ (A ++ (b, m, w) :: B)) : parts (A ++ (b, m, w) :: B) w = parts A b ++ [m] ∧ parts (A ++ (b, m, w) :: B) b = parts A b := by
  have hw := wfJ_app h
  have e : (A ++ (b, m, w) :: B).reverse = B.reverse ++ (b, m, w) :: A.reverse := by simp
  constructor
  · unfold parts
    rw [e, partsR_app w _ _ fun q hq => hw.1 q (List.mem_reverse.mp hq)]
    show (if w = w then _ else _) = _
    rw [if_pos rfl]
  · unfold parts
    rw [e, partsR_app b _ _ fun q hq => hw.2.2.1 q (List.mem_reverse.mp hq)]
    show (if w = b then _ else partsR A.reverse b) = _
    rw [if_neg fun z => hw.2.1 z.symm]
theorem parts_eq {J : List Join} (h : wfJ J) {b m w : Nat} (hm : (b, m, w) ∈ J) : parts J w = parts J b ++ [m] := by
  obtain ⟨A, B, rfl⟩ := List.append_of_mem hm
  obtain ⟨e1, e2⟩ := parts_at h
  rw [e1, e2]
theorem find_wf {J : List Join} (h : wfJ J) {b m w : Nat} (hm : (b, m, w) ∈ J) : J.find? (fun p => decide (p.2.2 = w)) = some (b, m, w) := by
  obtain ⟨A, B, rfl⟩ := List.append_of_mem hm
  rw [List.find?_append, List.find?_eq_none.mpr fun p hp => by simpa using fun z => wfJ_uniq h p hp (b, m, w) List.mem_cons_self z.symm]
  simp
theorem partsR_len : ∀ (r : List Join) (s : Nat), (partsR r s).length ≤ r.length + 1
  | [], s => by simp [partsR]
  | (b, m, w) :: r, s => by
    unfold partsR
    split
    · have := partsR_len r b; simp; omega
    · have := partsR_len r s; simp; omega
theorem parts_len (J : List Join) (s : Nat) : (parts J s).length ≤ J.length + 1 := by
  have := partsR_len J.reverse s
  rwa [List.length_reverse] at this
/-- by how many joins stand ahead -/
theorem parts_at_ok {b : Book} (hb : BkS b) (hw : wfJ b.2) : ∀ (k s n : Nat), sg s → (∀ A x B, b.2 = A ++ x :: B → x.2.2 = s → A.length + 2 ≤ k) → 1 ≤ k → Fn_parts_of_at k [.d (encB b), .d (T [s])] n = .ok (T (parts b.2 s)) n
  | 0, _, _, _, _, h => by omega
  | k + 1, s, n, hs, hk, _ => by
    refine run_to rfl ?_
    unfold g_parts_of
    refine sat_seq ?_
    have e0 : atI [PyData.tuple (b.1.map encCl), .tuple (b.2.map encJ)] 1 = some (.tuple (b.2.map encJ)) := rfl
    simp only [e_sFor, e_gItems, e_c2, e_cVar, e_cC, List.getElem?_cons_succ, List.getElem?_cons_zero, Res.bind_ok, encB, x_ix_tup, e0, Res.lift_some, x_it_tup, ofR_ok]
    refine sat_find encJ (fun p => decide (p.2.2 = s)) (fun p => T (parts b.2 p.1 ++ [p.2.1])) (fun ρ => ∃ x2 x3 x4, ρ = [some (.d (encB b)), some (.d (T [s])), x2, x3, x4]) b.2 ⟨_, _, _, rfl⟩ ?_ ?_ ?_
    · rintro p hp ρ ⟨x2, x3, x4, rfl⟩
      obtain ⟨j1, j2, j3⟩ := hb.j p hp
      refine ⟨[some (.d (encB b)), some (.d (T [s])), some (.d (T [p.1])), some (.d (T [p.2.1])), some (.d (T [p.2.2]))], rfl, fun h => ?_, fun h => ⟨[some (.d (encB b)), some (.d (T [s])), some (.d (T [p.1])), some (.d (T [p.2.1])), some (.d (T [p.2.2]))], ?_, _, _, _, rfl⟩⟩
      · have hz : p.2.2 = s := by simpa using h
        obtain ⟨A, B, e⟩ := List.append_of_mem hp
        have hA := hk A p B e hz
        have ih := parts_at_ok hb hw k p.1 n j1 (fun A' x B' e' hx => by
          -- the base is a whole of an earlier join
          have hw2 : wfJ (A ++ p :: B) := e ▸ hw
          have h1 := wfJ_app hw2
          have h2 : x ∈ A := by
            have hx1 : x ∈ A ++ p :: B := by rw [← e, e']; simp
            rcases List.mem_append.mp hx1 with q | q
            · exact q
            · rcases List.mem_cons.mp q with q | q
              · rw [q] at hx; exact (h1.2.1 hx.symm).elim
              · exact (h1.2.2.1 x q hx).elim
          have h3 : A'.length < A.length := by
            rcases Nat.lt_or_ge A'.length A.length with q | q
            · exact q
            · exfalso
              have e2 : A' ++ x :: B' = A ++ p :: B := by rw [← e', ← e]
              have g1 : (A ++ p :: B)[A'.length]? = some x := by rw [← e2]; simp
              have hmem : x ∈ p :: B := by
                rw [List.getElem?_append_right q] at g1
                exact List.mem_of_getElem? g1
              rcases List.mem_cons.mp hmem with q | q
              · rw [q] at hx; exact h1.2.1 hx.symm
              · exact h1.2.2.1 x q hx
          omega) (by omega)
        have hl := parts_len b.2 p.1
        have hl2 := hb.l2
        simp [e_sIf, x_eq_C j3.ok hs.ok, h, ih, size_ok (show (parts b.2 p.1).length + 1 ≤ 16777216 by omega)]
      · simp [e_sIf, x_eq_C j3.ok hs.ok, h]
    · intro p hp
      have h1 := List.find?_some hp
      have h2 := List.mem_of_find?_eq_some hp
      refine ⟨?_, rfl⟩
      have h3 : p.2.2 = s := by simpa using h1
      rw [← h3, parts_eq hw (b := p.1) (m := p.2.1) (w := p.2.2) h2]
    · rintro hn ρ ⟨x2, x3, x4, rfl⟩
      refine sret rfl ⟨?_, rfl⟩
      rw [parts_none fun q hq z => by have := List.find?_eq_none.mp hn q hq; simp [z] at this]
theorem parts_ok {b : Book} (hb : BkS b) (hw : wfJ b.2) (s n : Nat) (hs : sg s) : Fn_parts_of [.d (encB b), .d (T [s])] n = .ok (T (parts b.2 s)) n :=
  parts_at_ok hb hw 12 s n hs (fun A x B e _ => by have := congrArg List.length e; have h := hb.l2; simp at this; omega) (by omega)
end W

/-! in_order -/
namespace W
open PySem PySem.Spec PyProof.Rows L2 G
def leC (f : Nat → Nat) (a b : Nat) : Bool := leN (f a) (f b)
def srt (f : Nat → Nat) (l : List Nat) : List Nat := l.mergeSort (leC f)
theorem leC_trans (f : Nat → Nat) (a b c : Nat) : leC f a b = true → leC f b c = true → leC f a c = true := leN_trans _ _ _
theorem leC_total (f : Nat → Nat) (a b : Nat) : (leC f a b || leC f b a) = true := leN_total _ _
theorem srt_perm (f : Nat → Nat) (l : List Nat) : (srt f l).Perm l := List.mergeSort_perm l _
theorem srt_rise (f : Nat → Nat) (l : List Nat) : (srt f l).Pairwise fun a b => f a ≤ f b := (List.pairwise_mergeSort (leC_trans f) (leC_total f) l).imp fun h => by simpa [leC, leN] using h
theorem srt_cls (f : Nat → Nat) (l : List Nat) (k : Nat) : (srt f l).filter (fun a => decide (f a = k)) = l.filter fun a => decide (f a = k) := by
  have h1 : (l.filter fun a => decide (f a = k)).Sublist (srt f l) := List.sublist_mergeSort (leC_trans f) (leC_total f) (List.Pairwise.imp_of_mem (R := fun _ _ => True) (fun {a b} ha hb _ => by
    have h1 := (List.mem_filter.mp ha).2
    have h2 := (List.mem_filter.mp hb).2
    simp [leC, leN] at *
    omega) (List.pairwise_of_forall (fun _ _ => trivial))) List.filter_sublist
  have h2 := h1.filter fun a => decide (f a = k)
  rw [List.filter_filter] at h2
  simp only [Bool.and_self] at h2
  refine (h2.eq_of_length ?_).symm
  exact ((srt_perm f l).filter fun a => decide (f a = k)).length_eq.symm
theorem srt_uniq (f : Nat → Nat) : ∀ {a b : List Nat}, a.Pairwise (fun x y => f x ≤ f y) → b.Pairwise (fun x y => f x ≤ f y) → (∀ k, a.filter (fun x => decide (f x = k)) = b.filter fun x => decide (f x = k)) → a = b
  | [], [], _, _, _ => rfl
  | [], y :: b, _, _, h => by have := h (f y); simp at this
  | x :: a, [], _, _, h => by have := h (f x); simp at this
  | x :: a, y :: b, ha, hb, h => by
    obtain ⟨a1, a2⟩ := List.pairwise_cons.mp ha
    obtain ⟨b1, b2⟩ := List.pairwise_cons.mp hb
    have hx : x ∈ (y :: b).filter fun z => decide (f z = f x) := by rw [← h (f x)]; simp
    have hy : y ∈ (x :: a).filter fun z => decide (f z = f y) := by rw [h (f y)]; simp
    have h1 : f y ≤ f x := by
      rcases List.mem_cons.mp (List.mem_filter.mp hx).1 with e | e
      · rw [e]; exact Nat.le_refl _
      · exact b1 x e
    have h2 : f x ≤ f y := by
      rcases List.mem_cons.mp (List.mem_filter.mp hy).1 with e | e
      · rw [e]; exact Nat.le_refl _
      · exact a1 y e
    have e : f x = f y := by omega
    have h3 := h (f x)
    rw [List.filter_cons_of_pos (by simp), List.filter_cons_of_pos (by simp [e])] at h3
    obtain ⟨rfl, _⟩ := List.cons.inj h3
    congr 1
    refine srt_uniq f a2 b2 fun k => ?_
    have h4 := h k
    rw [List.filter_cons, List.filter_cons] at h4
    split at h4
    · exact (List.cons.inj h4).2
    · exact h4
theorem srt_is {f : Nat → Nat} {l m : List Nat} (hm : m.Pairwise fun x y => f x ≤ f y) (h : ∀ k, m.filter (fun x => decide (f x = k)) = l.filter fun x => decide (f x = k)) : srt f l = m :=
  srt_uniq f (srt_rise f l) hm fun k => by rw [srt_cls, h]
theorem srt_self {f : Nat → Nat} {l : List Nat} (h : l.Pairwise fun x y => f x ≤ f y) : srt f l = l := srt_is h fun _ => rfl
theorem srt_idem (f : Nat → Nat) (l : List Nat) : srt f (srt f l) = srt f l := srt_self (srt_rise f l)
theorem srt_len (f : Nat → Nat) (l : List Nat) : (srt f l).length = l.length := (srt_perm f l).length_eq
def ordM (f : Nat → Nat) : List Nat → List Nat → List Nat
  | run, [] => srt f run
  | run, s :: r => if f s = 0 then srt f run ++ s :: ordM f [] r else ordM f (run ++ [s]) r
theorem ordM_len (f : Nat → Nat) : ∀ (t run : List Nat), (ordM f run t).length = run.length + t.length
  | [], run => srt_len f run
  | s :: r, run => by
    unfold ordM
    split
    · simp [ordM_len f r, srt_len]
    · rw [ordM_len f r]; simp; omega
/-! ### the program's -/
def e3 (f : Nat → Nat) (p : Nat × Nat) : D := .tuple [encN (f p.1), encN p.2, T [p.1]]
def encRun (f : Nat → Nat) (run : List Nat) : List D := run.zipIdx.map (e3 f)
theorem encRun_snoc (f : Nat → Nat) (run : List Nat) (s : Nat) : encRun f (run ++ [s]) = encRun f run ++ [.tuple [encN (f s), encN run.length, T [s]]] := by
  unfold encRun
  rw [List.zipIdx_append]
  simp [e3]
theorem encRun_len (f : Nat → Nat) (run : List Nat) : (encRun f run).length = run.length := by simp [encRun]
theorem dataLt_trip {x y z x' y' z' : D} (h : PySem.W.alike x x' = true) (h' : PySem.W.alike y y' = true) (h'' : PySem.W.alike z z' = true) : PySem.W.dataLt (.tuple [x, y, z]) (.tuple [x', y', z']) = if PyData.eqv x x' = true then (if PyData.eqv y y' = true then (if PyData.eqv z z' = true then false else PySem.W.dataLt z z') else PySem.W.dataLt y y') else PySem.W.dataLt x x' := by
  rw [PySem.W.dataLt_tuple, PySem.W.dataLt_cons h, PySem.W.dataLt_cons h', PySem.W.dataLt_cons h'']
  have e : PyProof.Rows.lexLt itemOrd (PySem.W.keyToksAll []) (PySem.W.keyToksAll []) = false := lex_irrefl _
  rw [e]
theorem le_e3 (f : Nat → Nat) (p q : Nat × Nat) (h : p.2 = q.2 → p = q) : List.zipIdxLE (leC f) p q = PySem.W.dataLe false id (e3 f p) (e3 f q) := by
  show _ = !PySem.W.dataLt (e3 f q) (e3 f p)
  unfold e3
  rw [dataLt_trip (by simp [encN, PySem.W.alike]) (by simp [encN, PySem.W.alike]) (by simp [T, PySem.W.alike]), eqE_N.dec, eqE_N.dec, eqE_C.dec]
  unfold encN
  rw [PySem.W.dataLt_int, PySem.W.dataLt_int]
  unfold List.zipIdxLE leC leN
  by_cases h1 : f p.1 = f q.1
  · by_cases h2 : p.2 = q.2
    · rw [h h2]; simp
    · have h2' : ¬ q.2 = p.2 := fun z => h2 z.symm
      rw [Bool.eq_iff_iff]
      simp [h1, h2']
  · have h1' : ¬ f q.1 = f p.1 := fun z => h1 z.symm
    rw [Bool.eq_iff_iff]
    simp [h1']
    try omega
theorem sort_run (f : Nat → Nat) (run : List Nat) : fSort [.list (encRun f run)] = some ((run.zipIdx.mergeSort (List.zipIdxLE (leC f))).map (e3 f)) := by
  unfold encRun
  refine x_sort_E (sortOk_E (fun a _ b _ => by simp [e3, encN, T, PySem.W.alike, PySem.W.alikeAll]) (PySem.W.Sortable.tuples fun _ => ⟨_, _, rfl⟩) fun a _ => by simp [e3, encN, T, PyData.depth, PyData.depthAll]) fun p hp q hq => le_e3 f p q fun e => ?_
  have h1 := List.mem_zipIdx_iff_getElem?.mp (show (p.1, p.2) ∈ run.zipIdx from hp)
  have h2 := List.mem_zipIdx_iff_getElem?.mp (show (q.1, q.2) ∈ run.zipIdx from hq)
  rw [e, h2] at h1
  exact Prod.ext (Option.some.inj h1).symm e
def ordE (b : Book) (t : List Nat) : List Nat := ordM (clsM b.1) [] t
theorem order_ok {b : Book} (hb : BkS b) (t : List Nat) (n : Nat) (ht : ∀ c ∈ t, sg c) (hl : t.length ≤ 100000) : Fn_in_order [.d (encB b), .d (T t)] n = .ok (T (ordE b t)) n := by
  refine run_to rfl ?_
  unfold g_in_order
  refine sq (by simp [size_ok]; exact ⟨rfl, rfl⟩) ?_
  refine sq (by simp [size_ok]; exact ⟨rfl, rfl⟩) ?_
  have hx : ∀ (run fnd : List Nat) (x4 x5 x6 x7 x8 : Option L), run.length ≤ 100000 → sExt 2 (cF (borrowF 3 (cLc [6, 7, 8] (tgP [(tgN 6), (tgN 7), (tgN 8)]) (gItems (cF (cBtF fSortA (aVar 3 aNil)))) bYes (cVar 8)))) [some (.d (encB b)), some (.d (T t)), some (.own (fnd.map encC)), some (.own (encRun (clsM b.1) run)), x4, x5, x6, x7, x8] n
      = if fnd.length + run.length ≤ sizeLine then .nx [some (.d (encB b)), some (.d (T t)), some (.own ((fnd ++ srt (clsM b.1) run).map encC)), some (.own (encRun (clsM b.1) run)), x4, x5, x6, x7, x8] n else .bad := by
    intro run fnd x4 x5 x6 x7 x8 hr
    have lc := e_lcm (vs := [6, 7, 8]) (fa := gItems (cF (cBtF fSortA (aVar 3 aNil)))) (tg := tgP [(tgN 6), (tgN 7), (tgN 8)]) (te := cVar 8) (ρ := [some (.d (encB b)), some (.d (T t)), some (.own (fnd.map encC)), some (.d (.list (encRun (clsM b.1) run))), x4, x5, x6, x7, x8]) (n := n) (e3 (clsM b.1)) (fun p => encC p.1) (run.zipIdx.mergeSort (List.zipIdxLE (leC (clsM b.1)))) (by simp [sort_run]) (by simp; omega) fun p hp => ⟨_, rfl, by simp [encC]⟩
    have e : ((run.zipIdx.mergeSort (List.zipIdxLE (leC (clsM b.1)))).map fun p => encC p.1) = (srt (clsM b.1) run).map encC := by
      unfold srt
      have := List.mergeSort_zipIdx (l := run) (le := leC (clsM b.1))
      rw [← this, List.map_map]
      rfl
    rw [e] at lc
    have hnl : noListA ((srt (clsM b.1) run).map encC) = true := by
      have := noListA_T ((srt (clsM b.1) run).map fun c => [c])
      rwa [List.map_map] at this
    simp [lc, hnl, srt_len]
  have hfin : ∀ (run fnd : List Nat) (x4 x5 x6 x7 x8 : Option L), run.length ≤ 100000 → ordE b t = fnd ++ srt (clsM b.1) run → (sSeq (sExt 2 (cF (borrowF 3 (cLc [6, 7, 8] (tgP [(tgN 6), (tgN 7), (tgN 8)]) (gItems (cF (cBtF fSortA (aVar 3 aNil)))) bYes (cVar 8))))) (sRet (borrow 2 (cM1 mJoin (cC (T [])) (cVar 2)))) [some (.d (encB b)), some (.d (T t)), some (.own (fnd.map encC)), some (.own (encRun (clsM b.1) run)), x4, x5, x6, x7, x8] n).Sat no2 (fun d k => d = T (ordE b t) ∧ k = n) no2 no2 := by
    intro run fnd x4 x5 x6 x7 x8 hr he
    have hl2 := congrArg List.length he
    have hol := ordM_len (clsM b.1) t []
    unfold ordE at hl2
    rw [hol] at hl2
    simp [srt_len] at hl2
    refine sq (by rw [hx run fnd x4 x5 x6 x7 x8 hr, if_pos (size_ok (by omega))]) ?_
    rw [← he]
    have hj := join_C (l := ordE b t) (by unfold ordE; rw [hol]; simp; omega)
    refine sret (d := T (ordE b t)) (n1 := n) ?_ ⟨rfl, rfl⟩
    have hj' : mJoin (T []) (.list ((ordE b t).map encC)) = some (T (ordE b t)) := hj
    simp [hj', noList_T]
  refine sat_seq ?_
  simp only [List.set_cons_succ, List.set_cons_zero, e_sFor, e_gItems, e_cVar, List.getElem?_cons_succ, List.getElem?_cons_zero, Res.bind_ok, x_it_T, Res.lift_some, ofR_ok]
  refine sat_for encC (fun pre ρ m => m = n ∧ ∃ (fnd run : List Nat) (x4 x5 x6 x7 x8 : Option L), ρ = [some (.d (encB b)), some (.d (T t)), some (.own (fnd.map encC)), some (.own (encRun (clsM b.1) run)), x4, x5, x6, x7, x8] ∧ fnd.length + run.length = pre.length ∧ ∀ post, pre ++ post = t → ordE b t = fnd ++ ordM (clsM b.1) run post) t ⟨rfl, [], [], _, _, _, _, _, rfl, rfl, fun post e => by rw [← e]; rfl⟩ ?_ ?_
  · rintro pre s post ρ m e ⟨hm, fnd, run, x4, x5, x6, x7, x8, rfl, hlen, hord⟩
    have hm2 := hm.symm
    subst hm2
    have hlt := congrArg List.length e
    simp at hlt
    have hs : sg s := ht s (by rw [e]; simp)
    refine ⟨_, rfl, ?_⟩
    have hc := class_ok hb s n hs
    refine sq (by simp [encC, hc]; exact ⟨rfl, rfl⟩) ?_
    have ho := hord (s :: post) e.symm
    unfold ordM at ho
    refine sif (k := decide (clsM b.1 s = 0)) (n1 := n) ?_ (fun h => ?_) (fun h => ?_)
    · have hz : ((clsM b.1 s : Int) == 0) = decide (clsM b.1 s = 0) := by rw [Bool.eq_iff_iff]; simp
      simp [encN, hz]
    · have h0 := of_decide_eq_true h
      rw [if_pos h0] at ho
      refine sq (by rw [hx run fnd _ _ _ _ _ (by omega), if_pos (size_ok (by omega))]) ?_
      refine sq (by simp [size_lt (show fnd.length + (srt (clsM b.1) run).length < 16777216 by rw [srt_len]; omega), encC]; exact ⟨rfl, rfl⟩) ?_
      refine so (by simp [size_ok]; exact ⟨rfl, rfl⟩) ?_
      refine ⟨rfl, fnd ++ srt (clsM b.1) run ++ [s], [], some (.d (T [s])), some (.d (encN (clsM b.1 s))), x6, x7, x8, ?_, ?_, ?_⟩
      · simp [encC, encRun]
      · simp [srt_len]; omega
      · intro post' e'
        have : post' = post := by
          have h1 : pre ++ [s] ++ post' = pre ++ [s] ++ post := by rw [e', e]; simp
          exact List.append_cancel_left h1
        subst this
        rw [ho]
        simp
    · have h0 := of_decide_eq_false h
      rw [if_neg h0] at ho
      have hln : run.length < sizeLine := size_lt (by omega)
      have hno : noList (.tuple [.int (clsM b.1 s), .int run.length, T [s]]) = true := by simp [noList, noListA, T]
      refine so (by simp [encC, encRun_len, size_ok, encN, hno, hln]; first | exact ⟨rfl, rfl⟩ | rfl) ?_
      refine ⟨rfl, fnd, run ++ [s], some (.d (T [s])), some (.d (encN (clsM b.1 s))), x6, x7, x8, ?_, ?_, ?_⟩
      · rw [encRun_snoc]
        rfl
      · simp; omega
      · intro post' e'
        have : post' = post := by
          have h1 : pre ++ [s] ++ post' = pre ++ [s] ++ post := by rw [e', e]; simp
          exact List.append_cancel_left h1
        subst this
        exact ho
  · rintro ρ m ⟨rfl, fnd, run, x4, x5, x6, x7, x8, rfl, hlen, hord⟩
    exact hfin run fnd x4 x5 x6 x7 x8 (by omega) (hord [] (by simp))
end W

/-! parted -/
namespace W
open PySem PySem.Spec PyProof.Rows L2 G
theorem okT_sg {t : List Nat} (h : ∀ c ∈ t, sg c) : okT t = true := by
  unfold okT
  rw [List.all_eq_true]
  intro c hc
  have := (h c hc).ok
  simpa using this
theorem partsR_mem : ∀ (r : List Join) (s c : Nat), c ∈ partsR r s → c = s ∨ ∃ q ∈ r, c = q.1 ∨ c = q.2.1
  | [], s, c, h => .inl (List.mem_singleton.mp h)
  | (b, m, w) :: r, s, c, h => by
    unfold partsR at h
    split at h
    · rcases List.mem_append.mp h with h | h
      · rcases partsR_mem r b c h with h | ⟨q, hq, h⟩
        · exact .inr ⟨_, List.mem_cons_self, .inl h⟩
        · exact .inr ⟨q, List.mem_cons_of_mem _ hq, h⟩
      · exact .inr ⟨_, List.mem_cons_self, .inr (List.mem_singleton.mp h)⟩
    · rcases partsR_mem r s c h with h | ⟨q, hq, h⟩
      · exact .inl h
      · exact .inr ⟨q, List.mem_cons_of_mem _ hq, h⟩
theorem parts_sg {b : Book} (hb : BkS b) {s : Nat} (hs : sg s) : ∀ c ∈ parts b.2 s, sg c := fun c hc => by
  rcases partsR_mem _ _ _ hc with rfl | ⟨q, hq, h⟩
  · exact hs
  · obtain ⟨j1, j2, _⟩ := hb.j q (List.mem_reverse.mp hq)
    rcases h with rfl | rfl
    · exact j1
    · exact j2
def apart (b : Book) (t : List Nat) : List Nat := t.flatMap (parts b.2)
theorem apart_len {b : Book} (hb : BkS b) (t : List Nat) : (apart b t).length ≤ 11 * t.length := by
  induction t with
  | nil => simp [apart]
  | cons s t ih =>
    have h1 := parts_len b.2 s
    have h2 := hb.l2
    unfold apart at *
    rw [List.flatMap_cons, List.length_append, List.length_cons]
    omega
theorem apart_sg {b : Book} (hb : BkS b) {t : List Nat} (ht : ∀ c ∈ t, sg c) : ∀ c ∈ apart b t, sg c := fun c hc => by
  obtain ⟨s, hs, hc⟩ := List.mem_flatMap.mp hc
  exact parts_sg hb (ht s hs) c hc
def partedM (b : Book) (t : List Nat) : List Nat := ordE b (apart b t)
theorem ordM_mem {f : Nat → Nat} {c : Nat} : ∀ (t run : List Nat), c ∈ ordM f run t ↔ c ∈ run ∨ c ∈ t
  | [], run => by
    unfold ordM
    rw [(srt_perm f run).mem_iff]
    simp
  | s :: r, run => by
    unfold ordM
    split
    · rw [List.mem_append, List.mem_cons, ordM_mem r [], (srt_perm f run).mem_iff]
      simp
    · rw [ordM_mem r]
      simp [or_assoc]
theorem ordE_mem {b : Book} {c : Nat} {t : List Nat} : c ∈ ordE b t ↔ c ∈ t := by unfold ordE; rw [ordM_mem]; simp
theorem ordE_len (b : Book) (t : List Nat) : (ordE b t).length = t.length := by unfold ordE; rw [ordM_len]; simp
theorem partedM_sg {b : Book} (hb : BkS b) {t : List Nat} (ht : ∀ c ∈ t, sg c) : ∀ c ∈ partedM b t, sg c := fun c hc => apart_sg hb ht c (ordE_mem.mp hc)
theorem partedM_len {b : Book} (hb : BkS b) (t : List Nat) : (partedM b t).length ≤ 11 * t.length := by unfold partedM; rw [ordE_len]; exact apart_len hb t
theorem flat_map (f : Nat → List Nat) (t : List Nat) : (t.map f).flatten = t.flatMap f := by rw [List.flatMap_def]
theorem parted_ok {b : Book} (hb : BkS b) (hw : wfJ b.2) (t : List Nat) (n : Nat) (ht : ∀ c ∈ t, sg c) (hl : t.length ≤ 9000) : Fn_parted [.d (encB b), .d (T t)] n = .ok (T (partedM b t)) n := by
  refine run_to rfl ?_
  unfold g_parted
  have lc := e_lcm (vs := [2]) (fa := gItems (cVar 1)) (tg := tgN 2) (te := cCall 2 Fn_parts_of (aVar 0 (aVar 2 aNil))) (ρ := [some (.d (encB b)), some (.d (T t)), none]) (n := n) encC (fun c => T (parts b.2 c)) t (by simp [encC] <;> rfl) (by omega) fun c hc => ⟨_, rfl, by simp [encC, parts_ok hb hw c n (ht c hc)]⟩
  have hal := apart_len hb t
  have e : mJoin (T []) (.list (t.map fun c => T (parts b.2 c))) = some (T (apart b t)) := by
    have := x_join_l (ls := t.map (parts b.2)) (by rw [sum_flat, flat_map]; show (apart b t).length ≤ _; omega)
    rw [List.map_map, flat_map] at this
    exact this
  refine sret (d := T (partedM b t)) (n1 := n) ?_ ⟨rfl, rfl⟩
  have ho := order_ok hb (apart b t) n (apart_sg hb ht) (by omega)
  simp [lc, e, ho]
  rfl
end W

/-! refused deeds -/
namespace W
open PySem PySem.Spec PyProof.Rows L2 G
theorem run_exc {m : Nat} {g : MS} {ls : List L} {ρ0 ρ1 : G.Env} {n n' : Nat} {c : String} (e : ls.map some ++ List.replicate (m - ls.length) none = ρ0) (h : g ρ0 n = .ex c ρ1 n') : runF m g ls n = .ex c n' := by
  subst e
  unfold runF
  rw [h]
theorem seq_ex {f g : MS} {ρ ρ1 : G.Env} {n n1 : Nat} {c : String} (h : f ρ n = .ex c ρ1 n1) : sSeq f g ρ n = .ex c ρ1 n1 := by
  rw [e_sSeq, h]
theorem seq_nx {f g : MS} {ρ ρ1 : G.Env} {n n1 : Nat} {o : Out} (h : f ρ n = .nx ρ1 n1) (h2 : g ρ1 n1 = o) : sSeq f g ρ n = o := by
  rw [e_sSeq, h]
  exact h2
section
variable {t : List Nat} {p : Int} {n : Nat}
/-- out of the text -/
def Out0 (t : List Nat) (p : Int) : Prop := p < 0 ∨ (t.length : Int) < p
theorem needZ (hl : t.length ≤ 1000) (hp : Out0 t p) : Fn_need [.d (T t), .d (.int p)] n = .ex "NoPlace" n := by
  have zr : t.length ≤ sizeLine := size_ok (by omega)
  refine run_exc (ρ0 := [some (.d (T t)), some (.d (.int p))]) (ρ1 := [some (.d (T t)), some (.d (.int p))]) rfl ?_
  unfold g_need
  by_cases h1 : 0 ≤ p
  · have h2 : ¬ p ≤ (t.length : Int) := by unfold Out0 at hp; omega
    rw [e_sIf]
    simp only [e_bNot, e_cB, e_cCh, e_cC, e_cVar, e_cBt, e_aVar, e_aNil, List.getElem?_cons_succ, List.getElem?_cons_zero, Res.bind_ok, encN, x_le, Res.lift_some, e_asB, h1, decide_true, if_true, e_asDs, e_dsCons, e_dsNil, Option.map_some, x_len_T, zr, h2]
    rfl
  · rw [e_sIf]
    simp only [e_bNot, e_cB, e_cCh, e_cC, e_cVar, e_cBt, e_aVar, e_aNil, List.getElem?_cons_succ, List.getElem?_cons_zero, Res.bind_ok, encN, x_le, Res.lift_some, e_asB, h1, decide_false]
    rfl
theorem iscutZ {a b : D} (hl : t.length ≤ 1000) (hp : Out0 t p) : Fn_is_cut [.d a, .d b, .d (T t), .d (.int p)] n = .ex "NoPlace" n := by
  have h1 := needZ (n := n) hl hp
  refine run_exc (ρ0 := [some (.d a), some (.d b), some (.d (T t)), some (.d (.int p))]) (ρ1 := [some (.d a), some (.d b), some (.d (T t)), some (.d (.int p))]) rfl ?_
  unfold g_is_cut
  refine seq_ex ?_
  simp [h1]
theorem nextZ {a b : D} (hl : t.length ≤ 1000) (hp : Out0 t p) : Fn_next_cut [.d a, .d b, .d (T t), .d (.int p)] n = .ex "NoPlace" n := by
  have h1 := needZ (n := n) hl hp
  refine run_exc (ρ1 := [some (.d a), some (.d b), some (.d (T t)), some (.d (.int p)), none, none]) rfl ?_
  unfold g_next_cut
  refine seq_ex ?_
  simp [h1]
theorem lastZ {a b : D} (hl : t.length ≤ 1000) (hp : Out0 t p) : Fn_last_cut [.d a, .d b, .d (T t), .d (.int p)] n = .ex "NoPlace" n := by
  have h1 := needZ (n := n) hl hp
  refine run_exc (ρ1 := [some (.d a), some (.d b), some (.d (T t)), some (.d (.int p)), none, none]) rfl ?_
  unfold g_last_cut
  refine seq_ex ?_
  simp [h1]
theorem nearZ {a b : D} (hl : t.length ≤ 1000) (hp : Out0 t p) : Fn_nearest [.d a, .d b, .d (T t), .d (.int p)] n = .ex "NoPlace" n := by
  have h1 := needZ (n := n) hl hp
  refine run_exc (ρ1 := [some (.d a), some (.d b), some (.d (T t)), some (.d (.int p)), none, none]) rfl ?_
  unfold g_nearest
  refine seq_ex ?_
  simp [h1]
/-- not within -/
theorem whyZ {a b : D} (hl : t.length ≤ 1000) (hp : p ≤ 0 ∨ (t.length : Int) ≤ p) : Fn_why [.d a, .d b, .d (T t), .d (.int p)] n = .ex "NoPlace" n := by
  have zr : t.length ≤ sizeLine := size_ok (by omega)
  refine run_exc (ρ0 := [some (.d a), some (.d b), some (.d (T t)), some (.d (.int p))]) (ρ1 := [some (.d a), some (.d b), some (.d (T t)), some (.d (.int p))]) rfl ?_
  unfold g_why
  refine seq_ex ?_
  by_cases h1 : 0 < p
  · have h2 : ¬ p < (t.length : Int) := by omega
    rw [e_sIf]
    simp only [e_bNot, e_cB, e_cCh, e_cC, e_cVar, e_cBt, e_aVar, e_aNil, List.getElem?_cons_succ, List.getElem?_cons_zero, Res.bind_ok, encN, x_lt, x_le, Res.lift_some, e_asB, h1, decide_true, if_true, e_asDs, e_dsCons, e_dsNil, Option.map_some, x_len_T, zr, h2]
    rfl
  · rw [e_sIf]
    simp only [e_bNot, e_cB, e_cCh, e_cC, e_cVar, e_cBt, e_aVar, e_aNil, List.getElem?_cons_succ, List.getElem?_cons_zero, Res.bind_ok, encN, x_lt, x_le, Res.lift_some, e_asB, h1, decide_false]
    rfl
theorem pieceatZ {a b : D} (hl : t.length ≤ 1000) (hp : p < 0 ∨ (t.length : Int) ≤ p) : Fn_piece_at [.d a, .d b, .d (T t), .d (.int p)] n = .ex "NoPlace" n := by
  have zr : t.length ≤ sizeLine := size_ok (by omega)
  refine run_exc (ρ0 := [some (.d a), some (.d b), some (.d (T t)), some (.d (.int p)), none]) (ρ1 := [some (.d a), some (.d b), some (.d (T t)), some (.d (.int p)), none]) rfl ?_
  unfold g_piece_at
  refine seq_ex ?_
  by_cases h1 : 0 ≤ p
  · have h2 : ¬ p < (t.length : Int) := by omega
    rw [e_sIf]
    simp only [e_bNot, e_cB, e_cCh, e_cC, e_cVar, e_cBt, e_aVar, e_aNil, List.getElem?_cons_succ, List.getElem?_cons_zero, Res.bind_ok, encN, x_lt, x_le, Res.lift_some, e_asB, h1, decide_true, if_true, e_asDs, e_dsCons, e_dsNil, Option.map_some, x_len_T, zr, h2]
    rfl
  · rw [e_sIf]
    simp only [e_bNot, e_cB, e_cCh, e_cC, e_cVar, e_cBt, e_aVar, e_aNil, List.getElem?_cons_succ, List.getElem?_cons_zero, Res.bind_ok, encN, x_lt, x_le, Res.lift_some, e_asB, h1, decide_false]
    rfl
theorem columnZ {a b c : D} (hl : t.length ≤ 1000) (hp : Out0 t p) : Fn_column_of [.d a, .d b, .d c, .d (T t), .d (.int p)] n = .ex "NoPlace" n := by
  have zr : t.length ≤ sizeLine := size_ok (by omega)
  refine run_exc (ρ0 := [some (.d a), some (.d b), some (.d c), some (.d (T t)), some (.d (.int p)), none, none, none, none, none]) (ρ1 := [some (.d a), some (.d b), some (.d c), some (.d (T t)), some (.d (.int p)), none, none, none, none, none]) rfl ?_
  unfold g_column_of
  refine seq_ex ?_
  by_cases h1 : 0 ≤ p
  · have h2 : ¬ p ≤ (t.length : Int) := by unfold Out0 at hp; omega
    rw [e_sIf]
    simp only [e_bNot, e_cB, e_cCh, e_cC, e_cVar, e_cBt, e_aVar, e_aNil, List.getElem?_cons_succ, List.getElem?_cons_zero, Res.bind_ok, encN, x_lt, x_le, Res.lift_some, e_asB, h1, decide_true, if_true, e_asDs, e_dsCons, e_dsNil, Option.map_some, x_len_T, zr, h2]
    rfl
  · rw [e_sIf]
    simp only [e_bNot, e_cB, e_cCh, e_cC, e_cVar, e_cBt, e_aVar, e_aNil, List.getElem?_cons_succ, List.getElem?_cons_zero, Res.bind_ok, encN, x_lt, x_le, Res.lift_some, e_asB, h1, decide_false]
    rfl
theorem numberZ (hl : t.length ≤ 24) (hp : Out0 t p) : Fn_piece_number [.d (.tuple []), .d (.tuple []), .d (T t), .d (.int p)] n = .ex "NoPlace" n := by
  have hpc : Fn_pieces [.d (.tuple []), .d (.tuple []), .d (T t)] n = .ok (.tuple ((piecesOf [] [] t).map T)) n := pcs_ok [] [] t n hl (by simp)
  have hpl := piecesOf_len [] [] t
  have zr : (piecesOf [] [] t).length ≤ sizeLine := size_ok (by omega)
  refine run_exc (ρ0 := [some (.d (.tuple [])), some (.d (.tuple [])), some (.d (T t)), some (.d (.int p)), none]) (ρ1 := [some (.d (.tuple [])), some (.d (.tuple [])), some (.d (T t)), some (.d (.int p)), some (.d (.tuple ((piecesOf [] [] t).map T)))]) rfl ?_
  unfold g_piece_number
  refine seq_nx (ρ1 := [some (.d (.tuple [])), some (.d (.tuple [])), some (.d (T t)), some (.d (.int p)), some (.d (.tuple ((piecesOf [] [] t).map T)))]) (n1 := n) (by simp [hpc]) ?_
  refine seq_ex ?_
  by_cases h1 : 0 ≤ p
  · have h2 : ¬ p < ((piecesOf [] [] t).length : Int) := by unfold Out0 at hp; omega
    simp [e_sIf, h1, h2, zr]
  · simp [e_sIf, h1]
variable {ks : List (Nat × Nat)} {rs ws : List Rule} {s : St} {b l : List St}
theorem goZ (hq : cq n = some (curQ ks rs ws s b l)) (o : okS s) (held : D) (hc : Out0 s.1 p) : Fn_Cursor_go [.cur, .d (.int p), .d held] n = .ex "NoPlace" n := by
  have fk : (curQ ks rs ws s b l).kd = encKs ks := rfl
  have fr : (curQ ks rs ws s b l).rl = encRs rs := rfl
  have tx := textC hq
  refine run_exc (ρ0 := [some .cur, some (.d (.int p)), some (.d held)]) (ρ1 := [some .cur, some (.d (.int p)), some (.d held)]) rfl ?_
  unfold g_Cursor_go
  refine seq_ex ?_
  have hl := o.len
  have ix := iscutZ (a := encKs ks) (b := encRs rs) (t := s.1) (p := p) (n := n) (by omega) hc
  simp [e_sIf, e_cFld hq, e_aCur hq, fk, fr, tx, ix]
theorem backX (hq : cq n = some (curQ ks rs ws s [] l)) : Fn_Cursor_back [.cur] n = .ex "NoStep" n := by
  refine run_exc (ρ0 := [some .cur]) (ρ1 := [some .cur]) rfl ?_
  unfold g_Cursor_back
  refine seq_ex ?_
  have e : (curQ ks rs ws s [] l).bef.isEmpty = true := by simp [curQ]
  simp only [e_sIf, e_bNot, bBef, List.getElem?_cons_zero, hq, e, Res.bind_ok, Bool.not_false, Bool.not_true, ofR_ok, if_true]
  rfl
theorem forthX (hq : cq n = some (curQ ks rs ws s b [])) : Fn_Cursor_forth [.cur] n = .ex "NoStep" n := by
  refine run_exc (ρ0 := [some .cur]) (ρ1 := [some .cur]) rfl ?_
  unfold g_Cursor_forth
  refine seq_ex ?_
  have e : (curQ ks rs ws s b []).lat.isEmpty = true := by simp [curQ]
  simp only [e_sIf, e_bNot, bLat, List.getElem?_cons_zero, hq, e, Res.bind_ok, Bool.not_false, Bool.not_true, ofR_ok, if_true]
  rfl
end
end W

namespace W
open PySem PySem.Spec PyProof.Rows L2 G
/-! ### shown -/
theorem kd0 (c : Nat) : kd [] c = 79 := by
  rcases kd_in [] c with h | h
  · exact h
  · simp at h
theorem wd0 (c : Nat) : wdM [] c = 1 := by
  rcases wd_in [] c with h | h
  · exact h
  · simp at h
theorem widS : ∀ (t : List Nat), 2 ≤ t.length → t.length ≤ 7 → widM [] [] [] t = t.length := by
  intro t h1 h2
  have e : rowM [] t = List.replicate t.length 79 := by
    unfold rowM
    clear h1 h2
    induction t with
    | nil => rfl
    | cons a r ih => rw [List.map_cons, ih, kd0]; rfl
  unfold widM piecesOf
  rw [e]
  match t, h1, h2 with
  | [a, b], _, _ => rw [show cutsM (List.replicate [a, b].length 79) [] = [0, 1, 2] from by show cutsM [79, 79] [] = _; decide]; simp [piecesM, pw_one, wd0]
  | [a, b, c], _, _ => rw [show cutsM (List.replicate [a, b, c].length 79) [] = [0, 1, 2, 3] from by show cutsM [79, 79, 79] [] = _; decide]; simp [piecesM, pw_one, wd0]
  | [a, b, c, d], _, _ => rw [show cutsM (List.replicate [a, b, c, d].length 79) [] = [0, 1, 2, 3, 4] from by show cutsM [79, 79, 79, 79] [] = _; decide]; simp [piecesM, pw_one, wd0]
  | [a, b, c, d, e], _, _ => rw [show cutsM (List.replicate [a, b, c, d, e].length 79) [] = [0, 1, 2, 3, 4, 5] from by show cutsM [79, 79, 79, 79, 79] [] = _; decide]; simp [piecesM, pw_one, wd0]
  | [a, b, c, d, e, f], _, _ => rw [show cutsM (List.replicate [a, b, c, d, e, f].length 79) [] = [0, 1, 2, 3, 4, 5, 6] from by show cutsM [79, 79, 79, 79, 79, 79] [] = _; decide]; simp [piecesM, pw_one, wd0]
  | [a, b, c, d, e, f, g], _, _ => rw [show cutsM (List.replicate [a, b, c, d, e, f, g].length 79) [] = [0, 1, 2, 3, 4, 5, 6, 7] from by show cutsM [79, 79, 79, 79, 79, 79, 79] [] = _; decide]; simp [piecesM, pw_one, wd0]
theorem shownZ {t u : List Nat} {m : Int} {n : Nat} (h1 : 2 ≤ t.length) (h2 : t.length ≤ 7) (h3 : 2 ≤ u.length) (h4 : u.length ≤ 7) (hm : m < t.length) (hm2 : m < u.length) :
    Fn_shown [.d (.tuple []), .d (.tuple []), .d (.tuple []), .d (T t), .d (.int m), .d (T u)] n = .ex "NoPlace" n := by
  have w1 : Fn_width [.d (.tuple []), .d (.tuple []), .d (.tuple []), .d (T t)] n = .ok (.int t.length) n := by
    have := wid_ok [] [] [] t n (by omega) (by simp)
    rw [widS t h1 h2] at this
    exact this
  have w2 : Fn_width [.d (.tuple []), .d (.tuple []), .d (.tuple []), .d (T u)] n = .ok (.int u.length) n := by
    have := wid_ok [] [] [] u n (by omega) (by simp)
    rw [widS u h3 h4] at this
    exact this
  have c1 : ¬ ((t.length : Int) ≤ m) := by omega
  have c2 : m - (u.length : Int) < 0 := by omega
  refine run_exc (ρ1 := [some (.d (.tuple [])), some (.d (.tuple [])), some (.d (.tuple [])), some (.d (T t)), some (.d (.int m)), some (.d (T u)), some (.d (.int (m - u.length)))]) rfl ?_
  unfold g_shown
  refine seq_nx (ρ1 := [some (.d (.tuple [])), some (.d (.tuple [])), some (.d (.tuple [])), some (.d (T t)), some (.d (.int m)), some (.d (T u)), none]) (n1 := n) (by simp [e_sIf, w1, c1]) ?_
  refine seq_nx (ρ1 := [some (.d (.tuple [])), some (.d (.tuple [])), some (.d (.tuple [])), some (.d (T t)), some (.d (.int m)), some (.d (T u)), some (.d (.int (m - u.length)))]) (n1 := n) (by simp [w2]) ?_
  refine seq_ex ?_
  simp [e_sIf, c2]
/-! ### chain -/
theorem alike_ok {b : Book} (hb : BkS b) (hw : wfJ b.2) (t u : List Nat) (n : Nat) (ht : ∀ c ∈ t, sg c) (hl : t.length ≤ 9000) (hu : ∀ c ∈ u, sg c) (hul : u.length ≤ 9000) : Fn_alike [.d (encB b), .d (T t), .d (T u)] n = .ok (.bool (decide (partedM b t = partedM b u))) n := by
  refine run_to rfl ?_
  unfold g_alike
  exact sret (n1 := n) (by simp [parted_ok hb hw t n ht hl, parted_ok hb hw u n hu hul, x_eq_E eqE_T (okD_T (okT_sg (partedM_sg hb ht))) (okD_T (okT_sg (partedM_sg hb hu)))] <;> rfl) ⟨rfl, rfl⟩
def b0 : Book := ([(94, 1), (126, 2)], [(97, 94, 65)])
theorem b0S : BkS b0 := ⟨by intro p hp; simp [b0] at hp; rcases hp with rfl | rfl <;> simp [sg], by intro p hp; simp [b0] at hp; rcases hp with rfl | rfl <;> simp, by intro p hp; simp [b0] at hp; subst hp; simp [sg], by decide, by decide⟩
theorem b0W : wfJ b0.2 := by simp [b0, wfJ]
abbrev bb (k : Nat) : List Nat := List.replicate k 98
theorem chainZ {k n : Nat} (hk : k ≤ 4) : Fn_chain [.d (encB b0), .d (T (97 :: 94 :: bb k)), .d (T (65 :: (bb k ++ [94])))] n = .ex "NoChain" n := by
  have hs1 : ∀ c ∈ 97 :: 94 :: bb k, sg c := by
    intro c hc
    simp only [List.mem_cons, List.mem_replicate] at hc
    unfold sg
    omega
  have hs2 : ∀ c ∈ 65 :: (bb k ++ [94]), sg c := by
    intro c hc
    simp only [List.mem_cons, List.mem_append, List.mem_replicate, List.not_mem_nil, or_false] at hc
    unfold sg
    omega
  have ne : ¬ partedM b0 (97 :: 94 :: bb k) = partedM b0 (65 :: (bb k ++ [94])) := fun h => by
    have := congrArg List.length h
    unfold partedM at this
    rw [ordE_len, ordE_len] at this
    revert this
    match k, hk with
    | 0, _ => decide
    | 1, _ => decide
    | 2, _ => decide
    | 3, _ => decide
    | 4, _ => decide
  have al := alike_ok b0S b0W (97 :: 94 :: bb k) (65 :: (bb k ++ [94])) n hs1 (by simp; omega) hs2 (by simp; omega)
  rw [decide_eq_false ne] at al
  refine run_exc (ρ1 := [some (.d (encB b0)), some (.d (T (97 :: 94 :: bb k))), some (.d (T (65 :: (bb k ++ [94])))), none, none]) rfl ?_
  unfold g_chain
  refine seq_ex ?_
  simp [e_sIf, al]
/-! ### read -/
theorem rulesZ (n : Nat) : Fn_are_rules [.d (.tuple [])] n = .ok (.bool true) n := by
  refine run_to (ρ0 := [some (.d (.tuple [])), none]) rfl ?_
  unfold g_are_rules
  have lc : cLc [1] (tgN 1) (gItems (cVar 0)) bYes (cCall 1 Fn_is_rule (aVar 1 aNil)) [some (.d (.tuple [])), none] n = .ok (([] : List (List Nat)).map T) n :=
    e_lcm T T ([] : List (List Nat)) (by simp) (by simp) (fun p hp => by cases hp)
  refine sret (n1 := n) ?_ ⟨rfl, rfl⟩
  have fa : fAll [PyData.list []] = some (.bool true) := rfl
  simp [vAnd, lc, fa]
theorem writtenZ (n : Nat) : Fn_written [.d (.tuple [])] n = .ok (T []) n := by
  refine run_to (ρ0 := [some (.d (.tuple [])), none, none, none, none, none, none]) rfl ?_
  unfold g_written
  refine sq (ρ1 := [some (.d (.tuple [])), some (.d (T [])), none, none, none, none, none]) (n1 := n) (by simp) ?_
  refine sq (ρ1 := [some (.d (.tuple [])), some (.d (T [])), none, none, none, none, none]) (n1 := n) (by simp [e_sFor, forL]) ?_
  exact sret (n1 := n) (by simp) ⟨rfl, rfl⟩
theorem readZ {t : List Nat} {n : Nat} (ht : 10 ∉ t) (hl : t.length ≤ 100) (h0 : t ≠ []) (hok : okT t = true) : Fn_read [.d (T t)] n = .ex "NoText" n := by
  have zr : t.length ≤ sizeLine := size_ok (by omega)
  have sp := x_split_T (c := 10) (l := t) (by omega)
  rw [spl_one t ht] at sp
  have lc : cLc [2] (tgN 2) (gItems (cSl (cF (cM1F mSplit (cVar 0) (cC (T [10])))) gNoPart (gPart (c1 opNeg (cC (.int 1)))))) bYes (cCall 1 Fn_rule_in (aVar 2 aNil)) [some (.d (T t)), none, none] n = .ok (([] : List (List Nat)).map T) n :=
    e_lcm T T ([] : List (List Nat)) (by simp [sp, x_neg, x_part, cutL_init]) (by simp) (fun p hp => by cases hp)
  refine run_exc (ρ1 := [some (.d (T t)), some (.d (.tuple [])), none]) rfl ?_
  unfold g_read
  refine seq_nx (ρ1 := [some (.d (T t)), some (.d (.tuple [])), none]) (n1 := n) (by simp [lc]) ?_
  refine seq_ex ?_
  have ne := x_ne_T (a := ([] : List Nat)) (b := t) rfl hok
  have h4 : (([] : List Nat) == t) = false := by
    cases t with
    | nil => exact absurd rfl h0
    | cons a r => rfl
  simp [e_sIf, rulesZ, writtenZ, ne, h4]
end W

/-! the fifteen deeds -/
namespace W
open PySem PySem.Spec PyProof.Rows L2 G
def exE (j : Nat) : String := if j < 11 then "NoPlace" else if j = 11 then "NoChain" else if j < 14 then "NoStep" else "NoText"
section
variable {k n : Nat} {p : Int} {s : St} {b : List St} {m : D}
/-- the state at a deed -/
structure AtD (k : Nat) (p : Int) (s : St) (b : List St) (n : Nat) : Prop where
  hk : k ≤ 4
  o0 : Out0 (bb k) p
  o1 : Out0 s.1 p
  q : cq n = some (curQ [] [] [] s b [])
  pq : pq n = none
  ok : okS s
theorem bbl (k : Nat) : (bb k).length = k := List.length_replicate
abbrev dE (j : Int) (k : Nat) (p : Int) : G.Env := [some (.d (.int j)), some (.d (T (bb k))), some (.d (.int p)), some .cur, some (.d (encB b0))]
theorem bookZ (j : Int) : sSet 4 (cTup (aCons (cTup (aCons (cTup (aCons (cC (T [94])) (aCons (cC (.int 1)) aNil))) (aCons (cTup (aCons (cC (T [126])) (aCons (cC (.int 2)) aNil))) aNil))) (aCons (cTup (aCons (cTup (aCons (cC (T [97])) (aCons (cC (T [94])) (aCons (cC (T [65])) aNil)))) aNil)) aNil))) [some (.d (.int j)), some (.d (T (bb k))), some (.d (.int p)), some .cur, none] n = .nx (dE j k p) n := by
  simp
  rfl
theorem emp (n : Nat) (ρ : G.Env) : cTup aNil ρ n = .ok (.tuple []) n := by simp

theorem deed0 (A : AtD k p s b n) : Fn_law_deed [.d (.int 0), .d (T (bb k)), .d (.int p), .cur] n = .ex "NoPlace" n := by
  have hk := A.hk
  have hl : (bb k).length ≤ 1000 := by rw [bbl]; omega
  have zr : (bb k).length ≤ sizeLine := size_ok (by omega)
  have zk : k ≤ sizeLine := size_ok (by omega)
  have hw : p ≤ 0 ∨ ((bb k).length : Int) ≤ p := by have := A.o0; unfold Out0 at this; omega
  have xa1 : opAdd (T (bb k)) (T [97, 98]) = some (T (bb k ++ [97, 98])) := add_T (by rw [bbl]; simp; omega)
  have xa2 : opAdd (T (bb k)) (T [97, 98, 99]) = some (T (bb k ++ [97, 98, 99])) := add_T (by rw [bbl]; simp; omega)
  have xa3 : opAdd (T [97, 94]) (T (bb k)) = some (T (97 :: 94 :: bb k)) := add_T (by rw [bbl]; simp; omega)
  have xa4 : opAdd (T [65]) (T (bb k)) = some (T (65 :: bb k)) := add_T (by rw [bbl]; simp; omega)
  have xa5 : opAdd (T (65 :: bb k)) (T [94]) = some (T (65 :: (bb k ++ [94]))) := add_T (by simp; omega)
  have xa6 : opAdd (T [65, 32, 120]) (T (bb k)) = some (T (65 :: 32 :: 120 :: bb k)) := add_T (by rw [bbl]; simp; omega)
  have hok : okT (65 :: 32 :: 120 :: bb k) = true := okT_sg (fun c hc => by
    simp only [List.mem_cons, List.mem_replicate] at hc
    unfold sg
    omega)
  have h := iscutZ (a := .tuple []) (b := .tuple []) (n := n) hl A.o0
  refine run_exc (ρ1 := dE 0 k p) rfl ?_
  unfold g_law_deed
  refine seq_nx (bookZ _) ?_
  simp [-x_add_T, e_sIf, h]
theorem deed1 (A : AtD k p s b n) : Fn_law_deed [.d (.int 1), .d (T (bb k)), .d (.int p), .cur] n = .ex "NoPlace" n := by
  have hk := A.hk
  have hl : (bb k).length ≤ 1000 := by rw [bbl]; omega
  have zr : (bb k).length ≤ sizeLine := size_ok (by omega)
  have zk : k ≤ sizeLine := size_ok (by omega)
  have hw : p ≤ 0 ∨ ((bb k).length : Int) ≤ p := by have := A.o0; unfold Out0 at this; omega
  have xa1 : opAdd (T (bb k)) (T [97, 98]) = some (T (bb k ++ [97, 98])) := add_T (by rw [bbl]; simp; omega)
  have xa2 : opAdd (T (bb k)) (T [97, 98, 99]) = some (T (bb k ++ [97, 98, 99])) := add_T (by rw [bbl]; simp; omega)
  have xa3 : opAdd (T [97, 94]) (T (bb k)) = some (T (97 :: 94 :: bb k)) := add_T (by rw [bbl]; simp; omega)
  have xa4 : opAdd (T [65]) (T (bb k)) = some (T (65 :: bb k)) := add_T (by rw [bbl]; simp; omega)
  have xa5 : opAdd (T (65 :: bb k)) (T [94]) = some (T (65 :: (bb k ++ [94]))) := add_T (by simp; omega)
  have xa6 : opAdd (T [65, 32, 120]) (T (bb k)) = some (T (65 :: 32 :: 120 :: bb k)) := add_T (by rw [bbl]; simp; omega)
  have hok : okT (65 :: 32 :: 120 :: bb k) = true := okT_sg (fun c hc => by
    simp only [List.mem_cons, List.mem_replicate] at hc
    unfold sg
    omega)
  have h := whyZ (a := .tuple []) (b := .tuple []) (n := n) hl hw
  refine run_exc (ρ1 := dE 1 k p) rfl ?_
  unfold g_law_deed
  refine seq_nx (bookZ _) ?_
  simp [-x_add_T, e_sIf, h]
theorem deed2 (A : AtD k p s b n) : Fn_law_deed [.d (.int 2), .d (T (bb k)), .d (.int p), .cur] n = .ex "NoPlace" n := by
  have hk := A.hk
  have hl : (bb k).length ≤ 1000 := by rw [bbl]; omega
  have zr : (bb k).length ≤ sizeLine := size_ok (by omega)
  have zk : k ≤ sizeLine := size_ok (by omega)
  have hw : p ≤ 0 ∨ ((bb k).length : Int) ≤ p := by have := A.o0; unfold Out0 at this; omega
  have xa1 : opAdd (T (bb k)) (T [97, 98]) = some (T (bb k ++ [97, 98])) := add_T (by rw [bbl]; simp; omega)
  have xa2 : opAdd (T (bb k)) (T [97, 98, 99]) = some (T (bb k ++ [97, 98, 99])) := add_T (by rw [bbl]; simp; omega)
  have xa3 : opAdd (T [97, 94]) (T (bb k)) = some (T (97 :: 94 :: bb k)) := add_T (by rw [bbl]; simp; omega)
  have xa4 : opAdd (T [65]) (T (bb k)) = some (T (65 :: bb k)) := add_T (by rw [bbl]; simp; omega)
  have xa5 : opAdd (T (65 :: bb k)) (T [94]) = some (T (65 :: (bb k ++ [94]))) := add_T (by simp; omega)
  have xa6 : opAdd (T [65, 32, 120]) (T (bb k)) = some (T (65 :: 32 :: 120 :: bb k)) := add_T (by rw [bbl]; simp; omega)
  have hok : okT (65 :: 32 :: 120 :: bb k) = true := okT_sg (fun c hc => by
    simp only [List.mem_cons, List.mem_replicate] at hc
    unfold sg
    omega)
  have h := whyZ (a := .tuple []) (b := .tuple []) (t := bb k) (p := 0) (n := n) hl (.inl (Int.le_refl _))
  refine run_exc (ρ1 := dE 2 k p) rfl ?_
  unfold g_law_deed
  refine seq_nx (bookZ _) ?_
  simp [-x_add_T, e_sIf, h]
theorem deed3 (A : AtD k p s b n) : Fn_law_deed [.d (.int 3), .d (T (bb k)), .d (.int p), .cur] n = .ex "NoPlace" n := by
  have hk := A.hk
  have hl : (bb k).length ≤ 1000 := by rw [bbl]; omega
  have zr : (bb k).length ≤ sizeLine := size_ok (by omega)
  have zk : k ≤ sizeLine := size_ok (by omega)
  have hw : p ≤ 0 ∨ ((bb k).length : Int) ≤ p := by have := A.o0; unfold Out0 at this; omega
  have xa1 : opAdd (T (bb k)) (T [97, 98]) = some (T (bb k ++ [97, 98])) := add_T (by rw [bbl]; simp; omega)
  have xa2 : opAdd (T (bb k)) (T [97, 98, 99]) = some (T (bb k ++ [97, 98, 99])) := add_T (by rw [bbl]; simp; omega)
  have xa3 : opAdd (T [97, 94]) (T (bb k)) = some (T (97 :: 94 :: bb k)) := add_T (by rw [bbl]; simp; omega)
  have xa4 : opAdd (T [65]) (T (bb k)) = some (T (65 :: bb k)) := add_T (by rw [bbl]; simp; omega)
  have xa5 : opAdd (T (65 :: bb k)) (T [94]) = some (T (65 :: (bb k ++ [94]))) := add_T (by simp; omega)
  have xa6 : opAdd (T [65, 32, 120]) (T (bb k)) = some (T (65 :: 32 :: 120 :: bb k)) := add_T (by rw [bbl]; simp; omega)
  have hok : okT (65 :: 32 :: 120 :: bb k) = true := okT_sg (fun c hc => by
    simp only [List.mem_cons, List.mem_replicate] at hc
    unfold sg
    omega)
  have h := nextZ (a := .tuple []) (b := .tuple []) (n := n) hl A.o0
  refine run_exc (ρ1 := dE 3 k p) rfl ?_
  unfold g_law_deed
  refine seq_nx (bookZ _) ?_
  simp [-x_add_T, e_sIf, h]
theorem deed4 (A : AtD k p s b n) : Fn_law_deed [.d (.int 4), .d (T (bb k)), .d (.int p), .cur] n = .ex "NoPlace" n := by
  have hk := A.hk
  have hl : (bb k).length ≤ 1000 := by rw [bbl]; omega
  have zr : (bb k).length ≤ sizeLine := size_ok (by omega)
  have zk : k ≤ sizeLine := size_ok (by omega)
  have hw : p ≤ 0 ∨ ((bb k).length : Int) ≤ p := by have := A.o0; unfold Out0 at this; omega
  have xa1 : opAdd (T (bb k)) (T [97, 98]) = some (T (bb k ++ [97, 98])) := add_T (by rw [bbl]; simp; omega)
  have xa2 : opAdd (T (bb k)) (T [97, 98, 99]) = some (T (bb k ++ [97, 98, 99])) := add_T (by rw [bbl]; simp; omega)
  have xa3 : opAdd (T [97, 94]) (T (bb k)) = some (T (97 :: 94 :: bb k)) := add_T (by rw [bbl]; simp; omega)
  have xa4 : opAdd (T [65]) (T (bb k)) = some (T (65 :: bb k)) := add_T (by rw [bbl]; simp; omega)
  have xa5 : opAdd (T (65 :: bb k)) (T [94]) = some (T (65 :: (bb k ++ [94]))) := add_T (by simp; omega)
  have xa6 : opAdd (T [65, 32, 120]) (T (bb k)) = some (T (65 :: 32 :: 120 :: bb k)) := add_T (by rw [bbl]; simp; omega)
  have hok : okT (65 :: 32 :: 120 :: bb k) = true := okT_sg (fun c hc => by
    simp only [List.mem_cons, List.mem_replicate] at hc
    unfold sg
    omega)
  have h := lastZ (a := .tuple []) (b := .tuple []) (n := n) hl A.o0
  refine run_exc (ρ1 := dE 4 k p) rfl ?_
  unfold g_law_deed
  refine seq_nx (bookZ _) ?_
  simp [-x_add_T, e_sIf, h]
theorem deed5 (A : AtD k p s b n) : Fn_law_deed [.d (.int 5), .d (T (bb k)), .d (.int p), .cur] n = .ex "NoPlace" n := by
  have hk := A.hk
  have hl : (bb k).length ≤ 1000 := by rw [bbl]; omega
  have zr : (bb k).length ≤ sizeLine := size_ok (by omega)
  have zk : k ≤ sizeLine := size_ok (by omega)
  have hw : p ≤ 0 ∨ ((bb k).length : Int) ≤ p := by have := A.o0; unfold Out0 at this; omega
  have xa1 : opAdd (T (bb k)) (T [97, 98]) = some (T (bb k ++ [97, 98])) := add_T (by rw [bbl]; simp; omega)
  have xa2 : opAdd (T (bb k)) (T [97, 98, 99]) = some (T (bb k ++ [97, 98, 99])) := add_T (by rw [bbl]; simp; omega)
  have xa3 : opAdd (T [97, 94]) (T (bb k)) = some (T (97 :: 94 :: bb k)) := add_T (by rw [bbl]; simp; omega)
  have xa4 : opAdd (T [65]) (T (bb k)) = some (T (65 :: bb k)) := add_T (by rw [bbl]; simp; omega)
  have xa5 : opAdd (T (65 :: bb k)) (T [94]) = some (T (65 :: (bb k ++ [94]))) := add_T (by simp; omega)
  have xa6 : opAdd (T [65, 32, 120]) (T (bb k)) = some (T (65 :: 32 :: 120 :: bb k)) := add_T (by rw [bbl]; simp; omega)
  have hok : okT (65 :: 32 :: 120 :: bb k) = true := okT_sg (fun c hc => by
    simp only [List.mem_cons, List.mem_replicate] at hc
    unfold sg
    omega)
  have h := pieceatZ (a := .tuple []) (b := .tuple []) (t := bb k) (p := (k : Int)) (n := n) hl (.inr (by rw [bbl]; exact Int.le_refl _))
  refine run_exc (ρ1 := dE 5 k p) rfl ?_
  unfold g_law_deed
  refine seq_nx (bookZ _) ?_
  simp [-x_add_T, e_sIf, h, x_len_T, zr, zk, bbl]
theorem deed6 (A : AtD k p s b n) : Fn_law_deed [.d (.int 6), .d (T (bb k)), .d (.int p), .cur] n = .ex "NoPlace" n := by
  have hk := A.hk
  have hl : (bb k).length ≤ 1000 := by rw [bbl]; omega
  have zr : (bb k).length ≤ sizeLine := size_ok (by omega)
  have zk : k ≤ sizeLine := size_ok (by omega)
  have hw : p ≤ 0 ∨ ((bb k).length : Int) ≤ p := by have := A.o0; unfold Out0 at this; omega
  have xa1 : opAdd (T (bb k)) (T [97, 98]) = some (T (bb k ++ [97, 98])) := add_T (by rw [bbl]; simp; omega)
  have xa2 : opAdd (T (bb k)) (T [97, 98, 99]) = some (T (bb k ++ [97, 98, 99])) := add_T (by rw [bbl]; simp; omega)
  have xa3 : opAdd (T [97, 94]) (T (bb k)) = some (T (97 :: 94 :: bb k)) := add_T (by rw [bbl]; simp; omega)
  have xa4 : opAdd (T [65]) (T (bb k)) = some (T (65 :: bb k)) := add_T (by rw [bbl]; simp; omega)
  have xa5 : opAdd (T (65 :: bb k)) (T [94]) = some (T (65 :: (bb k ++ [94]))) := add_T (by simp; omega)
  have xa6 : opAdd (T [65, 32, 120]) (T (bb k)) = some (T (65 :: 32 :: 120 :: bb k)) := add_T (by rw [bbl]; simp; omega)
  have hok : okT (65 :: 32 :: 120 :: bb k) = true := okT_sg (fun c hc => by
    simp only [List.mem_cons, List.mem_replicate] at hc
    unfold sg
    omega)
  have h := numberZ (n := n) (t := bb k) (p := p) (by rw [bbl]; omega) A.o0
  refine run_exc (ρ1 := dE 6 k p) rfl ?_
  unfold g_law_deed
  refine seq_nx (bookZ _) ?_
  simp [-x_add_T, e_sIf, h]
theorem deed7 (A : AtD k p s b n) : Fn_law_deed [.d (.int 7), .d (T (bb k)), .d (.int p), .cur] n = .ex "NoPlace" n := by
  have hk := A.hk
  have hl : (bb k).length ≤ 1000 := by rw [bbl]; omega
  have zr : (bb k).length ≤ sizeLine := size_ok (by omega)
  have zk : k ≤ sizeLine := size_ok (by omega)
  have hw : p ≤ 0 ∨ ((bb k).length : Int) ≤ p := by have := A.o0; unfold Out0 at this; omega
  have xa1 : opAdd (T (bb k)) (T [97, 98]) = some (T (bb k ++ [97, 98])) := add_T (by rw [bbl]; simp; omega)
  have xa2 : opAdd (T (bb k)) (T [97, 98, 99]) = some (T (bb k ++ [97, 98, 99])) := add_T (by rw [bbl]; simp; omega)
  have xa3 : opAdd (T [97, 94]) (T (bb k)) = some (T (97 :: 94 :: bb k)) := add_T (by rw [bbl]; simp; omega)
  have xa4 : opAdd (T [65]) (T (bb k)) = some (T (65 :: bb k)) := add_T (by rw [bbl]; simp; omega)
  have xa5 : opAdd (T (65 :: bb k)) (T [94]) = some (T (65 :: (bb k ++ [94]))) := add_T (by simp; omega)
  have xa6 : opAdd (T [65, 32, 120]) (T (bb k)) = some (T (65 :: 32 :: 120 :: bb k)) := add_T (by rw [bbl]; simp; omega)
  have hok : okT (65 :: 32 :: 120 :: bb k) = true := okT_sg (fun c hc => by
    simp only [List.mem_cons, List.mem_replicate] at hc
    unfold sg
    omega)
  have h := nearZ (a := .tuple []) (b := .tuple []) (n := n) hl A.o0
  refine run_exc (ρ1 := dE 7 k p) rfl ?_
  unfold g_law_deed
  refine seq_nx (bookZ _) ?_
  simp [-x_add_T, e_sIf, h]
theorem deed8 (A : AtD k p s b n) : Fn_law_deed [.d (.int 8), .d (T (bb k)), .d (.int p), .cur] n = .ex "NoPlace" n := by
  have hk := A.hk
  have hl : (bb k).length ≤ 1000 := by rw [bbl]; omega
  have zr : (bb k).length ≤ sizeLine := size_ok (by omega)
  have zk : k ≤ sizeLine := size_ok (by omega)
  have hw : p ≤ 0 ∨ ((bb k).length : Int) ≤ p := by have := A.o0; unfold Out0 at this; omega
  have xa1 : opAdd (T (bb k)) (T [97, 98]) = some (T (bb k ++ [97, 98])) := add_T (by rw [bbl]; simp; omega)
  have xa2 : opAdd (T (bb k)) (T [97, 98, 99]) = some (T (bb k ++ [97, 98, 99])) := add_T (by rw [bbl]; simp; omega)
  have xa3 : opAdd (T [97, 94]) (T (bb k)) = some (T (97 :: 94 :: bb k)) := add_T (by rw [bbl]; simp; omega)
  have xa4 : opAdd (T [65]) (T (bb k)) = some (T (65 :: bb k)) := add_T (by rw [bbl]; simp; omega)
  have xa5 : opAdd (T (65 :: bb k)) (T [94]) = some (T (65 :: (bb k ++ [94]))) := add_T (by simp; omega)
  have xa6 : opAdd (T [65, 32, 120]) (T (bb k)) = some (T (65 :: 32 :: 120 :: bb k)) := add_T (by rw [bbl]; simp; omega)
  have hok : okT (65 :: 32 :: 120 :: bb k) = true := okT_sg (fun c hc => by
    simp only [List.mem_cons, List.mem_replicate] at hc
    unfold sg
    omega)
  have h := columnZ (a := .tuple []) (b := .tuple []) (c := .tuple []) (n := n) hl A.o0
  refine run_exc (ρ1 := dE 8 k p) rfl ?_
  unfold g_law_deed
  refine seq_nx (bookZ _) ?_
  simp [-x_add_T, e_sIf, h]
theorem deed9 (A : AtD k p s b n) : Fn_law_deed [.d (.int 9), .d (T (bb k)), .d (.int p), .cur] n = .ex "NoPlace" n := by
  have hk := A.hk
  have hl : (bb k).length ≤ 1000 := by rw [bbl]; omega
  have zr : (bb k).length ≤ sizeLine := size_ok (by omega)
  have zk : k ≤ sizeLine := size_ok (by omega)
  have hw : p ≤ 0 ∨ ((bb k).length : Int) ≤ p := by have := A.o0; unfold Out0 at this; omega
  have xa1 : opAdd (T (bb k)) (T [97, 98]) = some (T (bb k ++ [97, 98])) := add_T (by rw [bbl]; simp; omega)
  have xa2 : opAdd (T (bb k)) (T [97, 98, 99]) = some (T (bb k ++ [97, 98, 99])) := add_T (by rw [bbl]; simp; omega)
  have xa3 : opAdd (T [97, 94]) (T (bb k)) = some (T (97 :: 94 :: bb k)) := add_T (by rw [bbl]; simp; omega)
  have xa4 : opAdd (T [65]) (T (bb k)) = some (T (65 :: bb k)) := add_T (by rw [bbl]; simp; omega)
  have xa5 : opAdd (T (65 :: bb k)) (T [94]) = some (T (65 :: (bb k ++ [94]))) := add_T (by simp; omega)
  have xa6 : opAdd (T [65, 32, 120]) (T (bb k)) = some (T (65 :: 32 :: 120 :: bb k)) := add_T (by rw [bbl]; simp; omega)
  have hok : okT (65 :: 32 :: 120 :: bb k) = true := okT_sg (fun c hc => by
    simp only [List.mem_cons, List.mem_replicate] at hc
    unfold sg
    omega)
  have h := shownZ (t := bb k ++ [97, 98]) (u := bb k ++ [97, 98, 99]) (m := (k : Int) + 1) (n := n) (by simp) (by simp; omega) (by simp) (by simp; omega) (by simp) (by simp)
  refine run_exc (ρ1 := dE 9 k p) rfl ?_
  unfold g_law_deed
  refine seq_nx (bookZ _) ?_
  simp [-x_add_T, e_sIf, h, x_len_T, zr, zk, bbl, xa1, xa2]
theorem deed10 (A : AtD k p s b n) : Fn_law_deed [.d (.int 10), .d (T (bb k)), .d (.int p), .cur] n = .ex "NoPlace" n := by
  have hk := A.hk
  have hl : (bb k).length ≤ 1000 := by rw [bbl]; omega
  have zr : (bb k).length ≤ sizeLine := size_ok (by omega)
  have zk : k ≤ sizeLine := size_ok (by omega)
  have hw : p ≤ 0 ∨ ((bb k).length : Int) ≤ p := by have := A.o0; unfold Out0 at this; omega
  have xa1 : opAdd (T (bb k)) (T [97, 98]) = some (T (bb k ++ [97, 98])) := add_T (by rw [bbl]; simp; omega)
  have xa2 : opAdd (T (bb k)) (T [97, 98, 99]) = some (T (bb k ++ [97, 98, 99])) := add_T (by rw [bbl]; simp; omega)
  have xa3 : opAdd (T [97, 94]) (T (bb k)) = some (T (97 :: 94 :: bb k)) := add_T (by rw [bbl]; simp; omega)
  have xa4 : opAdd (T [65]) (T (bb k)) = some (T (65 :: bb k)) := add_T (by rw [bbl]; simp; omega)
  have xa5 : opAdd (T (65 :: bb k)) (T [94]) = some (T (65 :: (bb k ++ [94]))) := add_T (by simp; omega)
  have xa6 : opAdd (T [65, 32, 120]) (T (bb k)) = some (T (65 :: 32 :: 120 :: bb k)) := add_T (by rw [bbl]; simp; omega)
  have hok : okT (65 :: 32 :: 120 :: bb k) = true := okT_sg (fun c hc => by
    simp only [List.mem_cons, List.mem_replicate] at hc
    unfold sg
    omega)
  have h := fun d => goZ (n := n) A.q A.ok d A.o1
  refine run_exc (ρ1 := dE 10 k p) rfl ?_
  unfold g_law_deed
  refine seq_nx (bookZ _) ?_
  simp [-x_add_T, e_sIf, h, e_aCur A.q]
theorem deed11 (A : AtD k p s b n) : Fn_law_deed [.d (.int 11), .d (T (bb k)), .d (.int p), .cur] n = .ex "NoChain" n := by
  have hk := A.hk
  have hl : (bb k).length ≤ 1000 := by rw [bbl]; omega
  have zr : (bb k).length ≤ sizeLine := size_ok (by omega)
  have zk : k ≤ sizeLine := size_ok (by omega)
  have hw : p ≤ 0 ∨ ((bb k).length : Int) ≤ p := by have := A.o0; unfold Out0 at this; omega
  have xa1 : opAdd (T (bb k)) (T [97, 98]) = some (T (bb k ++ [97, 98])) := add_T (by rw [bbl]; simp; omega)
  have xa2 : opAdd (T (bb k)) (T [97, 98, 99]) = some (T (bb k ++ [97, 98, 99])) := add_T (by rw [bbl]; simp; omega)
  have xa3 : opAdd (T [97, 94]) (T (bb k)) = some (T (97 :: 94 :: bb k)) := add_T (by rw [bbl]; simp; omega)
  have xa4 : opAdd (T [65]) (T (bb k)) = some (T (65 :: bb k)) := add_T (by rw [bbl]; simp; omega)
  have xa5 : opAdd (T (65 :: bb k)) (T [94]) = some (T (65 :: (bb k ++ [94]))) := add_T (by simp; omega)
  have xa6 : opAdd (T [65, 32, 120]) (T (bb k)) = some (T (65 :: 32 :: 120 :: bb k)) := add_T (by rw [bbl]; simp; omega)
  have hok : okT (65 :: 32 :: 120 :: bb k) = true := okT_sg (fun c hc => by
    simp only [List.mem_cons, List.mem_replicate] at hc
    unfold sg
    omega)
  have h := chainZ (n := n) A.hk
  refine run_exc (ρ1 := dE 11 k p) rfl ?_
  unfold g_law_deed
  refine seq_nx (bookZ _) ?_
  simp [-x_add_T, e_sIf, h, xa3, xa4, xa5]
theorem deed12 (A : AtD k p s b n) : Fn_law_deed [.d (.int 12), .d (T (bb k)), .d (.int p), .cur] n = .ex "NoStep" n := by
  have hk := A.hk
  have hl : (bb k).length ≤ 1000 := by rw [bbl]; omega
  have zr : (bb k).length ≤ sizeLine := size_ok (by omega)
  have zk : k ≤ sizeLine := size_ok (by omega)
  have hw : p ≤ 0 ∨ ((bb k).length : Int) ≤ p := by have := A.o0; unfold Out0 at this; omega
  have xa1 : opAdd (T (bb k)) (T [97, 98]) = some (T (bb k ++ [97, 98])) := add_T (by rw [bbl]; simp; omega)
  have xa2 : opAdd (T (bb k)) (T [97, 98, 99]) = some (T (bb k ++ [97, 98, 99])) := add_T (by rw [bbl]; simp; omega)
  have xa3 : opAdd (T [97, 94]) (T (bb k)) = some (T (97 :: 94 :: bb k)) := add_T (by rw [bbl]; simp; omega)
  have xa4 : opAdd (T [65]) (T (bb k)) = some (T (65 :: bb k)) := add_T (by rw [bbl]; simp; omega)
  have xa5 : opAdd (T (65 :: bb k)) (T [94]) = some (T (65 :: (bb k ++ [94]))) := add_T (by simp; omega)
  have xa6 : opAdd (T [65, 32, 120]) (T (bb k)) = some (T (65 :: 32 :: 120 :: bb k)) := add_T (by rw [bbl]; simp; omega)
  have hok : okT (65 :: 32 :: 120 :: bb k) = true := okT_sg (fun c hc => by
    simp only [List.mem_cons, List.mem_replicate] at hc
    unfold sg
    omega)
  have h := forthX (n := n) A.q
  refine run_exc (ρ1 := dE 12 k p) rfl ?_
  unfold g_law_deed
  refine seq_nx (bookZ _) ?_
  simp [-x_add_T, e_sIf, h, e_aCur A.q]
theorem deed14 (A : AtD k p s b n) : Fn_law_deed [.d (.int 14), .d (T (bb k)), .d (.int p), .cur] n = .ex "NoText" n := by
  have hk := A.hk
  have hl : (bb k).length ≤ 1000 := by rw [bbl]; omega
  have zr : (bb k).length ≤ sizeLine := size_ok (by omega)
  have zk : k ≤ sizeLine := size_ok (by omega)
  have hw : p ≤ 0 ∨ ((bb k).length : Int) ≤ p := by have := A.o0; unfold Out0 at this; omega
  have xa1 : opAdd (T (bb k)) (T [97, 98]) = some (T (bb k ++ [97, 98])) := add_T (by rw [bbl]; simp; omega)
  have xa2 : opAdd (T (bb k)) (T [97, 98, 99]) = some (T (bb k ++ [97, 98, 99])) := add_T (by rw [bbl]; simp; omega)
  have xa3 : opAdd (T [97, 94]) (T (bb k)) = some (T (97 :: 94 :: bb k)) := add_T (by rw [bbl]; simp; omega)
  have xa4 : opAdd (T [65]) (T (bb k)) = some (T (65 :: bb k)) := add_T (by rw [bbl]; simp; omega)
  have xa5 : opAdd (T (65 :: bb k)) (T [94]) = some (T (65 :: (bb k ++ [94]))) := add_T (by simp; omega)
  have xa6 : opAdd (T [65, 32, 120]) (T (bb k)) = some (T (65 :: 32 :: 120 :: bb k)) := add_T (by rw [bbl]; simp; omega)
  have hok : okT (65 :: 32 :: 120 :: bb k) = true := okT_sg (fun c hc => by
    simp only [List.mem_cons, List.mem_replicate] at hc
    unfold sg
    omega)
  have h := readZ (t := 65 :: 32 :: 120 :: bb k) (n := n) (by simp [List.mem_replicate]) (by simp; omega) (by simp) hok
  refine run_exc (ρ1 := dE 14 k p) rfl ?_
  unfold g_law_deed
  refine seq_nx (bookZ _) ?_
  simp [-x_add_T, e_sIf, h, xa6]
theorem deed13 (A : AtD k p s b n) : Fn_law_deed [.d (.int 13), .d (T (bb k)), .d (.int p), .cur] n = .ex "NoStep" n := by
  have h := backX (ks := []) (rs := []) (ws := []) (s := (bb k, 0, none)) (l := []) (n := cnew n (curQ [] [] [] (bb k, 0, none) [] [])) (cq_cnew _ _)
  refine run_exc (ρ1 := dE 13 k p) rfl ?_
  unfold g_law_deed
  refine seq_nx (bookZ _) ?_
  have e : cTmp Fn_Cursor_back (aCons (cTup aNil) (aCons (cTup aNil) (aCons (cTup aNil) (aVar 1 aNil)))) (dE 13 k p) n = .ex "NoStep" n := by
    unfold cTmp
    have nl : noList (T (bb k)) = true := rfl
    simp [dsOf, four, A.pq, noList, noListA, nl]
    have h' : Fn_Cursor_back [.cur] (cnew n ⟨.tuple [], .tuple [], .tuple [], .tuple [T (bb k), .int 0, .none], [], []⟩) = .ex "NoStep" (cnew n ⟨.tuple [], .tuple [], .tuple [], .tuple [T (bb k), .int 0, .none], [], []⟩) := h
    rw [h']
    simp
  simp [e_sIf, e]
end
end W

namespace W
open PySem PySem.Spec PyProof.Rows L2 G
theorem deedJ {k n : Nat} {p : Int} {s : St} {b : List St} (A : AtD k p s b n) : ∀ j : Nat, j < 15 → Fn_law_deed [.d (.int (j : Int)), .d (T (bb k)), .d (.int p), .cur] n = .ex (exE j) n
  | 0, _ => deed0 A
  | 1, _ => deed1 A
  | 2, _ => deed2 A
  | 3, _ => deed3 A
  | 4, _ => deed4 A
  | 5, _ => deed5 A
  | 6, _ => deed6 A
  | 7, _ => deed7 A
  | 8, _ => deed8 A
  | 9, _ => deed9 A
  | 10, _ => deed10 A
  | 11, _ => deed11 A
  | 12, _ => deed12 A
  | 13, _ => deed13 A
  | 14, _ => deed14 A
  | j + 15, h => absurd h (by omega)
theorem exE_in (j : Nat) : exE j ∈ ["NoPlace", "NoChain", "NoStep", "NoText"] := by
  unfold exE
  split
  · simp
  · split
    · simp
    · split <;> simp
def ansD (j : Nat) : D := .list [T (nmL (exE j))]
theorem askZ {k n : Nat} {p : Int} {s : St} {b : List St} (A : AtD k p s b n) (j : Nat) (hj : j < 15) : Fn_law_ask [.d (.int (j : Int)), .d (T (bb k)), .d (.int p), .cur] n = .ok (ansD j) n := by
  have dj := deedJ A j hj
  refine run_to (ρ0 := [some (.d (.int (j : Int))), some (.d (T (bb k))), some (.d (.int p)), some .cur, none, none]) rfl ?_
  unfold g_law_ask
  refine sq (ρ1 := [some (.d (.int (j : Int))), some (.d (T (bb k))), some (.d (.int p)), some .cur, some (.d (.list [])), none]) (n1 := n) (by simp) ?_
  refine sq (ρ1 := [some (.d (.int (j : Int))), some (.d (T (bb k))), some (.d (.int p)), some .cur, some (.d (ansD j)), none]) (n1 := n) ?_ ?_
  · have e : (sDrop (cCall 4 Fn_law_deed (aVar 0 (aVar 1 (aVar 2 (aVar 3 aNil)))))) [some (.d (.int (j : Int))), some (.d (T (bb k))), some (.d (.int p)), some .cur, some (.d (.list [])), none] n = .ex (exE j) [some (.d (.int (j : Int))), some (.d (T (bb k))), some (.d (.int p)), some .cur, some (.d (.list [])), none] n := by simp [dj]
    unfold sTryAs
    rw [e]
    simp only [if_pos (exE_in j)]
    rfl
  · exact sret (d := ansD j) (n1 := n) rfl ⟨rfl, rfl⟩
def dueL : List D := (List.range 15).map ansD
theorem okA (j : Nat) : okD 2 (ansD j) := by
  refine okD_l (k := 1) fun d hd => ?_
  simp only [List.mem_singleton] at hd
  subst hd
  refine okD_T ?_
  unfold nmL
  split
  · rfl
  · split
    · rfl
    · split <;> rfl
theorem okDue : okD 60 (.list dueL) := (okD_l (k := 2) (okD_mp fun j _ => okA j)).up
theorem okNow (s2 : St) (ok2 : okS s2) : okD 60 (.tuple [T s2.1, encN s2.2.1, encP (strM s2)]) := by
  refine (okD_t (k := 2) fun d hd => ?_).up
  simp only [List.mem_cons, List.not_mem_nil, or_false] at hd
  rcases hd with rfl | rfl | rfl
  · exact okD_T ok2.ok
  · exact okD_i
  · cases strM s2 with
    | none => exact okD_n
    | some q =>
      refine okD_t (k := 1) fun d hd => ?_
      simp only [List.mem_cons, List.not_mem_nil, or_false] at hd
      rcases hd with rfl | rfl <;> exact okD_i
theorem law_true : LawTrue 9 g_law := law_of fun ns hns => by
  unfold g_law
  refine sat_seq ?_
  have e4 : ∀ (ρ : G.Env) n, gRng fRng1 (aCons (cC (.int 4)) aNil) ρ n = .ok (rngL 0 4) n := fun ρ n => e_rng1 (k := 4) rfl (by omega)
  simp only [e_sFor, e4, ofR_ok]
  refine sat_rng (fun i ρ n => n % 33554432 ≤ 1000 * i ∧ ∃ x2 x3 x4 x5 x6 x7 x8 x9 x10, ρ = [some (.scr ns), some .twl, x2, x3, x4, x5, x6, x7, x8, x9, x10]) 0 4 ⟨by omega, _, _, _, _, _, _, _, _, _, rfl⟩ ?_ ?_
  · rintro i ρ n hi ⟨hn, x2, x3, x4, x5, x6, x7, x8, x9, x10, rfl⟩
    refine ⟨_, rfl, ?_⟩
    simp only [List.set_cons_succ, List.set_cons_zero]
    generalize (PyData.int (0 + (i : Int))) = d2
    obtain ⟨v, ev, v0, v1⟩ := draw_ok ns 5 n (by omega) (by omega)
    obtain ⟨k, rfl⟩ := Int.eq_ofNat_of_zero_le v0
    have hk : k ≤ 4 := by omega
    have em : opMulA (T [98]) (.int (k : Int)) = some (T (bb k)) := by
      match k, hk with
      | 0, _ => rfl
      | 1, _ => rfl
      | 2, _ => rfl
      | 3, _ => rfl
      | 4, _ => rfl
    refine sq (ρ1 := [some (.scr ns), some .twl, some (.d (d2)), some (.d (T (bb k))), x4, x5, x6, x7, x8, x9, x10]) (n1 := n + 1) (by simp [ev, em]) ?_
    have zr : (bb k).length ≤ sizeLine := size_ok (by rw [bbl]; omega)
    have zk : k ≤ sizeLine := size_ok (by omega)
    obtain ⟨x, ex, hx⟩ := pick_ok ns [.int (-1), .int (-9), .int ((k : Int) + 1), .int ((k : Int) + 30)] (n + 1) (by simp) (by omega)
    obtain ⟨pl, rfl, hpl⟩ : ∃ pl : Int, x = .int pl ∧ (pl = -1 ∨ pl = -9 ∨ pl = k + 1 ∨ pl = k + 30) := by
      simp only [List.mem_cons, List.not_mem_nil, or_false] at hx
      rcases hx with rfl | rfl | rfl | rfl
      · exact ⟨_, rfl, .inl rfl⟩
      · exact ⟨_, rfl, .inr (.inl rfl)⟩
      · exact ⟨_, rfl, .inr (.inr (.inl rfl))⟩
      · exact ⟨_, rfl, .inr (.inr (.inr rfl))⟩
    refine sq (ρ1 := [some (.scr ns), some .twl, some (.d (d2)), some (.d (T (bb k))), some (.d (PyData.int pl)), x5, x6, x7, x8, x9, x10]) (n1 := n + 1 + 1) (by simp [ex, zr, zk, bbl]) ?_
    have egs : (aCons (cTup aNil) (aCons (cTup aNil) (aCons (cTup aNil) (aCons (cC (T [97, 98, 99])) aNil)))) [some (.scr ns), some .twl, some (.d (d2)), some (.d (T (bb k))), some (.d (PyData.int pl)), x5, x6, x7, x8, x9, x10] (n + 1 + 1) = .ok [.d (encKs []), .d (encRs []), .d (encRs []), .d (T [97, 98, 99])] (n + 1 + 1) := by
      simp
      exact ⟨rfl, rfl⟩
    refine sq (ρ1 := [some (.scr ns), some .twl, some (.d (d2)), some (.d (T (bb k))), some (.d (PyData.int pl)), some .cur, noCur x6, noCur x7, noCur x8, noCur x9, noCur x10]) (n1 := fgt (cnew (n + 1 + 1) (curQ [] [] [] ([97, 98, 99], 0, none) [] []))) (by
      unfold sFgt sNew
      rw [e_newR rfl egs (by show 5 < 11; omega)]
      rfl) ?_
    have ok0 : okS ([97, 98, 99], 0, none) := ⟨by show 3 ≤ 200; omega, Nat.zero_le _, (fun m h => by cases h), rfl⟩
    have hq0 : cq (fgt (cnew (n + 1 + 1) (curQ [] [] [] ([97, 98, 99], 0, none) [] []))) = some (curQ [] [] [] ([97, 98, 99], 0, none) [] []) := by rw [cq_fgt, cq_cnew]
    have hp0 : pq (fgt (cnew (n + 1 + 1) (curQ [] [] [] ([97, 98, 99], 0, none) [] []))) = none := pq_fgt _
    have hm0 : fgt (cnew (n + 1 + 1) (curQ [] [] [] ([97, 98, 99], 0, none) [] [])) % 33554432 ≤ 1000 * i + 2 := by rw [fgt_mod, cnew_mod]; omega
    obtain ⟨n3, e_n3⟩ : ∃ m, fgt (cnew (n + 1 + 1) (curQ [] [] [] ([97, 98, 99], 0, none) [] [])) = m := ⟨_, rfl⟩
    rw [e_n3] at hq0 hp0 hm0 ⊢
    generalize noCur x6 = x6, noCur x7 = x7, noCur x8 = x8, noCur x9 = x9, noCur x10 = x10
    -- step
    have st := stepC hq0 true false true (by show 3 ≤ 200; omega) (Nat.zero_le _) (by simp) (by simp)
    have le1 := stepP_le (row := rowM [] [97, 98, 99]) (rules := []) (p := 0) (on := true) (Nat.zero_le _)
    rw [rowM_len] at le1
    obtain ⟨s1, e_s1⟩ : ∃ s1, standM ([97, 98, 99], 0, none) (stepP (rowM [] [97, 98, 99]) [] 0 true) true = s1 := ⟨_, rfl⟩
    have ok1 : okS s1 := e_s1 ▸ okS_stand ok0 le1 true
    have l1 : s1.1 = [97, 98, 99] := by rw [← e_s1]; rfl
    have st' : Fn_Cursor_step [.cur, .d (.bool true), .d (.bool false), .d (.bool true)] n3 = .ok .none (cset n3 (curQ [] [] [] s1 [] [])) := by rw [← e_s1]; exact st
    refine sq (ρ1 := [some (.scr ns), some .twl, some (.d (d2)), some (.d (T (bb k))), some (.d (PyData.int pl)), some .cur, x6, x7, x8, x9, x10]) (n1 := cset n3 (curQ [] [] [] s1 [] [])) (by simp [e_aCur hq0, st']) ?_
    have hq1 := cq_cset n3 (curQ [] [] [] s1 [] [])
    have hp1 : pq (cset n3 (curQ [] [] [] s1 [] [])) = none := by rw [pq_cset, hp0]
    have hm1 : cset n3 (curQ [] [] [] s1 [] []) % 33554432 ≤ 1000 * i + 2 := by rw [cset_mod]; exact hm0
    obtain ⟨n4, e_n4⟩ : ∃ m, cset n3 (curQ [] [] [] s1 [] []) = m := ⟨_, rfl⟩
    rw [e_n4] at hq1 hp1 hm1 ⊢
    -- typed
    have hbok : okT (bb k) = true := okT_sg (fun c hc => by
      have := List.eq_of_mem_replicate hc
      unfold sg
      omega)
    have ty := typedC hq1 ok1 (bb k) (by simp) (by rw [l1, bbl]; simp; omega) hbok (by simp)
    have sp := spanM_le ok1
    have cl := cutT_len s1.1 (bb k) (spanM s1).1 (spanM s1).2
    rw [bbl, l1] at cl
    have l3 : ([97, 98, 99] : List Nat).length = 3 := rfl
    rw [l1] at sp
    have ok2 : okS (changeM [] [] s1 (spanM s1).1 (spanM s1).2 (bb k)) := changeM_ok ok1 (by rw [l1]; omega) hbok (by rw [l1, cl]; omega)
    have ll2 : (changeM [] [] s1 (spanM s1).1 (spanM s1).2 (bb k)).1.length ≤ k + 3 := by
      show (cutT s1.1 _ _ _).length ≤ _
      rw [l1, cl]
      omega
    generalize changeM [] [] s1 (spanM s1).1 (spanM s1).2 (bb k) = s2 at ty ok2 ll2
    refine sq (ρ1 := [some (.scr ns), some .twl, some (.d (d2)), some (.d (T (bb k))), some (.d (PyData.int pl)), some .cur, x6, x7, x8, x9, x10]) (n1 := cset n4 (curQ [] [] [] s2 ([] ++ [s1]) [])) (by simp [e_aCur hq1, ty]) ?_
    have hq2 := cq_cset n4 (curQ [] [] [] s2 ([] ++ [s1]) [])
    have hp2 : pq (cset n4 (curQ [] [] [] s2 ([] ++ [s1]) [])) = none := by rw [pq_cset, hp1]
    have hm2 : cset n4 (curQ [] [] [] s2 ([] ++ [s1]) []) % 33554432 ≤ 1000 * i + 2 := by rw [cset_mod]; exact hm1
    obtain ⟨n5, e_n5⟩ : ∃ m, cset n4 (curQ [] [] [] s2 ([] ++ [s1]) []) = m := ⟨_, rfl⟩
    rw [e_n5] at hq2 hp2 hm2 ⊢
    have t2 := textC hq2
    have p2 := placeC hq2
    have r2 := stretchC hq2
    refine sq (ρ1 := [some (.scr ns), some .twl, some (.d (d2)), some (.d (T (bb k))), some (.d (PyData.int pl)), some .cur, some (.d (PyData.tuple [T s2.1, encN s2.2.1, encP (strM s2)])), x7, x8, x9, x10]) (n1 := n5) (by simp [e_aCur hq2, t2, p2, r2]) ?_
    have m11 : ∀ x : D, opMul (.list [x]) (.int 11) = some (.list [x, x, x, x, x, x, x, x, x, x, x]) := fun x => by simp [opMul]
    have m2 : ∀ x : D, opMul (.list [x]) (.int 2) = some (.list [x, x]) := fun x => by simp [opMul]
    have a0 : ∀ l m : List D, l.length + m.length ≤ 100 → opAdd (PyData.list l) (PyData.list m) = some (PyData.list (l ++ m)) := fun l m hl => by
      show (if l.length + m.length ≤ sizeLine then some (PyData.list (l ++ m)) else none) = _
      rw [if_pos (Nat.le_trans hl (by decide))]
    refine sq (ρ1 := [some (.scr ns), some .twl, some (.d (d2)), some (.d (T (bb k))), some (.d (PyData.int pl)), some .cur, some (.d (PyData.tuple [T s2.1, encN s2.2.1, encP (strM s2)])), some (.d (PyData.list dueL)), x8, x9, x10]) (n1 := n5) (by
      simp [m11, m2, a0]
      rfl) ?_
    obtain ⟨spot, e_sp⟩ : ∃ z : Int, (if pl < 0 then pl else pl + 3) = z := ⟨_, rfl⟩
    refine sq (ρ1 := [some (.scr ns), some .twl, some (.d (d2)), some (.d (T (bb k))), some (.d (PyData.int pl)), some .cur, some (.d (PyData.tuple [T s2.1, encN s2.2.1, encP (strM s2)])), some (.d (PyData.list dueL)), some (.d (PyData.int spot)), x9, x10]) (n1 := n5) (by
      by_cases h : pl < 0
      · rw [if_pos h] at e_sp
        subst e_sp
        simp [h]
      · rw [if_neg h] at e_sp
        subst e_sp
        simp [h]) ?_
    have A : AtD k spot s2 ([] ++ [s1]) n5 := ⟨hk, by
      unfold Out0
      rw [bbl]
      by_cases h : pl < 0
      · rw [if_pos h] at e_sp; omega
      · rw [if_neg h] at e_sp; omega, by
      unfold Out0
      by_cases h : pl < 0
      · rw [if_pos h] at e_sp; omega
      · rw [if_neg h] at e_sp; omega, hq2, hp2, ok2⟩
    have lc : cLc [10] (tgN 10) (gRng fRng1 (aCons (cC (.int 15)) aNil)) bYes (cCall 4 Fn_law_ask (aVar 10 (aVar 3 (aVar 8 (aVar 5 aNil))))) [some (.scr ns), some .twl, some (.d (d2)), some (.d (T (bb k))), some (.d (PyData.int pl)), some .cur, some (.d (PyData.tuple [T s2.1, encN s2.2.1, encP (strM s2)])), some (.d (PyData.list dueL)), some (.d (PyData.int spot)), x9, x10] n5 = .ok dueL n5 :=
      e_lcm (fun j : Nat => PyData.int (0 + (j : Int))) _ (List.range 15) (e_rng1 (k := 15) rfl (by omega)) (by simp) fun j hj =>
        ⟨[some (.scr ns), some .twl, some (.d (d2)), some (.d (T (bb k))), some (.d (PyData.int pl)), some .cur, some (.d (PyData.tuple [T s2.1, encN s2.2.1, encP (strM s2)])), some (.d (PyData.list dueL)), some (.d (PyData.int spot)), x9, some (.d (PyData.int (j : Int)))], by simp, by
          have := askZ A j (List.mem_range.mp hj)
          simp [this]⟩
    refine sq (ρ1 := [some (.scr ns), some .twl, some (.d (d2)), some (.d (T (bb k))), some (.d (PyData.int pl)), some .cur, some (.d (PyData.tuple [T s2.1, encN s2.2.1, encP (strM s2)])), some (.d (PyData.list dueL)), some (.d (PyData.int spot)), some (.d (PyData.list dueL)), x10]) (n1 := n5) (by simp [lc]) ?_
    have ne7 := x_ne_self okDue
    have ok6 : okD 60 (.tuple [T s2.1, encN s2.2.1, encP (strM s2)]) := by
      exact okNow s2 ok2
    have ne6 := x_ne_self ok6
    refine snoE (n1 := n5) (by simp [ne7, ne6, e_aCur hq2, t2, p2, r2]) ?_
    exact ⟨by omega, _, _, _, _, _, _, _, _, _, rfl⟩
  · rintro ρ n ⟨hn, x2, x3, x4, x5, x6, x7, x8, x9, x10, rfl⟩
    exact sret (d := .bool true) (n1 := n) rfl rfl
end W

/-! module constants that are tuples of texts -/
namespace G
open PySem PySem.Spec PyProof.Rows L2
theorem const_tup {K : PySem.W.Frag} {a : Addr} {us : Array Value} {n : Nat} {sl : Array (Option Value)} {ss : List Str} (h : K.lookup a = some ⟨.type "tuple", none, .seq us n, sl⟩) (hs : us.size ≤ sizeLine) (hv : Vals (ss.map V.str) us.toList) (H : Hp) :
    Rep K H (.ref a) (.tuple (ss.map PyData.str)) := by
  refine .tup (.inr ⟨_, us, n, h, rfl, rfl, rfl, hs, hv⟩) ?_
  have : ∀ ss : List Str, RepAll K H (ss.map V.str) (ss.map PyData.str) := by
    intro ss
    induction ss with
    | nil => exact .nil
    | cons s r ih => exact .cons (.str s) ih
  exact this ss
theorem vals_s0 : Vals (([] : List Str).map V.str) [] := .nil
theorem vals_s1 {s : Str} {ss : List Str} {t : Tok} {us : List Value} (h : Vals (ss.map V.str) us) : Vals ((s :: ss).map V.str) (.str s t :: us) := .cons ⟨t, rfl⟩ h
end G

namespace W
open PySem PySem.Spec PyProof.Rows L2 G
theorem kit_self {K : PySem.W.Frag} {a : Addr} : PySem.W.kitOne K (.ref a) (.ref a) = some true := if_pos (beq_self_eq_true _)
theorem exm_cls {K : PySem.W.Frag} {t c : Value} {b : Bool} (h : PySem.W.exmOne K t c = some b) : PySem.W.kitCls K t c = some b := by
  unfold PySem.W.exmOne at h
  split at h
  · exact h
  · cases h
theorem kit_no {K : PySem.W.Frag} {a b : Addr} (h : PySem.W.exmOne K (.ref a) (.ref b) = some false) (hn : a ≠ b) : PySem.W.kitOne K (.ref a) (.ref b) = some false := by
  unfold PySem.W.kitOne
  rw [if_neg (fun q => hn (Value.ref.inj (beq_iff_eq.mp q)))]
  exact exm_cls h
theorem kit_ve {K : PySem.W.Frag} {a : Addr} (h : PySem.W.exmOne K (.ref a) (.type "ValueError") = some true) : PySem.W.kitOne K (.ref a) (.type "ValueError") = some true := by
  unfold PySem.W.kitOne
  split
  · rfl
  · exact exm_cls h
theorem all_mk (law : LawTrue 9 g_law) {l : PySem.W.OpenLaw} {w : World} {K : PySem.W.Frag} {h : Heap} {mg : Str → Option Value} {fa f_Cursor_text f_Cursor_place f_Cursor_stretch f_kinds_of f_is_in f_places_on f_leads_on f_leads_back f_rule_at f_is_cut_at f_need f_next_cut f_last_cut f_Cursor_stand f_Cursor_step f_is_cut f_Cursor_change f_Cursor_typed f_law_draw f_law_pick f_law_names f_why f_piece_at f_cuts f_pieces f_piece_number f_nearest f_parts_of f_class_of f_in_order f_parted f_alike f_halves f_whole_of f_stepped f_steps_down f_back_step f_chain f_Cursor_go f_Cursor_back f_Cursor_forth f_is_kind f_are_rising f_is_item f_is_side f_is_rule f_are_rules f_item_text f_written f_item_in f_rule_in f_read f_piece_width f_width f_cut_to f_shown f_column_of f_law_deed f_law_ask f_law f_MANY f_NoPlace f_NoChain f_NoStep f_NoText f_CutError f_C f_init : Addr} (X : K.In h) (G : h.Ns mainGlobals mg) (hfa : mg "law" = some (.ref fa))
    {od_Cursor_text an_Cursor_text od_Cursor_place an_Cursor_place od_Cursor_stretch an_Cursor_stretch od_kinds_of an_kinds_of od_is_in an_is_in od_places_on an_places_on od_leads_on an_leads_on od_leads_back an_leads_back od_rule_at an_rule_at od_is_cut_at an_is_cut_at od_need an_need od_next_cut an_next_cut od_last_cut an_last_cut od_Cursor_stand an_Cursor_stand od_Cursor_step an_Cursor_step od_is_cut an_is_cut od_Cursor_change an_Cursor_change od_Cursor_typed an_Cursor_typed od_law_draw an_law_draw od_law_pick an_law_pick od_law_names an_law_names od_why an_why od_piece_at an_piece_at od_cuts an_cuts od_pieces an_pieces od_piece_number an_piece_number od_nearest an_nearest od_parts_of an_parts_of od_class_of an_class_of od_in_order an_in_order od_parted an_parted od_alike an_alike od_halves an_halves od_whole_of an_whole_of od_stepped an_stepped od_steps_down an_steps_down od_back_step an_back_step od_chain an_chain od_Cursor_go an_Cursor_go od_Cursor_back an_Cursor_back od_Cursor_forth an_Cursor_forth od_is_kind an_is_kind od_are_rising an_are_rising od_is_item an_is_item od_is_side an_is_side od_is_rule an_is_rule od_are_rules an_are_rules od_item_text an_item_text od_written an_written od_item_in an_item_in od_rule_in an_rule_in od_read an_read od_piece_width an_piece_width od_width an_width od_cut_to an_cut_to od_shown an_shown od_column_of an_column_of od_law_deed an_law_deed od_law_ask an_law_ask od_law an_law : Option Addr} {sl_Cursor_text sl_Cursor_place sl_Cursor_stretch sl_kinds_of sl_is_in sl_places_on sl_leads_on sl_leads_back sl_rule_at sl_is_cut_at sl_need sl_next_cut sl_last_cut sl_Cursor_stand sl_Cursor_step sl_is_cut sl_Cursor_change sl_Cursor_typed sl_law_draw sl_law_pick sl_law_names sl_why sl_piece_at sl_cuts sl_pieces sl_piece_number sl_nearest sl_parts_of sl_class_of sl_in_order sl_parted sl_alike sl_halves sl_whole_of sl_stepped sl_steps_down sl_back_step sl_chain sl_Cursor_go sl_Cursor_back sl_Cursor_forth sl_is_kind sl_are_rising sl_is_item sl_is_side sl_is_rule sl_are_rules sl_item_text sl_written sl_item_in sl_rule_in sl_read sl_piece_width sl_width sl_cut_to sl_shown sl_column_of sl_law_deed sl_law_ask sl_law : Array (Option Value)} {oc_Cursor_text kV_Cursor_text dc_Cursor_text pm_Cursor_text cd_Cursor_text ct_Cursor_text oc_Cursor_place kV_Cursor_place dc_Cursor_place pm_Cursor_place cd_Cursor_place ct_Cursor_place oc_Cursor_stretch kV_Cursor_stretch dc_Cursor_stretch pm_Cursor_stretch cd_Cursor_stretch ct_Cursor_stretch oc_kinds_of kV_kinds_of dc_kinds_of pm_kinds_of cd_kinds_of ct_kinds_of oc_is_in kV_is_in dc_is_in pm_is_in cd_is_in ct_is_in oc_places_on kV_places_on dc_places_on pm_places_on cd_places_on ct_places_on oc_leads_on kV_leads_on dc_leads_on pm_leads_on cd_leads_on ct_leads_on oc_leads_back kV_leads_back dc_leads_back pm_leads_back cd_leads_back ct_leads_back oc_rule_at kV_rule_at dc_rule_at pm_rule_at cd_rule_at ct_rule_at oc_is_cut_at kV_is_cut_at dc_is_cut_at pm_is_cut_at cd_is_cut_at ct_is_cut_at oc_need kV_need dc_need pm_need cd_need ct_need oc_next_cut kV_next_cut dc_next_cut pm_next_cut cd_next_cut ct_next_cut oc_last_cut kV_last_cut dc_last_cut pm_last_cut cd_last_cut ct_last_cut oc_Cursor_stand kV_Cursor_stand dc_Cursor_stand pm_Cursor_stand cd_Cursor_stand ct_Cursor_stand oc_Cursor_step kV_Cursor_step dc_Cursor_step pm_Cursor_step cd_Cursor_step ct_Cursor_step oc_is_cut kV_is_cut dc_is_cut pm_is_cut cd_is_cut ct_is_cut oc_Cursor_change kV_Cursor_change dc_Cursor_change pm_Cursor_change cd_Cursor_change ct_Cursor_change oc_Cursor_typed kV_Cursor_typed dc_Cursor_typed pm_Cursor_typed cd_Cursor_typed ct_Cursor_typed oc_law_draw kV_law_draw dc_law_draw pm_law_draw cd_law_draw ct_law_draw oc_law_pick kV_law_pick dc_law_pick pm_law_pick cd_law_pick ct_law_pick oc_law_names kV_law_names dc_law_names pm_law_names cd_law_names ct_law_names oc_why kV_why dc_why pm_why cd_why ct_why oc_piece_at kV_piece_at dc_piece_at pm_piece_at cd_piece_at ct_piece_at oc_cuts kV_cuts dc_cuts pm_cuts cd_cuts ct_cuts oc_pieces kV_pieces dc_pieces pm_pieces cd_pieces ct_pieces oc_piece_number kV_piece_number dc_piece_number pm_piece_number cd_piece_number ct_piece_number oc_nearest kV_nearest dc_nearest pm_nearest cd_nearest ct_nearest oc_parts_of kV_parts_of dc_parts_of pm_parts_of cd_parts_of ct_parts_of oc_class_of kV_class_of dc_class_of pm_class_of cd_class_of ct_class_of oc_in_order kV_in_order dc_in_order pm_in_order cd_in_order ct_in_order oc_parted kV_parted dc_parted pm_parted cd_parted ct_parted oc_alike kV_alike dc_alike pm_alike cd_alike ct_alike oc_halves kV_halves dc_halves pm_halves cd_halves ct_halves oc_whole_of kV_whole_of dc_whole_of pm_whole_of cd_whole_of ct_whole_of oc_stepped kV_stepped dc_stepped pm_stepped cd_stepped ct_stepped oc_steps_down kV_steps_down dc_steps_down pm_steps_down cd_steps_down ct_steps_down oc_back_step kV_back_step dc_back_step pm_back_step cd_back_step ct_back_step oc_chain kV_chain dc_chain pm_chain cd_chain ct_chain oc_Cursor_go kV_Cursor_go dc_Cursor_go pm_Cursor_go cd_Cursor_go ct_Cursor_go oc_Cursor_back kV_Cursor_back dc_Cursor_back pm_Cursor_back cd_Cursor_back ct_Cursor_back oc_Cursor_forth kV_Cursor_forth dc_Cursor_forth pm_Cursor_forth cd_Cursor_forth ct_Cursor_forth oc_is_kind kV_is_kind dc_is_kind pm_is_kind cd_is_kind ct_is_kind oc_are_rising kV_are_rising dc_are_rising pm_are_rising cd_are_rising ct_are_rising oc_is_item kV_is_item dc_is_item pm_is_item cd_is_item ct_is_item oc_is_side kV_is_side dc_is_side pm_is_side cd_is_side ct_is_side oc_is_rule kV_is_rule dc_is_rule pm_is_rule cd_is_rule ct_is_rule oc_are_rules kV_are_rules dc_are_rules pm_are_rules cd_are_rules ct_are_rules oc_item_text kV_item_text dc_item_text pm_item_text cd_item_text ct_item_text oc_written kV_written dc_written pm_written cd_written ct_written oc_item_in kV_item_in dc_item_in pm_item_in cd_item_in ct_item_in oc_rule_in kV_rule_in dc_rule_in pm_rule_in cd_rule_in ct_rule_in oc_read kV_read dc_read pm_read cd_read ct_read oc_piece_width kV_piece_width dc_piece_width pm_piece_width cd_piece_width ct_piece_width oc_width kV_width dc_width pm_width cd_width ct_width oc_cut_to kV_cut_to dc_cut_to pm_cut_to cd_cut_to ct_cut_to oc_shown kV_shown dc_shown pm_shown cd_shown ct_shown oc_column_of kV_column_of dc_column_of pm_column_of cd_column_of ct_column_of oc_law_deed kV_law_deed dc_law_deed pm_law_deed cd_law_deed ct_law_deed oc_law_ask kV_law_ask dc_law_ask pm_law_ask cd_law_ask ct_law_ask oc_law kV_law dc_law pm_law cd_law ct_law : Value} {od_init an_init : Option Addr} {sl_init : Array (Option Value)} {oc_init kV_init dc_init pm_init cd_init ct_init : Value}
    (x_cg : PySem.W.nsIn K mainGlobals "Cursor" = some (some (.ref f_C))) (x_c1 : PySem.W.plainGet K f_C Str.empty = true) (x_c2 : PySem.W.hasDictIn K f_C = true) (x_c3 : PySem.W.plainOver K f_C = true) (x_c4 : PySem.W.findIn K (.ref f_C) "__setattr__" = some (some (.builtin "object.__setattr__")))
    (x_a0 : PySem.W.findIn K (.ref f_C) "kinds" = some none) (x_a1 : PySem.W.findIn K (.ref f_C) "rules" = some none) (x_a2 : PySem.W.findIn K (.ref f_C) "words" = some none) (x_a3 : PySem.W.findIn K (.ref f_C) "now" = some none) (x_a4 : PySem.W.findIn K (.ref f_C) "before" = some none) (x_a5 : PySem.W.findIn K (.ref f_C) "later" = some none)
    (x_mk : PySem.W.makesIn K f_C = true) (x_in : PySem.W.findIn K (.ref f_C) "__init__" = some (some (.ref f_init))) (x_if : PySem.W.isFn K (.ref f_init) = true) (x_kc : PySem.W.keepIn K (.ref f_C) = true)
    (l_init : K.lookup f_init = some ⟨oc_init, od_init, .func (PySem.W.fnOf "__init__" "Cursor.__init__" (defArgs s_init) (defBody s_init) (defScope s_init) .none kV_init dc_init pm_init an_init cd_init ct_init), sl_init⟩) (c_init : PySem.W.codeIn K cd_init "Cursor.__init__" = true) (k_init : PySem.W.keepIn K (.ref f_init) = true)
    (a_Cursor_text : PySem.W.findIn K (.ref f_C) "text" = some (some (.ref f_Cursor_text))) (n_Cursor_text : PySem.W.isFn K (.ref f_Cursor_text) = true) (l_Cursor_text : K.lookup f_Cursor_text = some ⟨oc_Cursor_text, od_Cursor_text, .func (PySem.W.fnOf "text" "Cursor.text" (defArgs s_Cursor_text) (defBody s_Cursor_text) (defScope s_Cursor_text) .none kV_Cursor_text dc_Cursor_text pm_Cursor_text an_Cursor_text cd_Cursor_text ct_Cursor_text), sl_Cursor_text⟩) (c_Cursor_text : PySem.W.codeIn K cd_Cursor_text "Cursor.text" = true) (k_Cursor_text : PySem.W.keepIn K (.ref f_Cursor_text) = true)
    (a_Cursor_place : PySem.W.findIn K (.ref f_C) "place" = some (some (.ref f_Cursor_place))) (n_Cursor_place : PySem.W.isFn K (.ref f_Cursor_place) = true) (l_Cursor_place : K.lookup f_Cursor_place = some ⟨oc_Cursor_place, od_Cursor_place, .func (PySem.W.fnOf "place" "Cursor.place" (defArgs s_Cursor_place) (defBody s_Cursor_place) (defScope s_Cursor_place) .none kV_Cursor_place dc_Cursor_place pm_Cursor_place an_Cursor_place cd_Cursor_place ct_Cursor_place), sl_Cursor_place⟩) (c_Cursor_place : PySem.W.codeIn K cd_Cursor_place "Cursor.place" = true) (k_Cursor_place : PySem.W.keepIn K (.ref f_Cursor_place) = true)
    (a_Cursor_stretch : PySem.W.findIn K (.ref f_C) "stretch" = some (some (.ref f_Cursor_stretch))) (n_Cursor_stretch : PySem.W.isFn K (.ref f_Cursor_stretch) = true) (l_Cursor_stretch : K.lookup f_Cursor_stretch = some ⟨oc_Cursor_stretch, od_Cursor_stretch, .func (PySem.W.fnOf "stretch" "Cursor.stretch" (defArgs s_Cursor_stretch) (defBody s_Cursor_stretch) (defScope s_Cursor_stretch) .none kV_Cursor_stretch dc_Cursor_stretch pm_Cursor_stretch an_Cursor_stretch cd_Cursor_stretch ct_Cursor_stretch), sl_Cursor_stretch⟩) (c_Cursor_stretch : PySem.W.codeIn K cd_Cursor_stretch "Cursor.stretch" = true) (k_Cursor_stretch : PySem.W.keepIn K (.ref f_Cursor_stretch) = true)
    (a_kinds_of : PySem.W.nsIn K mainGlobals "kinds_of" = some (some (.ref f_kinds_of))) (l_kinds_of : K.lookup f_kinds_of = some ⟨oc_kinds_of, od_kinds_of, .func (PySem.W.fnOf "kinds_of" "kinds_of" (defArgs s_kinds_of) (defBody s_kinds_of) (defScope s_kinds_of) .none kV_kinds_of dc_kinds_of pm_kinds_of an_kinds_of cd_kinds_of ct_kinds_of), sl_kinds_of⟩) (c_kinds_of : PySem.W.codeIn K cd_kinds_of "kinds_of" = true) (k_kinds_of : PySem.W.keepIn K (.ref f_kinds_of) = true)
    (a_is_in : PySem.W.nsIn K mainGlobals "is_in" = some (some (.ref f_is_in))) (l_is_in : K.lookup f_is_in = some ⟨oc_is_in, od_is_in, .func (PySem.W.fnOf "is_in" "is_in" (defArgs s_is_in) (defBody s_is_in) (defScope s_is_in) .none kV_is_in dc_is_in pm_is_in an_is_in cd_is_in ct_is_in), sl_is_in⟩) (c_is_in : PySem.W.codeIn K cd_is_in "is_in" = true) (k_is_in : PySem.W.keepIn K (.ref f_is_in) = true)
    (a_places_on : PySem.W.nsIn K mainGlobals "places_on" = some (some (.ref f_places_on))) (l_places_on : K.lookup f_places_on = some ⟨oc_places_on, od_places_on, .func (PySem.W.fnOf "places_on" "places_on" (defArgs s_places_on) (defBody s_places_on) (defScope s_places_on) .none kV_places_on dc_places_on pm_places_on an_places_on cd_places_on ct_places_on), sl_places_on⟩) (c_places_on : PySem.W.codeIn K cd_places_on "places_on" = true) (k_places_on : PySem.W.keepIn K (.ref f_places_on) = true)
    (a_leads_on : PySem.W.nsIn K mainGlobals "leads_on" = some (some (.ref f_leads_on))) (l_leads_on : K.lookup f_leads_on = some ⟨oc_leads_on, od_leads_on, .func (PySem.W.fnOf "leads_on" "leads_on" (defArgs s_leads_on) (defBody s_leads_on) (defScope s_leads_on) .none kV_leads_on dc_leads_on pm_leads_on an_leads_on cd_leads_on ct_leads_on), sl_leads_on⟩) (c_leads_on : PySem.W.codeIn K cd_leads_on "leads_on" = true) (k_leads_on : PySem.W.keepIn K (.ref f_leads_on) = true)
    (a_leads_back : PySem.W.nsIn K mainGlobals "leads_back" = some (some (.ref f_leads_back))) (l_leads_back : K.lookup f_leads_back = some ⟨oc_leads_back, od_leads_back, .func (PySem.W.fnOf "leads_back" "leads_back" (defArgs s_leads_back) (defBody s_leads_back) (defScope s_leads_back) .none kV_leads_back dc_leads_back pm_leads_back an_leads_back cd_leads_back ct_leads_back), sl_leads_back⟩) (c_leads_back : PySem.W.codeIn K cd_leads_back "leads_back" = true) (k_leads_back : PySem.W.keepIn K (.ref f_leads_back) = true)
    (a_rule_at : PySem.W.nsIn K mainGlobals "rule_at" = some (some (.ref f_rule_at))) (l_rule_at : K.lookup f_rule_at = some ⟨oc_rule_at, od_rule_at, .func (PySem.W.fnOf "rule_at" "rule_at" (defArgs s_rule_at) (defBody s_rule_at) (defScope s_rule_at) .none kV_rule_at dc_rule_at pm_rule_at an_rule_at cd_rule_at ct_rule_at), sl_rule_at⟩) (c_rule_at : PySem.W.codeIn K cd_rule_at "rule_at" = true) (k_rule_at : PySem.W.keepIn K (.ref f_rule_at) = true)
    (a_is_cut_at : PySem.W.nsIn K mainGlobals "is_cut_at" = some (some (.ref f_is_cut_at))) (l_is_cut_at : K.lookup f_is_cut_at = some ⟨oc_is_cut_at, od_is_cut_at, .func (PySem.W.fnOf "is_cut_at" "is_cut_at" (defArgs s_is_cut_at) (defBody s_is_cut_at) (defScope s_is_cut_at) .none kV_is_cut_at dc_is_cut_at pm_is_cut_at an_is_cut_at cd_is_cut_at ct_is_cut_at), sl_is_cut_at⟩) (c_is_cut_at : PySem.W.codeIn K cd_is_cut_at "is_cut_at" = true) (k_is_cut_at : PySem.W.keepIn K (.ref f_is_cut_at) = true)
    (a_need : PySem.W.nsIn K mainGlobals "need" = some (some (.ref f_need))) (l_need : K.lookup f_need = some ⟨oc_need, od_need, .func (PySem.W.fnOf "need" "need" (defArgs s_need) (defBody s_need) (defScope s_need) .none kV_need dc_need pm_need an_need cd_need ct_need), sl_need⟩) (c_need : PySem.W.codeIn K cd_need "need" = true) (k_need : PySem.W.keepIn K (.ref f_need) = true)
    (a_next_cut : PySem.W.nsIn K mainGlobals "next_cut" = some (some (.ref f_next_cut))) (l_next_cut : K.lookup f_next_cut = some ⟨oc_next_cut, od_next_cut, .func (PySem.W.fnOf "next_cut" "next_cut" (defArgs s_next_cut) (defBody s_next_cut) (defScope s_next_cut) .none kV_next_cut dc_next_cut pm_next_cut an_next_cut cd_next_cut ct_next_cut), sl_next_cut⟩) (c_next_cut : PySem.W.codeIn K cd_next_cut "next_cut" = true) (k_next_cut : PySem.W.keepIn K (.ref f_next_cut) = true)
    (a_last_cut : PySem.W.nsIn K mainGlobals "last_cut" = some (some (.ref f_last_cut))) (l_last_cut : K.lookup f_last_cut = some ⟨oc_last_cut, od_last_cut, .func (PySem.W.fnOf "last_cut" "last_cut" (defArgs s_last_cut) (defBody s_last_cut) (defScope s_last_cut) .none kV_last_cut dc_last_cut pm_last_cut an_last_cut cd_last_cut ct_last_cut), sl_last_cut⟩) (c_last_cut : PySem.W.codeIn K cd_last_cut "last_cut" = true) (k_last_cut : PySem.W.keepIn K (.ref f_last_cut) = true)
    (a_Cursor_stand : PySem.W.findIn K (.ref f_C) "stand" = some (some (.ref f_Cursor_stand))) (n_Cursor_stand : PySem.W.isFn K (.ref f_Cursor_stand) = true) (l_Cursor_stand : K.lookup f_Cursor_stand = some ⟨oc_Cursor_stand, od_Cursor_stand, .func (PySem.W.fnOf "stand" "Cursor.stand" (defArgs s_Cursor_stand) (defBody s_Cursor_stand) (defScope s_Cursor_stand) .none kV_Cursor_stand dc_Cursor_stand pm_Cursor_stand an_Cursor_stand cd_Cursor_stand ct_Cursor_stand), sl_Cursor_stand⟩) (c_Cursor_stand : PySem.W.codeIn K cd_Cursor_stand "Cursor.stand" = true) (k_Cursor_stand : PySem.W.keepIn K (.ref f_Cursor_stand) = true)
    (a_Cursor_step : PySem.W.findIn K (.ref f_C) "step" = some (some (.ref f_Cursor_step))) (n_Cursor_step : PySem.W.isFn K (.ref f_Cursor_step) = true) (l_Cursor_step : K.lookup f_Cursor_step = some ⟨oc_Cursor_step, od_Cursor_step, .func (PySem.W.fnOf "step" "Cursor.step" (defArgs s_Cursor_step) (defBody s_Cursor_step) (defScope s_Cursor_step) .none kV_Cursor_step dc_Cursor_step pm_Cursor_step an_Cursor_step cd_Cursor_step ct_Cursor_step), sl_Cursor_step⟩) (c_Cursor_step : PySem.W.codeIn K cd_Cursor_step "Cursor.step" = true) (k_Cursor_step : PySem.W.keepIn K (.ref f_Cursor_step) = true)
    (a_is_cut : PySem.W.nsIn K mainGlobals "is_cut" = some (some (.ref f_is_cut))) (l_is_cut : K.lookup f_is_cut = some ⟨oc_is_cut, od_is_cut, .func (PySem.W.fnOf "is_cut" "is_cut" (defArgs s_is_cut) (defBody s_is_cut) (defScope s_is_cut) .none kV_is_cut dc_is_cut pm_is_cut an_is_cut cd_is_cut ct_is_cut), sl_is_cut⟩) (c_is_cut : PySem.W.codeIn K cd_is_cut "is_cut" = true) (k_is_cut : PySem.W.keepIn K (.ref f_is_cut) = true)
    (a_Cursor_change : PySem.W.findIn K (.ref f_C) "change" = some (some (.ref f_Cursor_change))) (n_Cursor_change : PySem.W.isFn K (.ref f_Cursor_change) = true) (l_Cursor_change : K.lookup f_Cursor_change = some ⟨oc_Cursor_change, od_Cursor_change, .func (PySem.W.fnOf "change" "Cursor.change" (defArgs s_Cursor_change) (defBody s_Cursor_change) (defScope s_Cursor_change) .none kV_Cursor_change dc_Cursor_change pm_Cursor_change an_Cursor_change cd_Cursor_change ct_Cursor_change), sl_Cursor_change⟩) (c_Cursor_change : PySem.W.codeIn K cd_Cursor_change "Cursor.change" = true) (k_Cursor_change : PySem.W.keepIn K (.ref f_Cursor_change) = true)
    (a_Cursor_typed : PySem.W.findIn K (.ref f_C) "typed" = some (some (.ref f_Cursor_typed))) (n_Cursor_typed : PySem.W.isFn K (.ref f_Cursor_typed) = true) (l_Cursor_typed : K.lookup f_Cursor_typed = some ⟨oc_Cursor_typed, od_Cursor_typed, .func (PySem.W.fnOf "typed" "Cursor.typed" (defArgs s_Cursor_typed) (defBody s_Cursor_typed) (defScope s_Cursor_typed) .none kV_Cursor_typed dc_Cursor_typed pm_Cursor_typed an_Cursor_typed cd_Cursor_typed ct_Cursor_typed), sl_Cursor_typed⟩) (c_Cursor_typed : PySem.W.codeIn K cd_Cursor_typed "Cursor.typed" = true) (k_Cursor_typed : PySem.W.keepIn K (.ref f_Cursor_typed) = true)
    (a_law_draw : PySem.W.nsIn K mainGlobals "_law_draw" = some (some (.ref f_law_draw))) (l_law_draw : K.lookup f_law_draw = some ⟨oc_law_draw, od_law_draw, .func (PySem.W.fnOf "_law_draw" "_law_draw" (defArgs s_law_draw) (defBody s_law_draw) (defScope s_law_draw) .none kV_law_draw dc_law_draw pm_law_draw an_law_draw cd_law_draw ct_law_draw), sl_law_draw⟩) (c_law_draw : PySem.W.codeIn K cd_law_draw "_law_draw" = true) (k_law_draw : PySem.W.keepIn K (.ref f_law_draw) = true)
    (a_law_pick : PySem.W.nsIn K mainGlobals "_law_pick" = some (some (.ref f_law_pick))) (l_law_pick : K.lookup f_law_pick = some ⟨oc_law_pick, od_law_pick, .func (PySem.W.fnOf "_law_pick" "_law_pick" (defArgs s_law_pick) (defBody s_law_pick) (defScope s_law_pick) .none kV_law_pick dc_law_pick pm_law_pick an_law_pick cd_law_pick ct_law_pick), sl_law_pick⟩) (c_law_pick : PySem.W.codeIn K cd_law_pick "_law_pick" = true) (k_law_pick : PySem.W.keepIn K (.ref f_law_pick) = true)
    (a_law_names : PySem.W.nsIn K mainGlobals "_law_names" = some (some (.ref f_law_names))) (l_law_names : K.lookup f_law_names = some ⟨oc_law_names, od_law_names, .func (PySem.W.fnOf "_law_names" "_law_names" (defArgs s_law_names) (defBody s_law_names) (defScope s_law_names) .none kV_law_names dc_law_names pm_law_names an_law_names cd_law_names ct_law_names), sl_law_names⟩) (c_law_names : PySem.W.codeIn K cd_law_names "_law_names" = true) (k_law_names : PySem.W.keepIn K (.ref f_law_names) = true)
    (a_why : PySem.W.nsIn K mainGlobals "why" = some (some (.ref f_why))) (l_why : K.lookup f_why = some ⟨oc_why, od_why, .func (PySem.W.fnOf "why" "why" (defArgs s_why) (defBody s_why) (defScope s_why) .none kV_why dc_why pm_why an_why cd_why ct_why), sl_why⟩) (c_why : PySem.W.codeIn K cd_why "why" = true) (k_why : PySem.W.keepIn K (.ref f_why) = true)
    (a_piece_at : PySem.W.nsIn K mainGlobals "piece_at" = some (some (.ref f_piece_at))) (l_piece_at : K.lookup f_piece_at = some ⟨oc_piece_at, od_piece_at, .func (PySem.W.fnOf "piece_at" "piece_at" (defArgs s_piece_at) (defBody s_piece_at) (defScope s_piece_at) .none kV_piece_at dc_piece_at pm_piece_at an_piece_at cd_piece_at ct_piece_at), sl_piece_at⟩) (c_piece_at : PySem.W.codeIn K cd_piece_at "piece_at" = true) (k_piece_at : PySem.W.keepIn K (.ref f_piece_at) = true)
    (a_cuts : PySem.W.nsIn K mainGlobals "cuts" = some (some (.ref f_cuts))) (l_cuts : K.lookup f_cuts = some ⟨oc_cuts, od_cuts, .func (PySem.W.fnOf "cuts" "cuts" (defArgs s_cuts) (defBody s_cuts) (defScope s_cuts) .none kV_cuts dc_cuts pm_cuts an_cuts cd_cuts ct_cuts), sl_cuts⟩) (c_cuts : PySem.W.codeIn K cd_cuts "cuts" = true) (k_cuts : PySem.W.keepIn K (.ref f_cuts) = true)
    (a_pieces : PySem.W.nsIn K mainGlobals "pieces" = some (some (.ref f_pieces))) (l_pieces : K.lookup f_pieces = some ⟨oc_pieces, od_pieces, .func (PySem.W.fnOf "pieces" "pieces" (defArgs s_pieces) (defBody s_pieces) (defScope s_pieces) .none kV_pieces dc_pieces pm_pieces an_pieces cd_pieces ct_pieces), sl_pieces⟩) (c_pieces : PySem.W.codeIn K cd_pieces "pieces" = true) (k_pieces : PySem.W.keepIn K (.ref f_pieces) = true)
    (a_piece_number : PySem.W.nsIn K mainGlobals "piece_number" = some (some (.ref f_piece_number))) (l_piece_number : K.lookup f_piece_number = some ⟨oc_piece_number, od_piece_number, .func (PySem.W.fnOf "piece_number" "piece_number" (defArgs s_piece_number) (defBody s_piece_number) (defScope s_piece_number) .none kV_piece_number dc_piece_number pm_piece_number an_piece_number cd_piece_number ct_piece_number), sl_piece_number⟩) (c_piece_number : PySem.W.codeIn K cd_piece_number "piece_number" = true) (k_piece_number : PySem.W.keepIn K (.ref f_piece_number) = true)
    (a_nearest : PySem.W.nsIn K mainGlobals "nearest" = some (some (.ref f_nearest))) (l_nearest : K.lookup f_nearest = some ⟨oc_nearest, od_nearest, .func (PySem.W.fnOf "nearest" "nearest" (defArgs s_nearest) (defBody s_nearest) (defScope s_nearest) .none kV_nearest dc_nearest pm_nearest an_nearest cd_nearest ct_nearest), sl_nearest⟩) (c_nearest : PySem.W.codeIn K cd_nearest "nearest" = true) (k_nearest : PySem.W.keepIn K (.ref f_nearest) = true)
    (a_parts_of : PySem.W.nsIn K mainGlobals "parts_of" = some (some (.ref f_parts_of))) (l_parts_of : K.lookup f_parts_of = some ⟨oc_parts_of, od_parts_of, .func (PySem.W.fnOf "parts_of" "parts_of" (defArgs s_parts_of) (defBody s_parts_of) (defScope s_parts_of) .none kV_parts_of dc_parts_of pm_parts_of an_parts_of cd_parts_of ct_parts_of), sl_parts_of⟩) (c_parts_of : PySem.W.codeIn K cd_parts_of "parts_of" = true) (k_parts_of : PySem.W.keepIn K (.ref f_parts_of) = true)
    (a_class_of : PySem.W.nsIn K mainGlobals "class_of" = some (some (.ref f_class_of))) (l_class_of : K.lookup f_class_of = some ⟨oc_class_of, od_class_of, .func (PySem.W.fnOf "class_of" "class_of" (defArgs s_class_of) (defBody s_class_of) (defScope s_class_of) .none kV_class_of dc_class_of pm_class_of an_class_of cd_class_of ct_class_of), sl_class_of⟩) (c_class_of : PySem.W.codeIn K cd_class_of "class_of" = true) (k_class_of : PySem.W.keepIn K (.ref f_class_of) = true)
    (a_in_order : PySem.W.nsIn K mainGlobals "in_order" = some (some (.ref f_in_order))) (l_in_order : K.lookup f_in_order = some ⟨oc_in_order, od_in_order, .func (PySem.W.fnOf "in_order" "in_order" (defArgs s_in_order) (defBody s_in_order) (defScope s_in_order) .none kV_in_order dc_in_order pm_in_order an_in_order cd_in_order ct_in_order), sl_in_order⟩) (c_in_order : PySem.W.codeIn K cd_in_order "in_order" = true) (k_in_order : PySem.W.keepIn K (.ref f_in_order) = true)
    (a_parted : PySem.W.nsIn K mainGlobals "parted" = some (some (.ref f_parted))) (l_parted : K.lookup f_parted = some ⟨oc_parted, od_parted, .func (PySem.W.fnOf "parted" "parted" (defArgs s_parted) (defBody s_parted) (defScope s_parted) .none kV_parted dc_parted pm_parted an_parted cd_parted ct_parted), sl_parted⟩) (c_parted : PySem.W.codeIn K cd_parted "parted" = true) (k_parted : PySem.W.keepIn K (.ref f_parted) = true)
    (a_alike : PySem.W.nsIn K mainGlobals "alike" = some (some (.ref f_alike))) (l_alike : K.lookup f_alike = some ⟨oc_alike, od_alike, .func (PySem.W.fnOf "alike" "alike" (defArgs s_alike) (defBody s_alike) (defScope s_alike) .none kV_alike dc_alike pm_alike an_alike cd_alike ct_alike), sl_alike⟩) (c_alike : PySem.W.codeIn K cd_alike "alike" = true) (k_alike : PySem.W.keepIn K (.ref f_alike) = true)
    (a_halves : PySem.W.nsIn K mainGlobals "halves" = some (some (.ref f_halves))) (l_halves : K.lookup f_halves = some ⟨oc_halves, od_halves, .func (PySem.W.fnOf "halves" "halves" (defArgs s_halves) (defBody s_halves) (defScope s_halves) .none kV_halves dc_halves pm_halves an_halves cd_halves ct_halves), sl_halves⟩) (c_halves : PySem.W.codeIn K cd_halves "halves" = true) (k_halves : PySem.W.keepIn K (.ref f_halves) = true)
    (a_whole_of : PySem.W.nsIn K mainGlobals "whole_of" = some (some (.ref f_whole_of))) (l_whole_of : K.lookup f_whole_of = some ⟨oc_whole_of, od_whole_of, .func (PySem.W.fnOf "whole_of" "whole_of" (defArgs s_whole_of) (defBody s_whole_of) (defScope s_whole_of) .none kV_whole_of dc_whole_of pm_whole_of an_whole_of cd_whole_of ct_whole_of), sl_whole_of⟩) (c_whole_of : PySem.W.codeIn K cd_whole_of "whole_of" = true) (k_whole_of : PySem.W.keepIn K (.ref f_whole_of) = true)
    (a_stepped : PySem.W.nsIn K mainGlobals "stepped" = some (some (.ref f_stepped))) (l_stepped : K.lookup f_stepped = some ⟨oc_stepped, od_stepped, .func (PySem.W.fnOf "stepped" "stepped" (defArgs s_stepped) (defBody s_stepped) (defScope s_stepped) .none kV_stepped dc_stepped pm_stepped an_stepped cd_stepped ct_stepped), sl_stepped⟩) (c_stepped : PySem.W.codeIn K cd_stepped "stepped" = true) (k_stepped : PySem.W.keepIn K (.ref f_stepped) = true)
    (a_steps_down : PySem.W.nsIn K mainGlobals "steps_down" = some (some (.ref f_steps_down))) (l_steps_down : K.lookup f_steps_down = some ⟨oc_steps_down, od_steps_down, .func (PySem.W.fnOf "steps_down" "steps_down" (defArgs s_steps_down) (defBody s_steps_down) (defScope s_steps_down) .none kV_steps_down dc_steps_down pm_steps_down an_steps_down cd_steps_down ct_steps_down), sl_steps_down⟩) (c_steps_down : PySem.W.codeIn K cd_steps_down "steps_down" = true) (k_steps_down : PySem.W.keepIn K (.ref f_steps_down) = true)
    (a_back_step : PySem.W.nsIn K mainGlobals "back_step" = some (some (.ref f_back_step))) (l_back_step : K.lookup f_back_step = some ⟨oc_back_step, od_back_step, .func (PySem.W.fnOf "back_step" "back_step" (defArgs s_back_step) (defBody s_back_step) (defScope s_back_step) .none kV_back_step dc_back_step pm_back_step an_back_step cd_back_step ct_back_step), sl_back_step⟩) (c_back_step : PySem.W.codeIn K cd_back_step "back_step" = true) (k_back_step : PySem.W.keepIn K (.ref f_back_step) = true)
    (a_chain : PySem.W.nsIn K mainGlobals "chain" = some (some (.ref f_chain))) (l_chain : K.lookup f_chain = some ⟨oc_chain, od_chain, .func (PySem.W.fnOf "chain" "chain" (defArgs s_chain) (defBody s_chain) (defScope s_chain) .none kV_chain dc_chain pm_chain an_chain cd_chain ct_chain), sl_chain⟩) (c_chain : PySem.W.codeIn K cd_chain "chain" = true) (k_chain : PySem.W.keepIn K (.ref f_chain) = true)
    (a_Cursor_go : PySem.W.findIn K (.ref f_C) "go" = some (some (.ref f_Cursor_go))) (n_Cursor_go : PySem.W.isFn K (.ref f_Cursor_go) = true) (l_Cursor_go : K.lookup f_Cursor_go = some ⟨oc_Cursor_go, od_Cursor_go, .func (PySem.W.fnOf "go" "Cursor.go" (defArgs s_Cursor_go) (defBody s_Cursor_go) (defScope s_Cursor_go) .none kV_Cursor_go dc_Cursor_go pm_Cursor_go an_Cursor_go cd_Cursor_go ct_Cursor_go), sl_Cursor_go⟩) (c_Cursor_go : PySem.W.codeIn K cd_Cursor_go "Cursor.go" = true) (k_Cursor_go : PySem.W.keepIn K (.ref f_Cursor_go) = true)
    (a_Cursor_back : PySem.W.findIn K (.ref f_C) "back" = some (some (.ref f_Cursor_back))) (n_Cursor_back : PySem.W.isFn K (.ref f_Cursor_back) = true) (l_Cursor_back : K.lookup f_Cursor_back = some ⟨oc_Cursor_back, od_Cursor_back, .func (PySem.W.fnOf "back" "Cursor.back" (defArgs s_Cursor_back) (defBody s_Cursor_back) (defScope s_Cursor_back) .none kV_Cursor_back dc_Cursor_back pm_Cursor_back an_Cursor_back cd_Cursor_back ct_Cursor_back), sl_Cursor_back⟩) (c_Cursor_back : PySem.W.codeIn K cd_Cursor_back "Cursor.back" = true) (k_Cursor_back : PySem.W.keepIn K (.ref f_Cursor_back) = true)
    (a_Cursor_forth : PySem.W.findIn K (.ref f_C) "forth" = some (some (.ref f_Cursor_forth))) (n_Cursor_forth : PySem.W.isFn K (.ref f_Cursor_forth) = true) (l_Cursor_forth : K.lookup f_Cursor_forth = some ⟨oc_Cursor_forth, od_Cursor_forth, .func (PySem.W.fnOf "forth" "Cursor.forth" (defArgs s_Cursor_forth) (defBody s_Cursor_forth) (defScope s_Cursor_forth) .none kV_Cursor_forth dc_Cursor_forth pm_Cursor_forth an_Cursor_forth cd_Cursor_forth ct_Cursor_forth), sl_Cursor_forth⟩) (c_Cursor_forth : PySem.W.codeIn K cd_Cursor_forth "Cursor.forth" = true) (k_Cursor_forth : PySem.W.keepIn K (.ref f_Cursor_forth) = true)
    (a_is_kind : PySem.W.nsIn K mainGlobals "is_kind" = some (some (.ref f_is_kind))) (l_is_kind : K.lookup f_is_kind = some ⟨oc_is_kind, od_is_kind, .func (PySem.W.fnOf "is_kind" "is_kind" (defArgs s_is_kind) (defBody s_is_kind) (defScope s_is_kind) .none kV_is_kind dc_is_kind pm_is_kind an_is_kind cd_is_kind ct_is_kind), sl_is_kind⟩) (c_is_kind : PySem.W.codeIn K cd_is_kind "is_kind" = true) (k_is_kind : PySem.W.keepIn K (.ref f_is_kind) = true)
    (a_are_rising : PySem.W.nsIn K mainGlobals "are_rising" = some (some (.ref f_are_rising))) (l_are_rising : K.lookup f_are_rising = some ⟨oc_are_rising, od_are_rising, .func (PySem.W.fnOf "are_rising" "are_rising" (defArgs s_are_rising) (defBody s_are_rising) (defScope s_are_rising) .none kV_are_rising dc_are_rising pm_are_rising an_are_rising cd_are_rising ct_are_rising), sl_are_rising⟩) (c_are_rising : PySem.W.codeIn K cd_are_rising "are_rising" = true) (k_are_rising : PySem.W.keepIn K (.ref f_are_rising) = true)
    (a_is_item : PySem.W.nsIn K mainGlobals "is_item" = some (some (.ref f_is_item))) (l_is_item : K.lookup f_is_item = some ⟨oc_is_item, od_is_item, .func (PySem.W.fnOf "is_item" "is_item" (defArgs s_is_item) (defBody s_is_item) (defScope s_is_item) .none kV_is_item dc_is_item pm_is_item an_is_item cd_is_item ct_is_item), sl_is_item⟩) (c_is_item : PySem.W.codeIn K cd_is_item "is_item" = true) (k_is_item : PySem.W.keepIn K (.ref f_is_item) = true)
    (a_is_side : PySem.W.nsIn K mainGlobals "is_side" = some (some (.ref f_is_side))) (l_is_side : K.lookup f_is_side = some ⟨oc_is_side, od_is_side, .func (PySem.W.fnOf "is_side" "is_side" (defArgs s_is_side) (defBody s_is_side) (defScope s_is_side) .none kV_is_side dc_is_side pm_is_side an_is_side cd_is_side ct_is_side), sl_is_side⟩) (c_is_side : PySem.W.codeIn K cd_is_side "is_side" = true) (k_is_side : PySem.W.keepIn K (.ref f_is_side) = true)
    (a_is_rule : PySem.W.nsIn K mainGlobals "is_rule" = some (some (.ref f_is_rule))) (l_is_rule : K.lookup f_is_rule = some ⟨oc_is_rule, od_is_rule, .func (PySem.W.fnOf "is_rule" "is_rule" (defArgs s_is_rule) (defBody s_is_rule) (defScope s_is_rule) .none kV_is_rule dc_is_rule pm_is_rule an_is_rule cd_is_rule ct_is_rule), sl_is_rule⟩) (c_is_rule : PySem.W.codeIn K cd_is_rule "is_rule" = true) (k_is_rule : PySem.W.keepIn K (.ref f_is_rule) = true)
    (a_are_rules : PySem.W.nsIn K mainGlobals "are_rules" = some (some (.ref f_are_rules))) (l_are_rules : K.lookup f_are_rules = some ⟨oc_are_rules, od_are_rules, .func (PySem.W.fnOf "are_rules" "are_rules" (defArgs s_are_rules) (defBody s_are_rules) (defScope s_are_rules) .none kV_are_rules dc_are_rules pm_are_rules an_are_rules cd_are_rules ct_are_rules), sl_are_rules⟩) (c_are_rules : PySem.W.codeIn K cd_are_rules "are_rules" = true) (k_are_rules : PySem.W.keepIn K (.ref f_are_rules) = true)
    (a_item_text : PySem.W.nsIn K mainGlobals "item_text" = some (some (.ref f_item_text))) (l_item_text : K.lookup f_item_text = some ⟨oc_item_text, od_item_text, .func (PySem.W.fnOf "item_text" "item_text" (defArgs s_item_text) (defBody s_item_text) (defScope s_item_text) .none kV_item_text dc_item_text pm_item_text an_item_text cd_item_text ct_item_text), sl_item_text⟩) (c_item_text : PySem.W.codeIn K cd_item_text "item_text" = true) (k_item_text : PySem.W.keepIn K (.ref f_item_text) = true)
    (a_written : PySem.W.nsIn K mainGlobals "written" = some (some (.ref f_written))) (l_written : K.lookup f_written = some ⟨oc_written, od_written, .func (PySem.W.fnOf "written" "written" (defArgs s_written) (defBody s_written) (defScope s_written) .none kV_written dc_written pm_written an_written cd_written ct_written), sl_written⟩) (c_written : PySem.W.codeIn K cd_written "written" = true) (k_written : PySem.W.keepIn K (.ref f_written) = true)
    (a_item_in : PySem.W.nsIn K mainGlobals "item_in" = some (some (.ref f_item_in))) (l_item_in : K.lookup f_item_in = some ⟨oc_item_in, od_item_in, .func (PySem.W.fnOf "item_in" "item_in" (defArgs s_item_in) (defBody s_item_in) (defScope s_item_in) .none kV_item_in dc_item_in pm_item_in an_item_in cd_item_in ct_item_in), sl_item_in⟩) (c_item_in : PySem.W.codeIn K cd_item_in "item_in" = true) (k_item_in : PySem.W.keepIn K (.ref f_item_in) = true)
    (a_rule_in : PySem.W.nsIn K mainGlobals "rule_in" = some (some (.ref f_rule_in))) (l_rule_in : K.lookup f_rule_in = some ⟨oc_rule_in, od_rule_in, .func (PySem.W.fnOf "rule_in" "rule_in" (defArgs s_rule_in) (defBody s_rule_in) (defScope s_rule_in) .none kV_rule_in dc_rule_in pm_rule_in an_rule_in cd_rule_in ct_rule_in), sl_rule_in⟩) (c_rule_in : PySem.W.codeIn K cd_rule_in "rule_in" = true) (k_rule_in : PySem.W.keepIn K (.ref f_rule_in) = true)
    (a_read : PySem.W.nsIn K mainGlobals "read" = some (some (.ref f_read))) (l_read : K.lookup f_read = some ⟨oc_read, od_read, .func (PySem.W.fnOf "read" "read" (defArgs s_read) (defBody s_read) (defScope s_read) .none kV_read dc_read pm_read an_read cd_read ct_read), sl_read⟩) (c_read : PySem.W.codeIn K cd_read "read" = true) (k_read : PySem.W.keepIn K (.ref f_read) = true)
    (a_piece_width : PySem.W.nsIn K mainGlobals "piece_width" = some (some (.ref f_piece_width))) (l_piece_width : K.lookup f_piece_width = some ⟨oc_piece_width, od_piece_width, .func (PySem.W.fnOf "piece_width" "piece_width" (defArgs s_piece_width) (defBody s_piece_width) (defScope s_piece_width) .none kV_piece_width dc_piece_width pm_piece_width an_piece_width cd_piece_width ct_piece_width), sl_piece_width⟩) (c_piece_width : PySem.W.codeIn K cd_piece_width "piece_width" = true) (k_piece_width : PySem.W.keepIn K (.ref f_piece_width) = true)
    (a_width : PySem.W.nsIn K mainGlobals "width" = some (some (.ref f_width))) (l_width : K.lookup f_width = some ⟨oc_width, od_width, .func (PySem.W.fnOf "width" "width" (defArgs s_width) (defBody s_width) (defScope s_width) .none kV_width dc_width pm_width an_width cd_width ct_width), sl_width⟩) (c_width : PySem.W.codeIn K cd_width "width" = true) (k_width : PySem.W.keepIn K (.ref f_width) = true)
    (a_cut_to : PySem.W.nsIn K mainGlobals "cut_to" = some (some (.ref f_cut_to))) (l_cut_to : K.lookup f_cut_to = some ⟨oc_cut_to, od_cut_to, .func (PySem.W.fnOf "cut_to" "cut_to" (defArgs s_cut_to) (defBody s_cut_to) (defScope s_cut_to) .none kV_cut_to dc_cut_to pm_cut_to an_cut_to cd_cut_to ct_cut_to), sl_cut_to⟩) (c_cut_to : PySem.W.codeIn K cd_cut_to "cut_to" = true) (k_cut_to : PySem.W.keepIn K (.ref f_cut_to) = true)
    (a_shown : PySem.W.nsIn K mainGlobals "shown" = some (some (.ref f_shown))) (l_shown : K.lookup f_shown = some ⟨oc_shown, od_shown, .func (PySem.W.fnOf "shown" "shown" (defArgs s_shown) (defBody s_shown) (defScope s_shown) .none kV_shown dc_shown pm_shown an_shown cd_shown ct_shown), sl_shown⟩) (c_shown : PySem.W.codeIn K cd_shown "shown" = true) (k_shown : PySem.W.keepIn K (.ref f_shown) = true)
    (a_column_of : PySem.W.nsIn K mainGlobals "column_of" = some (some (.ref f_column_of))) (l_column_of : K.lookup f_column_of = some ⟨oc_column_of, od_column_of, .func (PySem.W.fnOf "column_of" "column_of" (defArgs s_column_of) (defBody s_column_of) (defScope s_column_of) .none kV_column_of dc_column_of pm_column_of an_column_of cd_column_of ct_column_of), sl_column_of⟩) (c_column_of : PySem.W.codeIn K cd_column_of "column_of" = true) (k_column_of : PySem.W.keepIn K (.ref f_column_of) = true)
    (a_law_deed : PySem.W.nsIn K mainGlobals "_law_deed" = some (some (.ref f_law_deed))) (l_law_deed : K.lookup f_law_deed = some ⟨oc_law_deed, od_law_deed, .func (PySem.W.fnOf "_law_deed" "_law_deed" (defArgs s_law_deed) (defBody s_law_deed) (defScope s_law_deed) .none kV_law_deed dc_law_deed pm_law_deed an_law_deed cd_law_deed ct_law_deed), sl_law_deed⟩) (c_law_deed : PySem.W.codeIn K cd_law_deed "_law_deed" = true) (k_law_deed : PySem.W.keepIn K (.ref f_law_deed) = true)
    (a_law_ask : PySem.W.nsIn K mainGlobals "_law_ask" = some (some (.ref f_law_ask))) (l_law_ask : K.lookup f_law_ask = some ⟨oc_law_ask, od_law_ask, .func (PySem.W.fnOf "_law_ask" "_law_ask" (defArgs s_law_ask) (defBody s_law_ask) (defScope s_law_ask) .none kV_law_ask dc_law_ask pm_law_ask an_law_ask cd_law_ask ct_law_ask), sl_law_ask⟩) (c_law_ask : PySem.W.codeIn K cd_law_ask "_law_ask" = true) (k_law_ask : PySem.W.keepIn K (.ref f_law_ask) = true)
    (a_law : PySem.W.nsIn K mainGlobals "law" = some (some (.ref f_law))) (l_law : K.lookup f_law = some ⟨oc_law, od_law, .func (PySem.W.fnOf "law" "law" (defArgs s_law) (defBody s_law) (defScope s_law) .none kV_law dc_law pm_law an_law cd_law ct_law), sl_law⟩) (c_law : PySem.W.codeIn K cd_law "law" = true) (k_law : PySem.W.keepIn K (.ref f_law) = true)
    (z_ValueError : PySem.W.nsIn K mainGlobals "ValueError" = some none)
    (z_abs : PySem.W.nsIn K mainGlobals "abs" = some none)
    (z_all : PySem.W.nsIn K mainGlobals "all" = some none)
    (z_bool : PySem.W.nsIn K mainGlobals "bool" = some none)
    (z_dict : PySem.W.nsIn K mainGlobals "dict" = some none)
    (z_enumerate : PySem.W.nsIn K mainGlobals "enumerate" = some none)
    (z_int : PySem.W.nsIn K mainGlobals "int" = some none)
    (z_isinstance : PySem.W.nsIn K mainGlobals "isinstance" = some none)
    (z_len : PySem.W.nsIn K mainGlobals "len" = some none)
    (z_max : PySem.W.nsIn K mainGlobals "max" = some none)
    (z_min : PySem.W.nsIn K mainGlobals "min" = some none)
    (z_range : PySem.W.nsIn K mainGlobals "range" = some none)
    (z_set : PySem.W.nsIn K mainGlobals "set" = some none)
    (z_sorted : PySem.W.nsIn K mainGlobals "sorted" = some none)
    (z_str : PySem.W.nsIn K mainGlobals "str" = some none)
    (z_sum : PySem.W.nsIn K mainGlobals "sum" = some none)
    (z_tuple : PySem.W.nsIn K mainGlobals "tuple" = some none)
    (z_zip : PySem.W.nsIn K mainGlobals "zip" = some none)
    (x_g_NoPlace : PySem.W.nsIn K mainGlobals "NoPlace" = some (some (.ref f_NoPlace)))
    (x_g_NoChain : PySem.W.nsIn K mainGlobals "NoChain" = some (some (.ref f_NoChain)))
    (x_g_NoStep : PySem.W.nsIn K mainGlobals "NoStep" = some (some (.ref f_NoStep)))
    (x_g_NoText : PySem.W.nsIn K mainGlobals "NoText" = some (some (.ref f_NoText)))
    (x_g_CutError : PySem.W.nsIn K mainGlobals "CutError" = some (some (.ref f_CutError)))
    (x_q_NoPlace : PySem.W.excIn K f_NoPlace veB "ValueError.__new__" = true) (x_k_NoPlace : PySem.W.keepIn K (.ref f_NoPlace) = true) (x_s_NoPlace : PySem.W.subIn K (.ref f_NoPlace) (.type "BaseException") = some true) (x_t_NoPlace : PySem.W.typeIn K (.ref f_NoPlace) = some (.type "type"))
    (x_q_NoChain : PySem.W.excIn K f_NoChain veB "ValueError.__new__" = true) (x_k_NoChain : PySem.W.keepIn K (.ref f_NoChain) = true) (x_s_NoChain : PySem.W.subIn K (.ref f_NoChain) (.type "BaseException") = some true) (x_t_NoChain : PySem.W.typeIn K (.ref f_NoChain) = some (.type "type"))
    (x_q_NoStep : PySem.W.excIn K f_NoStep veB "ValueError.__new__" = true) (x_k_NoStep : PySem.W.keepIn K (.ref f_NoStep) = true) (x_s_NoStep : PySem.W.subIn K (.ref f_NoStep) (.type "BaseException") = some true) (x_t_NoStep : PySem.W.typeIn K (.ref f_NoStep) = some (.type "type"))
    (x_q_NoText : PySem.W.excIn K f_NoText veB "ValueError.__new__" = true) (x_k_NoText : PySem.W.keepIn K (.ref f_NoText) = true) (x_s_NoText : PySem.W.subIn K (.ref f_NoText) (.type "BaseException") = some true) (x_t_NoText : PySem.W.typeIn K (.ref f_NoText) = some (.type "type"))
    (x_m_CutError_NoPlace : PySem.W.exmOne K (.ref f_NoPlace) (.ref f_CutError) = some true)
    (x_m_CutError_NoChain : PySem.W.exmOne K (.ref f_NoChain) (.ref f_CutError) = some true)
    (x_m_CutError_NoStep : PySem.W.exmOne K (.ref f_NoStep) (.ref f_CutError) = some true)
    (x_m_CutError_NoText : PySem.W.exmOne K (.ref f_NoText) (.ref f_CutError) = some true)
    {u_ITEMS_MOST u_OTHER u_RULES_MOST : Tok}
    {t0_MANY t1_MANY : Tok} {n_MANY : Nat} {sl_MANY : Array (Option Value)} (y_MANY : PySem.W.nsIn K mainGlobals "MANY" = some (some (.ref f_MANY))) (w_MANY : K.lookup f_MANY = some ⟨.type "tuple", none, .seq #[.str ⟨#[49]⟩ t0_MANY, .str ⟨#[42]⟩ t1_MANY] n_MANY, sl_MANY⟩)
    (y_ITEMS_MOST : PySem.W.nsIn K mainGlobals "ITEMS_MOST" = some (some (.int 3 u_ITEMS_MOST)))
    (y_OTHER : PySem.W.nsIn K mainGlobals "OTHER" = some (some (.str ⟨#[79]⟩ u_OTHER)))
    (y_RULES_MOST : PySem.W.nsIn K mainGlobals "RULES_MOST" = some (some (.int 20 u_RULES_MOST)))
    (y_ga_NoPlace : PySem.W.findIn K (.ref f_NoPlace) "__getattribute__" = some (some (.builtin "BaseException.__getattribute__"))) (y_gb_NoPlace : PySem.W.findIn K (.ref f_NoPlace) "__getattr__" = some none) (y_hd_NoPlace : PySem.W.hasDictIn K f_NoPlace = true) (y_cl_NoPlace : PySem.W.findIn K (.ref f_NoPlace) "__class__" = some (some (.builtin "object.__class__"))) (y_ml_NoPlace : PySem.W.mroIn K f_NoPlace (.type "object") = some true) (x_m_ve_NoPlace : PySem.W.exmOne K (.ref f_NoPlace) (.type "ValueError") = some true)
    (x_m_ki_NoPlace_NoChain : PySem.W.exmOne K (.ref f_NoPlace) (.ref f_NoChain) = some false) (q_ne_NoPlace_NoChain : f_NoPlace ≠ f_NoChain)
    (x_m_ki_NoPlace_NoStep : PySem.W.exmOne K (.ref f_NoPlace) (.ref f_NoStep) = some false) (q_ne_NoPlace_NoStep : f_NoPlace ≠ f_NoStep)
    (x_m_ki_NoPlace_NoText : PySem.W.exmOne K (.ref f_NoPlace) (.ref f_NoText) = some false) (q_ne_NoPlace_NoText : f_NoPlace ≠ f_NoText)
    (y_ga_NoChain : PySem.W.findIn K (.ref f_NoChain) "__getattribute__" = some (some (.builtin "BaseException.__getattribute__"))) (y_gb_NoChain : PySem.W.findIn K (.ref f_NoChain) "__getattr__" = some none) (y_hd_NoChain : PySem.W.hasDictIn K f_NoChain = true) (y_cl_NoChain : PySem.W.findIn K (.ref f_NoChain) "__class__" = some (some (.builtin "object.__class__"))) (y_ml_NoChain : PySem.W.mroIn K f_NoChain (.type "object") = some true) (x_m_ve_NoChain : PySem.W.exmOne K (.ref f_NoChain) (.type "ValueError") = some true)
    (x_m_ki_NoChain_NoPlace : PySem.W.exmOne K (.ref f_NoChain) (.ref f_NoPlace) = some false) (q_ne_NoChain_NoPlace : f_NoChain ≠ f_NoPlace)
    (x_m_ki_NoChain_NoStep : PySem.W.exmOne K (.ref f_NoChain) (.ref f_NoStep) = some false) (q_ne_NoChain_NoStep : f_NoChain ≠ f_NoStep)
    (x_m_ki_NoChain_NoText : PySem.W.exmOne K (.ref f_NoChain) (.ref f_NoText) = some false) (q_ne_NoChain_NoText : f_NoChain ≠ f_NoText)
    (y_ga_NoStep : PySem.W.findIn K (.ref f_NoStep) "__getattribute__" = some (some (.builtin "BaseException.__getattribute__"))) (y_gb_NoStep : PySem.W.findIn K (.ref f_NoStep) "__getattr__" = some none) (y_hd_NoStep : PySem.W.hasDictIn K f_NoStep = true) (y_cl_NoStep : PySem.W.findIn K (.ref f_NoStep) "__class__" = some (some (.builtin "object.__class__"))) (y_ml_NoStep : PySem.W.mroIn K f_NoStep (.type "object") = some true) (x_m_ve_NoStep : PySem.W.exmOne K (.ref f_NoStep) (.type "ValueError") = some true)
    (x_m_ki_NoStep_NoPlace : PySem.W.exmOne K (.ref f_NoStep) (.ref f_NoPlace) = some false) (q_ne_NoStep_NoPlace : f_NoStep ≠ f_NoPlace)
    (x_m_ki_NoStep_NoChain : PySem.W.exmOne K (.ref f_NoStep) (.ref f_NoChain) = some false) (q_ne_NoStep_NoChain : f_NoStep ≠ f_NoChain)
    (x_m_ki_NoStep_NoText : PySem.W.exmOne K (.ref f_NoStep) (.ref f_NoText) = some false) (q_ne_NoStep_NoText : f_NoStep ≠ f_NoText)
    (y_ga_NoText : PySem.W.findIn K (.ref f_NoText) "__getattribute__" = some (some (.builtin "BaseException.__getattribute__"))) (y_gb_NoText : PySem.W.findIn K (.ref f_NoText) "__getattr__" = some none) (y_hd_NoText : PySem.W.hasDictIn K f_NoText = true) (y_cl_NoText : PySem.W.findIn K (.ref f_NoText) "__class__" = some (some (.builtin "object.__class__"))) (y_ml_NoText : PySem.W.mroIn K f_NoText (.type "object") = some true) (x_m_ve_NoText : PySem.W.exmOne K (.ref f_NoText) (.type "ValueError") = some true)
    (x_m_ki_NoText_NoPlace : PySem.W.exmOne K (.ref f_NoText) (.ref f_NoPlace) = some false) (q_ne_NoText_NoPlace : f_NoText ≠ f_NoPlace)
    (x_m_ki_NoText_NoChain : PySem.W.exmOne K (.ref f_NoText) (.ref f_NoChain) = some false) (q_ne_NoText_NoChain : f_NoText ≠ f_NoChain)
    (x_m_ki_NoText_NoStep : PySem.W.exmOne K (.ref f_NoText) (.ref f_NoStep) = some false) (q_ne_NoText_NoStep : f_NoText ≠ f_NoStep)
    (y_sp : PySem.W.specialIn K (.builtin "object.__class__") "__get__" = some (some (.builtin "getset_descriptor.__get__"))) (y_tk : PySem.W.takesIn K (.builtin "object.__class__") = some true) :
    ∃ fd : FuncData, (∀ (s : Shared) (v : Value), BindsTo s fd ⟨[v], []⟩ [("_law_script", v)]) ∧ ∀ base : Heap, K.In base → base.Ns mainGlobals mg → FnOk l.prog w K mg base (L2.CX l.prog w) 18 fa fd ["_law_script"] (spLaw K) := by
  have e := hfa.symm.trans (PySem.W.mg_of X G a_law)
  cases e
  obtain ⟨ca, e_NoPlace, e_NoChain, e_NoStep, e_NoText, e_CutError⟩ : ∃ ca : String → Addr, ca "NoPlace" = f_NoPlace ∧ ca "NoChain" = f_NoChain ∧ ca "NoStep" = f_NoStep ∧ ca "NoText" = f_NoText ∧ ca "CutError" = f_CutError := ⟨fun s => if s = "NoPlace" then f_NoPlace else if s = "NoChain" then f_NoChain else if s = "NoStep" then f_NoStep else if s = "NoText" then f_NoText else f_CutError, by simp, by simp, by simp, by simp, by simp⟩
  subst e_NoPlace
  subst e_NoChain
  subst e_NoStep
  subst e_NoText
  subst e_CutError
  have Fi := fun_mk (st := s_init) l_init c_init k_init
  have CC : ClsA K mg f_C s_init f_init _ := ⟨⟨x_cg, ⟨x_c1, x_c2, x_c3, x_c4⟩, x_a0, x_a1, x_a2, x_a3, x_a4, x_a5⟩, PySem.W.mg_of X G x_cg, ⟨x_mk, x_in, x_if, x_kc⟩, Fi, Fi.binds (fun _ _ _ _ _ _ us hl => match us, hl with | [_, _, _, _, _], _ => rfl)⟩
  have A_Cursor_text := meth_at (C := f_C) (x := "text") (qual := "Cursor.text") (st := s_Cursor_text) (ps := ["self"]) a_Cursor_text n_Cursor_text l_Cursor_text c_Cursor_text k_Cursor_text (fun _ _ _ _ _ _ us hl => match us, hl with | [_], _ => rfl)
  have A_Cursor_place := meth_at (C := f_C) (x := "place") (qual := "Cursor.place") (st := s_Cursor_place) (ps := ["self"]) a_Cursor_place n_Cursor_place l_Cursor_place c_Cursor_place k_Cursor_place (fun _ _ _ _ _ _ us hl => match us, hl with | [_], _ => rfl)
  have A_Cursor_stretch := meth_at (C := f_C) (x := "stretch") (qual := "Cursor.stretch") (st := s_Cursor_stretch) (ps := ["self"]) a_Cursor_stretch n_Cursor_stretch l_Cursor_stretch c_Cursor_stretch k_Cursor_stretch (fun _ _ _ _ _ _ us hl => match us, hl with | [_], _ => rfl)
  have A_kinds_of := def_at X G (x := "kinds_of") (st := s_kinds_of) (ps := ["kinds", "text"]) a_kinds_of l_kinds_of c_kinds_of k_kinds_of (fun _ _ _ _ _ _ us hl => match us, hl with | [_, _], _ => rfl)
  have A_is_in := def_at X G (x := "is_in") (st := s_is_in) (ps := ["item", "kind"]) a_is_in l_is_in c_is_in k_is_in (fun _ _ _ _ _ _ us hl => match us, hl with | [_, _], _ => rfl)
  have A_places_on := def_at X G (x := "places_on") (st := s_places_on) (ps := ["row", "items", "place"]) a_places_on l_places_on c_places_on k_places_on (fun _ _ _ _ _ _ us hl => match us, hl with | [_, _, _], _ => rfl)
  have A_leads_on := def_at X G (x := "leads_on") (st := s_leads_on) (ps := ["row", "items", "place"]) a_leads_on l_leads_on c_leads_on k_leads_on (fun _ _ _ _ _ _ us hl => match us, hl with | [_, _, _], _ => rfl)
  have A_leads_back := def_at X G (x := "leads_back") (st := s_leads_back) (ps := ["row", "items", "place"]) a_leads_back l_leads_back c_leads_back k_leads_back (fun _ _ _ _ _ _ us hl => match us, hl with | [_, _, _], _ => rfl)
  have A_rule_at := def_at X G (x := "rule_at") (st := s_rule_at) (ps := ["row", "rules", "place"]) a_rule_at l_rule_at c_rule_at k_rule_at (fun _ _ _ _ _ _ us hl => match us, hl with | [_, _, _], _ => rfl)
  have A_is_cut_at := def_at X G (x := "is_cut_at") (st := s_is_cut_at) (ps := ["row", "rules", "place"]) a_is_cut_at l_is_cut_at c_is_cut_at k_is_cut_at (fun _ _ _ _ _ _ us hl => match us, hl with | [_, _, _], _ => rfl)
  have A_need := def_at X G (x := "need") (st := s_need) (ps := ["text", "place"]) a_need l_need c_need k_need (fun _ _ _ _ _ _ us hl => match us, hl with | [_, _], _ => rfl)
  have A_next_cut := def_at X G (x := "next_cut") (st := s_next_cut) (ps := ["kinds", "rules", "text", "place"]) a_next_cut l_next_cut c_next_cut k_next_cut (fun _ _ _ _ _ _ us hl => match us, hl with | [_, _, _, _], _ => rfl)
  have A_last_cut := def_at X G (x := "last_cut") (st := s_last_cut) (ps := ["kinds", "rules", "text", "place"]) a_last_cut l_last_cut c_last_cut k_last_cut (fun _ _ _ _ _ _ us hl => match us, hl with | [_, _, _, _], _ => rfl)
  have A_Cursor_stand := meth_at (C := f_C) (x := "stand") (qual := "Cursor.stand") (st := s_Cursor_stand) (ps := ["self", "place", "is_held"]) a_Cursor_stand n_Cursor_stand l_Cursor_stand c_Cursor_stand k_Cursor_stand (fun _ _ _ _ _ _ us hl => match us, hl with | [_, _, _], _ => rfl)
  have A_Cursor_step := meth_at (C := f_C) (x := "step") (qual := "Cursor.step") (st := s_Cursor_step) (ps := ["self", "is_on", "is_word", "is_held"]) a_Cursor_step n_Cursor_step l_Cursor_step c_Cursor_step k_Cursor_step (fun _ _ _ _ _ _ us hl => match us, hl with | [_, _, _, _], _ => rfl)
  have A_is_cut := def_at X G (x := "is_cut") (st := s_is_cut) (ps := ["kinds", "rules", "text", "place"]) a_is_cut l_is_cut c_is_cut k_is_cut (fun _ _ _ _ _ _ us hl => match us, hl with | [_, _, _, _], _ => rfl)
  have A_Cursor_change := meth_at (C := f_C) (x := "change") (qual := "Cursor.change") (st := s_Cursor_change) (ps := ["self", "first", "last", "new"]) a_Cursor_change n_Cursor_change l_Cursor_change c_Cursor_change k_Cursor_change (fun _ _ _ _ _ _ us hl => match us, hl with | [_, _, _, _], _ => rfl)
  have A_Cursor_typed := meth_at (C := f_C) (x := "typed") (qual := "Cursor.typed") (st := s_Cursor_typed) (ps := ["self", "new"]) a_Cursor_typed n_Cursor_typed l_Cursor_typed c_Cursor_typed k_Cursor_typed (fun _ _ _ _ _ _ us hl => match us, hl with | [_, _], _ => rfl)
  have A_law_draw := def_at X G (x := "_law_draw") (st := s_law_draw) (ps := ["_law_script", "_law_town", "_law_many"]) a_law_draw l_law_draw c_law_draw k_law_draw (fun _ _ _ _ _ _ us hl => match us, hl with | [_, _, _], _ => rfl)
  have A_law_pick := def_at X G (x := "_law_pick") (st := s_law_pick) (ps := ["_law_script", "_law_town", "_law_some"]) a_law_pick l_law_pick c_law_pick k_law_pick (fun _ _ _ _ _ _ us hl => match us, hl with | [_, _, _], _ => rfl)
  have A_law_names := def_at X G (x := "_law_names") (st := s_law_names) (ps := ["_law_e"]) a_law_names l_law_names c_law_names k_law_names (fun _ _ _ _ _ _ us hl => match us, hl with | [_], _ => rfl)
  have A_why := def_at X G (x := "why") (st := s_why) (ps := ["kinds", "rules", "text", "place"]) a_why l_why c_why k_why (fun _ _ _ _ _ _ us hl => match us, hl with | [_, _, _, _], _ => rfl)
  have A_piece_at := def_at X G (x := "piece_at") (st := s_piece_at) (ps := ["kinds", "rules", "text", "place"]) a_piece_at l_piece_at c_piece_at k_piece_at (fun _ _ _ _ _ _ us hl => match us, hl with | [_, _, _, _], _ => rfl)
  have A_cuts := def_at X G (x := "cuts") (st := s_cuts) (ps := ["kinds", "rules", "text"]) a_cuts l_cuts c_cuts k_cuts (fun _ _ _ _ _ _ us hl => match us, hl with | [_, _, _], _ => rfl)
  have A_pieces := def_at X G (x := "pieces") (st := s_pieces) (ps := ["kinds", "rules", "text"]) a_pieces l_pieces c_pieces k_pieces (fun _ _ _ _ _ _ us hl => match us, hl with | [_, _, _], _ => rfl)
  have A_piece_number := def_at X G (x := "piece_number") (st := s_piece_number) (ps := ["kinds", "rules", "text", "number"]) a_piece_number l_piece_number c_piece_number k_piece_number (fun _ _ _ _ _ _ us hl => match us, hl with | [_, _, _, _], _ => rfl)
  have A_nearest := def_at X G (x := "nearest") (st := s_nearest) (ps := ["kinds", "rules", "text", "place"]) a_nearest l_nearest c_nearest k_nearest (fun _ _ _ _ _ _ us hl => match us, hl with | [_, _, _, _], _ => rfl)
  have A_parts_of := def_at X G (x := "parts_of") (st := s_parts_of) (ps := ["book", "sign"]) a_parts_of l_parts_of c_parts_of k_parts_of (fun _ _ _ _ _ _ us hl => match us, hl with | [_, _], _ => rfl)
  have A_class_of := def_at X G (x := "class_of") (st := s_class_of) (ps := ["book", "sign"]) a_class_of l_class_of c_class_of k_class_of (fun _ _ _ _ _ _ us hl => match us, hl with | [_, _], _ => rfl)
  have A_in_order := def_at X G (x := "in_order") (st := s_in_order) (ps := ["book", "text"]) a_in_order l_in_order c_in_order k_in_order (fun _ _ _ _ _ _ us hl => match us, hl with | [_, _], _ => rfl)
  have A_parted := def_at X G (x := "parted") (st := s_parted) (ps := ["book", "text"]) a_parted l_parted c_parted k_parted (fun _ _ _ _ _ _ us hl => match us, hl with | [_, _], _ => rfl)
  have A_alike := def_at X G (x := "alike") (st := s_alike) (ps := ["book", "one", "other"]) a_alike l_alike c_alike k_alike (fun _ _ _ _ _ _ us hl => match us, hl with | [_, _, _], _ => rfl)
  have A_halves := def_at X G (x := "halves") (st := s_halves) (ps := ["book", "sign"]) a_halves l_halves c_halves k_halves (fun _ _ _ _ _ _ us hl => match us, hl with | [_, _], _ => rfl)
  have A_whole_of := def_at X G (x := "whole_of") (st := s_whole_of) (ps := ["book", "base", "mark"]) a_whole_of l_whole_of c_whole_of k_whole_of (fun _ _ _ _ _ _ us hl => match us, hl with | [_, _, _], _ => rfl)
  have A_stepped := def_at X G (x := "stepped") (st := s_stepped) (ps := ["book", "text", "step"]) a_stepped l_stepped c_stepped k_stepped (fun _ _ _ _ _ _ us hl => match us, hl with | [_, _, _], _ => rfl)
  have A_steps_down := def_at X G (x := "steps_down") (st := s_steps_down) (ps := ["book", "text"]) a_steps_down l_steps_down c_steps_down k_steps_down (fun _ _ _ _ _ _ us hl => match us, hl with | [_, _], _ => rfl)
  have A_back_step := def_at X G (x := "back_step") (st := s_back_step) (ps := ["step"]) a_back_step l_back_step c_back_step k_back_step (fun _ _ _ _ _ _ us hl => match us, hl with | [_], _ => rfl)
  have A_chain := def_at X G (x := "chain") (st := s_chain) (ps := ["book", "one", "other"]) a_chain l_chain c_chain k_chain (fun _ _ _ _ _ _ us hl => match us, hl with | [_, _, _], _ => rfl)
  have A_Cursor_go := meth_at (C := f_C) (x := "go") (qual := "Cursor.go") (st := s_Cursor_go) (ps := ["self", "place", "is_held"]) a_Cursor_go n_Cursor_go l_Cursor_go c_Cursor_go k_Cursor_go (fun _ _ _ _ _ _ us hl => match us, hl with | [_, _, _], _ => rfl)
  have A_Cursor_back := meth_at (C := f_C) (x := "back") (qual := "Cursor.back") (st := s_Cursor_back) (ps := ["self"]) a_Cursor_back n_Cursor_back l_Cursor_back c_Cursor_back k_Cursor_back (fun _ _ _ _ _ _ us hl => match us, hl with | [_], _ => rfl)
  have A_Cursor_forth := meth_at (C := f_C) (x := "forth") (qual := "Cursor.forth") (st := s_Cursor_forth) (ps := ["self"]) a_Cursor_forth n_Cursor_forth l_Cursor_forth c_Cursor_forth k_Cursor_forth (fun _ _ _ _ _ _ us hl => match us, hl with | [_], _ => rfl)
  have A_is_kind := def_at X G (x := "is_kind") (st := s_is_kind) (ps := ["thing"]) a_is_kind l_is_kind c_is_kind k_is_kind (fun _ _ _ _ _ _ us hl => match us, hl with | [_], _ => rfl)
  have A_are_rising := def_at X G (x := "are_rising") (st := s_are_rising) (ps := ["row"]) a_are_rising l_are_rising c_are_rising k_are_rising (fun _ _ _ _ _ _ us hl => match us, hl with | [_], _ => rfl)
  have A_is_item := def_at X G (x := "is_item") (st := s_is_item) (ps := ["thing"]) a_is_item l_is_item c_is_item k_is_item (fun _ _ _ _ _ _ us hl => match us, hl with | [_], _ => rfl)
  have A_is_side := def_at X G (x := "is_side") (st := s_is_side) (ps := ["thing"]) a_is_side l_is_side c_is_side k_is_side (fun _ _ _ _ _ _ us hl => match us, hl with | [_], _ => rfl)
  have A_is_rule := def_at X G (x := "is_rule") (st := s_is_rule) (ps := ["thing"]) a_is_rule l_is_rule c_is_rule k_is_rule (fun _ _ _ _ _ _ us hl => match us, hl with | [_], _ => rfl)
  have A_are_rules := def_at X G (x := "are_rules") (st := s_are_rules) (ps := ["thing"]) a_are_rules l_are_rules c_are_rules k_are_rules (fun _ _ _ _ _ _ us hl => match us, hl with | [_], _ => rfl)
  have A_item_text := def_at X G (x := "item_text") (st := s_item_text) (ps := ["item"]) a_item_text l_item_text c_item_text k_item_text (fun _ _ _ _ _ _ us hl => match us, hl with | [_], _ => rfl)
  have A_written := def_at X G (x := "written") (st := s_written) (ps := ["rules"]) a_written l_written c_written k_written (fun _ _ _ _ _ _ us hl => match us, hl with | [_], _ => rfl)
  have A_item_in := def_at X G (x := "item_in") (st := s_item_in) (ps := ["word"]) a_item_in l_item_in c_item_in k_item_in (fun _ _ _ _ _ _ us hl => match us, hl with | [_], _ => rfl)
  have A_rule_in := def_at X G (x := "rule_in") (st := s_rule_in) (ps := ["line"]) a_rule_in l_rule_in c_rule_in k_rule_in (fun _ _ _ _ _ _ us hl => match us, hl with | [_], _ => rfl)
  have A_read := def_at X G (x := "read") (st := s_read) (ps := ["text"]) a_read l_read c_read k_read (fun _ _ _ _ _ _ us hl => match us, hl with | [_], _ => rfl)
  have A_piece_width := def_at X G (x := "piece_width") (st := s_piece_width) (ps := ["widths", "piece"]) a_piece_width l_piece_width c_piece_width k_piece_width (fun _ _ _ _ _ _ us hl => match us, hl with | [_, _], _ => rfl)
  have A_width := def_at X G (x := "width") (st := s_width) (ps := ["kinds", "rules", "widths", "text"]) a_width l_width c_width k_width (fun _ _ _ _ _ _ us hl => match us, hl with | [_, _, _, _], _ => rfl)
  have A_cut_to := def_at X G (x := "cut_to") (st := s_cut_to) (ps := ["kinds", "rules", "widths", "text", "most"]) a_cut_to l_cut_to c_cut_to k_cut_to (fun _ _ _ _ _ _ us hl => match us, hl with | [_, _, _, _, _], _ => rfl)
  have A_shown := def_at X G (x := "shown") (st := s_shown) (ps := ["kinds", "rules", "widths", "text", "most", "end"]) a_shown l_shown c_shown k_shown (fun _ _ _ _ _ _ us hl => match us, hl with | [_, _, _, _, _, _], _ => rfl)
  have A_column_of := def_at X G (x := "column_of") (st := s_column_of) (ps := ["kinds", "rules", "widths", "text", "place"]) a_column_of l_column_of c_column_of k_column_of (fun _ _ _ _ _ _ us hl => match us, hl with | [_, _, _, _, _], _ => rfl)
  have A_law_deed := def_at X G (x := "_law_deed") (st := s_law_deed) (ps := ["_law_k", "_law_text", "_law_place", "_law_cursor"]) a_law_deed l_law_deed c_law_deed k_law_deed (fun _ _ _ _ _ _ us hl => match us, hl with | [_, _, _, _], _ => rfl)
  have A_law_ask := def_at X G (x := "_law_ask") (st := s_law_ask) (ps := ["_law_k", "_law_text", "_law_place", "_law_cursor"]) a_law_ask l_law_ask c_law_ask k_law_ask (fun _ _ _ _ _ _ us hl => match us, hl with | [_, _, _, _], _ => rfl)
  have A_law := def_at X G (x := "law") (st := s_law) (ps := ["_law_script"]) a_law l_law c_law k_law (fun _ _ _ _ _ _ us hl => match us, hl with | [_], _ => rfl)
  exact ⟨PySem.W.fnOf "law" "law" (defArgs s_law) (defBody s_law) (defScope s_law) .none kV_law dc_law pm_law an_law cd_law ct_law, fun s v => .of_eq rfl, fun base _ _ => ok_law (ca := ca) ⟨⟨PySem.W.mg_of X G x_g_NoPlace, x_q_NoPlace, x_k_NoPlace, x_s_NoPlace, x_t_NoPlace⟩, ⟨PySem.W.mg_of X G x_g_NoChain, x_q_NoChain, x_k_NoChain, x_s_NoChain, x_t_NoChain⟩, ⟨PySem.W.mg_of X G x_g_NoStep, x_q_NoStep, x_k_NoStep, x_s_NoStep, x_t_NoStep⟩, ⟨PySem.W.mg_of X G x_g_NoText, x_q_NoText, x_k_NoText, x_s_NoText, x_t_NoText⟩, PySem.W.mg_of X G x_g_CutError, (fun e he => by rcases List.mem_cons.mp he with rfl | he; exact x_m_CutError_NoPlace; rcases List.mem_cons.mp he with rfl | he; exact x_m_CutError_NoChain; rcases List.mem_cons.mp he with rfl | he; exact x_m_CutError_NoStep; rcases List.mem_cons.mp he with rfl | he; exact x_m_CutError_NoText; cases he), (fun e he => by rcases List.mem_cons.mp he with rfl | he; exact ⟨y_ga_NoPlace, y_gb_NoPlace, x_s_NoPlace, y_hd_NoPlace, y_cl_NoPlace, y_sp, y_tk, y_ml_NoPlace⟩; rcases List.mem_cons.mp he with rfl | he; exact ⟨y_ga_NoChain, y_gb_NoChain, x_s_NoChain, y_hd_NoChain, y_cl_NoChain, y_sp, y_tk, y_ml_NoChain⟩; rcases List.mem_cons.mp he with rfl | he; exact ⟨y_ga_NoStep, y_gb_NoStep, x_s_NoStep, y_hd_NoStep, y_cl_NoStep, y_sp, y_tk, y_ml_NoStep⟩; rcases List.mem_cons.mp he with rfl | he; exact ⟨y_ga_NoText, y_gb_NoText, x_s_NoText, y_hd_NoText, y_cl_NoText, y_sp, y_tk, y_ml_NoText⟩; cases he), (fun e he => by rcases List.mem_cons.mp he with rfl | he; exact kit_ve x_m_ve_NoPlace; rcases List.mem_cons.mp he with rfl | he; exact kit_ve x_m_ve_NoChain; rcases List.mem_cons.mp he with rfl | he; exact kit_ve x_m_ve_NoStep; rcases List.mem_cons.mp he with rfl | he; exact kit_ve x_m_ve_NoText; cases he), (fun e he => by rcases List.mem_cons.mp he with rfl | he; exact (by rw [show decide ("NoPlace" = "NoPlace") = true from by decide]; exact kit_self); rcases List.mem_cons.mp he with rfl | he; exact (by rw [show decide ("NoChain" = "NoPlace") = false from by decide]; exact kit_no x_m_ki_NoChain_NoPlace q_ne_NoChain_NoPlace); rcases List.mem_cons.mp he with rfl | he; exact (by rw [show decide ("NoStep" = "NoPlace") = false from by decide]; exact kit_no x_m_ki_NoStep_NoPlace q_ne_NoStep_NoPlace); rcases List.mem_cons.mp he with rfl | he; exact (by rw [show decide ("NoText" = "NoPlace") = false from by decide]; exact kit_no x_m_ki_NoText_NoPlace q_ne_NoText_NoPlace); cases he), (fun e he => by rcases List.mem_cons.mp he with rfl | he; exact (by rw [show decide ("NoPlace" = "NoChain") = false from by decide]; exact kit_no x_m_ki_NoPlace_NoChain q_ne_NoPlace_NoChain); rcases List.mem_cons.mp he with rfl | he; exact (by rw [show decide ("NoChain" = "NoChain") = true from by decide]; exact kit_self); rcases List.mem_cons.mp he with rfl | he; exact (by rw [show decide ("NoStep" = "NoChain") = false from by decide]; exact kit_no x_m_ki_NoStep_NoChain q_ne_NoStep_NoChain); rcases List.mem_cons.mp he with rfl | he; exact (by rw [show decide ("NoText" = "NoChain") = false from by decide]; exact kit_no x_m_ki_NoText_NoChain q_ne_NoText_NoChain); cases he), (fun e he => by rcases List.mem_cons.mp he with rfl | he; exact (by rw [show decide ("NoPlace" = "NoStep") = false from by decide]; exact kit_no x_m_ki_NoPlace_NoStep q_ne_NoPlace_NoStep); rcases List.mem_cons.mp he with rfl | he; exact (by rw [show decide ("NoChain" = "NoStep") = false from by decide]; exact kit_no x_m_ki_NoChain_NoStep q_ne_NoChain_NoStep); rcases List.mem_cons.mp he with rfl | he; exact (by rw [show decide ("NoStep" = "NoStep") = true from by decide]; exact kit_self); rcases List.mem_cons.mp he with rfl | he; exact (by rw [show decide ("NoText" = "NoStep") = false from by decide]; exact kit_no x_m_ki_NoText_NoStep q_ne_NoText_NoStep); cases he), (fun e he => by rcases List.mem_cons.mp he with rfl | he; exact (by rw [show decide ("NoPlace" = "NoText") = false from by decide]; exact kit_no x_m_ki_NoPlace_NoText q_ne_NoPlace_NoText); rcases List.mem_cons.mp he with rfl | he; exact (by rw [show decide ("NoChain" = "NoText") = false from by decide]; exact kit_no x_m_ki_NoChain_NoText q_ne_NoChain_NoText); rcases List.mem_cons.mp he with rfl | he; exact (by rw [show decide ("NoStep" = "NoText") = false from by decide]; exact kit_no x_m_ki_NoStep_NoText q_ne_NoStep_NoText); rcases List.mem_cons.mp he with rfl | he; exact (by rw [show decide ("NoText" = "NoText") = true from by decide]; exact kit_self); cases he), _, _, _, CC, _, _, A_Cursor_text, _, _, A_Cursor_place, _, _, A_Cursor_stretch, _, _, A_kinds_of, _, _, A_is_in, _, _, A_places_on, _, _, A_leads_on, _, _, A_leads_back, _, _, A_rule_at, _, _, A_is_cut_at, _, _, A_need, _, _, A_next_cut, _, _, A_last_cut, _, _, A_Cursor_stand, _, _, A_Cursor_step, _, _, A_is_cut, _, _, A_Cursor_change, _, _, A_Cursor_typed, _, _, A_law_draw, _, _, A_law_pick, _, _, A_law_names, _, _, A_why, _, _, A_piece_at, _, _, A_cuts, _, _, A_pieces, _, _, A_piece_number, _, _, A_nearest, _, _, A_parts_of, _, _, A_class_of, _, _, A_in_order, _, _, A_parted, _, _, A_alike, _, _, A_halves, _, _, A_whole_of, _, _, A_stepped, _, _, A_steps_down, _, _, A_back_step, _, _, A_chain, _, _, A_Cursor_go, _, _, A_Cursor_back, _, _, A_Cursor_forth, _, _, A_is_kind, _, _, A_are_rising, _, _, A_is_item, _, _, A_is_side, _, _, A_is_rule, _, _, A_are_rules, _, _, A_item_text, _, _, A_written, _, _, A_item_in, _, _, A_rule_in, _, _, A_read, _, _, A_piece_width, _, _, A_width, _, _, A_cut_to, _, _, A_shown, _, _, A_column_of, _, _, A_law_deed, _, _, A_law_ask, _, _, A_law, PySem.W.mg_none_of X G z_ValueError, PySem.W.mg_none_of X G z_abs, PySem.W.mg_none_of X G z_all, PySem.W.mg_none_of X G z_bool, PySem.W.mg_none_of X G z_dict, PySem.W.mg_none_of X G z_enumerate, PySem.W.mg_none_of X G z_int, PySem.W.mg_none_of X G z_isinstance, PySem.W.mg_none_of X G z_len, PySem.W.mg_none_of X G z_max, PySem.W.mg_none_of X G z_min, PySem.W.mg_none_of X G z_range, PySem.W.mg_none_of X G z_set, PySem.W.mg_none_of X G z_sorted, PySem.W.mg_none_of X G z_str, PySem.W.mg_none_of X G z_sum, PySem.W.mg_none_of X G z_tuple, PySem.W.mg_none_of X G z_zip, _, PySem.W.mg_of X G y_ITEMS_MOST, _, PySem.W.mg_of X G y_MANY, const_tup (ss := [⟨#[49]⟩, ⟨#[42]⟩]) w_MANY (size_ok (k := 2) (by decide)) (vals_s1 (vals_s1 vals_s0)), _, PySem.W.mg_of X G y_OTHER, _, PySem.W.mg_of X G y_RULES_MOST⟩ law⟩
theorem walk {l : PySem.W.OpenLaw} {q : Program} {loose : List Str} {XP : (Str → Option Value) → Heap → Prop} {YP : World → Heap → Prop} {d : DefRec} {K : Params → PySem.W.Frag} (hn : l.most = some 63) (hdf : d.params.defaults = [])
    (hY : ∀ (w : World) (h : Heap), YP w h → (K w.params).In h)
    (F : ∀ (w : World) (mg : Str → Option Value) (fa : Addr) (h : Heap), (K w.params).In h → h.Ns mainGlobals mg → mg d.name = some (.ref fa) →
      ∃ fd : FuncData, (∀ (s : Shared) (u : Value), BindsTo s fd ⟨[u], []⟩ [("_law_script", u)]) ∧ ∀ base : Heap, (K w.params).In base → base.Ns mainGlobals mg → FnOk l.prog w (K w.params) mg base (L2.CX l.prog w) 18 fa fd ["_law_script"] (spLaw (K w.params))) :
    PySem.W.WalkO q loose XP YP l.row.toRowW d [] (fun f vs => PySem.call f vs) :=
  L2.walk_of (n := 63) (k := 18) (x := "_law_script") (CX := fun w => L2.CX l.prog w) (sp := fun w => spLaw (K w.params)) hn (by decide) hdf ⟨rfl, by decide, by decide⟩ hY F (fun _ _ a ns hl _ hS => ⟨a, ns, rfl, hS, hl, fun _ => rfl⟩) fun _ _ _ _ _ z => no_exc z
end W
open PySem PySem.W PyProof.Rows
set_option maxHeartbeats 0 in
theorem PySem.Challenge.cw_eyecuts_k20_whole_refusals_holds : PySem.Challenge.rw_eyecuts_k20_whole_refusals.Holds := by
  w_on; o_law; k_head; (case hw => w_witness2)
  k_fill
  refine W.walk (l := PySem.Challenge.rw_eyecuts_k20_whole_refusals) rfl rfl (fun w h Y => PySem.W.kIn_of Y) ?F
  case F =>
    intro w mg fa h KX G hmg
    refine' W.all_mk W.law_true KX G hmg ?x_cg ?x_c1 ?x_c2 ?x_c3 ?x_c4 ?x_a0 ?x_a1 ?x_a2 ?x_a3 ?x_a4 ?x_a5 ?x_mk ?x_in ?x_if ?x_kc ?l_init ?c_init ?k_init ?a_Cursor_text ?n_Cursor_text ?l_Cursor_text ?c_Cursor_text ?k_Cursor_text ?a_Cursor_place ?n_Cursor_place ?l_Cursor_place ?c_Cursor_place ?k_Cursor_place ?a_Cursor_stretch ?n_Cursor_stretch ?l_Cursor_stretch ?c_Cursor_stretch ?k_Cursor_stretch ?a_kinds_of ?l_kinds_of ?c_kinds_of ?k_kinds_of ?a_is_in ?l_is_in ?c_is_in ?k_is_in ?a_places_on ?l_places_on ?c_places_on ?k_places_on ?a_leads_on ?l_leads_on ?c_leads_on ?k_leads_on ?a_leads_back ?l_leads_back ?c_leads_back ?k_leads_back ?a_rule_at ?l_rule_at ?c_rule_at ?k_rule_at ?a_is_cut_at ?l_is_cut_at ?c_is_cut_at ?k_is_cut_at ?a_need ?l_need ?c_need ?k_need ?a_next_cut ?l_next_cut ?c_next_cut ?k_next_cut ?a_last_cut ?l_last_cut ?c_last_cut ?k_last_cut ?a_Cursor_stand ?n_Cursor_stand ?l_Cursor_stand ?c_Cursor_stand ?k_Cursor_stand ?a_Cursor_step ?n_Cursor_step ?l_Cursor_step ?c_Cursor_step ?k_Cursor_step ?a_is_cut ?l_is_cut ?c_is_cut ?k_is_cut ?a_Cursor_change ?n_Cursor_change ?l_Cursor_change ?c_Cursor_change ?k_Cursor_change ?a_Cursor_typed ?n_Cursor_typed ?l_Cursor_typed ?c_Cursor_typed ?k_Cursor_typed ?a_law_draw ?l_law_draw ?c_law_draw ?k_law_draw ?a_law_pick ?l_law_pick ?c_law_pick ?k_law_pick ?a_law_names ?l_law_names ?c_law_names ?k_law_names ?a_why ?l_why ?c_why ?k_why ?a_piece_at ?l_piece_at ?c_piece_at ?k_piece_at ?a_cuts ?l_cuts ?c_cuts ?k_cuts ?a_pieces ?l_pieces ?c_pieces ?k_pieces ?a_piece_number ?l_piece_number ?c_piece_number ?k_piece_number ?a_nearest ?l_nearest ?c_nearest ?k_nearest ?a_parts_of ?l_parts_of ?c_parts_of ?k_parts_of ?a_class_of ?l_class_of ?c_class_of ?k_class_of ?a_in_order ?l_in_order ?c_in_order ?k_in_order ?a_parted ?l_parted ?c_parted ?k_parted ?a_alike ?l_alike ?c_alike ?k_alike ?a_halves ?l_halves ?c_halves ?k_halves ?a_whole_of ?l_whole_of ?c_whole_of ?k_whole_of ?a_stepped ?l_stepped ?c_stepped ?k_stepped ?a_steps_down ?l_steps_down ?c_steps_down ?k_steps_down ?a_back_step ?l_back_step ?c_back_step ?k_back_step ?a_chain ?l_chain ?c_chain ?k_chain ?a_Cursor_go ?n_Cursor_go ?l_Cursor_go ?c_Cursor_go ?k_Cursor_go ?a_Cursor_back ?n_Cursor_back ?l_Cursor_back ?c_Cursor_back ?k_Cursor_back ?a_Cursor_forth ?n_Cursor_forth ?l_Cursor_forth ?c_Cursor_forth ?k_Cursor_forth ?a_is_kind ?l_is_kind ?c_is_kind ?k_is_kind ?a_are_rising ?l_are_rising ?c_are_rising ?k_are_rising ?a_is_item ?l_is_item ?c_is_item ?k_is_item ?a_is_side ?l_is_side ?c_is_side ?k_is_side ?a_is_rule ?l_is_rule ?c_is_rule ?k_is_rule ?a_are_rules ?l_are_rules ?c_are_rules ?k_are_rules ?a_item_text ?l_item_text ?c_item_text ?k_item_text ?a_written ?l_written ?c_written ?k_written ?a_item_in ?l_item_in ?c_item_in ?k_item_in ?a_rule_in ?l_rule_in ?c_rule_in ?k_rule_in ?a_read ?l_read ?c_read ?k_read ?a_piece_width ?l_piece_width ?c_piece_width ?k_piece_width ?a_width ?l_width ?c_width ?k_width ?a_cut_to ?l_cut_to ?c_cut_to ?k_cut_to ?a_shown ?l_shown ?c_shown ?k_shown ?a_column_of ?l_column_of ?c_column_of ?k_column_of ?a_law_deed ?l_law_deed ?c_law_deed ?k_law_deed ?a_law_ask ?l_law_ask ?c_law_ask ?k_law_ask ?a_law ?l_law ?c_law ?k_law ?z_ValueError ?z_abs ?z_all ?z_bool ?z_dict ?z_enumerate ?z_int ?z_isinstance ?z_len ?z_max ?z_min ?z_range ?z_set ?z_sorted ?z_str ?z_sum ?z_tuple ?z_zip ?x_g_NoPlace ?x_g_NoChain ?x_g_NoStep ?x_g_NoText ?x_g_CutError ?x_q_NoPlace ?x_k_NoPlace ?x_s_NoPlace ?x_t_NoPlace ?x_q_NoChain ?x_k_NoChain ?x_s_NoChain ?x_t_NoChain ?x_q_NoStep ?x_k_NoStep ?x_s_NoStep ?x_t_NoStep ?x_q_NoText ?x_k_NoText ?x_s_NoText ?x_t_NoText ?x_m_CutError_NoPlace ?x_m_CutError_NoChain ?x_m_CutError_NoStep ?x_m_CutError_NoText ?y_MANY ?w_MANY ?y_ITEMS_MOST ?y_OTHER ?y_RULES_MOST ?y_ga_NoPlace ?y_gb_NoPlace ?y_hd_NoPlace ?y_cl_NoPlace ?y_ml_NoPlace ?x_m_ve_NoPlace ?x_m_ki_NoPlace_NoChain ?q_ne_NoPlace_NoChain ?x_m_ki_NoPlace_NoStep ?q_ne_NoPlace_NoStep ?x_m_ki_NoPlace_NoText ?q_ne_NoPlace_NoText ?y_ga_NoChain ?y_gb_NoChain ?y_hd_NoChain ?y_cl_NoChain ?y_ml_NoChain ?x_m_ve_NoChain ?x_m_ki_NoChain_NoPlace ?q_ne_NoChain_NoPlace ?x_m_ki_NoChain_NoStep ?q_ne_NoChain_NoStep ?x_m_ki_NoChain_NoText ?q_ne_NoChain_NoText ?y_ga_NoStep ?y_gb_NoStep ?y_hd_NoStep ?y_cl_NoStep ?y_ml_NoStep ?x_m_ve_NoStep ?x_m_ki_NoStep_NoPlace ?q_ne_NoStep_NoPlace ?x_m_ki_NoStep_NoChain ?q_ne_NoStep_NoChain ?x_m_ki_NoStep_NoText ?q_ne_NoStep_NoText ?y_ga_NoText ?y_gb_NoText ?y_hd_NoText ?y_cl_NoText ?y_ml_NoText ?x_m_ve_NoText ?x_m_ki_NoText_NoPlace ?q_ne_NoText_NoPlace ?x_m_ki_NoText_NoChain ?q_ne_NoText_NoChain ?x_m_ki_NoText_NoStep ?q_ne_NoText_NoStep ?y_sp ?y_tk
    (case x_cg => k_is); (case x_c1 => k_is); (case x_c2 => k_is); (case x_c3 => k_is); (case x_c4 => k_is); (case x_a0 => k_is); (case x_a1 => k_is); (case x_a2 => k_is); (case x_a3 => k_is); (case x_a4 => k_is); (case x_a5 => k_is); (case x_mk => k_is); (case x_in => k_is); (case x_if => k_is); (case x_kc => k_is); (case l_init => k_is); (case c_init => k_is); (case k_init => k_is); (case a_Cursor_text => k_is); (case n_Cursor_text => k_is); (case l_Cursor_text => k_is); (case c_Cursor_text => k_is); (case k_Cursor_text => k_is); (case a_Cursor_place => k_is); (case n_Cursor_place => k_is); (case l_Cursor_place => k_is); (case c_Cursor_place => k_is); (case k_Cursor_place => k_is); (case a_Cursor_stretch => k_is); (case n_Cursor_stretch => k_is); (case l_Cursor_stretch => k_is); (case c_Cursor_stretch => k_is); (case k_Cursor_stretch => k_is); (case a_kinds_of => k_is); (case l_kinds_of => k_is); (case c_kinds_of => k_is); (case k_kinds_of => k_is); (case a_is_in => k_is); (case l_is_in => k_is); (case c_is_in => k_is); (case k_is_in => k_is); (case a_places_on => k_is); (case l_places_on => k_is); (case c_places_on => k_is); (case k_places_on => k_is); (case a_leads_on => k_is); (case l_leads_on => k_is); (case c_leads_on => k_is); (case k_leads_on => k_is); (case a_leads_back => k_is); (case l_leads_back => k_is); (case c_leads_back => k_is); (case k_leads_back => k_is); (case a_rule_at => k_is); (case l_rule_at => k_is); (case c_rule_at => k_is); (case k_rule_at => k_is); (case a_is_cut_at => k_is); (case l_is_cut_at => k_is); (case c_is_cut_at => k_is); (case k_is_cut_at => k_is); (case a_need => k_is); (case l_need => k_is); (case c_need => k_is); (case k_need => k_is); (case a_next_cut => k_is); (case l_next_cut => k_is); (case c_next_cut => k_is); (case k_next_cut => k_is); (case a_last_cut => k_is); (case l_last_cut => k_is); (case c_last_cut => k_is); (case k_last_cut => k_is); (case a_Cursor_stand => k_is); (case n_Cursor_stand => k_is); (case l_Cursor_stand => k_is); (case c_Cursor_stand => k_is); (case k_Cursor_stand => k_is); (case a_Cursor_step => k_is); (case n_Cursor_step => k_is); (case l_Cursor_step => k_is); (case c_Cursor_step => k_is); (case k_Cursor_step => k_is); (case a_is_cut => k_is); (case l_is_cut => k_is); (case c_is_cut => k_is); (case k_is_cut => k_is); (case a_Cursor_change => k_is); (case n_Cursor_change => k_is); (case l_Cursor_change => k_is); (case c_Cursor_change => k_is); (case k_Cursor_change => k_is); (case a_Cursor_typed => k_is); (case n_Cursor_typed => k_is); (case l_Cursor_typed => k_is); (case c_Cursor_typed => k_is); (case k_Cursor_typed => k_is); (case a_law_draw => k_is); (case l_law_draw => k_is); (case c_law_draw => k_is); (case k_law_draw => k_is); (case a_law_pick => k_is); (case l_law_pick => k_is); (case c_law_pick => k_is); (case k_law_pick => k_is); (case a_law_names => k_is); (case l_law_names => k_is); (case c_law_names => k_is); (case k_law_names => k_is); (case a_why => k_is); (case l_why => k_is); (case c_why => k_is); (case k_why => k_is); (case a_piece_at => k_is); (case l_piece_at => k_is); (case c_piece_at => k_is); (case k_piece_at => k_is); (case a_cuts => k_is); (case l_cuts => k_is); (case c_cuts => k_is); (case k_cuts => k_is); (case a_pieces => k_is); (case l_pieces => k_is); (case c_pieces => k_is); (case k_pieces => k_is); (case a_piece_number => k_is); (case l_piece_number => k_is); (case c_piece_number => k_is); (case k_piece_number => k_is); (case a_nearest => k_is); (case l_nearest => k_is); (case c_nearest => k_is); (case k_nearest => k_is); (case a_parts_of => k_is); (case l_parts_of => k_is); (case c_parts_of => k_is); (case k_parts_of => k_is); (case a_class_of => k_is); (case l_class_of => k_is); (case c_class_of => k_is); (case k_class_of => k_is); (case a_in_order => k_is); (case l_in_order => k_is); (case c_in_order => k_is); (case k_in_order => k_is); (case a_parted => k_is); (case l_parted => k_is); (case c_parted => k_is); (case k_parted => k_is); (case a_alike => k_is); (case l_alike => k_is); (case c_alike => k_is); (case k_alike => k_is); (case a_halves => k_is); (case l_halves => k_is); (case c_halves => k_is); (case k_halves => k_is); (case a_whole_of => k_is); (case l_whole_of => k_is); (case c_whole_of => k_is); (case k_whole_of => k_is); (case a_stepped => k_is); (case l_stepped => k_is); (case c_stepped => k_is); (case k_stepped => k_is); (case a_steps_down => k_is); (case l_steps_down => k_is); (case c_steps_down => k_is); (case k_steps_down => k_is); (case a_back_step => k_is); (case l_back_step => k_is); (case c_back_step => k_is); (case k_back_step => k_is); (case a_chain => k_is); (case l_chain => k_is); (case c_chain => k_is); (case k_chain => k_is); (case a_Cursor_go => k_is); (case n_Cursor_go => k_is); (case l_Cursor_go => k_is); (case c_Cursor_go => k_is); (case k_Cursor_go => k_is); (case a_Cursor_back => k_is); (case n_Cursor_back => k_is); (case l_Cursor_back => k_is); (case c_Cursor_back => k_is); (case k_Cursor_back => k_is); (case a_Cursor_forth => k_is); (case n_Cursor_forth => k_is); (case l_Cursor_forth => k_is); (case c_Cursor_forth => k_is); (case k_Cursor_forth => k_is); (case a_is_kind => k_is); (case l_is_kind => k_is); (case c_is_kind => k_is); (case k_is_kind => k_is); (case a_are_rising => k_is); (case l_are_rising => k_is); (case c_are_rising => k_is); (case k_are_rising => k_is); (case a_is_item => k_is); (case l_is_item => k_is); (case c_is_item => k_is); (case k_is_item => k_is); (case a_is_side => k_is); (case l_is_side => k_is); (case c_is_side => k_is); (case k_is_side => k_is); (case a_is_rule => k_is); (case l_is_rule => k_is); (case c_is_rule => k_is); (case k_is_rule => k_is); (case a_are_rules => k_is); (case l_are_rules => k_is); (case c_are_rules => k_is); (case k_are_rules => k_is); (case a_item_text => k_is); (case l_item_text => k_is); (case c_item_text => k_is); (case k_item_text => k_is); (case a_written => k_is); (case l_written => k_is); (case c_written => k_is); (case k_written => k_is); (case a_item_in => k_is); (case l_item_in => k_is); (case c_item_in => k_is); (case k_item_in => k_is); (case a_rule_in => k_is); (case l_rule_in => k_is); (case c_rule_in => k_is); (case k_rule_in => k_is); (case a_read => k_is); (case l_read => k_is); (case c_read => k_is); (case k_read => k_is); (case a_piece_width => k_is); (case l_piece_width => k_is); (case c_piece_width => k_is); (case k_piece_width => k_is); (case a_width => k_is); (case l_width => k_is); (case c_width => k_is); (case k_width => k_is); (case a_cut_to => k_is); (case l_cut_to => k_is); (case c_cut_to => k_is); (case k_cut_to => k_is); (case a_shown => k_is); (case l_shown => k_is); (case c_shown => k_is); (case k_shown => k_is); (case a_column_of => k_is); (case l_column_of => k_is); (case c_column_of => k_is); (case k_column_of => k_is); (case a_law_deed => k_is); (case l_law_deed => k_is); (case c_law_deed => k_is); (case k_law_deed => k_is); (case a_law_ask => k_is); (case l_law_ask => k_is); (case c_law_ask => k_is); (case k_law_ask => k_is); (case a_law => k_is); (case l_law => k_is); (case c_law => k_is); (case k_law => k_is); (case z_ValueError => k_is); (case z_abs => k_is); (case z_all => k_is); (case z_bool => k_is); (case z_dict => k_is); (case z_enumerate => k_is); (case z_int => k_is); (case z_isinstance => k_is); (case z_len => k_is); (case z_max => k_is); (case z_min => k_is); (case z_range => k_is); (case z_set => k_is); (case z_sorted => k_is); (case z_str => k_is); (case z_sum => k_is); (case z_tuple => k_is); (case z_zip => k_is); (case x_g_NoPlace => k_is); (case x_g_NoChain => k_is); (case x_g_NoStep => k_is); (case x_g_NoText => k_is); (case x_g_CutError => k_is); (case x_q_NoPlace => k_exc); (case x_k_NoPlace => k_is); (case x_s_NoPlace => k_is); (case x_t_NoPlace => k_is); (case x_q_NoChain => k_exc); (case x_k_NoChain => k_is); (case x_s_NoChain => k_is); (case x_t_NoChain => k_is); (case x_q_NoStep => k_exc); (case x_k_NoStep => k_is); (case x_s_NoStep => k_is); (case x_t_NoStep => k_is); (case x_q_NoText => k_exc); (case x_k_NoText => k_is); (case x_s_NoText => k_is); (case x_t_NoText => k_is); (case x_m_CutError_NoPlace => kts_exm); (case x_m_CutError_NoChain => kts_exm); (case x_m_CutError_NoStep => kts_exm); (case x_m_CutError_NoText => kts_exm); (case y_MANY => k_is); (case w_MANY => k_is); (case y_ITEMS_MOST => k_is); (case y_OTHER => k_is); (case y_RULES_MOST => k_is); (case y_ga_NoPlace => k_is); (case y_gb_NoPlace => k_is); (case y_hd_NoPlace => k_is); (case y_cl_NoPlace => k_is); (case y_ml_NoPlace => k_is); (case x_m_ve_NoPlace => kts_exm); (case x_m_ki_NoPlace_NoChain => kts_exm); (case q_ne_NoPlace_NoChain => decide); (case x_m_ki_NoPlace_NoStep => kts_exm); (case q_ne_NoPlace_NoStep => decide); (case x_m_ki_NoPlace_NoText => kts_exm); (case q_ne_NoPlace_NoText => decide); (case y_ga_NoChain => k_is); (case y_gb_NoChain => k_is); (case y_hd_NoChain => k_is); (case y_cl_NoChain => k_is); (case y_ml_NoChain => k_is); (case x_m_ve_NoChain => kts_exm); (case x_m_ki_NoChain_NoPlace => kts_exm); (case q_ne_NoChain_NoPlace => decide); (case x_m_ki_NoChain_NoStep => kts_exm); (case q_ne_NoChain_NoStep => decide); (case x_m_ki_NoChain_NoText => kts_exm); (case q_ne_NoChain_NoText => decide); (case y_ga_NoStep => k_is); (case y_gb_NoStep => k_is); (case y_hd_NoStep => k_is); (case y_cl_NoStep => k_is); (case y_ml_NoStep => k_is); (case x_m_ve_NoStep => kts_exm); (case x_m_ki_NoStep_NoPlace => kts_exm); (case q_ne_NoStep_NoPlace => decide); (case x_m_ki_NoStep_NoChain => kts_exm); (case q_ne_NoStep_NoChain => decide); (case x_m_ki_NoStep_NoText => kts_exm); (case q_ne_NoStep_NoText => decide); (case y_ga_NoText => k_is); (case y_gb_NoText => k_is); (case y_hd_NoText => k_is); (case y_cl_NoText => k_is); (case y_ml_NoText => k_is); (case x_m_ve_NoText => kts_exm); (case x_m_ki_NoText_NoPlace => kts_exm); (case q_ne_NoText_NoPlace => decide); (case x_m_ki_NoText_NoChain => kts_exm); (case q_ne_NoText_NoChain => decide); (case x_m_ki_NoText_NoStep => kts_exm); (case q_ne_NoText_NoStep => decide); (case y_sp => k_is); (case y_tk => k_is)

