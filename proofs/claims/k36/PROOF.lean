import PyProof.Rows.All
import Wide.All
import OpenK.AllK
import Wide.FinOn
import HandS.ForMost
import HandS.ForExc
import HandS.Deep
import HandS.TupAny
import HandS.TupMul
import HandS.Zip
import HandS.Flow
import HandS.Style
import HandS.IsInst
import HandS.NoneIn
import HandS.StrMore
import PyProof.Rows.StrRev
import PyProof.Rows.StrCut
import KE.SortData
import KE.KDictPairs
import HandS.Strs
import HandS.SetFor
import KE.GoesEnum
import KE.GoesMore
import KE.GoesZip
import KE.DataMinMax
import HandS.More
import KE.DataCmp
import HandS.Conv
import PyProof.P3In
import KE.KIndexOf
import HandS.ForDict
import HandS.Codes
import HandS.TryOnly
import HandS.ExcOwn
import KE.GoesRaise
import HandS.ReplaceLit
import HandS.ReplaceList
import PySem.Challenge.RW_eyecuts_k36_whole_columns
set_option Elab.async false
set_option linter.all false
set_option autoImplicit false
set_option maxRecDepth 100000
set_option maxHeartbeats 4000000
namespace G
open PySem PySem.Spec PyProof.Rows L2

abbrev D := PyData
/-! ### results -/
inductive Res (α : Type) where
  | ok (a : α) (n : Nat)
  | ex (c : String) (n : Nat)
  | bad
namespace Res
variable {α β : Type}
def Post (r : Res α) (P : α → Nat → Prop) (E : String → Nat → Prop) : Prop := match r with
  | .ok a n => P a n
  | .ex c n => E c n
  | .bad => False
def bind (r : Res α) (k : α → Nat → Res β) : Res β := match r with
  | .ok a n => k a n
  | .ex c n => .ex c n
  | .bad => .bad
theorem post_bind {r : Res α} {k : α → Nat → Res β} {P : β → Nat → Prop} {E : String → Nat → Prop} (h : (r.bind k).Post P E) : r.Post (fun a n => (k a n).Post P E) E := by
  cases r <;> exact h
theorem Post.mono {r : Res α} {P P' : α → Nat → Prop} {E E' : String → Nat → Prop} (h : r.Post P E) (hp : ∀ a n, P a n → P' a n) (he : ∀ c n, E c n → E' c n) : r.Post P' E' := by
  cases r with
  | ok a n => exact hp _ _ h
  | ex c n => exact he _ _ h
  | bad => exact h
/-- a pure value, or stuck -/
def lift (o : Option α) (n : Nat) : Res α := match o with
  | some a => .ok a n
  | none => .bad
theorem post_lift {o : Option α} {n : Nat} {P : α → Nat → Prop} {E : String → Nat → Prop} (h : (lift o n).Post P E) : ∃ a, o = some a ∧ P a n := by
  cases o with
  | none => exact h.elim
  | some a => exact ⟨a, rfl, h⟩
@[simp] theorem bind_ok (a : α) (n : Nat) (k : α → Nat → Res β) : (Res.ok a n).bind k = k a n := rfl
@[simp] theorem bind_ex (c : String) (n : Nat) (k : α → Nat → Res β) : (Res.ex c n : Res α).bind k = .ex c n := rfl
@[simp] theorem bind_bad (k : α → Nat → Res β) : (Res.bad : Res α).bind k = .bad := rfl
@[simp] theorem lift_some (a : α) (n : Nat) : lift (some a) n = .ok a n := rfl
@[simp] theorem lift_none (n : Nat) : lift (none : Option α) n = .bad := rfl
end Res

/-! ### a dict whose keys are None and ints -/
def inKind (P : Program) (w : World) : PySem.KeyKind P w (Option Int) where
  is := fun k => nkIs (k.map Sum.inl)
  hash := fun k => match k with
    | none => reduceHash 0xFCA86420
    | some i => hashInt i
  inj := fun v a b ha hb => by
    have := (noneKind P w).inj v _ _ ha hb
    cases a <;> cases b <;> simp_all
  byValue := fun k v h => (noneKind P w).byValue _ v h
  pyHash := @fun A E s k v Q hv h => by
    cases k with
    | none => exact (noneKind P w).pyHash (k := none) hv h
    | some i => exact (noneKind P w).pyHash (k := some (.inl i)) hv h
  eqBool := @fun A E s a b u v Q hu hv h => by
    refine (noneKind P w).eqBool (a := a.map Sum.inl) (b := b.map Sum.inl) hu hv ?_
    have e : decide (a.map (Sum.inl (β := Str)) = b.map Sum.inl) = decide (a = b) := by
      cases a <;> cases b <;> simp
    rw [e]
    exact h
  «strs» := fun k x t v h => (noneKind P w).«strs» _ x t v h
def NDict (a : Addr) (ks : List (Option Int)) (h : Heap) : Prop := ks.length ≤ sizeLine ∧ (a == sysModules) = false ∧ ∃ (P : Program) (w : World) (vs : List (Option Int × Value)), h.DictOf (inKind P w) a vs ∧ vs.map (·.1) = ks
theorem NDict.of {a : Addr} {ks : List (Option Int)} {h : Heap} (x : NDict a ks h) (P : Program) (w : World) : ∃ vs, h.DictOf (inKind P w) a vs ∧ vs.map (·.1) = ks := by
  obtain ⟨_, _, P1, w1, vs, ⟨o, es, ep, h1, h2, h3, h4, h5, h6⟩, h7⟩ := x
  refine ⟨vs, ⟨o, es, ep, h1, h2, h3, h4, ?_, h6⟩, h7⟩
  have : ∀ {es : List DictEntry} {kvs : List (Option Int × Value)}, PySem.Pairs (inKind P1 w1) es kvs → PySem.Pairs (inKind P w) es kvs := fun h => by
    induction h with
    | nil => exact .nil
    | cons a b _ ih => exact .cons a b ih
  exact this h5
/-! ### local values -/
/-- other own objects -/
inductive OB where
  | nic (ks : List (Option Int))
inductive L where
  | d (x : D)
  | own (xs : List D)
  | dic (kvs : List (Key × D))
  | dit (kvs : List (List Key × D))
  | frk (kvs : List (Key × D))
  | town
  | scr (ns : List Int)
  | ob (o : OB)
abbrev Env := List (Option L)
abbrev M (α : Type) := Env → Nat → Res α

/-! ### what a value stands for -/
/-- a tuple that bears no dict of its own -/
def PlT (K : PySem.W.Frag) (H : Hp) (a : Addr) (xs : List V) : Prop := (∃ o : Obj, H a = some (.frz o (.tup xs)) ∧ o.dict = none) ∨
  ∃ (o : Obj) (us : Array Value) (n : Nat), K.lookup a = some o ∧ o.cls = .type "tuple" ∧ o.dict = none ∧ o.data = .seq us n ∧ us.size ≤ sizeLine ∧ Vals xs us.toList
theorem PlT.sq {K : PySem.W.Frag} {H : Hp} {a : Addr} {xs : List V} (h : PlT K H a xs) : SqT K H a xs := by
  rcases h with ⟨o, h, _⟩ | ⟨o, us, n, h1, h2, _, h3, h4, h5⟩
  · exact .inl (.inr ⟨o, h⟩)
  · exact .inr ⟨o, us, n, h1, h2, h3, h4, h5⟩
theorem plT_mono {K : PySem.W.Frag} {H H' : Hp} {a : Addr} {xs : List V} (e : ∀ b o, H b = some o → H' b = some o) (h : PlT K H a xs) : PlT K H' a xs := by
  rcases h with ⟨o, h, z⟩ | h
  · exact .inl ⟨o, e _ _ h, z⟩
  · exact .inr h
mutual
inductive Rep (K : PySem.W.Frag) (H : Hp) : V → D → Prop
  | non : Rep K H .non .none
  | bl (b : Bool) : Rep K H (.bl b) (.bool b)
  | int (i : Int) : Rep K H (.int i) (.int i)
  | str (x : Str) : Rep K H (.str x) (.str x)
  | lst {a : Addr} {xs : List V} {ds : List D} : H a = some (.lst xs) → RepAll K H xs ds → Rep K H (.ref a) (.list ds)
  | tup {a : Addr} {xs : List V} {ds : List D} : PlT K H a xs → RepAll K H xs ds → Rep K H (.ref a) (.tuple ds)
inductive RepAll (K : PySem.W.Frag) (H : Hp) : List V → List D → Prop
  | nil : RepAll K H [] []
  | cons {v : V} {vs : List V} {d : D} {ds : List D} : Rep K H v d → RepAll K H vs ds → RepAll K H (v :: vs) (d :: ds)
end

theorem sqT_mono {K : PySem.W.Frag} {H H' : Hp} {a : Addr} {xs : List V} (e : ∀ b o, H b = some o → H' b = some o) (h : SqT K H a xs) : SqT K H' a xs := by
  rcases h with (h | ⟨o, h⟩) | h
  · exact .inl (.inl (e _ _ h))
  · exact .inl (.inr ⟨o, e _ _ h⟩)
  · exact .inr h
theorem sqL_mono {K : PySem.W.Frag} {H H' : Hp} {a : Addr} {xs : List V} (e : ∀ b o, H b = some o → H' b = some o) (h : SqL K H a xs) : SqL K H' a xs := by
  rcases h with (h | ⟨o, h⟩) | h
  · exact .inl (.inl (e _ _ h))
  · exact .inl (.inr ⟨o, e _ _ h⟩)
  · exact .inr h
section
variable {K : PySem.W.Frag} {H H' : Hp}
mutual
theorem Rep.mono (e : ∀ b o, H b = some o → H' b = some o) : ∀ (d : D) (v : V), Rep K H v d → Rep K H' v d
  | .none, _, h => by cases h; exact .non
  | .bool b, _, h => by cases h; exact .bl b
  | .int i, _, h => by cases h; exact .int i
  | .str x, _, h => by cases h; exact .str x
  | .list ds, _, h => by
    cases h with
    | lst h1 h2 => exact .lst (e _ _ h1) (Rep.monoAll e ds _ h2)
  | .tuple ds, _, h => by
    cases h with
    | tup h1 h2 => exact .tup (plT_mono e h1) (Rep.monoAll e ds _ h2)
  | .dict _, _, h => by cases h
theorem Rep.monoAll (e : ∀ b o, H b = some o → H' b = some o) : ∀ (ds : List D) (vs : List V), RepAll K H vs ds → RepAll K H' vs ds
  | [], _, h => by cases h; exact .nil
  | d :: ds, _, h => by
    cases h with
    | cons h1 h2 => exact .cons (Rep.mono e d _ h1) (Rep.monoAll e ds _ h2)
end
mutual
theorem Rep.dp (e : ∀ b o, H b = some o → H' b = some o) : ∀ (d : D) (v : V), Rep K H v d → Dp K H' v d
  | .none, _, h => by cases h; exact .non
  | .bool b, _, h => by cases h; exact .bl b
  | .int i, _, h => by cases h; exact .int i
  | .str x, _, h => by cases h; exact .str x
  | .list ds, _, h => by
    cases h with
    | lst h1 h2 => exact .lst (.inl (.inl (e _ _ h1))) (Rep.dpAll e ds _ h2)
  | .tuple ds, _, h => by
    cases h with
    | tup h1 h2 => exact .tup (sqT_mono e h1.sq) (Rep.dpAll e ds _ h2)
  | .dict _, _, h => by cases h
theorem Rep.dpAll (e : ∀ b o, H b = some o → H' b = some o) : ∀ (ds : List D) (vs : List V), RepAll K H vs ds → DpAll K H' vs ds
  | [], _, h => by cases h; exact .nil
  | d :: ds, _, h => by
    cases h with
    | cons h1 h2 => exact .cons (Rep.dp e d _ h1) (Rep.dpAll e ds _ h2)
end
theorem RepAll.length : ∀ {ds : List D} {vs : List V}, RepAll K H vs ds → vs.length = ds.length
  | [], _, h => by cases h; rfl
  | d :: ds, _, h => by
    cases h with
    | cons h1 h2 => simp [RepAll.length h2]
theorem RepAll.get : ∀ {ds : List D} {vs : List V} {i : Nat} {d : D}, RepAll K H vs ds → ds[i]? = some d → ∃ v, vs[i]? = some v ∧ Rep K H v d
  | [], _, _, _, _, e => by simp at e
  | d :: ds, _, 0, _, h, e => by
    cases h with
    | cons h1 h2 => simp at e; subst e; exact ⟨_, rfl, h1⟩
  | d :: ds, _, i + 1, x, h, e => by
    cases h with
    | cons h1 h2 =>
      obtain ⟨v, q1, q2⟩ := RepAll.get (i := i) (d := x) h2 (by simpa using e)
      exact ⟨v, by simpa using q1, q2⟩
theorem RepAll.append : ∀ {ds es : List D} {vs ws : List V}, RepAll K H vs ds → RepAll K H ws es → RepAll K H (vs ++ ws) (ds ++ es)
  | [], _, _, _, h, h' => by cases h; exact h'
  | d :: ds, _, _, _, h, h' => by
    cases h with
    | cons h1 h2 => exact .cons h1 (RepAll.append h2 h')
theorem RepAll.take : ∀ {ds : List D} {vs : List V} (n : Nat), RepAll K H vs ds → RepAll K H (vs.take n) (ds.take n)
  | _, _, 0, _ => by simpa using RepAll.nil
  | [], _, _ + 1, h => by cases h; exact .nil
  | d :: ds, _, n + 1, h => by
    cases h with
    | cons h1 h2 => exact .cons h1 (RepAll.take n h2)
theorem RepAll.drop : ∀ {ds : List D} {vs : List V} (n : Nat), RepAll K H vs ds → RepAll K H (vs.drop n) (ds.drop n)
  | _, _, 0, h => h
  | [], _, _ + 1, h => by cases h; exact .nil
  | d :: ds, _, n + 1, h => by
    cases h with
    | cons h1 h2 => exact RepAll.drop n h2
theorem RepAll.set {v : V} {d : D} (r : Rep K H v d) : ∀ {ds : List D} {vs : List V} (i : Nat), RepAll K H vs ds → RepAll K H (vs.set i v) (ds.set i d)
  | [], _, _, h => by cases h; exact .nil
  | _ :: _, _, 0, h => by
    cases h with
    | cons h1 h2 => exact .cons r h2
  | _ :: _, _, i + 1, h => by
    cases h with
    | cons h1 h2 => exact .cons h1 (RepAll.set r i h2)
theorem RepAll.reverse : ∀ {ds : List D} {vs : List V}, RepAll K H vs ds → RepAll K H vs.reverse ds.reverse
  | [], _, h => by cases h; exact .nil
  | d :: ds, _, h => by
    cases h with
    | cons h1 h2 =>
      rw [List.reverse_cons, List.reverse_cons]
      exact (RepAll.reverse h2).append (.cons h1 .nil)
end

/-! ### the heap without what is banned -/
def hid (B : List Addr) (H : Hp) : Hp := fun a => if a ∈ B then none else H a
theorem hid_some {B : List Addr} {H : Hp} {a : Addr} {o : HO} (h : hid B H a = some o) : a ∉ B ∧ H a = some o := by
  unfold hid at h
  split at h
  · cases h
  · exact ⟨by assumption, h⟩
theorem hid_of {B : List Addr} {H : Hp} {a : Addr} {o : HO} (hb : a ∉ B) (h : H a = some o) : hid B H a = some o := by
  unfold hid
  rw [if_neg hb]
  exact h
/-- what is seen stays -/
def Sees (B : List Addr) (H : Hp) (B' : List Addr) (H' : Hp) : Prop := ∀ a o, hid B H a = some o → hid B' H' a = some o
theorem Sees.refl {B : List Addr} {H : Hp} : Sees B H B H := fun _ _ h => h
theorem Sees.trans {B1 B2 B3 : List Addr} {H1 H2 H3 : Hp} (a : Sees B1 H1 B2 H2) (b : Sees B2 H2 B3 H3) : Sees B1 H1 B3 H3 := fun x o h => b x o (a x o h)

def zer (n : Nat) : HO := .lst (List.replicate n (.int 0))
/-- all that was tracked stands, but at t -/
def Ext (t : Addr) (H H' : Hp) : Prop := ∀ a o, H a = some o → a ≠ t → H' a = some o
theorem Ext.refl {t : Addr} {H : Hp} : Ext t H H := fun _ _ h _ => h
theorem Ext.trans {t : Addr} {H H1 H2 : Hp} (a : Ext t H H1) (b : Ext t H1 H2) : Ext t H H2 := fun x o h n => b x o (a x o h n) n
theorem Ext.of_same {t : Addr} {H H' : Hp} (h : Same H H') : Ext t H H' := fun a o e _ => h a o e

structure Fm where
  Bo : List Addr
  t : Addr
  H0 : Hp
  B : List Addr

def RO (K : PySem.W.Frag) (c : Fm) (H : Hp) (v : V) : OB → Prop
  | .nic ks => ∃ a, v = .ref a ∧ a ∈ c.B ∧ c.H0 a = none ∧ H a = some (.ext (NDict a ks))
theorem RO.nn {K : PySem.W.Frag} {c : Fm} {H : Hp} {a : Addr} : ∀ {o : OB}, RO K c H (.ref a) o → H a = none → False
  | .nic ks, ⟨_, e, _, _, h⟩, q => by cases e; rw [h] at q; cases q
theorem RO.go {K : PySem.W.Frag} {c : Fm} {H H' : Hp} {B' : List Addr} {v : V} (bad : Addr → Prop) (hb : ∀ b, b ∈ c.B → c.H0 b = none → ¬ bad b → b ∈ B' ∧ ∀ o, H b = some o → H' b = some o)
    (hv : ∀ b, v = .ref b → ¬ bad b) (se : Sees c.B H B' H') : ∀ {o : OB}, RO K c H v o → RO K { c with B := B' } H' v o
  | .nic ks, ⟨a, e, h1, h2, h⟩ => ⟨a, e, (hb a h1 h2 (hv a e)).1, h2, (hb a h1 h2 (hv a e)).2 _ h⟩
def RL (K : PySem.W.Frag) (c : Fm) (H : Hp) (v : V) : L → Prop
  | .ob o => RO K c H v o
  | .d x => Rep K (hid c.B H) v x
  | .own xs => ∃ a vs, v = .ref a ∧ a ∈ c.B ∧ c.H0 a = none ∧ H a = some (.lst vs) ∧ RepAll K (hid c.B H) vs xs
  | .dic kvs => ∃ a ws, v = .ref a ∧ a ∈ c.B ∧ c.H0 a = none ∧ H a = some (.dK ws) ∧ ws.map (·.1) = kvs.map (·.1) ∧ RepAll K (hid c.B H) (ws.map (·.2)) (kvs.map (·.2))
  | .dit kvs => ∃ a ws, v = .ref a ∧ a ∈ c.B ∧ c.H0 a = none ∧ H a = some (.dT ws) ∧ ws.map (·.1) = kvs.map (·.1) ∧ RepAll K (hid c.B H) (ws.map (·.2)) (kvs.map (·.2))
  | .frk kvs => ∃ a o ws, v = .ref a ∧ hid c.B H a = some (.frz o (.dK ws)) ∧ ws.map (·.1) = kvs.map (·.1) ∧ RepAll K (hid c.B H) (ws.map (·.2)) (kvs.map (·.2))
  | .town => v = .ref c.t
  | .scr ns => ∃ a, v = .ref a ∧ SqL K (hid c.B H) a (ns.map V.int)
def isOwn : L → Bool
  | .own _ => true
  | .dic _ => true
  | .dit _ => true
  | .ob _ => true
  | _ => false

structure SR (K : PySem.W.Frag) (c : Fm) (σ : L2.St) (H : Hp) (ρ : Env) (n : Nat) : Prop where
  len : σ.length = ρ.length
  sub : ∀ b ∈ c.Bo, b ∈ c.B
  tB : c.t ∈ c.Bo
  old : ∀ b ∈ c.Bo, c.H0 b ≠ none
  all : ∀ b ∈ c.B, H b ≠ none
  keep : Ext c.t c.H0 H
  town : H c.t = some (zer n)
  slot : ∀ (i : Nat) (l : L), ρ[i]? = some (some l) → ∃ v, σ[i]? = some (some v) ∧ RL K c H v l
  dist : ∀ (i j : Nat) (l l' : L) (a : Addr), i ≠ j → ρ[i]? = some (some l) → ρ[j]? = some (some l') → isOwn l = true → isOwn l' = true → σ[i]? = some (some (.ref a)) → σ[j]? ≠ some (some (.ref a))

/-- an expression's step: the heap grows, the town may grow -/
structure Gx (t : Addr) (H : Hp) (n' : Nat) (H' : Hp) : Prop where
  ext : Ext t H H'
  town : H' t = some (zer n')
theorem Gx.trans {t : Addr} {H H1 H2 : Hp} {n1 n2 : Nat} (a : Gx t H n1 H1) (b : Gx t H1 n2 H2) : Gx t H n2 H2 := ⟨a.ext.trans b.ext, b.town⟩
theorem Gx.sees {t : Addr} {B : List Addr} {H H' : Hp} {n' : Nat} (g : Gx t H n' H') (ht : t ∈ B) : Sees B H B H' := fun a o h => by
  obtain ⟨h1, h2⟩ := hid_some h
  exact hid_of h1 (g.ext a o h2 fun e => h1 (e ▸ ht))

section
variable {K : PySem.W.Frag} {c : Fm} {σ : L2.St} {H H' : Hp} {ρ : Env} {n n' : Nat}
theorem SR.tB' (S : SR K c σ H ρ n) : c.t ∈ c.B := S.sub _ S.tB
theorem RL.sees {v : V} : ∀ {l : L}, isOwn l = false → Sees c.B H c.B H' → RL K c H v l → RL K c H' v l
  | .d x, _, e, h => Rep.mono e x v h
  | .own _, z, _, _ => by cases z
  | .dic _, z, _, _ => by cases z
  | .dit _, z, _, _ => by cases z
  | .ob _, z, _, _ => by cases z
  | .frk _, _, e, ⟨a, o, ws, h1, h2, h3, h4⟩ => ⟨a, o, ws, h1, e _ _ h2, h3, Rep.monoAll e _ _ h4⟩
  | .town, _, _, h => h
  | .scr ns, _, e, ⟨a, h1, h2⟩ => ⟨a, h1, sqL_mono e h2⟩
theorem RL.ext {v : V} (S : SR K c σ H ρ n) (g : Gx c.t H n' H') : ∀ {l : L}, RL K c H v l → RL K c H' v l
  | .ob o, h => RO.go (B' := c.B) (fun _ => False) (fun b hb h0 _ => ⟨hb, fun o q => g.ext _ _ q (fun e => S.old _ S.tB (e ▸ h0))⟩) (fun _ _ => id) (g.sees S.tB') (show RO K c H v o from h)
  | .d x, h => Rep.mono (g.sees S.tB') x v h
  | .own xs, ⟨a, vs, h1, h2, h3, h4, h5⟩ => ⟨a, vs, h1, h2, h3, g.ext _ _ h4 (fun e => S.old _ S.tB (e ▸ h3)), Rep.monoAll (g.sees S.tB') xs vs h5⟩
  | .dic kvs, ⟨a, vs, h1, h2, h3, h4, h6, h5⟩ => ⟨a, vs, h1, h2, h3, g.ext _ _ h4 (fun e => S.old _ S.tB (e ▸ h3)), h6, Rep.monoAll (g.sees S.tB') _ _ h5⟩
  | .dit kvs, ⟨a, vs, h1, h2, h3, h4, h6, h5⟩ => ⟨a, vs, h1, h2, h3, g.ext _ _ h4 (fun e => S.old _ S.tB (e ▸ h3)), h6, Rep.monoAll (g.sees S.tB') _ _ h5⟩
  | .frk _, ⟨a, o, ws, h1, h2, h3, h4⟩ => ⟨a, o, ws, h1, g.sees S.tB' _ _ h2, h3, Rep.monoAll (g.sees S.tB') _ _ h4⟩
  | .town, h => h
  | .scr ns, ⟨a, h1, h2⟩ => ⟨a, h1, sqL_mono (g.sees S.tB') h2⟩
theorem SR.ext (S : SR K c σ H ρ n) (g : Gx c.t H n' H') : SR K c σ H' ρ n' := by
  refine ⟨S.len, S.sub, S.tB, S.old, fun b hb => ?_, S.keep.trans g.ext, g.town, fun i l e => ?_, S.dist⟩
  · cases h : H b with
    | none => exact absurd h (S.all b hb)
    | some o =>
      by_cases e : b = c.t
      · rw [e, g.town]; simp
      · rw [g.ext b o h e]; simp
  · obtain ⟨v, h1, h2⟩ := S.slot i l e
    exact ⟨v, h1, RL.ext S g h2⟩
theorem SR.gx (S : SR K c σ H ρ n) : Gx c.t H n H := ⟨Ext.refl, S.town⟩
/-- a pure step -/
theorem SR.pure (S : SR K c σ H ρ n) (h : Same H H') : Gx c.t H n H' := ⟨Ext.of_same h, h _ _ S.town⟩
theorem SR.set_ix (S : SR K c σ H ρ n) {i : Nat} (hi : i < ρ.length) {v : V} {l : L} (r : RL K c H v l)
    (hd : isOwn l = true → ∀ (j : Nat) (l' : L) (a : Addr), i ≠ j → ρ[j]? = some (some l') → isOwn l' = true → σ[j]? = some (some (.ref a)) → v ≠ .ref a) : SR K c (σ.set i (some v)) H (ρ.set i (some l)) n := by
  refine ⟨by simp [S.len], S.sub, S.tB, S.old, S.all, S.keep, S.town, fun j l' e => ?_, fun j k l1 l2 a hjk e1 e2 o1 o2 s1 s2 => ?_⟩
  · by_cases hj : i = j
    · subst hj
      rw [List.getElem?_set_self hi] at e
      cases e
      exact ⟨v, by rw [List.getElem?_set_self (by rw [S.len]; exact hi)], r⟩
    · rw [List.getElem?_set_ne hj] at e
      obtain ⟨w, h1, h2⟩ := S.slot j l' e
      exact ⟨w, by rw [List.getElem?_set_ne hj]; exact h1, h2⟩
  · by_cases hj : i = j
    · subst hj
      rw [List.getElem?_set_self hi] at e1
      rw [List.getElem?_set_self (by rw [S.len]; exact hi)] at s1
      rw [List.getElem?_set_ne hjk] at e2 s2
      cases e1
      exact hd o1 k l2 a hjk e2 o2 s2 (Option.some.inj (Option.some.inj s1))
    · by_cases hk : i = k
      · subst hk
        rw [List.getElem?_set_self hi] at e2
        rw [List.getElem?_set_self (by rw [S.len]; exact hi)] at s2
        rw [List.getElem?_set_ne hj] at e1 s1
        cases e2
        exact hd o2 j l1 a hj e1 o1 s1 (Option.some.inj (Option.some.inj s2))
      · rw [List.getElem?_set_ne hj] at e1 s1
        rw [List.getElem?_set_ne hk] at e2 s2
        exact S.dist j k l1 l2 a hjk e1 e2 o1 o2 s1 s2
theorem SR.set_d (S : SR K c σ H ρ n) {i : Nat} (hi : i < ρ.length) {v : V} {x : D} (r : Rep K (hid c.B H) v x) : SR K c (σ.set i (some v)) H (ρ.set i (some (.d x))) n :=
  S.set_ix hi r fun z => by cases z
/-- a slot forgotten -/
theorem SR.drop (S : SR K c σ H ρ n) (i : Nat) : SR K c σ H (ρ.set i none) n := by
  refine ⟨by simp [S.len], S.sub, S.tB, S.old, S.all, S.keep, S.town, fun j l' e => ?_, fun j k l1 l2 a hjk e1 e2 o1 o2 s1 s2 => ?_⟩
  · by_cases hj : i = j
    · subst hj
      by_cases hi : i < ρ.length
      · rw [List.getElem?_set_self hi] at e; cases e
      · rw [List.getElem?_eq_none (by simpa using hi)] at e; cases e
    · rw [List.getElem?_set_ne hj] at e
      exact S.slot j l' e
  · have aux : ∀ (j : Nat) (l : L), (ρ.set i none)[j]? = some (some l) → ρ[j]? = some (some l) := fun j l e => by
      by_cases hj : i = j
      · subst hj
        by_cases hi : i < ρ.length
        · rw [List.getElem?_set_self hi] at e; cases e
        · rw [List.getElem?_eq_none (by simpa using hi)] at e; cases e
      · rw [List.getElem?_set_ne hj] at e; exact e
    exact S.dist j k l1 l2 a hjk (aux _ _ e1) (aux _ _ e2) o1 o2 s1 s2
/-- the state's slots forgotten, too -/
theorem SR.drop2 (S : SR K c σ H ρ n) (i : Nat) : SR K c (σ.set i none) H (ρ.set i none) n := by
  have T := S.drop i
  have aux : ∀ (j : Nat) (l : L), (ρ.set i none)[j]? = some (some l) → j ≠ i := fun j l e z => by
    subst z
    by_cases hi : j < ρ.length
    · rw [List.getElem?_set_self hi] at e; cases e
    · rw [List.getElem?_eq_none (by simpa using hi)] at e; cases e
  refine ⟨by simp [S.len], S.sub, S.tB, S.old, S.all, S.keep, S.town, fun j l' e => ?_, fun j k l1 l2 a hjk e1 e2 o1 o2 s1 s2 => ?_⟩
  · have hj := aux j l' e
    obtain ⟨v, h1, h2⟩ := T.slot j l' e
    exact ⟨v, by rw [List.getElem?_set_ne (Ne.symm hj)]; exact h1, h2⟩
  · have hj := aux j l1 e1
    have hk := aux k l2 e2
    rw [List.getElem?_set_ne (Ne.symm hj)] at s1
    rw [List.getElem?_set_ne (Ne.symm hk)] at s2
    exact T.dist j k l1 l2 a hjk e1 e2 o1 o2 s1 s2
def wipeE (ρ : Env) : List Nat → Env
  | [] => ρ
  | v :: vs => (wipeE ρ vs).set v none
theorem SR.wipe (S : SR K c σ H ρ n) : ∀ vs : List Nat, SR K c (L2.wipe σ vs) H (wipeE ρ vs) n
  | [] => S
  | v :: vs => (SR.wipe S vs).drop2 v
theorem wipeE_length (ρ : Env) : ∀ vs : List Nat, (wipeE ρ vs).length = ρ.length
  | [] => rfl
  | v :: vs => by unfold wipeE; rw [List.length_set, wipeE_length ρ vs]
end

/-! ### readings by pure functions -/
section
variable (K : PySem.W.Frag) (ca : String → Addr) (W : WX)
def exK (c : Fm) (σ : L2.St) (H : Hp) : String → Nat → Prop := fun e n' => ∀ H', Gx c.t H n' H' → W (.ref (ca e)) none σ H'
def tG (g : M D) : TE := fun σ H Q => ∃ c ρ n, SR K c σ H ρ n ∧
  (g ρ n).Post (fun d n' => ∀ v H', Gx c.t H n' H' → Rep K (hid c.B H') v d → Q v H') (exK ca W c σ H)
/-- a new list -/
def tGF (g : M (List D)) : TE := fun σ H Q => ∃ c ρ n, SR K c σ H ρ n ∧
  (g ρ n).Post (fun ds n' => ∀ a vs H', Gx c.t H n' H' → H a = none → H' a = some (.lst vs) → RepAll K (hid (a :: c.B) H') vs ds → Q (.ref a) H') (exK ca W c σ H)
def tGT (g : M Bool) : TT := fun σ H Q => ∃ c ρ n, SR K c σ H ρ n ∧
  (g ρ n).Post (fun b n' => ∀ H', Gx c.t H n' H' → Q b H') (exK ca W c σ H)
/-- what may be handed to a def -/
def RA (c : Fm) (H : Hp) (v : V) (l : L) : Prop := isOwn l = false ∧ RL K c H v l
inductive RAs (c : Fm) (H : Hp) : List V → List L → Prop
  | nil : RAs c H [] []
  | cons {v : V} {vs : List V} {l : L} {ls : List L} : RA K c H v l → RAs c H vs ls → RAs c H (v :: vs) (l :: ls)
def tGA (g : M (List L)) : TA := fun σ H Q => ∃ c ρ n, SR K c σ H ρ n ∧
  (g ρ n).Post (fun ls n' => ∀ vs H', Gx c.t H n' H' → RAs K c H' vs ls → Q vs H') (exK ca W c σ H)
end

section
variable {K : PySem.W.Frag} {ca : String → Addr} {W : WX} {c : Fm} {σ : L2.St} {H H' : Hp} {ρ : Env} {n n' : Nat}
theorem exK.at {e : String} {m : Nat} (h : exK ca W c σ H e m) (g : Gx c.t H n' H') : exK ca W c σ H' e m := fun H2 g2 => h H2 (g.trans g2)
theorem PE.weak {X : Cx} {e : Expr} {t t' : TE} (h : PE X e t) (w : ∀ σ H Q, t' σ H Q → t σ H Q) : PE X e t' := ⟨fun pins s σ H Q I q => h.run pins s σ H Q I (w σ H Q q)⟩
theorem PT.weak {X : Cx} {e : Expr} {t t' : TT} (h : PT X e t) (w : ∀ σ H Q, t' σ H Q → t σ H Q) : PT X e t' := ⟨fun pins s σ H Q I q => h.run pins s σ H Q I (w σ H Q q)⟩
theorem PW.weak {X : Cx} {e : Expr} {t t' : TT} (h : PW X e t) (w : ∀ σ H Q, t' σ H Q → t σ H Q) : PW X e t' := ⟨fun wh pins s σ H Q I q => h.run wh pins s σ H Q I (w σ H Q q)⟩
theorem PA.weak {X : Cx} {e : List Expr} {t t' : TA} (h : PA X e t) (w : ∀ σ H Q, t' σ H Q → t σ H Q) : PA X e t' := ⟨fun pos pins s σ H Q I q => h.run pos pins s σ H Q I (w σ H Q q)⟩
theorem PS.weak {X : Cx} {e : Stmt} {t t' : TS} (h : PS X e t) (w : ∀ D σ H, t' D σ H → t D σ H) : PS X e t' := ⟨fun pins s σ H D I q => h.run pins s σ H D I (w D σ H q)⟩
theorem PSs.weak {X : Cx} {e : List Stmt} {t t' : TS} (h : PSs X e t) (w : ∀ D σ H, t' D σ H → t D σ H) : PSs X e t' := ⟨fun pins s σ H D I q => h.run pins s σ H D I (w D σ H q)⟩

/-! ### the pure combinators -/
def cVar (i : Nat) : M D := fun ρ n => match ρ[i]? with
  | some (some (.d x)) => .ok x n
  | _ => .bad
def cC (x : D) : M D := fun _ n => .ok x n
def c1 (f : D → Option D) (g : M D) : M D := fun ρ n => (g ρ n).bind fun a n1 => Res.lift (f a) n1
def c2 (f : D → D → Option D) (g h : M D) : M D := fun ρ n => (g ρ n).bind fun a n1 => (h ρ n1).bind fun b n2 => Res.lift (f a b) n2
def c3 (f : D → D → D → Option D) (g h k : M D) : M D := fun ρ n => (g ρ n).bind fun a n1 => (h ρ n1).bind fun b n2 => (k ρ n2).bind fun e n3 => Res.lift (f a b e) n3
def aNil : M (List L) := fun _ n => .ok [] n
def aCons (g : M D) (h : M (List L)) : M (List L) := fun ρ n => (g ρ n).bind fun a n1 => (h ρ n1).bind fun b n2 => .ok (.d a :: b) n2
/-- the town, the script -/
def aVar (i : Nat) (h : M (List L)) : M (List L) := fun ρ n => match ρ[i]? with
  | some (some .town) => (h ρ n).bind fun b n2 => .ok (.town :: b) n2
  | some (some (.scr ns)) => (h ρ n).bind fun b n2 => .ok (.scr ns :: b) n2
  | some (some (.d x)) => (h ρ n).bind fun b n2 => .ok (.d x :: b) n2
  | _ => .bad
def dsOf : List L → Option (List D)
  | [] => some []
  | .d x :: r => (dsOf r).map (x :: ·)
  | _ :: _ => none
theorem RAs.length {vs : List V} : ∀ {ls : List L}, RAs K c H vs ls → vs.length = ls.length := fun {ls} h => by
  induction h with
  | nil => rfl
  | cons _ _ ih => simp [ih]
theorem RAs.ds {vs : List V} {ls : List L} (h : RAs K c H vs ls) : ∀ {ds : List D}, dsOf ls = some ds → RepAll K (hid c.B H) vs ds := by
  induction h with
  | nil => intro ds e; cases e; exact .nil
  | @cons v vs l ls h1 h2 ih =>
    intro ds e
    cases l with
    | d x =>
      cases q : dsOf ls with
      | none => simp [dsOf, q] at e
      | some es =>
        simp [dsOf, q] at e
        subst e
        exact .cons h1.2 (ih q)
    | _ => cases e
theorem RAs.ext {vs : List V} {ls : List L} (S : SR K c σ H ρ n) (g : Gx c.t H n' H') (h : RAs K c H vs ls) : RAs K c H' vs ls := by
  induction h with
  | nil => exact .nil
  | cons h1 _ ih => exact .cons ⟨h1.1, RL.ext S g h1.2⟩ ih
end
end G

namespace G
open PySem PySem.Spec PyProof.Rows L2

def T (l : List Nat) : D := .str ⟨l.toArray⟩

/-! ### new objects -/
section
variable {K : PySem.W.Frag} {H : Hp} {B : List Addr} {p : Addr}
theorem same_upd {o : HO} (h : H p = none) : Same H (upd H p o) := fun b x e => by
  rw [upd_ne (ne_of_none e h)]
  exact e
theorem hid_sub {a : Addr} {o : HO} (h : hid B H a = some o) : H a = some o := (hid_some h).2
theorem hid_same {H' : Hp} (s : Same H H') : ∀ a o, hid B H a = some o → hid B H' a = some o := fun a o h => by
  obtain ⟨h1, h2⟩ := hid_some h
  exact hid_of h1 (s a o h2)
theorem hid_cons {a : Addr} : ∀ b o, hid (a :: B) H b = some o → hid B H b = some o := fun b o h => by
  obtain ⟨h1, h2⟩ := hid_some h
  exact hid_of (fun z => h1 (List.mem_cons_of_mem _ z)) h2
theorem hid_fresh {o' : HO} (h : H p = none) : ∀ b o, hid B H b = some o → hid (p :: B) (upd H p o') b = some o := fun b o q => by
  obtain ⟨h1, h2⟩ := hid_some q
  have ne : b ≠ p := ne_of_none h2 h
  refine hid_of (fun z => ?_) (by rw [upd_ne ne]; exact h2)
  rcases List.mem_cons.mp z with z | z
  · exact ne z
  · exact h1 z
theorem hid_new {o : HO} (all : ∀ b ∈ B, H b ≠ none) (h : H p = none) : hid B (upd H p o) p = some o :=
  hid_of (fun z => all p z h) upd_same
theorem new_tup {vs : List V} {ds : List D} {o : Obj} (ho : o.dict = none) (all : ∀ b ∈ B, H b ≠ none) (h : H p = none) (r : RepAll K (hid B H) vs ds) : Rep K (hid B (upd H p (.frz o (.tup vs)))) (.ref p) (.tuple ds) :=
  .tup (.inl ⟨o, hid_new all h, ho⟩) (Rep.monoAll (hid_same (same_upd h)) _ _ r)
theorem new_lst {vs : List V} {ds : List D} (all : ∀ b ∈ B, H b ≠ none) (h : H p = none) (r : RepAll K (hid B H) vs ds) : Rep K (hid B (upd H p (.lst vs))) (.ref p) (.list ds) :=
  .lst (hid_new all h) (Rep.monoAll (hid_same (same_upd h)) _ _ r)
theorem RepAll.strs : ∀ {ys : List Str} {vs : List V}, RepAll K H vs (ys.map PyData.str) → vs = ys.map V.str
  | [], _, h => by cases h; rfl
  | y :: ys, _, h => by
    cases h with
    | cons h1 h2 => cases h1; rw [RepAll.strs h2]; rfl
theorem RepAll.of_strs : ∀ {ys : List Str}, RepAll K H (ys.map V.str) (ys.map PyData.str)
  | [] => .nil
  | y :: ys => .cons (.str y) RepAll.of_strs
theorem RepAll.ints : ∀ {ys : List Int} {vs : List V}, RepAll K H vs (ys.map PyData.int) → vs = ys.map V.int
  | [], _, h => by cases h; rfl
  | y :: ys, _, h => by
    cases h with
    | cons h1 h2 => cases h1; rw [RepAll.ints h2]; rfl
theorem RepAll.bools : ∀ {ys : List Bool} {vs : List V}, RepAll K H vs (ys.map PyData.bool) → vs = ys.map V.bl
  | [], _, h => by cases h; rfl
  | y :: ys, _, h => by
    cases h with
    | cons h1 h2 => cases h1; rw [RepAll.bools h2]; rfl
end

def strsOf : List D → Option (List Str)
  | [] => some []
  | .str x :: r => (strsOf r).map (x :: ·)
  | _ :: _ => none
theorem strsOf_eq : ∀ {ds : List D} {ys : List Str}, strsOf ds = some ys → ds = ys.map PyData.str
  | [], _, h => by cases h; rfl
  | d :: ds, ys, h => by
    cases d with
    | str x =>
      cases q : strsOf ds with
      | none => simp [strsOf, q] at h
      | some zs =>
        simp [strsOf, q] at h
        subst h
        rw [strsOf_eq q]; rfl
    | _ => cases h
def intsOf : List D → Option (List Int)
  | [] => some []
  | .int x :: r => (intsOf r).map (x :: ·)
  | _ :: _ => none
theorem intsOf_eq : ∀ {ds : List D} {ys : List Int}, intsOf ds = some ys → ds = ys.map PyData.int
  | [], _, h => by cases h; rfl
  | d :: ds, ys, h => by
    cases d with
    | int x =>
      cases q : intsOf ds with
      | none => simp [intsOf, q] at h
      | some zs =>
        simp [intsOf, q] at h
        subst h
        rw [intsOf_eq q]; rfl
    | _ => cases h
def boolsOf : List D → Option (List Bool)
  | [] => some []
  | .bool x :: r => (boolsOf r).map (x :: ·)
  | _ :: _ => none
theorem boolsOf_eq : ∀ {ds : List D} {ys : List Bool}, boolsOf ds = some ys → ds = ys.map PyData.bool
  | [], _, h => by cases h; rfl
  | d :: ds, ys, h => by
    cases d with
    | bool x =>
      cases q : boolsOf ds with
      | none => simp [boolsOf, q] at h
      | some zs =>
        simp [boolsOf, q] at h
        subst h
        rw [boolsOf_eq q]; rfl
    | _ => cases h

/-! ### operations by values -/
def Op1 (K : PySem.W.Frag) (r : V → Hp → VK → Prop) (f : D → Option D) : Prop :=
  ∀ (B : List Addr) (H : Hp) (x : V) (a d : D) (Q : VK), (∀ b ∈ B, H b ≠ none) → Rep K (hid B H) x a → f a = some d → (∀ v H', Same H H' → Rep K (hid B H') v d → Q v H') → r x H Q
def Op2 (K : PySem.W.Frag) (r : R2) (f : D → D → Option D) : Prop :=
  ∀ (B : List Addr) (H : Hp) (x y : V) (a b d : D) (Q : VK), (∀ b ∈ B, H b ≠ none) → Rep K (hid B H) x a → Rep K (hid B H) y b → f a b = some d → (∀ v H', Same H H' → Rep K (hid B H') v d → Q v H') → r x y H Q
/-- a call with values -/
def OpN (K : PySem.W.Frag) (r : List V → Hp → VK → Prop) (f : List D → Option D) : Prop :=
  ∀ (B : List Addr) (H : Hp) (xs : List V) (as : List D) (d : D) (Q : VK), (∀ b ∈ B, H b ≠ none) → RepAll K (hid B H) xs as → f as = some d → (∀ v H', Same H H' → Rep K (hid B H') v d → Q v H') → r xs H Q
/-- .. whose value is a new list -/
def OpNF (K : PySem.W.Frag) (r : List V → Hp → VK → Prop) (f : List D → Option (List D)) : Prop :=
  ∀ (B : List Addr) (H : Hp) (xs : List V) (as : List D) (ds : List D) (Q : VK), (∀ b ∈ B, H b ≠ none) → RepAll K (hid B H) xs as → f as = some ds →
    (∀ p vs H', Same H H' → H p = none → H' p = some (.lst vs) → RepAll K (hid (p :: B) H') vs ds → Q (.ref p) H') → r xs H Q

section
variable {K : PySem.W.Frag} {ca : String → Addr} {W : WX} {c : Fm} {σ : L2.St} {H H' : Hp} {ρ : Env} {n n' : Nat}
theorem tG_c1 {r : V → Hp → VK → Prop} {f : D → Option D} (hr : Op1 K r f) {ga : M D} {σ : L2.St} {H : Hp} {Q : VK} (h : tG K ca W (c1 f ga) σ H Q) : tUn r (tG K ca W ga) σ H Q := by
  obtain ⟨c, ρ, n, S, h⟩ := h
  refine ⟨c, ρ, n, S, (Res.post_bind h).mono (fun a n1 h1 x H1 g1 r1 => ?_) (fun e m h => h)⟩
  have S1 := S.ext g1
  obtain ⟨d, e, h3⟩ := Res.post_lift h1
  exact hr c.B H1 x a d Q S1.all r1 e fun v H3 s3 r3 => h3 v H3 (g1.trans (S1.pure s3)) r3
theorem tG_c2 {r : R2} {f : D → D → Option D} (hr : Op2 K r f) {ga gb : M D} {σ : L2.St} {H : Hp} {Q : VK} (h : tG K ca W (c2 f ga gb) σ H Q) : tOp r (tG K ca W ga) (tG K ca W gb) σ H Q := by
  obtain ⟨c, ρ, n, S, h⟩ := h
  refine ⟨c, ρ, n, S, (Res.post_bind h).mono (fun a n1 h1 x H1 g1 r1 => ?_) (fun e m h => h)⟩
  have S1 := S.ext g1
  refine ⟨c, ρ, n1, S1, (Res.post_bind h1).mono (fun b n2 h2 y H2 g2 r2 => ?_) (fun e m h => exK.at h g1)⟩
  obtain ⟨d, e, h3⟩ := Res.post_lift h2
  have S2 := S1.ext g2
  exact hr c.B H2 x y a b d Q S2.all (Rep.mono (g2.sees S.tB') _ _ r1) r2 e fun v H3 s3 r3 => h3 v H3 ((g1.trans g2).trans (S2.pure s3)) r3
/-- a test out of a bool -/
def asB : D → Nat → Res Bool := fun a n => match a with
  | .bool k => .ok k n
  | _ => .bad
def cB (g : M D) : M Bool := fun ρ n => (g ρ n).bind asB
theorem post_asB {a : D} {n : Nat} {P : Bool → Nat → Prop} {E : String → Nat → Prop} (h : (asB a n).Post P E) : ∃ k, a = .bool k ∧ P k n := by
  cases a with
  | bool k => exact ⟨k, rfl, h⟩
  | _ => exact h.elim
theorem tG_cB {g : M D} {σ : L2.St} {H : Hp} {Q : Bool → Hp → Prop} (h : tGT K ca W (cB g) σ H Q) : tTest (tG K ca W g) σ H Q := by
  obtain ⟨c, ρ, n, S, h⟩ := h
  refine ⟨c, ρ, n, S, (Res.post_bind h).mono (fun a n1 h1 x H1 g1 r1 => ?_) (fun e m h => h)⟩
  obtain ⟨k, rfl, h2⟩ := post_asB h1
  cases r1
  exact ⟨k, rfl, h2 H1 g1⟩
/-- a test as a value -/
def cOfB (g : M Bool) : M D := fun ρ n => (g ρ n).bind fun k n1 => .ok (.bool k) n1
def cCh (f f' : D → D → Option D) (ga gb gc : M D) : M D := fun ρ n => (ga ρ n).bind fun a n1 => (gb ρ n1).bind fun b n2 => (Res.lift (f a b) n2).bind fun z n3 => (asB z n3).bind fun k n4 =>
  if k = true then (gc ρ n4).bind fun e n5 => Res.lift (f' b e) n5 else .ok (.bool false) n4
theorem tG_ch {r r' : R2} {f f' : D → D → Option D} (hr : Op2 K r f) (hr' : Op2 K r' f') {ga gb gc : M D} {σ : L2.St} {H : Hp} {Q : VK} (h : tG K ca W (cCh f f' ga gb gc) σ H Q) :
    tChain r r' (tG K ca W ga) (tG K ca W gb) (tG K ca W gc) σ H Q := by
  obtain ⟨c, ρ, n, S, h⟩ := h
  refine ⟨c, ρ, n, S, (Res.post_bind h).mono (fun a n1 h1 x H1 g1 r1 => ?_) (fun e m h => h)⟩
  have S1 := S.ext g1
  refine ⟨c, ρ, n1, S1, (Res.post_bind h1).mono (fun b n2 h2 y H2 g2 r2 => ?_) (fun e m h => exK.at h g1)⟩
  have S2 := S1.ext g2
  obtain ⟨z, e, h3⟩ := Res.post_lift (Res.post_bind h2)
  obtain ⟨k, rfl, h4⟩ := post_asB (Res.post_bind h3)
  refine hr c.B H2 x y a b _ _ S2.all (Rep.mono (g2.sees S.tB') _ _ r1) r2 e fun v H3 s3 r3 => ?_
  cases r3
  have g3 := S2.pure s3
  have S3 := S2.ext g3
  refine ⟨k, rfl, ?_⟩
  cases k with
  | false =>
    rw [if_neg Bool.false_ne_true] at h4 ⊢
    exact h4 _ H3 ((g1.trans g2).trans g3) (.bl false)
  | true =>
    rw [if_pos rfl] at h4 ⊢
    refine ⟨c, ρ, n2, S3, (Res.post_bind h4).mono (fun u n5 h5 w H5 g5 r5 => ?_) (fun e m h => exK.at h ((g1.trans g2).trans g3))⟩
    obtain ⟨d, e', h6⟩ := Res.post_lift h5
    have S5 := S3.ext g5
    exact hr' c.B H5 y w b u d Q S5.all (Rep.mono ((g3.trans g5).sees S.tB') _ _ r2) r5 e' fun v H6 s6 r6 => h6 v H6 ((((g1.trans g2).trans g3).trans g5).trans (S5.pure s6)) r6
end

/-! ### names, constants -/
section
variable {X : Cx} {ca : String → Addr} {W : WX} {a b e : Expr} {es : List Expr} {ga gb gc g : M D} {pos : Pos}
theorem ev_var (i : Nat) {x : Str} (hN : X.N[i]? = some x := by rfl) (hv : Vis X.env.scope x := by first | exact Or.inl rfl | exact Or.inr (Or.inl rfl) | exact Or.inr (Or.inr rfl)) (hd : (x == ("__debug__" : Str)) = false := by decide)
    (hcd : (x == ("__classdict__" : Str)) = false := by decide) : PE X (.Name x pos) (tG X.K ca W (cVar i)) :=
  PE.weak (pe_var hN hv hd hcd) fun σ H Q ⟨c, ρ, n, S, h⟩ => by
    unfold cVar at h
    split at h
    · rename_i x q
      obtain ⟨v, h1, h2⟩ := S.slot i _ q
      exact ⟨v, h1, h v H S.gx h2⟩
    · exact h.elim
theorem ev_C {v : V} {d : D} (h : PE X e (tC v)) (r : ∀ H, Rep X.K H v d) : PE X e (tG X.K ca W (cC d)) :=
  PE.weak h fun σ H Q ⟨c, ρ, n, S, h⟩ => h v H S.gx (r _)
theorem ev_int {i : Int} {j : Nat} : PE X (.Constant (.int i) j pos) (tG X.K ca W (cC (.int i))) := ev_C pe_int fun _ => .int i
theorem ev_bl {b : Bool} {j : Nat} : PE X (.Constant (.bool b) j pos) (tG X.K ca W (cC (.bool b))) := ev_C pe_bl fun _ => .bl b
theorem ev_non {j : Nat} : PE X (.Constant .none j pos) (tG X.K ca W (cC .none)) := ev_C pe_non fun _ => .non
theorem ev_str {x : Str} {l : List Nat} {j : Nat} (hx : x = ⟨l.toArray⟩ := by decide +kernel) : PE X (.Constant (.str x) j pos) (tG X.K ca W (cC (T l))) := by
  subst hx
  exact ev_C pe_str fun _ => .str _
/-- a constant of the module -/
theorem ev_glob {x : Str} {v : V} {d : D} {u : Value} (hg : Gl X x) (hm : X.mg x = some u) (r : RelV v u) (h : ∀ H, Rep X.K H v d) (hd : (x == ("__debug__" : Str)) = false := by decide) : PE X (.Name x pos) (tG X.K ca W (cC d)) :=
  ev_C (pe_glob hg hm r hd) h

/-! ### operators -/
theorem ev_op1 {op : UnaryOp} {r : V → Hp → VK → Prop} {f : D → Option D} (ho : UnR X (unaryOp op) r) (hf : Op1 X.K r f) (ha : PE X a (tG X.K ca W ga)) : PE X (.UnaryOp op a pos) (tG X.K ca W (c1 f ga)) :=
  PE.weak (pe_un ho ha) fun _ _ _ h => tG_c1 hf h
theorem ev_op2 {op : Operator} {r : R2} {f : D → D → Option D} (ho : OpR X (binaryOp op) r) (hf : Op2 X.K r f) (ha : PE X a (tG X.K ca W ga)) (hb : PE X b (tG X.K ca W gb)) : PE X (.BinOp a op b pos) (tG X.K ca W (c2 f ga gb)) :=
  PE.weak (pe_op ho ha hb) fun _ _ _ h => tG_c2 hf h
theorem ev_cmp {op : CmpOp} {r : R2} {f : D → D → Option D} (ho : OpR X (compareOp op) r) (hf : Op2 X.K r f) (ha : PE X a (tG X.K ca W ga)) (hb : PE X b (tG X.K ca W gb)) (hm : behindInMarks op b = false) : PE X (.Compare a [op] [b] pos) (tG X.K ca W (c2 f ga gb)) :=
  PE.weak (pe_cmpR ho ha hb hm) fun _ _ _ h => tG_c2 hf h
theorem et_cmp {op : CmpOp} {r : R2} {f : D → D → Option D} (ho : OpR X (compareOp op) r) (hf : Op2 X.K r f) (ha : PE X a (tG X.K ca W ga)) (hb : PE X b (tG X.K ca W gb)) (hm : behindInMarks op b = false) : PT X (.Compare a [op] [b] pos) (tGT X.K ca W (cB (c2 f ga gb))) :=
  PT.weak (pt_cmpR ho ha hb hm) fun _ _ _ h => by
    obtain ⟨c, ρ, n, S, h⟩ := tG_cB h
    exact tG_c2 hf ⟨c, ρ, n, S, h⟩
theorem ev_chain {op op' : CmpOp} {r r' : R2} {f f' : D → D → Option D} {cc : Expr} (ho : OpR X (compareOp op) r) (hf : Op2 X.K r f) (ho' : OpR X (compareOp op') r') (hf' : Op2 X.K r' f') (ha : PE X a (tG X.K ca W ga)) (hb : PE X b (tG X.K ca W gb)) (hc : PE X cc (tG X.K ca W gc))
    (hm : lastMarks [op, op'] [b, cc] = false := by with_unfolding_all rfl) : PE X (.Compare a [op, op'] [b, cc] pos) (tG X.K ca W (cCh f f' ga gb gc)) :=
  PE.weak (pe_chain ho ho' ha hb hc hm) fun _ _ _ h => tG_ch hf hf' h
theorem et_chain {op op' : CmpOp} {r r' : R2} {f f' : D → D → Option D} {cc : Expr} (ho : OpR X (compareOp op) r) (hf : Op2 X.K r f) (ho' : OpR X (compareOp op') r') (hf' : Op2 X.K r' f') (ha : PE X a (tG X.K ca W ga)) (hb : PE X b (tG X.K ca W gb)) (hc : PE X cc (tG X.K ca W gc))
    (hm : lastMarks [op, op'] [b, cc] = false := by with_unfolding_all rfl) : PT X (.Compare a [op, op'] [b, cc] pos) (tGT X.K ca W (cB (cCh f f' ga gb gc))) :=
  PT.weak (pt_chain ho ho' ha hb hc hm) fun _ _ _ h => by
    obtain ⟨c, ρ, n, S, h⟩ := tG_cB h
    exact tG_ch hf hf' ⟨c, ρ, n, S, h⟩

/-! ### truth, and, or, not, if -/
def truthD : D → Option Bool
  | .none => some false
  | .bool b => some b
  | .int i => some (i != 0)
  | .str x => if x.length ≤ sizeLine then some (x.length != 0) else none
  | .list xs => some (!xs.isEmpty)
  | .tuple xs => some (!xs.isEmpty)
  | .dict _ => none
theorem empty_of {K : PySem.W.Frag} {H : Hp} {vs : List V} {ds : List D} (r : RepAll K H vs ds) : (!ds.isEmpty) = !vs.isEmpty := by
  cases r <;> rfl
theorem tru_of {K : PySem.W.Frag} {B : List Addr} {H : Hp} {v : V} {d : D} {k : Bool} (r : Rep K (hid B H) v d) (h : truthD d = some k) : TruV K v H k := by
  cases r with
  | non => cases h; rfl
  | bl b => cases h; rfl
  | int i => cases h; rfl
  | str x =>
    unfold truthD at h
    simp only at h
    split at h
    · cases h
      refine ⟨by assumption, ?_⟩
      cases x.length <;> rfl
    · cases h
  | lst h1 h2 =>
    cases h
    exact .inl ⟨_, .inl (.inl (hid_sub h1)), empty_of h2⟩
  | tup h1 h2 =>
    cases h
    exact .inr (.inl ⟨_, sqT_mono (fun _ _ => hid_sub) h1.sq, empty_of h2⟩)
def cTru (g : M D) : M Bool := fun ρ n => (g ρ n).bind fun a n1 => Res.lift (truthD a) n1
theorem et_truth (ha : PE X a (tG X.K ca W ga)) (he : ∀ whole, isTrue a X.env whole = (do let v ← whole; standAt a.pos; holding [v] (truthy v)) := by intro _; rfl) : PT X a (tGT X.K ca W (cTru ga)) :=
  PT.weak (pt_truth ha he) fun _ _ _ h => by
    obtain ⟨c, ρ, n, S, h⟩ := h
    refine ⟨c, ρ, n, S, (Res.post_bind h).mono (fun a n1 h1 x H1 g1 r1 => ?_) (fun e m h => h)⟩
    obtain ⟨k, e, h2⟩ := Res.post_lift h1
    exact ⟨k, tru_of r1 e, h2 H1 g1⟩
def bAnd (f g : M Bool) : M Bool := fun ρ n => (f ρ n).bind fun k n1 => if k = true then g ρ n1 else .ok false n1
def bOr (f g : M Bool) : M Bool := fun ρ n => (f ρ n).bind fun k n1 => if k = true then .ok true n1 else g ρ n1
def bNot (f : M Bool) : M Bool := fun ρ n => (f ρ n).bind fun k n1 => .ok (!k) n1
section
variable {fa fb : M Bool} {rest : List Expr}
theorem ew_and1 (ha : PT X a (tGT X.K ca W fa)) : PW X (.BoolOp .And [a] pos) (tGT X.K ca W fa) := pw_and1 ha
theorem ew_or1 (ha : PT X a (tGT X.K ca W fa)) : PW X (.BoolOp .Or [a] pos) (tGT X.K ca W fa) := pw_or1 ha
theorem ew_and (ha : PT X a (tGT X.K ca W fa)) (hb : PW X (.BoolOp .And (b :: rest) pos) (tGT X.K ca W fb)) : PW X (.BoolOp .And (a :: b :: rest) pos) (tGT X.K ca W (bAnd fa fb)) :=
  PW.weak (pw_and ha hb) fun _ _ _ ⟨c, ρ, n, S, h⟩ => by
    refine ⟨c, ρ, n, S, (Res.post_bind h).mono (fun k n1 h1 H1 g1 => ?_) (fun e m h => h)⟩
    cases k with
    | true =>
      rw [if_pos rfl] at h1 ⊢
      exact ⟨c, ρ, n1, S.ext g1, h1.mono (fun b n2 h2 H2 g2 => h2 H2 (g1.trans g2)) (fun e m h => exK.at h g1)⟩
    | false =>
      rw [if_neg Bool.false_ne_true] at h1 ⊢
      exact h1 H1 g1
theorem ew_or (ha : PT X a (tGT X.K ca W fa)) (hb : PW X (.BoolOp .Or (b :: rest) pos) (tGT X.K ca W fb)) : PW X (.BoolOp .Or (a :: b :: rest) pos) (tGT X.K ca W (bOr fa fb)) :=
  PW.weak (pw_or ha hb) fun _ _ _ ⟨c, ρ, n, S, h⟩ => by
    refine ⟨c, ρ, n, S, (Res.post_bind h).mono (fun k n1 h1 H1 g1 => ?_) (fun e m h => h)⟩
    cases k with
    | false =>
      rw [if_neg Bool.false_ne_true] at h1 ⊢
      exact ⟨c, ρ, n1, S.ext g1, h1.mono (fun b n2 h2 H2 g2 => h2 H2 (g1.trans g2)) (fun e m h => exK.at h g1)⟩
    | true =>
      rw [if_pos rfl] at h1 ⊢
      exact h1 H1 g1
theorem et_not (ha : PT X a (tGT X.K ca W fa)) : PT X (.UnaryOp .Not a pos) (tGT X.K ca W (bNot fa)) :=
  PT.weak (pt_not ha) fun _ _ _ ⟨c, ρ, n, S, h⟩ => ⟨c, ρ, n, S, (Res.post_bind h).mono (fun k n1 h1 H1 g1 => h1 H1 g1) (fun e m h => h)⟩
end
/-- .. as values -/
def vAnd (f g : M D) : M D := fun ρ n => (f ρ n).bind fun x n1 => (Res.lift (truthD x) n1).bind fun k n2 => if k = true then g ρ n2 else .ok x n2
def vOr (f g : M D) : M D := fun ρ n => (f ρ n).bind fun x n1 => (Res.lift (truthD x) n1).bind fun k n2 => if k = true then .ok x n2 else g ρ n2
def vNot (f : M D) : M D := fun ρ n => (f ρ n).bind fun x n1 => (Res.lift (truthD x) n1).bind fun k n2 => .ok (.bool (!k)) n2
section
variable {rest : List Expr}
theorem ev_one {op : BoolOp} (ha : PE X a (tG X.K ca W ga)) : PE X (.BoolOp op [a] pos) (tG X.K ca W ga) := pe_one ha
theorem ev_and (ha : PE X a (tG X.K ca W ga)) (hb : PE X (.BoolOp .And (b :: rest) pos) (tG X.K ca W gb)) : PE X (.BoolOp .And (a :: b :: rest) pos) (tG X.K ca W (vAnd ga gb)) :=
  PE.weak (pe_andT ha hb) fun _ _ _ ⟨c, ρ, n, S, h⟩ => by
    refine ⟨c, ρ, n, S, (Res.post_bind h).mono (fun x n1 h1 v H1 g1 r1 => ?_) (fun e m h => h)⟩
    obtain ⟨k, e, h2⟩ := Res.post_lift (Res.post_bind h1)
    refine ⟨k, tru_of r1 e, ?_⟩
    cases k with
    | true =>
      rw [if_pos rfl] at h2 ⊢
      exact ⟨c, ρ, n1, S.ext g1, h2.mono (fun b n2 h2 v H2 g2 r2 => h2 v H2 (g1.trans g2) r2) (fun e m h => exK.at h g1)⟩
    | false =>
      rw [if_neg Bool.false_ne_true] at h2 ⊢
      exact h2 v H1 g1 r1
theorem ev_or (ha : PE X a (tG X.K ca W ga)) (hb : PE X (.BoolOp .Or (b :: rest) pos) (tG X.K ca W gb)) : PE X (.BoolOp .Or (a :: b :: rest) pos) (tG X.K ca W (vOr ga gb)) :=
  PE.weak (pe_orT ha hb) fun _ _ _ ⟨c, ρ, n, S, h⟩ => by
    refine ⟨c, ρ, n, S, (Res.post_bind h).mono (fun x n1 h1 v H1 g1 r1 => ?_) (fun e m h => h)⟩
    obtain ⟨k, e, h2⟩ := Res.post_lift (Res.post_bind h1)
    refine ⟨k, tru_of r1 e, ?_⟩
    cases k with
    | false =>
      rw [if_neg Bool.false_ne_true] at h2 ⊢
      exact ⟨c, ρ, n1, S.ext g1, h2.mono (fun b n2 h2 v H2 g2 r2 => h2 v H2 (g1.trans g2) r2) (fun e m h => exK.at h g1)⟩
    | true =>
      rw [if_pos rfl] at h2 ⊢
      exact h2 v H1 g1 r1
theorem ev_not (ha : PE X a (tG X.K ca W ga)) : PE X (.UnaryOp .Not a pos) (tG X.K ca W (vNot ga)) :=
  PE.weak (pe_notT ha) fun _ _ _ ⟨c, ρ, n, S, h⟩ => by
    refine ⟨c, ρ, n, S, (Res.post_bind h).mono (fun x n1 h1 v H1 g1 r1 => ?_) (fun e m h => h)⟩
    obtain ⟨k, e, h2⟩ := Res.post_lift (Res.post_bind h1)
    exact ⟨k, tru_of r1 e, h2 _ H1 g1 (.bl _)⟩
end
def cIf (f : M Bool) (g h : M D) : M D := fun ρ n => (f ρ n).bind fun k n1 => if k = true then g ρ n1 else h ρ n1
theorem ev_if {cc : Expr} {f : M Bool} (hc : PT X cc (tGT X.K ca W f)) (ha : PE X a (tG X.K ca W ga)) (hb : PE X b (tG X.K ca W gb)) : PE X (.IfExp cc a b pos) (tG X.K ca W (cIf f ga gb)) :=
  PE.weak (pe_ifExp hc ha hb) fun _ _ _ ⟨c, ρ, n, S, h⟩ => by
    refine ⟨c, ρ, n, S, (Res.post_bind h).mono (fun k n1 h1 H1 g1 => ?_) (fun e m h => h)⟩
    cases k with
    | true =>
      rw [if_pos rfl] at h1 ⊢
      exact ⟨c, ρ, n1, S.ext g1, h1.mono (fun b n2 h2 v H2 g2 r2 => h2 v H2 (g1.trans g2) r2) (fun e m h => exK.at h g1)⟩
    | false =>
      rw [if_neg Bool.false_ne_true] at h1 ⊢
      exact ⟨c, ρ, n1, S.ext g1, h1.mono (fun b n2 h2 v H2 g2 r2 => h2 v H2 (g1.trans g2) r2) (fun e m h => exK.at h g1)⟩

/-! ### argument lists, displays, calls -/
theorem ea_nil : PA X [] (tGA X.K ca W aNil) := PA.weak pa_nil fun _ H _ ⟨c, ρ, n, S, h⟩ => h [] H S.gx .nil
theorem ea_cons {gs : M (List L)} (ha : PE X e (tG X.K ca W ga)) (hr : PA X es (tGA X.K ca W gs)) (hs : starEach (e :: es) X.env = (false, eval e X.env) :: starEach es X.env := by rfl) : PA X (e :: es) (tGA X.K ca W (aCons ga gs)) :=
  PA.weak (pa_cons ha hr hs) fun _ _ _ ⟨c, ρ, n, S, h⟩ => by
    refine ⟨c, ρ, n, S, (Res.post_bind h).mono (fun x n1 h1 v H1 g1 r1 => ?_) (fun e m h => h)⟩
    refine ⟨c, ρ, n1, S.ext g1, (Res.post_bind h1).mono (fun ls n2 h2 vs H2 g2 r2 => h2 _ H2 (g1.trans g2) (.cons ⟨rfl, ?_⟩ r2)) (fun e m h => exK.at h g1)⟩
    exact Rep.mono (g2.sees S.tB') _ _ r1
theorem ea_var (i : Nat) {x : Str} {gs : M (List L)} (hr : PA X es (tGA X.K ca W gs)) (hN : X.N[i]? = some x := by rfl) (hv : Vis X.env.scope x := by first | exact Or.inl rfl | exact Or.inr (Or.inl rfl) | exact Or.inr (Or.inr rfl)) (hd : (x == ("__debug__" : Str)) = false := by decide)
    (hcd : (x == ("__classdict__" : Str)) = false := by decide) (hs : starEach (.Name x pos :: es) X.env = (false, eval (.Name x pos) X.env) :: starEach es X.env := by rfl) : PA X (.Name x pos :: es) (tGA X.K ca W (aVar i gs)) :=
  PA.weak (pa_cons (pe_var hN hv hd hcd) hr hs) fun σ H Q ⟨c, ρ, n, S, h⟩ => by
    have key : ∀ l : L, isOwn l = false → ρ[i]? = some (some l) → ((gs ρ n).bind fun b n2 => .ok (l :: b) n2).Post (fun ls n' => ∀ vs H', Gx c.t H n' H' → RAs X.K c H' vs ls → Q vs H') (exK ca W c σ H) →
        tCons (tVar i) (tGA X.K ca W gs) σ H Q := fun l ho q h => by
      obtain ⟨v, h1, h2⟩ := S.slot i l q
      refine ⟨v, h1, c, ρ, n, S, (Res.post_bind h).mono (fun ls n2 h3 vs H2 g2 r2 => h3 _ H2 g2 (.cons ⟨ho, RL.ext S g2 h2⟩ r2)) (fun e m h => h)⟩
    unfold aVar at h
    split at h
    · exact key _ rfl (by assumption) h
    · exact key _ rfl (by assumption) h
    · exact key _ rfl (by assumption) h
    · exact h.elim
def asDs : List L → Nat → Res (List D) := fun ls n => Res.lift (dsOf ls) n
/-- (a, b, ..) -/
def cTup (g : M (List L)) : M D := fun ρ n => (g ρ n).bind fun ls n1 => (asDs ls n1).bind fun ds n2 => if ds.length ≤ sizeLine then .ok (.tuple ds) n2 else .bad
def cLst (g : M (List L)) : M (List D) := fun ρ n => (g ρ n).bind fun ls n1 => (asDs ls n1).bind fun ds n2 => if ds.length ≤ sizeLine then .ok ds n2 else .bad
/-- a new list as data -/
def cF (g : M (List D)) : M D := fun ρ n => (g ρ n).bind fun ds n1 => .ok (.list ds) n1
theorem ev_F {gf : M (List D)} (h : PE X e (tGF X.K ca W gf)) : PE X e (tG X.K ca W (cF gf)) :=
  PE.weak h fun σ H Q ⟨c, ρ, n, S, h⟩ => by
    refine ⟨c, ρ, n, S, (Res.post_bind h).mono (fun ds n1 h1 a vs H1 g1 ha h2 r1 => h1 _ H1 g1 ?_) (fun e m h => h)⟩
    exact .lst (hid_of (fun z => S.all a z ha) h2) (Rep.monoAll hid_cons _ _ r1)
def tTupP (t : TA) : TE := fun σ H Q => t σ H fun xs H1 => xs.length ≤ sizeLine ∧ ∀ (p : Addr) (o : Obj), o.dict = none → H1 p = none → Q (.ref p) (upd H1 p (.frz o (.tup xs)))
theorem pe_tupP {t : TA} {x1 : Nat} (h : PA X es t) : PE X (.Tuple es x1 pos) (tTupP t) := by
  refine ⟨fun pins s σ H Q I hq => ?_⟩
  refine wpAny_Tuple_spliced (thn (h.run pos pins s σ H _ I hq) fun us s1 ⟨xs, H1, I1, r, z, q⟩ => ⟨by rw [← r.length]; exact z, ?_⟩)
  have fr : H1 s1.heap.objs.size = none := I1.hok.fresh (Nat.le_refl _)
  refine ⟨.ref s1.heap.objs.size, upd H1 s1.heap.objs.size (.frz { cls := .type "tuple", data := .seq us.toArray } (.tup xs)), I1.laid (t' := s1.toks) (fun b u e => Heap.get?_push_of_some _ e) (Nat.le_refl _) ?_, rfl, q _ _ rfl fr⟩
  exact ⟨Heap.get?_push_size _ rfl, z, us, r, ⟨_, Heap.get?_push_size _ rfl, rfl, _, rfl⟩⟩
theorem ev_tup {gs : M (List L)} {x1 : Nat} (h : PA X es (tGA X.K ca W gs)) : PE X (.Tuple es x1 pos) (tG X.K ca W (cTup gs)) :=
  PE.weak (pe_tupP h) fun σ H Q ⟨c, ρ, n, S, h⟩ => by
    refine ⟨c, ρ, n, S, (Res.post_bind h).mono (fun ls n1 h1 vs H1 g1 r1 => ?_) (fun e m h => h)⟩
    obtain ⟨ds, e, h2⟩ := Res.post_lift (Res.post_bind h1)
    have r2 := r1.ds e
    split at h2
    · rename_i hz
      have S1 := S.ext g1
      refine ⟨by rw [r2.length]; exact hz, fun p o ho hp => h2 _ _ (g1.trans (S1.pure (same_upd hp))) (new_tup ho S1.all hp r2)⟩
    · exact h2.elim
theorem ef_lst {gs : M (List L)} (h : PA X es (tGA X.K ca W gs)) : PE X (.List es pos) (tGF X.K ca W (cLst gs)) :=
  PE.weak (pe_lst h) fun σ H Q ⟨c, ρ, n, S, h⟩ => by
    refine ⟨c, ρ, n, S, (Res.post_bind h).mono (fun ls n1 h1 vs H1 g1 r1 => ?_) (fun e m h => h)⟩
    obtain ⟨ds, e, h2⟩ := Res.post_lift (Res.post_bind h1)
    have r2 := r1.ds e
    split at h2
    · rename_i hz
      have S1 := S.ext g1
      refine ⟨by rw [r2.length]; exact hz, fun p hp => h2 _ vs _ (g1.trans (S1.pure (same_upd hp))) ?_ upd_same (Rep.monoAll (hid_fresh hp) _ _ r2)⟩
      cases q : H p with
      | none => rfl
      | some o =>
        have z : p ≠ c.t := fun z => S1.all p (z ▸ S.tB') hp
        rw [g1.ext p o q z] at hp
        cases hp
    · exact h2.elim
/-- a built-in by its name -/
def cBt (f : List D → Option D) (g : M (List L)) : M D := fun ρ n => (g ρ n).bind fun ls n1 => (asDs ls n1).bind fun ds n2 => Res.lift (f ds) n2
def cBtF (f : List D → Option (List D)) (g : M (List L)) : M (List D) := fun ρ n => (g ρ n).bind fun ls n1 => (asDs ls n1).bind fun ds n2 => Res.lift (f ds) n2
theorem tG_bt {K : PySem.W.Frag} {r : List V → Hp → VK → Prop} {f : List D → Option D} (hr : OpN K r f) {gs : M (List L)} {σ : L2.St} {H : Hp} {Q : VK} (h : tG K ca W (cBt f gs) σ H Q) : tCB r (tGA K ca W gs) σ H Q := by
  obtain ⟨c, ρ, n, S, h⟩ := h
  refine ⟨c, ρ, n, S, (Res.post_bind h).mono (fun ls n1 h1 vs H1 g1 r1 => ?_) (fun e m h => h)⟩
  have S1 := S.ext g1
  obtain ⟨ds, e, h2⟩ := Res.post_lift (Res.post_bind h1)
  obtain ⟨d, e2, h3⟩ := Res.post_lift h2
  exact hr c.B H1 vs ds d Q S1.all (r1.ds e) e2 fun v H3 s3 r3 => h3 v H3 (g1.trans (S1.pure s3)) r3
theorem fresh_back {t : Addr} {B : List Addr} {H H1 : Hp} {n1 : Nat} {p : Addr} (g : Gx t H n1 H1) (ht : t ∈ B) (all : ∀ b ∈ B, H1 b ≠ none) (h : H1 p = none) : H p = none := by
  cases q : H p with
  | none => rfl
  | some o =>
    have z : p ≠ t := fun z => all p (z ▸ ht) h
    rw [g.ext p o q z] at h
    cases h
theorem tG_btF {K : PySem.W.Frag} {r : List V → Hp → VK → Prop} {f : List D → Option (List D)} (hr : OpNF K r f) {gs : M (List L)} {σ : L2.St} {H : Hp} {Q : VK} (h : tGF K ca W (cBtF f gs) σ H Q) : tCB r (tGA K ca W gs) σ H Q := by
  obtain ⟨c, ρ, n, S, h⟩ := h
  refine ⟨c, ρ, n, S, (Res.post_bind h).mono (fun ls n1 h1 vs H1 g1 r1 => ?_) (fun e m h => h)⟩
  have S1 := S.ext g1
  obtain ⟨ds, e, h2⟩ := Res.post_lift (Res.post_bind h1)
  obtain ⟨d, e2, h3⟩ := Res.post_lift h2
  exact hr c.B H1 vs ds d Q S1.all (r1.ds e) e2 fun p ws H3 s3 hp hw r3 => h3 p ws H3 (g1.trans (S1.pure s3)) (fresh_back g1 S.tB' S1.all hp) hw r3
theorem ev_bt {id : String} {x : Str} {p : Pos} {r : List V → Hp → VK → Prop} {f : List D → Option D} {gs : M (List L)} (hc : CallR X (.builtin id) r) (hf : OpN X.K r f) (hg : Gl X x) (hm : X.mg x = none) (hv : bootBuiltins x = some (.builtin id)) (ha : PA X (e :: es) (tGA X.K ca W gs)) (hn : x ≠ "__name__" := by decide) (hdb : (x == ("__debug__" : Str)) = false := by decide)
    (he : starEach (e :: es) X.env = (false, eval e X.env) :: starEach es X.env := by rfl) (hpl : (backTo pos (starEach es X.env)).any (·.1) = false := by rfl) : PE X (.Call (.Name x p) (e :: es) [] pos) (tG X.K ca W (cBt f gs)) :=
  PE.weak (pe_callB hc hg hm hv ha hn hdb he hpl) fun _ _ _ h => tG_bt hf h
theorem ev_bty {id : String} {x : Str} {p : Pos} {r : List V → Hp → VK → Prop} {f : List D → Option D} {gs : M (List L)} (hc : CallR X (.type id) r) (hf : OpN X.K r f) (hg : Gl X x) (hm : X.mg x = none) (hv : bootBuiltins x = some (.type id)) (ha : PA X (e :: es) (tGA X.K ca W gs)) (hn : x ≠ "__name__" := by decide) (hdb : (x == ("__debug__" : Str)) = false := by decide)
    (he : starEach (e :: es) X.env = (false, eval e X.env) :: starEach es X.env := by rfl) (hpl : (backTo pos (starEach es X.env)).any (·.1) = false := by rfl) : PE X (.Call (.Name x p) (e :: es) [] pos) (tG X.K ca W (cBt f gs)) :=
  PE.weak (pe_callTy hc hg hm hv ha hn hdb he hpl) fun _ _ _ h => tG_bt hf h
theorem ef_bt {id : String} {x : Str} {p : Pos} {r : List V → Hp → VK → Prop} {f : List D → Option (List D)} {gs : M (List L)} (hc : CallR X (.builtin id) r) (hf : OpNF X.K r f) (hg : Gl X x) (hm : X.mg x = none) (hv : bootBuiltins x = some (.builtin id)) (ha : PA X (e :: es) (tGA X.K ca W gs)) (hn : x ≠ "__name__" := by decide) (hdb : (x == ("__debug__" : Str)) = false := by decide)
    (he : starEach (e :: es) X.env = (false, eval e X.env) :: starEach es X.env := by rfl) (hpl : (backTo pos (starEach es X.env)).any (·.1) = false := by rfl) : PE X (.Call (.Name x p) (e :: es) [] pos) (tGF X.K ca W (cBtF f gs)) :=
  PE.weak (pe_callB hc hg hm hv ha hn hdb he hpl) fun _ _ _ h => tG_btF hf h
theorem ef_bty {id : String} {x : Str} {p : Pos} {r : List V → Hp → VK → Prop} {f : List D → Option (List D)} {gs : M (List L)} (hc : CallR X (.type id) r) (hf : OpNF X.K r f) (hg : Gl X x) (hm : X.mg x = none) (hv : bootBuiltins x = some (.type id)) (ha : PA X (e :: es) (tGA X.K ca W gs)) (hn : x ≠ "__name__" := by decide) (hdb : (x == ("__debug__" : Str)) = false := by decide)
    (he : starEach (e :: es) X.env = (false, eval e X.env) :: starEach es X.env := by rfl) (hpl : (backTo pos (starEach es X.env)).any (·.1) = false := by rfl) : PE X (.Call (.Name x p) (e :: es) [] pos) (tGF X.K ca W (cBtF f gs)) :=
  PE.weak (pe_callTy hc hg hm hv ha hn hdb he hpl) fun _ _ _ h => tG_btF hf h
end

/-! ### what a def promises -/
/-- a pure function of arguments and the town's length -/
abbrev Fn := List L → Nat → Res D
def spG (K : PySem.W.Frag) (ca : String → Addr) (k : Nat) (F : Fn) : Sp := fun vs H Q E => vs.length = k ∧ ∃ (c : Fm) (ls : List L) (n : Nat),
  (∀ b ∈ c.Bo, b ∈ c.B) ∧ c.t ∈ c.Bo ∧ (∀ b ∈ c.B, H b ≠ none) ∧ H c.t = some (zer n) ∧ RAs K c H vs ls ∧
  (F ls n).Post (fun d n' => ∀ v H', Gx c.t H n' H' → Rep K (hid c.B H') v d → Q v H') (fun e n' => ∀ H', Gx c.t H n' H' → E (.ref (ca e)) none H')
section
variable {X : Cx} {ca : String → Addr} {W : WX} {e : Expr} {es : List Expr} {pos p : Pos} {x : Str} {k : Nat} {f : Addr} {fd : FuncData} {ps : List Str} {F : Fn} {gs : M (List L)}
def cCall (k : Nat) (F : Fn) (g : M (List L)) : M D := fun ρ n => (g ρ n).bind fun ls n1 => if ls.length = k then F ls n1 else .bad
theorem ev_call (tk : Takes X W) (Fk : FnOk X.prog X.w X.K X.mg X.base (L2.CX X.prog X.w) k f fd ps (spG X.K ca ps.length F)) (hr : Room k X.A) (hg : Gl X x) (hm : X.mg x = some (.ref f)) (hk : PySem.W.keepIn X.K (.ref f) = true) (hb : Binds X.K fd ps [])
    (ha : PA X (e :: es) (tGA X.K ca W gs)) {m : Nat} (hm2 : ps.length = m := by rfl) (hdb : (x == ("__debug__" : Str)) = false := by decide) (he : starEach (e :: es) X.env = (false, eval e X.env) :: starEach es X.env := by rfl) (hpl : (backTo pos (starEach es X.env)).any (·.1) = false := by rfl) :
    PE X (.Call (.Name x p) (e :: es) [] pos) (tG X.K ca W (cCall m F gs)) :=
  PE.weak (pe_callS Fk hr hg hm hk hb (fun σ => passAt tk σ) ha hdb he hpl) fun σ H Q ⟨c, ρ, n, S, h⟩ => by
    refine ⟨c, ρ, n, S, (Res.post_bind h).mono (fun ls n1 h1 vs H1 g1 r1 => ?_) (fun e m h => h)⟩
    subst hm2
    have S1 := S.ext g1
    split at h1
    · rename_i hz
      exact ⟨r1.length.trans hz, c, ls, n1, S.sub, S.tB, S1.all, S1.town, r1, h1.mono (fun d n' h v H' g r => h v H' (g1.trans g) r) (fun e m h H' g => h H' (g1.trans g))⟩
    · exact h1.elim
end
end G

namespace G
open PySem PySem.Spec PyProof.Rows L2

/-! ### statements -/
inductive Out where
  | nx (ρ : Env) (n : Nat)
  | rt (d : D) (n : Nat)
  | bk (ρ : Env) (n : Nat)
  | ct (ρ : Env) (n : Nat)
  | ex (c : String) (ρ : Env) (n : Nat)
  | bad
abbrev MS := Env → Nat → Out
/-- an expression's result, then a statement's -/
def ofR {α : Type} (r : Res α) (ρ : Env) (k : α → Nat → Out) : Out := match r with
  | .ok a n => k a n
  | .ex c n => .ex c ρ n
  | .bad => .bad
@[simp] theorem ofR_ok {α : Type} (a : α) (n : Nat) (ρ : Env) (k : α → Nat → Out) : ofR (.ok a n) ρ k = k a n := rfl
@[simp] theorem ofR_bad {α : Type} (ρ : Env) (k : α → Nat → Out) : ofR .bad ρ k = .bad := rfl
@[simp] theorem ofR_ex {α : Type} (c : String) (n : Nat) (ρ : Env) (k : α → Nat → Out) : ofR (.ex c n) ρ k = .ex c ρ n := rfl

abbrev Fm.at (c : Fm) (B : List Addr) : Fm := { c with B := B }
section
variable (K : PySem.W.Frag) (ca : String → Addr) (W : WX)
def OPost (c : Fm) (H : Hp) (o : Out) (E : Ends) : Prop := match o with
  | .nx ρ n => ∀ σ' H' B', SR K (c.at B') σ' H' ρ n → Sees c.B H B' H' → E.nx σ' H'
  | .bk ρ n => ∀ σ' H' B', SR K (c.at B') σ' H' ρ n → Sees c.B H B' H' → E.bk σ' H'
  | .ct ρ n => ∀ σ' H' B', SR K (c.at B') σ' H' ρ n → Sees c.B H B' H' → E.ct σ' H'
  | .rt d n => ∀ v H', Gx c.t c.H0 n H' → Rep K (hid c.Bo H') v d → E.rt v H'
  | .ex e ρ n => ∀ σ' H' B', SR K (c.at B') σ' H' ρ n → Sees c.B H B' H' → W (.ref (ca e)) none σ' H'
  | .bad => False
def tS (g : MS) : TS := fun E σ H => ∃ c ρ n, SR K c σ H ρ n ∧ OPost K ca W c H (g ρ n) E
end
section
variable {K : PySem.W.Frag} {ca : String → Addr} {W : WX} {c : Fm} {σ : L2.St} {H H' : Hp} {ρ : Env} {n n' : Nat} {B' : List Addr} {E : Ends}
theorem OPost.at {o : Out} (h : OPost K ca W c H o E) (s : Sees c.B H B' H') : OPost K ca W (c.at B') H' o E := by
  cases o with
  | nx ρ n => exact fun σ2 H2 B2 S2 s2 => h σ2 H2 B2 S2 (s.trans s2)
  | bk ρ n => exact fun σ2 H2 B2 S2 s2 => h σ2 H2 B2 S2 (s.trans s2)
  | ct ρ n => exact fun σ2 H2 B2 S2 s2 => h σ2 H2 B2 S2 (s.trans s2)
  | rt d n => exact h
  | ex e ρ n => exact fun σ2 H2 B2 S2 s2 => h σ2 H2 B2 S2 (s.trans s2)
  | bad => exact h
/-- out of an expression's result -/
theorem post_ofR {α : Type} {r : Res α} {k : α → Nat → Out} (S : SR K c σ H ρ n) (h : OPost K ca W c H (ofR r ρ k) E) : r.Post (fun a n' => OPost K ca W c H (k a n') E) (exK ca W c σ H) := by
  cases r with
  | ok a n => exact h
  | ex e n =>
    exact fun H' g => h σ H' c.B (S.ext g) (g.sees S.tB')
  | bad => exact h
theorem SR.move (S : SR K c σ H ρ n) (g : Gx c.t H n' H') {B' : List Addr} (hs : ∀ b ∈ c.B, b ∈ B') (ha : ∀ b ∈ B', H' b ≠ none) (se : Sees c.B H B' H') : SR K (c.at B') σ H' ρ n' := by
  refine ⟨S.len, fun b hb => hs b (S.sub b hb), S.tB, S.old, ha, S.keep.trans g.ext, g.town, fun i l e => ?_, S.dist⟩
  obtain ⟨v, h1, h2⟩ := S.slot i l e
  refine ⟨v, h1, ?_⟩
  cases l with
  | ob o => exact RO.go (B' := B') (fun _ => False) (fun b hb h0 _ => ⟨hs b hb, fun o q => g.ext _ _ q (fun e => S.old _ S.tB (e ▸ h0))⟩) (fun _ _ => id) se (show RO K c H v o from h2)
  | d x => exact Rep.mono se _ _ h2
  | own xs =>
    obtain ⟨a, vs, q1, q2, q3, q4, q5⟩ := h2
    exact ⟨a, vs, q1, hs _ q2, q3, g.ext _ _ q4 (fun e => S.old _ S.tB (e ▸ q3)), Rep.monoAll se _ _ q5⟩
  | dic kvs =>
    obtain ⟨a, vs, q1, q2, q3, q4, q6, q5⟩ := h2
    exact ⟨a, vs, q1, hs _ q2, q3, g.ext _ _ q4 (fun e => S.old _ S.tB (e ▸ q3)), q6, Rep.monoAll se _ _ q5⟩
  | dit kvs =>
    obtain ⟨a, vs, q1, q2, q3, q4, q6, q5⟩ := h2
    exact ⟨a, vs, q1, hs _ q2, q3, g.ext _ _ q4 (fun e => S.old _ S.tB (e ▸ q3)), q6, Rep.monoAll se _ _ q5⟩
  | frk kvs =>
    obtain ⟨a1, o1, ws1, z1, z2, z3, z4⟩ := h2
    exact ⟨a1, o1, ws1, z1, se _ _ z2, z3, Rep.monoAll se _ _ z4⟩
  | town => exact h2
  | scr ns =>
    obtain ⟨a, q1, q2⟩ := h2
    exact ⟨a, q1, sqL_mono se q2⟩
/-- a new object becomes the frame's own -/
theorem SR.adopt (S : SR K c σ H ρ n) (g : Gx c.t H n' H') {a : Addr} (hn : H a = none) (hs : H' a ≠ none) : SR K (c.at (a :: c.B)) σ H' ρ n' ∧ Sees c.B H (a :: c.B) H' := by
  have se : Sees c.B H (a :: c.B) H' := fun b o h => by
    obtain ⟨h1, h2⟩ := hid_some h
    refine hid_of (fun z => ?_) (hid_some (g.sees S.tB' b o h)).2
    rcases List.mem_cons.mp z with z | z
    · rw [z, hn] at h2; cases h2
    · exact h1 z
  refine ⟨S.move g (fun b hb => List.mem_cons_of_mem _ hb) (fun b hb => ?_) se, se⟩
  rcases List.mem_cons.mp hb with z | z
  · rw [z]; exact hs
  · exact (S.ext g).all b z
theorem Rep.adopt {a : Addr} {v : V} {d : D} (se : Sees c.B H B' H') (h : Rep K (hid c.B H) v d) : Rep K (hid B' H') v d := Rep.mono se _ _ h
/-- an own object is changed -/
theorem SR.put (S : SR K c σ H ρ n) {i : Nat} {l l' : L} {a : Addr} {o : HO} (hi : ρ[i]? = some (some l)) (ho : isOwn l = true) (ho' : isOwn l' = true) (hv : σ[i]? = some (some (.ref a))) (ha : a ∈ c.B) (h0 : c.H0 a = none)
    (r : RL K c (upd H a o) (.ref a) l') : SR K c σ (upd H a o) (ρ.set i (some l')) n ∧ Sees c.B H c.B (upd H a o) := by
  have se : Sees c.B H c.B (upd H a o) := fun b u h => by
    obtain ⟨h1, h2⟩ := hid_some h
    refine hid_of h1 ?_
    have ne : b ≠ a := fun z => h1 (by rw [z]; exact ha)
    rw [upd_ne ne]
    exact h2
  have hlt : i < ρ.length := (List.getElem?_eq_some_iff.mp hi).1
  have nt : c.t ≠ a := fun z => S.old _ S.tB (z ▸ h0)
  refine ⟨⟨by simp [S.len], S.sub, S.tB, S.old, fun b hb => ?_, fun b u h ne => ?_, by rw [upd_ne nt]; exact S.town, fun j l1 e => ?_, fun j k l1 l2 b hjk e1 e2 o1 o2 s1 s2 => ?_⟩, se⟩
  · by_cases e : b = a
    · subst e; rw [upd_same]; simp
    · rw [upd_ne e]; exact S.all b hb
  · rw [upd_ne (fun z => by rw [z, h0] at h; cases h)]
    exact S.keep b u h ne
  · by_cases hj : i = j
    · subst hj
      rw [List.getElem?_set_self hlt] at e
      cases e
      exact ⟨_, hv, r⟩
    · rw [List.getElem?_set_ne hj] at e
      obtain ⟨v, h1, h2⟩ := S.slot j l1 e
      refine ⟨v, h1, ?_⟩
      have nea : isOwn l1 = true → ∀ b, v = .ref b → b ≠ a := fun q b z z2 => by
        subst z2
        exact S.dist j i l1 l b (Ne.symm hj) e hi q ho (by rw [h1, z]) hv
      cases l1 with
      | ob o => exact RO.go (B' := c.B) (· = a) (fun b hb h0 nb => ⟨hb, fun o q => by rw [upd_ne nb]; exact q⟩) (nea rfl) se (show RO K c H v o from h2)
      | d x => exact Rep.mono se _ _ h2
      | own xs =>
        obtain ⟨b, vs, q1, q2, q3, q4, q5⟩ := h2
        exact ⟨b, vs, q1, q2, q3, by rw [upd_ne (nea rfl b q1)]; exact q4, Rep.monoAll se _ _ q5⟩
      | dic kvs =>
        obtain ⟨b, vs, q1, q2, q3, q4, q6, q5⟩ := h2
        exact ⟨b, vs, q1, q2, q3, by rw [upd_ne (nea rfl b q1)]; exact q4, q6, Rep.monoAll se _ _ q5⟩
      | dit kvs =>
        obtain ⟨b, vs, q1, q2, q3, q4, q6, q5⟩ := h2
        exact ⟨b, vs, q1, q2, q3, by rw [upd_ne (nea rfl b q1)]; exact q4, q6, Rep.monoAll se _ _ q5⟩
      | frk kvs =>
        obtain ⟨a1, o1, ws1, z1, z2, z3, z4⟩ := h2
        exact ⟨a1, o1, ws1, z1, se _ _ z2, z3, Rep.monoAll se _ _ z4⟩
      | town => exact h2
      | scr ns =>
        obtain ⟨b, q1, q2⟩ := h2
        exact ⟨b, q1, sqL_mono se q2⟩
  · have aux : ∀ (j : Nat) (l1 : L), (ρ.set i (some l'))[j]? = some (some l1) → isOwn l1 = true → ∃ l2, ρ[j]? = some (some l2) ∧ isOwn l2 = true := fun j l1 e o => by
      by_cases hj : i = j
      · subst hj; exact ⟨l, hi, ho⟩
      · rw [List.getElem?_set_ne hj] at e; exact ⟨l1, e, o⟩
    obtain ⟨m1, f1, p1⟩ := aux _ _ e1 o1
    obtain ⟨m2, f2, p2⟩ := aux _ _ e2 o2
    exact S.dist j k m1 m2 b hjk f1 f2 p1 p2 s1 s2
/-- the town grows -/
theorem SR.grow (S : SR K c σ H ρ n) : Gx c.t H (n + 1) (upd H c.t (zer (n + 1))) := ⟨fun b o h ne => by rw [upd_ne ne]; exact h, upd_same⟩
end

/-! ### the rules -/
def sNx : MS := fun ρ n => .nx ρ n
def sSeq (f g : MS) : MS := fun ρ n => match f ρ n with
  | .nx ρ1 n1 => g ρ1 n1
  | o => o
def sDrop (g : M D) : MS := fun ρ n => ofR (g ρ n) ρ fun _ n1 => .nx ρ n1
def sRet (g : M D) : MS := fun ρ n => ofR (g ρ n) ρ fun d n1 => .rt d n1
def sRetN : MS := fun _ n => .rt .none n
def sSet (i : Nat) (g : M D) : MS := fun ρ n => ofR (g ρ n) ρ fun d n1 => if i < ρ.length then .nx (ρ.set i (some (.d d))) n1 else .bad
def sOwn (i : Nat) (g : M (List D)) : MS := fun ρ n => ofR (g ρ n) ρ fun ds n1 => if i < ρ.length then .nx (ρ.set i (some (.own ds))) n1 else .bad
def sIf (f : M Bool) (g h : MS) : MS := fun ρ n => ofR (f ρ n) ρ fun k n1 => if k = true then g ρ n1 else h ρ n1
def sBk : MS := fun ρ n => .bk ρ n
def sCt : MS := fun ρ n => .ct ρ n
def sBad : MS := fun _ _ => .bad
def sApp (i : Nat) (g : M D) : MS := fun ρ n => match ρ[i]? with
  | some (some (.own xs)) => ofR (g ρ n) ρ fun d n1 => if xs.length < sizeLine then .nx (ρ.set i (some (.own (xs ++ [d])))) n1 else .bad
  | _ => .bad
def sTown (i : Nat) : MS := fun ρ n => match ρ[i]? with
  | some (some .town) => if n < sizeLine then .nx ρ (n + 1) else .bad
  | _ => .bad
def sExt (i : Nat) (g : M D) : MS := fun ρ n => match ρ[i]? with
  | some (some (.own xs)) => ofR (g ρ n) ρ fun d n1 => match d with
    | .list ys => if xs.length + ys.length ≤ sizeLine then .nx (ρ.set i (some (.own (xs ++ ys)))) n1 else .bad
    | _ => .bad
  | _ => .bad
def sPut (i : Nat) (gi g : M D) : MS := fun ρ n => match ρ[i]? with
  | some (some (.own xs)) => ofR (g ρ n) ρ fun d n1 => ofR (gi ρ n1) ρ fun z n2 => match z with
    | .int k => match ixN xs.length k with
      | some j => .nx (ρ.set i (some (.own (xs.set j d)))) n2
      | none => .bad
    | _ => .bad
  | _ => .bad
def sPop (i : Nat) : MS := fun ρ n => match ρ[i]? with
  | some (some (.own xs)) => if xs = [] then .bad else .nx (ρ.set i (some (.own xs.dropLast))) n
  | _ => .bad

section
variable {X : Cx} {ca : String → Addr} {W : WX} {a b e : Expr} {st : Stmt} {rest sts : List Stmt} {ga gb g : M D} {f h : MS} {pos : Pos}
theorem ss_nil : PSs X [] (tS X.K ca W sNx) := PSs.weak pss_nil fun E σ H ⟨c, ρ, n, S, h⟩ => h σ H c.B S Sees.refl
theorem ss_cons (h1 : PS X st (tS X.K ca W f)) (h2 : PSs X rest (tS X.K ca W h)) : PSs X (st :: rest) (tS X.K ca W (sSeq f h)) :=
  PSs.weak (pss_cons h1 h2) fun E σ H ⟨c, ρ, n, S, h⟩ => by
    refine ⟨c, ρ, n, S, ?_⟩
    unfold sSeq at h
    cases q : f ρ n with
    | nx ρ1 n1 =>
      rw [q] at h
      exact fun σ' H' B' S' s => ⟨c.at B', ρ1, n1, S', h.at s⟩
    | _ => rw [q] at h; exact h
theorem ss_one (h1 : PS X st (tS X.K ca W f)) : PSs X [st] (tS X.K ca W f) := pss_one h1
theorem es_pass : PS X (.Pass pos) (tS X.K ca W sNx) := PS.weak ps_pass fun E σ H ⟨c, ρ, n, S, h⟩ => h σ H c.B S Sees.refl
theorem es_break : PS X (.Break pos) (tS X.K ca W sBk) := PS.weak ps_break fun E σ H ⟨c, ρ, n, S, h⟩ => h σ H c.B S Sees.refl
theorem es_continue : PS X (.Continue pos) (tS X.K ca W sCt) := PS.weak ps_continue fun E σ H ⟨c, ρ, n, S, h⟩ => h σ H c.B S Sees.refl
theorem es_never : PS X st (tS X.K ca W sBad) := PS.weak ps_never fun E σ H ⟨c, ρ, n, S, h⟩ => h
theorem es_doc {x : Str} {j : Nat} {p2 : Pos} : PS X (.Expr (.Constant (.str x) j p2) pos) (tS X.K ca W sNx) := PS.weak ps_doc fun E σ H ⟨c, ρ, n, S, h⟩ => h σ H c.B S Sees.refl
theorem es_drop (he : PE X e (tG X.K ca W g)) (hs : swapsWith e none pos.line X.env = pure false := by rfl) : PS X (.Expr e pos) (tS X.K ca W (sDrop g)) :=
  PS.weak (ps_expr he hs) fun E σ H ⟨c, ρ, n, S, h⟩ => ⟨c, ρ, n, S, (post_ofR S h).mono (fun d n1 h1 v H1 g1 r1 => h1 σ H1 c.B (S.ext g1) (g1.sees S.tB')) (fun e m h => h)⟩
theorem es_ret (he : PE X e (tG X.K ca W g)) : PS X (.Return (some e) pos) (tS X.K ca W (sRet g)) :=
  PS.weak (ps_ret he) fun E σ H ⟨c, ρ, n, S, h⟩ => ⟨c, ρ, n, S, (post_ofR S h).mono (fun d n1 h1 v H1 g1 r1 => h1 v H1 ⟨S.keep.trans g1.ext, g1.town⟩ (Rep.mono (fun a o q => by
    obtain ⟨q1, q2⟩ := hid_some q
    exact hid_of (fun z => q1 (S.sub a z)) q2) _ _ r1)) (fun e m h => h)⟩
theorem es_retN : PS X (.Return none pos) (tS X.K ca W sRetN) :=
  PS.weak ps_retN fun E σ H ⟨c, ρ, n, S, h⟩ => h .non H ⟨S.keep, S.town⟩ .non
theorem es_set {i : Nat} {x : Str} {pos' : Pos} (hN : X.N.Nodup) (hi : X.N[i]? = some x) (hx : Loc X.env.scope x) (he : PE X e (tG X.K ca W g)) (hs : swapsWith e (some (.Name x pos')) pos.line X.env = pure false := by rfl) (hf : X.fn x = true ∨ X.env.scope.names.lookup x = some .local := by first | exact .inl rfl | exact .inr rfl | assumption) :
    PS X (.Assign [.Name x pos'] e pos) (tS X.K ca W (sSet i g)) :=
  PS.weak (ps_set hN hi hx he hs hf) fun E σ H ⟨c, ρ, n, S, h⟩ => ⟨c, ρ, n, S, (post_ofR S h).mono (fun d n1 h1 v H1 g1 r1 => by
    split at h1
    · rename_i hlt
      exact h1 _ H1 c.B ((S.ext g1).set_d hlt r1) (g1.sees S.tB')
    · exact h1.elim) (fun e m h => h)⟩
theorem own_post {i : Nat} {c : Fm} {σ : L2.St} {H H1 : Hp} {ρ : Env} {n n1 : Nat} {K : PySem.W.Frag} {ds : List D} {E : Ends} {a : Addr} {vs : List V} (S : SR K c σ H ρ n)
    (h1 : OPost K ca W c H (if i < ρ.length then .nx (ρ.set i (some (.own ds))) n1 else .bad) E) (g1 : Gx c.t H n1 H1) (hn : H a = none) (hv : H1 a = some (.lst vs)) (r1 : RepAll K (hid (a :: c.B) H1) vs ds) : E.nx (σ.set i (some (.ref a))) H1 := by
  split at h1
  · rename_i hlt
    obtain ⟨S1, se⟩ := S.adopt g1 hn (by rw [hv]; simp)
    have h0 : c.H0 a = none := by
      cases q : c.H0 a with
      | none => rfl
      | some o =>
        have z : a ≠ c.t := fun z => by rw [z, S.town] at hn; cases hn
        rw [S.keep a o q z] at hn
        cases hn
    exact h1 _ H1 (a :: c.B) (S1.set_ix hlt ⟨a, vs, rfl, List.mem_cons_self, h0, hv, r1⟩ fun _ j l' b hj ej oj sj z => by
      cases z
      obtain ⟨v, q1, q2⟩ := S.slot j l' ej
      rw [sj] at q1
      cases q1
      cases l' with
      | own xs => obtain ⟨b, _, z, _, _, z4, _⟩ := q2; cases z; rw [hn] at z4; cases z4
      | dic xs => obtain ⟨b, _, z, _, _, z4, _⟩ := q2; cases z; rw [hn] at z4; cases z4
      | dit xs => obtain ⟨b, _, z, _, _, z4, _⟩ := q2; cases z; rw [hn] at z4; cases z4
      | ob o => exact RO.nn (show RO K c H (.ref a) o from q2) hn
      | _ => cases oj) se
  · exact h1.elim
end
end G

namespace G
open PySem PySem.Spec PyProof.Rows L2

/-! ### data without lists -/
mutual
def noList : D → Bool
  | .none => true
  | .bool _ => true
  | .int _ => true
  | .str _ => true
  | .list _ => false
  | .tuple xs => noListA xs
  | .dict _ => false
def noListA : List D → Bool
  | [] => true
  | x :: xs => noList x && noListA xs
end
/-- such data are seen whatever lists are banned -/
def TupSees (H H' : Hp) : Prop := ∀ a, (∀ xs, H a = some (.tup xs) → H' a = some (.tup xs)) ∧ ∀ o xs, H a = some (.frz o (.tup xs)) → H' a = some (.frz o (.tup xs))
theorem sqT_tup {K : PySem.W.Frag} {H H' : Hp} {a : Addr} {xs : List V} (e : TupSees H H') (h : PlT K H a xs) : PlT K H' a xs := by
  rcases h with ⟨o, h, z⟩ | h
  · exact .inl ⟨o, (e a).2 _ _ h, z⟩
  · exact .inr h
section
variable {K : PySem.W.Frag} {H H' : Hp}
mutual
theorem Rep.noList (e : TupSees H H') : ∀ (d : D) (v : V), G.noList d = true → Rep K H v d → Rep K H' v d
  | .none, _, _, h => by cases h; exact .non
  | .bool b, _, _, h => by cases h; exact .bl b
  | .int i, _, _, h => by cases h; exact .int i
  | .str x, _, _, h => by cases h; exact .str x
  | .list ds, _, z, h => by simp [G.noList] at z
  | .tuple ds, _, z, h => by
    cases h with
    | tup h1 h2 => exact .tup (sqT_tup e h1) (Rep.noListA e ds _ (by simpa [G.noList] using z) h2)
  | .dict _, _, z, h => by cases h
theorem Rep.noListA (e : TupSees H H') : ∀ (ds : List D) (vs : List V), G.noListA ds = true → RepAll K H vs ds → RepAll K H' vs ds
  | [], _, _, h => by cases h; exact .nil
  | d :: ds, _, z, h => by
    cases h with
    | cons h1 h2 =>
      have z' : G.noList d = true ∧ G.noListA ds = true := by simpa [G.noListA] using z
      exact .cons (Rep.noList e d _ z'.1 h1) (Rep.noListA e ds _ z'.2 h2)
end
end
theorem tupSees_hid {B B' : List Addr} {a : Addr} {H : Hp} {vs : List V} (ha : H a = some (.lst vs)) (h : ∀ b, b ≠ a → b ∉ B' → b ∉ B) : TupSees (hid B' H) (hid B H) := fun b => by
  refine ⟨fun xs q => ?_, fun o xs q => ?_⟩
  · obtain ⟨q1, q2⟩ := hid_some q
    exact hid_of (h b (fun z => by rw [z, ha] at q2; cases q2) q1) q2
  · obtain ⟨q1, q2⟩ := hid_some q
    exact hid_of (h b (fun z => by rw [z, ha] at q2; cases q2) q1) q2

/-! ### an own list lent, given away -/
def lend (B : List Addr) (a : Addr) : List Addr := B.filter fun b => decide (b ≠ a)
theorem mem_lend {B : List Addr} {a b : Addr} : b ∈ lend B a ↔ b ∈ B ∧ b ≠ a := by simp [lend]
section
variable {K : PySem.W.Frag} {ca : String → Addr} {W : WX} {c : Fm} {σ : L2.St} {H H' : Hp} {ρ : Env} {n n' : Nat}
theorem SR.lend (S : SR K c σ H ρ n) {i : Nat} {xs : List D} (hi : ρ[i]? = some (some (.own xs))) :
    ∃ a vs, a ∈ c.B ∧ c.H0 a = none ∧ H a = some (.lst vs) ∧ SR K (c.at (G.lend c.B a)) σ H (ρ.set i (some (.d (.list xs)))) n ∧ Sees c.B H (G.lend c.B a) H := by
  obtain ⟨v, hv, a, vs, rfl, ha, h0, hl, hr⟩ := S.slot i _ hi
  have se : Sees c.B H (G.lend c.B a) H := fun b o q => by
    obtain ⟨q1, q2⟩ := hid_some q
    exact hid_of (fun z => q1 (mem_lend.mp z).1) q2
  have hlt : i < ρ.length := (List.getElem?_eq_some_iff.mp hi).1
  refine ⟨a, vs, ha, h0, hl, ⟨by simp [S.len], fun b hb => mem_lend.mpr ⟨S.sub b hb, fun z => S.old b hb (z ▸ h0)⟩, S.tB, S.old, fun b hb => S.all b (mem_lend.mp hb).1, S.keep, S.town, fun j l e => ?_, fun j k l1 l2 b hjk e1 e2 o1 o2 s1 s2 => ?_⟩, se⟩
  · by_cases hj : i = j
    · subst hj
      rw [List.getElem?_set_self hlt] at e
      cases e
      refine ⟨_, hv, Rep.lst (hid_of (fun z => (mem_lend.mp z).2 rfl) hl) (Rep.monoAll se _ _ hr)⟩
    · rw [List.getElem?_set_ne hj] at e
      obtain ⟨v, q1, q2⟩ := S.slot j l e
      refine ⟨v, q1, ?_⟩
      have ne : ∀ b, isOwn l = true → v = .ref b → b ≠ a := fun b o z z2 => by
        subst z2
        exact S.dist j i l _ b (Ne.symm hj) e hi o rfl (by rw [q1, z]) hv
      cases l with
      | ob o => exact RO.go (B' := G.lend c.B a) (· = a) (fun b hb h0 nb => ⟨mem_lend.mpr ⟨hb, nb⟩, fun o q => q⟩) (ne · rfl) se (show RO K c H v o from q2)
      | d x => exact Rep.mono se _ _ q2
      | own ys =>
        obtain ⟨b, ws, z, z2, z3, z4, z5⟩ := q2
        exact ⟨b, ws, z, mem_lend.mpr ⟨z2, ne b rfl z⟩, z3, z4, Rep.monoAll se _ _ z5⟩
      | dic ys =>
        obtain ⟨b, ws, z, z2, z3, z4, z6, z5⟩ := q2
        exact ⟨b, ws, z, mem_lend.mpr ⟨z2, ne b rfl z⟩, z3, z4, z6, Rep.monoAll se _ _ z5⟩
      | dit ys =>
        obtain ⟨b, ws, z, z2, z3, z4, z6, z5⟩ := q2
        exact ⟨b, ws, z, mem_lend.mpr ⟨z2, ne b rfl z⟩, z3, z4, z6, Rep.monoAll se _ _ z5⟩
      | frk kvs =>
        obtain ⟨a1, o1, ws1, z1, z2, z3, z4⟩ := q2
        exact ⟨a1, o1, ws1, z1, se _ _ z2, z3, Rep.monoAll se _ _ z4⟩
      | town => exact q2
      | scr ns =>
        obtain ⟨b, z1, z2⟩ := q2
        exact ⟨b, z1, sqL_mono se z2⟩
  · have aux : ∀ (j : Nat) (l1 : L), (ρ.set i (some (.d (.list xs))))[j]? = some (some l1) → isOwn l1 = true → ρ[j]? = some (some l1) := fun j l1 e o => by
      by_cases hj : i = j
      · subst hj; rw [List.getElem?_set_self hlt] at e; cases e; cases o
      · rw [List.getElem?_set_ne hj] at e; exact e
    exact S.dist j k l1 l2 b hjk (aux _ _ e1 o1) (aux _ _ e2 o2) o1 o2 s1 s2
def bor {α : Type} (i : Nat) (g : M α) (k : α → Bool) : M α := fun ρ n => match ρ[i]? with
  | some (some (.own xs)) => (g (ρ.set i (some (.d (.list xs)))) n).bind fun d n1 => if k d = true then .ok d n1 else .bad
  | _ => .bad
def borrow (i : Nat) (g : M D) : M D := bor i g noList
def borrowF (i : Nat) (g : M (List D)) : M (List D) := bor i g noListA
def borrowT (i : Nat) (g : M Bool) : M Bool := bor i g fun _ => true
theorem bor_post {α : Type} {i : Nat} {g : M α} {k : α → Bool} {P : α → Nat → Prop} {E : String → Nat → Prop} (h : (bor i g k ρ n).Post P E) :
    ∃ xs, ρ[i]? = some (some (.own xs)) ∧ (g (ρ.set i (some (.d (.list xs)))) n).Post (fun d n' => k d = true ∧ P d n') E := by
  unfold bor at h
  split at h
  · rename_i xs q
    refine ⟨xs, q, (Res.post_bind h).mono (fun d n1 h1 => ?_) (fun e m h => h)⟩
    split at h1
    · exact ⟨by assumption, h1⟩
    · exact h1.elim
  · exact h.elim
end
section
variable {X : Cx} {ca : String → Addr} {W : WX} {a b e : Expr} {st : Stmt} {sts : List Stmt} {ga gb g : M D} {gf : M (List D)} {f h : MS} {pos : Pos}
theorem ev_borrow (i : Nat) (he : PE X e (tG X.K ca W g)) : PE X e (tG X.K ca W (borrow i g)) :=
  PE.weak he fun σ H Q ⟨c, ρ, n, S, h⟩ => by
    obtain ⟨xs, hi, h⟩ := bor_post h
    obtain ⟨a, vs, ha, h0, hl, S', se⟩ := S.lend hi
    refine ⟨_, _, n, S', h.mono (fun d n1 ⟨hk, h1⟩ v H1 g1 r1 => h1 v H1 g1 ?_) (fun e m h => h)⟩
    have hl1 : H1 a = some (.lst vs) := g1.ext a _ hl fun z => S.old _ S.tB (z ▸ h0)
    exact Rep.noList (tupSees_hid hl1 fun b nb hb z => hb (mem_lend.mpr ⟨z, nb⟩)) _ _ hk r1
theorem et_borrow (i : Nat) {g : M Bool} (he : PT X e (tGT X.K ca W g)) : PT X e (tGT X.K ca W (borrowT i g)) :=
  PT.weak he fun σ H Q ⟨c, ρ, n, S, h⟩ => by
    obtain ⟨xs, hi, h⟩ := bor_post h
    obtain ⟨a, vs, ha, h0, hl, S', se⟩ := S.lend hi
    exact ⟨_, _, n, S', h.mono (fun d n1 ⟨hk, h1⟩ H1 g1 => h1 H1 g1) (fun e m h => h)⟩
theorem ef_borrow (i : Nat) (he : PE X e (tGF X.K ca W gf)) : PE X e (tGF X.K ca W (borrowF i gf)) :=
  PE.weak he fun σ H Q ⟨c, ρ, n, S, h⟩ => by
    obtain ⟨xs, hi, h⟩ := bor_post h
    obtain ⟨a, vs, ha, h0, hl, S', se⟩ := S.lend hi
    refine ⟨_, _, n, S', h.mono (fun d n1 ⟨hk, h1⟩ p ws H1 g1 hp hw r1 => h1 p ws H1 g1 hp hw ?_) (fun e m h => h)⟩
    have hl1 : H1 a = some (.lst vs) := g1.ext a _ hl fun z => S.old _ S.tB (z ▸ h0)
    refine Rep.noListA (tupSees_hid hl1 fun b nb hb z => ?_) _ _ hk r1
    rcases List.mem_cons.mp z with z | z
    · exact hb (List.mem_cons.mpr (.inl z))
    · exact hb (List.mem_cons_of_mem _ (mem_lend.mpr ⟨z, nb⟩))
/-- from here on slot i's list is data -/
def sRel (i : Nat) (f : MS) : MS := fun ρ n => match ρ[i]? with
  | some (some (.own xs)) => f (ρ.set i (some (.d (.list xs)))) n
  | some (some (.d x)) => f ρ n
  | _ => .bad
theorem rel_weak {K : PySem.W.Frag} {i : Nat} {f : MS} {E : Ends} {σ : L2.St} {H : Hp} (h : tS K ca W (sRel i f) E σ H) : tS K ca W f E σ H := by
  obtain ⟨c, ρ, n, S, h⟩ := h
  unfold sRel at h
  split at h
  · rename_i xs hi
    obtain ⟨a, vs, ha, h0, hl, S', se⟩ := S.lend hi
    exact ⟨_, _, n, S', h.at se⟩
  · exact ⟨c, ρ, n, S, h⟩
  · exact h.elim
theorem ss_rel (i : Nat) (hs : PSs X sts (tS X.K ca W f)) : PSs X sts (tS X.K ca W (sRel i f)) := PSs.weak hs fun _ _ _ h => rel_weak h
theorem es_rel (i : Nat) (hs : PS X st (tS X.K ca W f)) : PS X st (tS X.K ca W (sRel i f)) := PS.weak hs fun _ _ _ h => rel_weak h

/-! ### own lists -/
theorem es_own {i : Nat} {x : Str} {pos' : Pos} (hN : X.N.Nodup) (hi : X.N[i]? = some x) (hx : Loc X.env.scope x) (he : PE X e (tGF X.K ca W gf)) (hs : swapsWith e (some (.Name x pos')) pos.line X.env = pure false := by rfl) (hf : X.fn x = true ∨ X.env.scope.names.lookup x = some .local := by first | exact .inl rfl | exact .inr rfl | assumption) :
    PS X (.Assign [.Name x pos'] e pos) (tS X.K ca W (sOwn i gf)) :=
  PS.weak (ps_set hN hi hx he hs hf) fun E σ H ⟨c, ρ, n, S, h⟩ => ⟨c, ρ, n, S, (post_ofR S h).mono (fun ds n1 h1 a vs H1 g1 hn hv r1 => own_post S h1 g1 hn hv r1) (fun e m h => h)⟩
abbrev tMut (i : Nat) (r : V → List V → Hp → VK → Prop) (K : PySem.W.Frag) (t : TA) : TE := tBM K "list" r (tVar i) t
theorem es_app {i : Nat} {x : Str} {p1 apos cpos : Pos} (he : PE X e (tG X.K ca W g)) (hN : X.N[i]? = some x := by rfl) (hv : Vis X.env.scope x := by first | exact Or.inl rfl | exact Or.inr (Or.inl rfl) | exact Or.inr (Or.inr rfl)) (hd : (x == ("__debug__" : Str)) = false := by decide)
    (hcd : (x == ("__classdict__" : Str)) = false := by decide)
    (hfew : ((backTo cpos (starEach [e] X.env)).all (fun x => !x.1) && (backToKw cpos (keywordEach [] X.env)).all (fun x => x.1.isSome)
      && decide ([e].length + ([] : List Keyword).length + (if ([] : List Keyword).isEmpty then 0 else 1) < 30)) = true := by rfl)
    (hline : (apos.endLine == cpos.line) = true := by rfl) (hs : starEach [e] X.env = (false, eval e X.env) :: starEach [] X.env := by rfl) (hplain : (backTo cpos (starEach [] X.env)).any (·.1) = false := by rfl)
    (hbase : attributeBase (.Name x p1) "append" X.env (eval (.Name x p1) X.env) = eval (.Name x p1) X.env := by rfl)
    (hsw : swapsWith (.Call (.Attribute (.Name x p1) "append" apos) [e] [] cpos) none pos.line X.env = pure false := by rfl) :
    PS X (.Expr (.Call (.Attribute (.Name x p1) "append" apos) [e] [] cpos) pos) (tS X.K ca W (sApp i g)) :=
  PS.weak (ps_expr (pe_bm PySem.F.plainAttrs_list PySem.F.slot_list_append PySem.F.type_list_append mt_append (pe_var hN hv hd hcd) (pa_cons he pa_nil hs) hbase hfew hline hs hplain) hsw) fun E σ H ⟨c, ρ, n, S, h⟩ => by
    unfold sApp at h
    split at h
    · rename_i xs q
      obtain ⟨v, hσ, a, vs, rfl, ha, h0, hl, hr⟩ := S.slot i _ q
      refine ⟨_, hσ, .inl ⟨rfl, _, .inl (.inl hl)⟩, c, ρ, n, S, (post_ofR S h).mono (fun d n1 h1 w H1 g1 r1 => ?_) (fun e m h => h)⟩
      have S1 := S.ext g1
      have hl1 : H1 a = some (.lst vs) := g1.ext a _ hl fun z => S.old _ S.tB (z ▸ h0)
      split at h1
      · rename_i hz
        have hr1 := Rep.monoAll (g1.sees S.tB') _ _ hr
        refine ⟨a, vs, w, rfl, rfl, hl1, by rw [hr.length]; exact hz, ?_⟩
        have se : ∀ b o, hid c.B H1 b = some o → hid c.B (upd H1 a (.lst (vs ++ [w]))) b = some o := fun b o z => by
          obtain ⟨z1, z2⟩ := hid_some z
          have ne : b ≠ a := fun z => z1 (by rw [z]; exact ha)
          exact hid_of z1 (by rw [upd_ne ne]; exact z2)
        obtain ⟨S2, s2⟩ := S1.put (l' := .own (xs ++ [d])) (o := .lst (vs ++ [w])) q rfl rfl hσ ha h0 ⟨a, vs ++ [w], rfl, ha, h0, upd_same, (Rep.monoAll se _ _ hr1).append (.cons (Rep.mono se _ _ r1) .nil)⟩
        exact h1 σ _ c.B S2 ((g1.sees S.tB').trans s2)
      · exact h1.elim
    · exact h.elim
theorem es_town {i : Nat} {x : Str} {j : Nat} {p0 p1 apos cpos : Pos} (hN : X.N[i]? = some x := by rfl) (hv : Vis X.env.scope x := by first | exact Or.inl rfl | exact Or.inr (Or.inl rfl) | exact Or.inr (Or.inr rfl)) (hd : (x == ("__debug__" : Str)) = false := by decide)
    (hcd : (x == ("__classdict__" : Str)) = false := by decide)
    (hfew : ((backTo cpos (starEach [(.Constant (.int 0) j p0 : Expr)] X.env)).all (fun x => !x.1) && (backToKw cpos (keywordEach [] X.env)).all (fun x => x.1.isSome)
      && decide ([(.Constant (.int 0) j p0 : Expr)].length + ([] : List Keyword).length + (if ([] : List Keyword).isEmpty then 0 else 1) < 30)) = true := by rfl)
    (hline : (apos.endLine == cpos.line) = true := by rfl) (hs : starEach [(.Constant (.int 0) j p0 : Expr)] X.env = (false, eval (.Constant (.int 0) j p0) X.env) :: starEach [] X.env := by rfl) (hplain : (backTo cpos (starEach [] X.env)).any (·.1) = false := by rfl)
    (hbase : attributeBase (.Name x p1) "append" X.env (eval (.Name x p1) X.env) = eval (.Name x p1) X.env := by rfl)
    (hsw : swapsWith (.Call (.Attribute (.Name x p1) "append" apos) [(.Constant (.int 0) j p0 : Expr)] [] cpos) none pos.line X.env = pure false := by rfl) :
    PS X (.Expr (.Call (.Attribute (.Name x p1) "append" apos) [(.Constant (.int 0) j p0 : Expr)] [] cpos) pos) (tS X.K ca W (sTown i)) :=
  PS.weak (ps_expr (pe_bm PySem.F.plainAttrs_list PySem.F.slot_list_append PySem.F.type_list_append mt_append (pe_var hN hv hd hcd) (pa_cons pe_int pa_nil hs) hbase hfew hline hs hplain) hsw) fun E σ H ⟨c, ρ, n, S, h⟩ => by
    unfold sTown at h
    split at h
    · rename_i q
      obtain ⟨v, hσ, rfl⟩ := S.slot i _ q
      split at h
      · rename_i hz
        refine ⟨_, hσ, .inl ⟨rfl, _, .inl (.inl S.town)⟩, c.t, _, .int 0, rfl, rfl, S.town, by rw [List.length_replicate]; exact hz, ?_⟩
        have e : List.replicate n (V.int 0) ++ [V.int 0] = List.replicate (n + 1) (V.int 0) := List.replicate_succ'.symm
        rw [e]
        have g := S.grow
        exact h σ _ c.B (S.ext g) (g.sees S.tB')
      · exact h.elim
    · exact h.elim
theorem es_ext {i : Nat} {x : Str} {p1 apos cpos : Pos} (he : PE X e (tG X.K ca W g)) (hN : X.N[i]? = some x := by rfl) (hv : Vis X.env.scope x := by first | exact Or.inl rfl | exact Or.inr (Or.inl rfl) | exact Or.inr (Or.inr rfl)) (hd : (x == ("__debug__" : Str)) = false := by decide)
    (hcd : (x == ("__classdict__" : Str)) = false := by decide)
    (hfew : ((backTo cpos (starEach [e] X.env)).all (fun x => !x.1) && (backToKw cpos (keywordEach [] X.env)).all (fun x => x.1.isSome)
      && decide ([e].length + ([] : List Keyword).length + (if ([] : List Keyword).isEmpty then 0 else 1) < 30)) = true := by rfl)
    (hline : (apos.endLine == cpos.line) = true := by rfl) (hs : starEach [e] X.env = (false, eval e X.env) :: starEach [] X.env := by rfl) (hplain : (backTo cpos (starEach [] X.env)).any (·.1) = false := by rfl)
    (hbase : attributeBase (.Name x p1) "extend" X.env (eval (.Name x p1) X.env) = eval (.Name x p1) X.env := by rfl)
    (hsw : swapsWith (.Call (.Attribute (.Name x p1) "extend" apos) [e] [] cpos) none pos.line X.env = pure false := by rfl) :
    PS X (.Expr (.Call (.Attribute (.Name x p1) "extend" apos) [e] [] cpos) pos) (tS X.K ca W (sExt i g)) :=
  PS.weak (ps_expr (pe_bm PySem.F.plainAttrs_list PySem.F.slot_list_extend PySem.F.type_list_extend mt_extend (pe_var hN hv hd hcd) (pa_cons he pa_nil hs) hbase hfew hline hs hplain) hsw) fun E σ H ⟨c, ρ, n, S, h⟩ => by
    unfold sExt at h
    split at h
    · rename_i xs q
      obtain ⟨v, hσ, a, vs, rfl, ha, h0, hl, hr⟩ := S.slot i _ q
      refine ⟨_, hσ, .inl ⟨rfl, _, .inl (.inl hl)⟩, c, ρ, n, S, (post_ofR S h).mono (fun d n1 h1 w H1 g1 r1 => ?_) (fun e m h => h)⟩
      have S1 := S.ext g1
      have hl1 : H1 a = some (.lst vs) := g1.ext a _ hl fun z => S.old _ S.tB (z ▸ h0)
      split at h1
      · rename_i ys
        split at h1
        · rename_i hz
          cases r1 with
          | @lst b ws _ k1 k2 =>
            have hr1 := Rep.monoAll (g1.sees S.tB') _ _ hr
            refine ⟨a, b, vs, ws, rfl, rfl, hl1, hid_sub k1, by rw [hr.length, k2.length]; exact hz, ?_⟩
            have se : ∀ b o, hid c.B H1 b = some o → hid c.B (upd H1 a (.lst (vs ++ ws))) b = some o := fun b o z => by
              obtain ⟨z1, z2⟩ := hid_some z
              have ne : b ≠ a := fun z => z1 (by rw [z]; exact ha)
              exact hid_of z1 (by rw [upd_ne ne]; exact z2)
            obtain ⟨S2, s2⟩ := S1.put (l' := .own (xs ++ ys)) (o := .lst (vs ++ ws)) q rfl rfl hσ ha h0 ⟨a, vs ++ ws, rfl, ha, h0, upd_same, (Rep.monoAll se _ _ hr1).append (Rep.monoAll se _ _ k2)⟩
            exact h1 σ _ c.B S2 ((g1.sees S.tB').trans s2)
        · exact h1.elim
      · exact h1.elim
    · exact h.elim
theorem repAll_dropLast {K : PySem.W.Frag} {H : Hp} {vs : List V} {ds : List D} (r : RepAll K H vs ds) : RepAll K H vs.dropLast ds.dropLast := by
  rw [List.dropLast_eq_take, List.dropLast_eq_take, r.length]
  exact r.take _
theorem es_pop {i : Nat} {x : Str} {p1 apos cpos : Pos} (hN : X.N[i]? = some x := by rfl) (hv : Vis X.env.scope x := by first | exact Or.inl rfl | exact Or.inr (Or.inl rfl) | exact Or.inr (Or.inr rfl)) (hd : (x == ("__debug__" : Str)) = false := by decide)
    (hcd : (x == ("__classdict__" : Str)) = false := by decide)
    (hline : (apos.endLine == cpos.line) = true := by rfl)
    (hbase : attributeBase (.Name x p1) "pop" X.env (eval (.Name x p1) X.env) = eval (.Name x p1) X.env := by rfl)
    (hsw : swapsWith (.Call (.Attribute (.Name x p1) "pop" apos) [] [] cpos) none pos.line X.env = pure false := by rfl) :
    PS X (.Expr (.Call (.Attribute (.Name x p1) "pop" apos) [] [] cpos) pos) (tS X.K ca W (sPop i)) :=
  PS.weak (ps_expr (pe_bm0 PySem.F.plainAttrs_list PySem.F.slot_list_pop PySem.F.type_list_pop mt_pop (pe_var hN hv hd hcd) hbase hline) hsw) fun E σ H ⟨c, ρ, n, S, h⟩ => by
    unfold sPop at h
    split at h
    · rename_i xs q
      obtain ⟨v, hσ, a, vs, rfl, ha, h0, hl, hr⟩ := S.slot i _ q
      split at h
      · exact h.elim
      · rename_i hne
        have hv : vs ≠ [] := fun z => hne (by
          have := hr.length
          rw [z] at this
          exact List.eq_nil_of_length_eq_zero this.symm)
        obtain ⟨y, hy⟩ : ∃ y, vs[vs.length - 1]? = some y := ⟨_, List.getElem?_eq_getElem (by have := List.length_pos_iff.mpr hv; omega)⟩
        refine ⟨_, hσ, .inl ⟨rfl, _, .inl (.inl hl)⟩, a, vs, y, rfl, rfl, hl, hy, ?_⟩
        have se : ∀ b o, hid c.B H b = some o → hid c.B (upd H a (.lst vs.dropLast)) b = some o := fun b o z => by
          obtain ⟨z1, z2⟩ := hid_some z
          have ne : b ≠ a := fun z => z1 (by rw [z]; exact ha)
          exact hid_of z1 (by rw [upd_ne ne]; exact z2)
        obtain ⟨S2, s2⟩ := S.put (l' := .own xs.dropLast) (o := .lst vs.dropLast) q rfl rfl hσ ha h0 ⟨a, _, rfl, ha, h0, upd_same, Rep.monoAll se _ _ (repAll_dropLast hr)⟩
        exact h σ _ c.B S2 s2
    · exact h.elim
/-- x[i] = e, x an own list -/
theorem es_put {i : Nat} {x : Str} {p1 tpos : Pos} {gi : M D} {ie : Expr} (he : PE X e (tG X.K ca W g)) (hie : PE X ie (tG X.K ca W gi)) (hN : X.N[i]? = some x := by rfl) (hv : Vis X.env.scope x := by first | exact Or.inl rfl | exact Or.inr (Or.inl rfl) | exact Or.inr (Or.inr rfl)) (hd : (x == ("__debug__" : Str)) = false := by decide)
    (hcd : (x == ("__classdict__" : Str)) = false := by decide)
    (hs : swapsWithSole [.Subscript (.Name x p1) ie tpos] e pos.line X.env = pure false := by rfl) (hw : swappedStores [.Subscript (.Name x p1) ie tpos] e X.env = pure none := by rfl)
    (h1 : (assignEach [.Subscript (.Name x p1) ie tpos] X.env).map (·.2) = [assign (.Subscript (.Name x p1) ie tpos) X.env] := by rfl)
    (ha : ∀ v, assign (.Subscript (.Name x p1) ie tpos) X.env v = (do
      let ov ← holding [v] (eval (.Name x p1) X.env)
      let iv ← holding [v, ov] (eval ie X.env)
      standAt tpos
      holding [v, ov, iv] (setItem ov iv v)
      release [v, ov, iv] []) := by intro _; rfl) :
    PS X (.Assign [.Subscript (.Name x p1) ie tpos] e pos) (tS X.K ca W (sPut i gi g)) :=
  PS.weak (ps_asg he (pg_sub (pe_var hN hv hd hcd) hie set_list ha) hs hw h1) fun E σ H ⟨c, ρ, n, S, h⟩ => by
    unfold sPut at h
    split at h
    · rename_i xs q
      refine ⟨c, ρ, n, S, (post_ofR S h).mono (fun d n1 h1 w H1 g1 r1 => ?_) (fun e m h => h)⟩
      have S1 := S.ext g1
      obtain ⟨v, hσ, a, vs, rfl, ha, h0, hl, hr⟩ := S1.slot i _ q
      refine ⟨_, hσ, c, ρ, n1, S1, (post_ofR S1 (h1.at (g1.sees S.tB'))).mono (fun z n2 h2 zv H2 g2 r2 => ?_) (fun e m h => h)⟩
      have S2 := S1.ext g2
      have hl2 : H2 a = some (.lst vs) := g2.ext a _ hl fun z => S.old _ S.tB (z ▸ h0)
      split at h2
      · rename_i k
        split at h2
        · rename_i j hj
          cases r2
          have hr2 := Rep.monoAll (g2.sees S.tB') _ _ hr
          refine ⟨a, vs, k, j, rfl, rfl, hl2, by rw [hr.length]; exact hj, ?_⟩
          have se : ∀ b o, hid c.B H2 b = some o → hid c.B (upd H2 a (.lst (vs.set j w))) b = some o := fun b o z => by
            obtain ⟨z1, z2⟩ := hid_some z
            have ne : b ≠ a := fun z => z1 (by rw [z]; exact ha)
            exact hid_of z1 (by rw [upd_ne ne]; exact z2)
          obtain ⟨S3, s3⟩ := S2.put (l' := .own (xs.set j d)) (o := .lst (vs.set j w)) q rfl rfl hσ ha h0 ⟨a, _, rfl, ha, h0, upd_same, RepAll.set (Rep.mono se _ _ (Rep.mono (g2.sees S.tB') _ _ r1)) j (Rep.monoAll se _ _ hr2)⟩
          exact h2 σ _ c.B S3 ((g2.sees S.tB').trans s3)
        · exact h2.elim
      · exact h2.elim
    · exact h.elim

/-! ### if, while -/
theorem es_if {cc : Expr} {as bs : List Stmt} {f : M Bool} {g h : MS} (hc : PT X cc (tGT X.K ca W f)) (ha : PSs X as (tS X.K ca W g)) (hb : PSs X bs (tS X.K ca W h)) : PS X (.If cc as bs pos) (tS X.K ca W (sIf f g h)) :=
  PS.weak (ps_if hc ha hb) fun E σ H ⟨c, ρ, n, S, h⟩ => ⟨c, ρ, n, S, (post_ofR S h).mono (fun k n1 h1 H1 g1 => by
    cases k with
    | true =>
      rw [if_pos rfl] at h1 ⊢
      exact ⟨c, ρ, n1, S.ext g1, h1.at (g1.sees S.tB')⟩
    | false =>
      rw [if_neg Bool.false_ne_true] at h1 ⊢
      exact ⟨c, ρ, n1, S.ext g1, h1.at (g1.sees S.tB')⟩) (fun e m h => h)⟩
end
end G

namespace G
open PySem PySem.Spec PyProof.Rows L2

/-! ### while -/
def whileF (f : M Bool) (g : MS) : Nat → MS
  | 0 => fun _ _ => .bad
  | k + 1 => fun ρ n => ofR (f ρ n) ρ fun b n1 => if b = true then (match g ρ n1 with
    | .nx ρ2 n2 => whileF f g k ρ2 n2
    | .ct ρ2 n2 => whileF f g k ρ2 n2
    | .bk ρ2 n2 => .nx ρ2 n2
    | o => o) else .nx ρ n1
theorem whileF_mono {f : M Bool} {g : MS} : ∀ (k j : Nat) (ρ : Env) (n : Nat), whileF f g k ρ n ≠ .bad → whileF f g (k + j) ρ n = whileF f g k ρ n
  | 0, _, _, _, h => absurd rfl h
  | k + 1, j, ρ, n, h => by
    rw [Nat.succ_add]
    unfold whileF at h ⊢
    cases q : f ρ n with
    | bad => rw [q] at h; exact absurd rfl h
    | ex c m => rfl
    | ok b n1 =>
      rw [q] at h
      cases b with
      | false => rfl
      | true =>
        simp only [ofR_ok, if_true] at h ⊢
        cases q2 : g ρ n1 with
        | nx ρ2 n2 => rw [q2] at h; exact whileF_mono k j ρ2 n2 h
        | ct ρ2 n2 => rw [q2] at h; exact whileF_mono k j ρ2 n2 h
        | _ => rfl
open Classical in
noncomputable def sWhile (f : M Bool) (g : MS) : MS := fun ρ n => if h : ∃ k, whileF f g k ρ n ≠ .bad then whileF f g (choose h) ρ n else .bad
theorem sWhile_ex {f : M Bool} {g : MS} {ρ : Env} {n : Nat} (h : sWhile f g ρ n ≠ .bad) : ∃ k, sWhile f g ρ n = whileF f g k ρ n := by
  unfold sWhile at h ⊢
  split at h
  · rename_i z
    rw [dif_pos z]
    exact ⟨_, rfl⟩
  · exact absurd rfl h
theorem sWhile_eq {f : M Bool} {g : MS} {ρ : Env} {n k : Nat} {o : Out} (h : whileF f g k ρ n = o) (ho : o ≠ .bad) : sWhile f g ρ n = o := by
  have z : ∃ k, whileF f g k ρ n ≠ .bad := ⟨k, by rw [h]; exact ho⟩
  unfold sWhile
  rw [dif_pos z]
  have h1 := Classical.choose_spec z
  have e1 := whileF_mono (Classical.choose z) k ρ n h1
  have e2 := whileF_mono k (Classical.choose z) ρ n (by rw [h]; exact ho)
  rw [← e1, Nat.add_comm, e2, h]

section
variable {X : Cx} {ca : String → Addr} {W : WX} {a b e : Expr} {st : Stmt} {sts : List Stmt} {ga gb g : M D} {gf : M (List D)} {pos : Pos}
theorem es_while {cc : Expr} {body : List Stmt} {f : M Bool} {g : MS} (hp : PassesOwn (model X.prog X.w) X.A X.env X.xe) (hc : PT X cc (tGT X.K ca W f)) (hb : PSs X body (tS X.K ca W g)) : PS X (.While cc body [] pos) (tS X.K ca W (sWhile f g)) :=
  PS.weak (ps_while hp hc hb) fun E σ H ⟨c, ρ, n, S, h⟩ => by
    have hne : sWhile f g ρ n ≠ .bad := fun z => by rw [z] at h; exact h
    obtain ⟨k, hk⟩ := sWhile_ex hne
    rw [hk] at h
    refine ⟨fun m σ H => ∃ c ρ n, SR X.K c σ H ρ n ∧ OPost X.K ca W c H (whileF f g m ρ n) E, ⟨k, c, ρ, n, S, h⟩, ?_⟩
    rintro m σ H ⟨c, ρ, n, S, h⟩
    cases m with
    | zero => exact h.elim
    | succ m =>
      refine ⟨c, ρ, n, S, (post_ofR S h).mono (fun b n1 h1 H1 g1 => ?_) (fun e m h => h)⟩
      have S1 := S.ext g1
      have h2 := h1.at (g1.sees S.tB')
      cases b with
      | false =>
        simp only [Bool.false_eq_true, if_false] at h2 ⊢
        exact h2 σ H1 c.B S1 Sees.refl
      | true =>
        simp only [if_true] at h2 ⊢
        refine ⟨fun σ' H' => ∃ c ρ n, SR X.K c σ' H' ρ n ∧ OPost X.K ca W c H' (whileF f g m ρ n) E, fun σ' H' q => ⟨m, Nat.lt_succ_self m, q⟩, c, ρ, n1, S1, ?_⟩
        cases q : g ρ n1 with
        | nx ρ2 n2 =>
          rw [q] at h2
          exact fun σ' H' B' S' s => ⟨_, ρ2, n2, S', h2.at s⟩
        | ct ρ2 n2 =>
          rw [q] at h2
          exact fun σ' H' B' S' s => ⟨_, ρ2, n2, S', h2.at s⟩
        | bk ρ2 n2 =>
          rw [q] at h2
          exact h2
        | rt d n2 =>
          rw [q] at h2
          exact h2
        | ex d ρ2 n2 =>
          rw [q] at h2
          exact h2
        | bad =>
          rw [q] at h2
          exact h2
end

/-! ### what is walked -/
/-- the iterator yields these, whatever grows -/
def ItOk (K : PySem.W.Frag) (B : List Addr) (H : Hp) (J : It) (ds : List D) : Prop := ∀ (i : Nat) (B' : List Addr) (H' : Hp), Sees B H B' H' → (∀ b ∈ B', H' b ≠ none) →
  (i < ds.length → J.go i H') ∧ (ds.length ≤ i → J.stop i H') ∧ ∀ d x H2, ds[i]? = some d → J.yld i H' x H2 → Same H' H2 ∧ Rep K (hid B' H2) x d
def iG (K : PySem.W.Frag) (ca : String → Addr) (W : WX) (g : M (List D)) : TI := fun σ H R => ∃ c ρ n, SR K c σ H ρ n ∧
  (g ρ n).Post (fun ds n' => ∀ J H', Gx c.t H n' H' → ItOk K c.B H' J ds → R J H') (exK ca W c σ H)
/-- a target -/
def TgOk (K : PySem.W.Frag) (gR : TG) (f : D → Env → Option Env) (ws : List Nat) : Prop := ∀ (c : Fm) (σ : L2.St) (H : Hp) (ρ : Env) (n : Nat) (v : V) (d : D) (ρ' : Env) (Q : L2.St → Hp → Prop),
  SR K c σ H ρ n → Rep K (hid c.B H) v d → f d ρ = some ρ' → (∀ σ', SR K c σ' H ρ' n → (∀ vs : List Nat, (∀ i ∈ ws, i ∈ vs) → L2.wipe σ' vs = L2.wipe σ vs) → Q σ' H) → gR v σ H Q
def forL (tg : D → Env → Option Env) (b : MS) : List D → MS
  | [] => sNx
  | d :: ds => fun ρ n => match tg d ρ with
    | none => .bad
    | some ρ1 => match b ρ1 n with
      | .nx ρ2 n2 => forL tg b ds ρ2 n2
      | .ct ρ2 n2 => forL tg b ds ρ2 n2
      | .bk ρ2 n2 => .nx ρ2 n2
      | o => o
def sFor (tg : D → Env → Option Env) (gi : M (List D)) (b : MS) : MS := fun ρ n => ofR (gi ρ n) ρ fun ds n1 => forL tg b ds ρ n1
theorem drop_at {α : Type} {xs : List α} {i : Nat} (h : i < xs.length) : ∃ x, xs[i]? = some x ∧ xs.drop i = x :: xs.drop (i + 1) := ⟨xs[i], List.getElem?_eq_getElem h, List.drop_eq_getElem_cons h⟩
section
variable {X : Cx} {ca : String → Addr} {W : WX} {a b e : Expr} {st : Stmt} {sts : List Stmt} {ga gb g : M D} {gf : M (List D)} {pos : Pos}
theorem es_for {tg iter : Expr} {body : List Stmt} {gi : M (List D)} {gR : TG} {tgf : D → Env → Option Env} {ws : List Nat} {h : MS} (hp : PassesOwn (model X.prog X.w) X.A X.env X.xe) (hc : X.calm = true) (hi : PI X tg iter (iG X.K ca W gi)) (hg : PG X tg gR) (ht : TgOk X.K gR tgf ws)
    (hb : PSs X body (tS X.K ca W h)) (hs : ∀ x, foldedSetIterable iter X.env x = pure x := by intro _; rfl) : PS X (.For tg iter body [] pos) (tS X.K ca W (sFor tgf gi h)) :=
  PS.weak (ps_for hp hc hi hg hb hs) fun E σ H ⟨c, ρ, n, S, hh⟩ => by
    refine ⟨c, ρ, n, S, (post_ofR S hh).mono (fun ds n1 h1 J H1 g1 it => ?_) (fun e m h => h)⟩
    have S1 := S.ext g1
    refine ⟨fun i m σ H => ∃ B' ρ n, SR X.K (c.at B') σ H ρ n ∧ Sees c.B H1 B' H ∧ i ≤ ds.length ∧ m = ds.length - i ∧ OPost X.K ca W (c.at B') H (forL tgf h (ds.drop i) ρ n) E, ⟨ds.length, c.B, ρ, n1, S1, Sees.refl, Nat.zero_le _, by simp, h1.at (g1.sees S.tB')⟩, ?_⟩
    rintro i m σ2 H2 ⟨B', ρ2, n2, S2, se, hi, rfl, hh2⟩
    obtain ⟨k1, k2, k3⟩ := it i B' H2 se S2.all
    by_cases hlt : i < ds.length
    · obtain ⟨d, hd, ed⟩ := drop_at hlt
      rw [ed] at hh2
      refine .inr ⟨k1 hlt, fun σ' H' => ∃ B' ρ n, SR X.K (c.at B') σ' H' ρ n ∧ Sees c.B H1 B' H' ∧ OPost X.K ca W (c.at B') H' (forL tgf h (ds.drop (i + 1)) ρ n) E, fun σ' H' ⟨B', ρ, n, q1, q2, q3⟩ => ⟨ds.length - (i + 1), by omega, B', ρ, n, q1, q2, hlt, rfl, q3⟩, fun x H3 y => ?_⟩
      obtain ⟨sm, rx⟩ := k3 d x H3 hd y
      have g3 := S2.pure sm
      have S3 := S2.ext g3
      unfold forL at hh2
      cases q : tgf d ρ2 with
      | none => simp only [q] at hh2; exact hh2.elim
      | some ρ3 =>
        simp only [q] at hh2
        refine ht (c.at B') σ2 H3 ρ2 n2 x d ρ3 _ S3 rx q fun σ4 S4 _ => ⟨c.at B', ρ3, n2, S4, ?_⟩
        have hh3 := hh2.at (g3.sees S2.tB')
        have se3 : Sees c.B H1 B' H3 := se.trans (g3.sees S2.tB')
        cases q4 : h ρ3 n2 with
        | nx ρ5 n5 =>
          rw [q4] at hh3
          exact fun σ' H' B2 S' s => ⟨B2, ρ5, n5, S', se3.trans s, hh3.at s⟩
        | ct ρ5 n5 =>
          rw [q4] at hh3
          exact fun σ' H' B2 S' s => ⟨B2, ρ5, n5, S', se3.trans s, hh3.at s⟩
        | bk ρ5 n5 =>
          rw [q4] at hh3
          exact hh3
        | rt d n5 =>
          rw [q4] at hh3
          exact hh3
        | ex d ρ5 n5 =>
          rw [q4] at hh3
          exact hh3
        | bad =>
          rw [q4] at hh3
          exact hh3
    · have e : i = ds.length := by omega
      subst e
      rw [List.drop_length] at hh2
      exact .inl ⟨k2 (Nat.le_refl _), hh2 σ2 H2 B' S2 Sees.refl⟩

/-! ### targets -/
def tgN (i : Nat) : D → Env → Option Env := fun d ρ => if i < ρ.length then some (ρ.set i (some (.d d))) else none
def tgT (fs : List (D → Env → Option Env)) : List D → Env → Option Env := match fs with
  | [] => fun ds ρ => match ds with
    | [] => some ρ
    | _ => none
  | f :: r => fun ds ρ => match ds with
    | [] => none
    | d :: es => (f d ρ).bind fun ρ1 => tgT r es ρ1
def tgP (fs : List (D → Env → Option Env)) : D → Env → Option Env := fun d ρ => match d with
  | .tuple ds => if ds.length = fs.length then tgT fs ds ρ else none
  | .list ds => if ds.length = fs.length then tgT fs ds ρ else none
  | _ => none
theorem wipe_set {σ : L2.St} {x : Option V} : ∀ {vs : List Nat} {i : Nat}, i ∈ vs → L2.wipe (σ.set i x) vs = L2.wipe σ vs
  | v :: vs, i, h => by
    unfold L2.wipe
    by_cases hi : i ∈ vs
    · rw [wipe_set hi]
    · have e : i = v := by
        rcases List.mem_cons.mp h with z | z
        · exact z
        · exact absurd z hi
      subst e
      have gen : ∀ (us : List Nat) (τ : L2.St), i ∉ us → (L2.wipe (τ.set i x) us).set i none = (L2.wipe τ us).set i none := by
        intro us
        induction us with
        | nil => intro τ _; unfold L2.wipe; rw [List.set_set]
        | cons u us ih =>
          intro τ hu
          unfold L2.wipe
          have hne : u ≠ i := fun z => hu (z ▸ List.mem_cons_self)
          rw [List.set_comm _ _ hne, ih τ (fun z => hu (List.mem_cons_of_mem _ z)), List.set_comm _ _ hne.symm]
      exact gen vs σ hi
theorem wipe_idem (σ : L2.St) : ∀ vs : List Nat, L2.wipe (L2.wipe σ vs) vs = L2.wipe σ vs := by
  have gen : ∀ (us vs : List Nat), (∀ u ∈ us, u ∈ vs) → L2.wipe (L2.wipe σ us) vs = L2.wipe σ vs := by
    intro us
    induction us with
    | nil => intro vs _; rfl
    | cons u us ih =>
      intro vs h
      show L2.wipe ((L2.wipe σ us).set u none) vs = _
      rw [wipe_set (h u List.mem_cons_self), ih vs fun w hw => h w (List.mem_cons_of_mem _ hw)]
  exact fun vs => gen vs vs fun _ h => h
theorem tok_name (i : Nat) {K : PySem.W.Frag} : TgOk K (gName i) (tgN i) [i] := fun c σ H ρ n v d ρ' Q S r e q => by
  unfold tgN at e
  split at e
  · rename_i hlt
    cases e
    exact q _ (S.set_d hlt r) fun vs h => wipe_set (h i List.mem_cons_self)
  · cases e
/-- several targets -/
def TgsOk (K : PySem.W.Frag) (gR : TGs) (f : List D → Env → Option Env) (ws : List Nat) : Prop := ∀ (c : Fm) (σ : L2.St) (H : Hp) (ρ : Env) (n : Nat) (vs : List V) (ds : List D) (ρ' : Env) (Q : L2.St → Hp → Prop),
  SR K c σ H ρ n → RepAll K (hid c.B H) vs ds → f ds ρ = some ρ' → (∀ σ', SR K c σ' H ρ' n → (∀ vs : List Nat, (∀ i ∈ ws, i ∈ vs) → L2.wipe σ' vs = L2.wipe σ vs) → Q σ' H) → gR vs σ H Q
theorem tok_nil {K : PySem.W.Frag} : TgsOk K gNil (tgT []) [] := fun c σ H ρ n vs ds ρ' Q S r e q => by
  cases r with
  | nil => cases e; exact ⟨rfl, q σ S fun _ _ => rfl⟩
  | cons _ _ => cases e
theorem tok_cons {K : PySem.W.Frag} {g1 : TG} {g2 : TGs} {f1 : D → Env → Option Env} {fs : List (D → Env → Option Env)} {ws1 ws2 : List Nat} (h1 : TgOk K g1 f1 ws1) (h2 : TgsOk K g2 (tgT fs) ws2) : TgsOk K (gCons g1 g2) (tgT (f1 :: fs)) (ws1 ++ ws2) := fun c σ H ρ n vs ds ρ' Q S r e q => by
  cases r with
  | nil => cases e
  | @cons v vs d ds r1 r2 =>
    cases z : f1 d ρ with
    | none => simp [tgT, z] at e
    | some ρ1 =>
      have e' : tgT fs ds ρ1 = some ρ' := by simpa [tgT, z] using e
      refine ⟨v, vs, rfl, h1 c σ H ρ n v d ρ1 _ S r1 z fun σ1 S1 w1 => h2 c σ1 H ρ1 n vs ds ρ' _ S1 r2 e' fun σ2 S2 w2 => q σ2 S2 fun us hu => ?_⟩
      rw [w2 us fun i hi => hu i (List.mem_append_right _ hi), w1 us fun i hi => hu i (List.mem_append_left _ hi)]
/-- a tuple, or a list -/
def gSeq (K : PySem.W.Frag) (n : Nat) (t : TGs) : TG := fun v σ H Q => gTup K n t v σ H Q ∨ gLst K n t v σ H Q
theorem pg_seq {es : List Expr} {k : Nat} {t : TGs} {n : Nat} (hc : X.calm = true) (h : PGs X es t)
    (hn : (assignEach es X.env).length = n := by rfl) (hst : (assignEach es X.env).findIdx? (·.1) = none := by rfl) : PG X (.Tuple es k pos) (gSeq X.K n t) :=
  ⟨fun pins s σ H v u Q I r hw => hw.elim ((pg_tup hc h hn hst).run pins s σ H v u Q I r) ((pg_lst hc h hn hst).run pins s σ H v u Q I r)⟩
theorem tok_tup {K : PySem.W.Frag} {g : TGs} {fs : List (D → Env → Option Env)} {ws : List Nat} {n : Nat} (h : TgsOk K g (tgT fs) ws) (hn : fs.length = n) : TgOk K (gSeq K n g) (tgP fs) ws := fun c σ H ρ m v d ρ' Q S r e q => by
  cases r with
  | tup h1 h2 =>
    unfold tgP at e
    simp only at e
    split at e
    · rename_i hl
      exact .inl ⟨_, _, rfl, sqT_mono (fun _ _ => hid_sub) h1.sq, by rw [h2.length, hl, hn], h c σ H ρ m _ _ ρ' _ S h2 e q⟩
    · cases e
  | lst h1 h2 =>
    unfold tgP at e
    simp only at e
    split at e
    · rename_i hl
      exact .inr ⟨_, _, rfl, .inl (.inl (hid_sub h1)), by rw [h2.length, hl, hn], h c σ H ρ m _ _ ρ' _ S h2 e q⟩
    · cases e
  | _ => cases e
/-- a, b = e -/
def sTup (tg : D → Env → Option Env) (g : M D) : MS := fun ρ n => ofR (g ρ n) ρ fun d n1 => match tg d ρ with
  | some ρ1 => .nx ρ1 n1
  | none => .bad
theorem es_tup {tg : Expr} {gR : TG} {tgf : D → Env → Option Env} {ws : List Nat} (he : PE X e (tG X.K ca W g)) (hg : PG X tg gR) (ht : TgOk X.K gR tgf ws) (hs : swapsWithSole [tg] e pos.line X.env = pure false := by rfl) (hw : swappedStores [tg] e X.env = pure none := by rfl)
    (h1 : (assignEach [tg] X.env).map (·.2) = [assign tg X.env] := by rfl) : PS X (.Assign [tg] e pos) (tS X.K ca W (sTup tgf g)) :=
  PS.weak (ps_asg he hg hs hw h1) fun E σ H ⟨c, ρ, n, S, h⟩ => ⟨c, ρ, n, S, (post_ofR S h).mono (fun d n1 h1 v H1 g1 r1 => by
    have S1 := S.ext g1
    cases q : tgf d ρ with
    | none => rw [q] at h1; exact h1.elim
    | some ρ1 =>
      rw [q] at h1
      exact ht c σ H1 ρ n1 v d ρ1 _ S1 r1 q fun σ' S' _ => h1 σ' H1 c.B S' (g1.sees S.tB')) (fun e m h => h)⟩
end

/-! ### list comprehensions -/
abbrev W0 : WX := fun _ _ _ _ => False
def lcL (tg : D → Env → Option Env) (tt : M Bool) (te : M D) (ρ : Env) : List D → Nat → Res (List D)
  | [], n => .ok [] n
  | d :: ds, n => match tg d ρ with
    | none => .bad
    | some ρ1 => match tt ρ1 n with
      | .ok true n1 => (match te ρ1 n1 with
        | .ok y n2 => (lcL tg tt te ρ ds n2).bind fun r n3 => .ok (y :: r) n3
        | _ => .bad)
      | .ok false n1 => lcL tg tt te ρ ds n1
      | _ => .bad
def cLc (vs : List Nat) (tg : D → Env → Option Env) (gi : M (List D)) (tt : M Bool) (te : M D) : M (List D) := fun ρ n => (gi ρ n).bind fun ds n1 =>
  if ds.length < sizeLine then lcL tg tt te (wipeE ρ vs) ds n1 else .bad
def bYes : M Bool := fun _ n => .ok true n
theorem gts_nil {X : Cx} {ca : String → Addr} : PTs X [] (tGT X.K ca W0 bYes) := ⟨fun pins s σ H Q I ⟨c, ρ, n, S, h⟩ => pts_nil.run pins s σ H Q I (h H S.gx)⟩
theorem gts_one {X : Cx} {ca : String → Addr} {c : Expr} {f : M Bool} (h : PT X c (tGT X.K ca W0 f)) : PTs X [c] (tGT X.K ca W0 f) := pts_one h
theorem lc_read {K : PySem.W.Frag} {ca : String → Addr} {W : WX} {gi : M (List D)} {gR : TG} {tgf : D → Env → Option Env} {ws vs : List Nat} {tt : M Bool} {te : M D} {σ : L2.St} {H : Hp} {Q : VK} (ht : TgOk K gR tgf ws) (hw : ∀ i ∈ ws, i ∈ vs)
    (h : tGF K ca W (cLc vs tgf gi tt te) σ H Q) : tLc (iG K ca W gi) gR (tGT K ca W0 tt) (tG K ca W0 te) vs σ H Q := by
  obtain ⟨c, ρ, n, S, h⟩ := h
  refine ⟨c, ρ, n, S, (Res.post_bind h).mono (fun ds n1 h1 J H1 g1 it => ?_) (fun e m h => h)⟩
  intro A hA
  have S1 := S.ext g1
  split at h1
  · rename_i hsz
    -- the new list at A; its words
    have hA0 : H A = none := fresh_back g1 S.tB' S1.all hA
    refine ⟨fun i m H2 => ∃ n' acc us, i ≤ ds.length ∧ m = ds.length - i ∧ Gx c.t H1 n' H2 ∧ H2 A = some (.lst us) ∧ RepAll K (hid (A :: c.B) H2) us acc ∧ acc.length ≤ i ∧
      (lcL tgf tt te (wipeE ρ vs) (ds.drop i) n').Post (fun r n2 => ∀ us' H3, Gx c.t H1 n2 H3 → H3 A = some (.lst us') → RepAll K (hid (A :: c.B) H3) us' (acc ++ r) → Q (.ref A) H3) (fun _ _ => True), ⟨ds.length, n1, [], [], Nat.zero_le _, by simp, S1.pure (same_upd hA), upd_same, .nil, Nat.le_refl _, ?_⟩, ?_⟩
    · exact h1.mono (fun r n2 q us' H3 g3 h3 r3 => q A us' H3 (g1.trans g3) hA0 h3 r3) fun _ _ _ => trivial
    rintro i m H2 ⟨n2, acc, us, hi, rfl, g2, hA2, rA, hacc, post⟩
    have se : Sees c.B H1 (A :: c.B) H2 := fun b o q => by
      obtain ⟨q1, q2⟩ := hid_some (g2.sees S.tB' b o q)
      refine hid_of (fun z => ?_) q2
      rcases List.mem_cons.mp z with z | z
      · have q' := (hid_some q).2
        rw [z, hA] at q'; cases q'
      · exact q1 z
    have S2 : SR K (c.at (A :: c.B)) σ H2 ρ n2 := S1.move g2 (fun b hb => List.mem_cons_of_mem _ hb) (fun b hb => by
      rcases List.mem_cons.mp hb with z | z
      · rw [z, hA2]; simp
      · exact (S1.ext g2).all b z) se
    obtain ⟨k1, k2, k3⟩ := it i (A :: c.B) H2 se S2.all
    by_cases hlt : i < ds.length
    · obtain ⟨d, hd, ed⟩ := drop_at hlt
      rw [ed] at post
      refine .inr ⟨k1 hlt, fun H2 => ∃ n' acc us, Gx c.t H1 n' H2 ∧ H2 A = some (.lst us) ∧ RepAll K (hid (A :: c.B) H2) us acc ∧ acc.length ≤ i + 1 ∧
        (lcL tgf tt te (wipeE ρ vs) (ds.drop (i + 1)) n').Post (fun r n2 => ∀ us' H3, Gx c.t H1 n2 H3 → H3 A = some (.lst us') → RepAll K (hid (A :: c.B) H3) us' (acc ++ r) → Q (.ref A) H3) (fun _ _ => True),
        fun H' ⟨n', acc, us, q1, q2, q3, q4, q5⟩ => ⟨ds.length - (i + 1), by omega, n', acc, us, hlt, rfl, q1, q2, q3, q4, q5⟩, fun x H3 y => ?_⟩
      obtain ⟨sm, rx⟩ := k3 d x H3 hd y
      have g3 := S2.pure sm
      have S3 := (S2.ext g3).wipe vs
      unfold lcL at post
      cases q : tgf d (wipeE ρ vs) with
      | none => rw [q] at post; exact post.elim
      | some ρ3 =>
        simp only [q] at post
        refine ht (c.at (A :: c.B)) (L2.wipe σ vs) H3 (wipeE ρ vs) n2 x d ρ3 _ S3 rx q fun σ4 S4 w4 => ⟨(w4 vs hw).trans (wipe_idem σ vs), c.at (A :: c.B), ρ3, n2, S4, ?_⟩
        cases q4 : tt ρ3 n2 with
        | bad => simp only [q4] at post; exact post.elim
        | ex e m =>
          simp only [q4] at post
          exact post.elim
        | ok k n4 =>
          rw [q4] at post
          refine fun H4 g4 => ?_
          have S5 := S4.ext g4
          have g24 : Gx c.t H2 n4 H4 := g3.trans g4
          have hA4 : H4 A = some (.lst us) := g24.ext A _ hA2 fun z => by
            have := S1.all c.t S.tB'
            rw [← z, hA] at this
            exact this rfl
          have rA4 := Rep.monoAll (g24.sees S2.tB') _ _ rA
          cases k with
          | false =>
            simp only [Bool.false_eq_true, if_false] at post ⊢
            exact ⟨n4, acc, us, g2.trans g24, hA4, rA4, by omega, post⟩
          | true =>
            simp only [if_true] at post ⊢
            refine ⟨c.at (A :: c.B), ρ3, n4, S5, ?_⟩
            cases q5 : te ρ3 n4 with
            | bad => rw [q5] at post; exact post.elim
            | ex e m => rw [q5] at post; exact post.elim
            | ok y n5 =>
              rw [q5] at post
              refine fun yv H5 g5 r5 => ⟨us, g5.ext A _ hA4 (fun z => by
                have := S1.all c.t S.tB'
                rw [← z, hA] at this
                exact this rfl), by rw [rA.length]; omega, n5, acc ++ [y], us ++ [yv], ⟨fun b o q ne => ?_, ?_⟩, upd_same, ?_, by simp; omega, ?_⟩
              · rw [upd_ne (fun z => by rw [z, hA] at q; cases q)]
                exact ((g2.trans g24).trans g5).ext b o q ne
              · rw [upd_ne (fun z => by
                  have := S1.all c.t S.tB'
                  rw [z, hA] at this
                  exact this rfl)]
                exact g5.town
              · have se5 : ∀ b o, hid (A :: c.B) H5 b = some o → hid (A :: c.B) (upd H5 A (.lst (us ++ [yv]))) b = some o := fun b o z => by
                  obtain ⟨z1, z2⟩ := hid_some z
                  have ne : b ≠ A := fun z => z1 (by rw [z]; exact List.mem_cons_self)
                  exact hid_of z1 (by rw [upd_ne ne]; exact z2)
                exact (Rep.monoAll se5 _ _ (Rep.monoAll (g5.sees S2.tB') _ _ rA4)).append (.cons (Rep.mono se5 _ _ r5) .nil)
              · exact (Res.post_bind post).mono (fun r n6 q us' H6 g6 h6 r6 => q us' H6 g6 h6 (by rw [List.append_assoc] at r6; exact r6)) fun _ _ _ => trivial
    · have e : i = ds.length := by omega
      subst e
      rw [List.drop_length] at post
      exact .inl ⟨k2 (Nat.le_refl _), post us H2 g2 hA2 (by rw [List.append_nil]; exact rA)⟩
  · exact h1.elim
section
variable {X : Cx} {ca : String → Addr} {W : WX}
theorem ef_lc {elt tg iter : Expr} {ifs : List Expr} {scope : Scope} {own : List (Str × Nat)} {pos : Pos} {gi : M (List D)} {gR : TG} {tgf : D → Env → Option Env} {ws : List Nat} {tt : M Bool} {te : M D} (hc : X.calm = true) (hN : X.N.Nodup) (hi : PI X tg iter (iG X.K ca W gi)) (ok : BlkOk X.N X.env.scope scope own)
    (hg : ∀ (s : Shared) (H : Hp) (C : Addr) (cl : List (Str × Addr)) (fp : List Addr), PG (X.blk s H scope (compEnvC scope cl C X.env) fp) tg gR) (hok : TgOk X.K gR tgf ws) (hw : ∀ i ∈ ws, i ∈ own.map (·.2))
    (ht : ∀ (s : Shared) (H : Hp) (C : Addr) (cl : List (Str × Addr)) (fp : List Addr), PTs (X.blk s H scope (compEnvC scope cl C X.env) fp) ifs (tGT X.K ca W0 tt))
    (he : ∀ (s : Shared) (H : Hp) (C : Addr) (cl : List (Str × Addr)) (fp : List Addr), PE (X.blk s H scope (compEnvC scope cl C X.env) fp) elt (tG X.K ca W0 te)) (hs : ∀ x, foldedSetIterable iter X.env x = pure x := by intro _; rfl) :
    PE X (.ListComp elt [⟨tg, iter, ifs, 0⟩] scope pos) (tGF X.K ca W (cLc (own.map (·.2)) tgf gi tt te)) :=
  PE.weak (pe_lc hc hN hi ok hg ht he hs) fun _ _ _ h => lc_read hok hw h
/-- x = [..], x data -/
theorem es_setLc {i : Nat} {y : Str} {py : Pos} {elt tg iter : Expr} {ifs : List Expr} {scope : Scope} {own : List (Str × Nat)} {pos spos : Pos} {gi : M (List D)} {gR : TG} {tgf : D → Env → Option Env} {ws : List Nat} {tt : M Bool} {te : M D} (hc : X.calm = true) (hN : X.N.Nodup) (hy : X.N[i]? = some y) (hyl : X.env.scope.names.lookup y = some .local)
    (hsw : swapsWith (.ListComp elt [⟨tg, iter, ifs, 0⟩] scope pos) (some (.Name y py)) spos.line X.env = pure true) (hi : PI X tg iter (iG X.K ca W gi)) (ok : BlkOk X.N X.env.scope scope own)
    (hg : ∀ (s : Shared) (H : Hp) (C : Addr) (cl : List (Str × Addr)) (fp : List Addr), PG (X.blk s H scope (compEnvC scope cl C X.env) fp) tg gR) (hok : TgOk X.K gR tgf ws) (hw : ∀ i ∈ ws, i ∈ own.map (·.2))
    (ht : ∀ (s : Shared) (H : Hp) (C : Addr) (cl : List (Str × Addr)) (fp : List Addr), PTs (X.blk s H scope (compEnvC scope cl C X.env) fp) ifs (tGT X.K ca W0 tt))
    (he : ∀ (s : Shared) (H : Hp) (C : Addr) (cl : List (Str × Addr)) (fp : List Addr), PE (X.blk s H scope (compEnvC scope cl C X.env) fp) elt (tG X.K ca W0 te)) (hs : ∀ x, foldedSetIterable iter X.env x = pure x := by intro _; rfl) :
    PS X (.Assign [.Name y py] (.ListComp elt [⟨tg, iter, ifs, 0⟩] scope pos) spos) (tS X.K ca W (sSet i (cF (cLc (own.map (·.2)) tgf gi tt te)))) :=
  PS.weak (ps_setLc hc hN hy hyl hsw hi ok hg ht he hs) fun E σ H ⟨c, ρ, n, S, h⟩ => by
    refine lc_read hok hw ⟨c, ρ, n, S, (Res.post_bind (post_ofR S h)).mono (fun ds n1 h1 a vs H1 g1 hn hv r1 => ?_) (fun e m h => h)⟩
    have h2 : OPost X.K ca W c H (if i < ρ.length then .nx (ρ.set i (some (.d (.list ds)))) n1 else .bad) E := h1
    split at h2
    · rename_i hlt
      exact h2 _ H1 c.B ((S.ext g1).set_d hlt (.lst (hid_of (fun z => S.all a z hn) hv) (Rep.monoAll hid_cons _ _ r1))) (g1.sees S.tB')
    · exact h2.elim
theorem es_ownLc {i : Nat} {y : Str} {py : Pos} {elt tg iter : Expr} {ifs : List Expr} {scope : Scope} {own : List (Str × Nat)} {pos spos : Pos} {gi : M (List D)} {gR : TG} {tgf : D → Env → Option Env} {ws : List Nat} {tt : M Bool} {te : M D} (hc : X.calm = true) (hN : X.N.Nodup) (hy : X.N[i]? = some y) (hyl : X.env.scope.names.lookup y = some .local)
    (hsw : swapsWith (.ListComp elt [⟨tg, iter, ifs, 0⟩] scope pos) (some (.Name y py)) spos.line X.env = pure true) (hi : PI X tg iter (iG X.K ca W gi)) (ok : BlkOk X.N X.env.scope scope own)
    (hg : ∀ (s : Shared) (H : Hp) (C : Addr) (cl : List (Str × Addr)) (fp : List Addr), PG (X.blk s H scope (compEnvC scope cl C X.env) fp) tg gR) (hok : TgOk X.K gR tgf ws) (hw : ∀ i ∈ ws, i ∈ own.map (·.2))
    (ht : ∀ (s : Shared) (H : Hp) (C : Addr) (cl : List (Str × Addr)) (fp : List Addr), PTs (X.blk s H scope (compEnvC scope cl C X.env) fp) ifs (tGT X.K ca W0 tt))
    (he : ∀ (s : Shared) (H : Hp) (C : Addr) (cl : List (Str × Addr)) (fp : List Addr), PE (X.blk s H scope (compEnvC scope cl C X.env) fp) elt (tG X.K ca W0 te)) (hs : ∀ x, foldedSetIterable iter X.env x = pure x := by intro _; rfl) :
    PS X (.Assign [.Name y py] (.ListComp elt [⟨tg, iter, ifs, 0⟩] scope pos) spos) (tS X.K ca W (sOwn i (cLc (own.map (·.2)) tgf gi tt te))) :=
  PS.weak (ps_setLc hc hN hy hyl hsw hi ok hg ht he hs) fun E σ H ⟨c, ρ, n, S, h⟩ =>
    lc_read hok hw ⟨c, ρ, n, S, (post_ofR S h).mono (fun ds n1 h1 a vs H1 g1 hn hv r1 => own_post S h1 g1 hn hv r1) (fun e m h => h)⟩
end

/-! ### a def by its body -/
def runF (m : Nat) (g : MS) : Fn := fun ls n => match g (ls.map some ++ List.replicate (m - ls.length) none) n with
  | .nx _ n1 => .ok .none n1
  | .rt d n1 => .ok d n1
  | .ex c _ n1 => .ex c n1
  | _ => .bad
section
variable {P : Program} {w : World} {K : PySem.W.Frag} {mg : Str → Option Value} {base : Heap} {ca : String → Addr}
theorem RAs.get {c : Fm} {H : Hp} {vs : List V} {ls : List L} (h : RAs K c H vs ls) : ∀ {i : Nat} {l : L}, ls[i]? = some l → ∃ v, vs[i]? = some v ∧ RA K c H v l := by
  induction h with
  | nil => intro i l e; simp at e
  | @cons v vs l ls h1 h2 ih =>
    intro i l' e
    cases i with
    | zero => simp at e; subst e; exact ⟨v, rfl, h1⟩
    | succ i =>
      obtain ⟨v', q1, q2⟩ := ih (i := i) (l := l') (by simpa using e)
      exact ⟨v', by simpa using q1, q2⟩
theorem fn_ok {x qual : Str} {st : Stmt} {f : Addr} {fd : FuncData} {N ps : List Str} {k : Nat} {g : MS} (F : Fun K x qual st f fd) (S : FnScope N ps (defScope st))
    (hbody : ∀ (cdv : Value) (A : Around) (outer : List PySem.Env) (s : Shared) (H : Hp) (E : XK), Room k (A.deeper (envOfC qual (defScope st) s.heap.objs.size f cdv)) →
      PSs (cxOf (L2.CX P w) P w K mg base N qual (defScope st) f cdv A outer s H E) (defBody st) (tS K ca (fun cls d _ H => E cls d H) g)) : FnOk P w K mg base (L2.CX P w) (k + 1) f fd ps (spG K ca ps.length (runF N.length g)) := by
  refine F.okX S (fun vs H Q E h => h.1) (fun cdv A outer s H vs Q E hr h => ⟨_, hbody cdv A outer s H E hr, ?_⟩)
  obtain ⟨hl, c, ls, n, sub, tB, all, town, ra, post⟩ := h
  have hps : ps.length ≤ N.length := by have := congrArg List.length S.pre; rw [List.length_take] at this; omega
  have hll : vs.length = ls.length := ra.length
  refine ⟨⟨c.B, c.t, H, c.B⟩, ls.map some ++ List.replicate (N.length - ls.length) none, n, ⟨?_, fun _ h => h, sub _ tB, all, all, Ext.refl, town, fun i l e => ?_, fun i j l l' a _ e1 e2 o1 o2 s1 => ?_⟩, ?_⟩
  · unfold L2.start
    simp [hll]
  · have hi : ls[i]? = some l := by
      by_cases hi : i < ls.length
      · rw [List.getElem?_append_left (by simpa using hi), List.getElem?_map] at e
        cases q : ls[i]? with
        | none => rw [q] at e; cases e
        | some l' => rw [q] at e; cases e; rfl
      · rw [List.getElem?_append_right (by simpa using hi), List.getElem?_replicate] at e
        split at e <;> cases e
    obtain ⟨v, hv, ho, hr⟩ := ra.get hi
    refine ⟨v, ?_, ?_⟩
    · unfold L2.start
      have : i < vs.length := (List.getElem?_eq_some_iff.mp hv).1
      rw [List.getElem?_append_left (by simpa using this), List.getElem?_map, hv]
      rfl
    · cases l with
      | d x => exact hr
      | town => exact hr
      | scr ns => exact hr
      | frk _ => exact hr
      | _ => cases ho
  · have hi : ls[i]? = some l := by
      by_cases hi : i < ls.length
      · rw [List.getElem?_append_left (by simpa using hi), List.getElem?_map] at e1
        cases q : ls[i]? with
        | none => rw [q] at e1; cases e1
        | some l' => rw [q] at e1; cases e1; rfl
      · rw [List.getElem?_append_right (by simpa using hi), List.getElem?_replicate] at e1
        split at e1 <;> cases e1
    obtain ⟨v, hv, ho, hr⟩ := ra.get hi
    rw [ho] at o1
    cases o1
  · unfold runF at post
    cases q : g (ls.map some ++ List.replicate (N.length - ls.length) none) n with
    | nx ρ1 n1 =>
      rw [q] at post
      exact fun σ' H' B' S' s => post .non H' ⟨S'.keep, S'.town⟩ .non
    | rt d n1 =>
      rw [q] at post
      exact fun v H' g1 r1 => post v H' g1 r1
    | ex e ρ1 n1 =>
      rw [q] at post
      exact fun σ' H' B' S' s => post H' ⟨S'.keep, S'.town⟩
    | bk ρ1 n1 => rw [q] at post; exact post.elim
    | ct ρ1 n1 => rw [q] at post; exact post.elim
    | bad => rw [q] at post; exact post.elim

/-! ### the law -/
def spLaw (K : PySem.W.Frag) : Sp := fun vs H Q _ => ∃ (a : Addr) (ns : List Int), vs = [.ref a] ∧ SqL K H a (ns.map V.int) ∧ ns.length ≤ 63 ∧ ∀ H', Q (.bl true) H'
/-- the law's body behind «town = []»: m more slots -/
def LawTrue (m : Nat) (g : MS) : Prop := ∀ ns : List Int, ns.length ≤ 63 → ∃ n, g (some (.scr ns) :: some .town :: List.replicate m none) 0 = .rt (.bool true) n
theorem law_ok {st : Stmt} {f : Addr} {fd : FuncData} {N : List Str} {k : Nat} {g : MS} {x0 x1 : Str} {p1 p2 p3 : Pos} {rest : List Stmt} (F : Fun K "law" "law" st f fd) (S : FnScope N [x0] (defScope st)) (hb : defBody st = .Assign [.Name x1 p1] (.List [] p2) p3 :: rest) (hx : N[1]? = some x1) (hL : (defScope st).names.lookup x1 = some .local ∨ (defScope st).names.lookup x1 = some .cell) {m : Nat} (hm : N.length = m + 2)
    (hsw : ∀ (cdv : Value) (A : Around) (outer : List PySem.Env) (s : Shared) (H : Hp) (E : XK), swapsWith (.List [] p2) (some (.Name x1 p1)) p3.line (cxOf (L2.CX P w) P w K mg base N "law" (defScope st) f cdv A outer s H E).env = pure false)
    (hbody : ∀ (cdv : Value) (A : Around) (outer : List PySem.Env) (s : Shared) (H : Hp) (E : XK), Room k (A.deeper (envOfC "law" (defScope st) s.heap.objs.size f cdv)) →
      PSs (cxOf (L2.CX P w) P w K mg base N "law" (defScope st) f cdv A outer s H E) rest (tS K ca (fun cls d _ H => E cls d H) g)) (law : LawTrue m g) : FnOk P w K mg base (L2.CX P w) (k + 1) f fd [x0] (spLaw K) := by
  refine F.okX S (fun vs H Q E h => ?_) (fun cdv A outer s H vs Q E hr h => ?_)
  · obtain ⟨a, ns, rfl, _⟩ := h
    rfl
  · obtain ⟨a, ns, rfl, hS, hlen, q⟩ := h
    rw [hb]
    refine ⟨_, pss_cons (ps_set (i := 1) S.nd hx hL (pe_lst pa_nil) (hsw cdv A outer s H E) (.inl rfl)) (hbody cdv A outer s H E hr), ?_⟩
    refine ⟨Nat.zero_le _, fun p hp => ?_⟩
    obtain ⟨n, e⟩ := law ns hlen
    have hp' : p ∈ [p] := List.mem_cons_self
    have hsl : SqL K (hid [p] (upd H p (.lst []))) a (ns.map V.int) := by
      have ne : ∀ o, H a = some o → a ≠ p := fun o h z => by rw [z, hp] at h; cases h
      rcases hS with (h | ⟨o, h⟩) | h
      · exact .inl (.inl (hid_of (fun z => ne _ h (List.mem_singleton.mp z)) (by rw [upd_ne (ne _ h)]; exact h)))
      · exact .inl (.inr ⟨o, hid_of (fun z => ne _ h (List.mem_singleton.mp z)) (by rw [upd_ne (ne _ h)]; exact h)⟩)
      · exact .inr h
    refine ⟨⟨[p], p, upd H p (.lst []), [p]⟩, some (.scr ns) :: some .town :: List.replicate m none, 0, ⟨?_, fun _ h => h, hp', fun b hb => ?_, fun b hb => ?_, Ext.refl, upd_same, fun i l e => ?_, fun i j l l' b _ e1 e2 o1 o2 s1 => ?_⟩, ?_⟩
    · unfold L2.start
      simp [hm]
    · rw [List.mem_singleton.mp hb]
      show upd H p (.lst []) p ≠ none
      rw [upd_same]; simp
    · rw [List.mem_singleton.mp hb]
      show upd H p (.lst []) p ≠ none
      rw [upd_same]; simp
    · match i with
      | 0 =>
        simp only [List.getElem?_cons_zero, Option.some.injEq] at e
        subst e
        exact ⟨.ref a, by unfold L2.start; rfl, a, rfl, hsl⟩
      | 1 =>
        simp only [List.getElem?_cons_succ, List.getElem?_cons_zero, Option.some.injEq] at e
        subst e
        refine ⟨.ref p, ?_, rfl⟩
        unfold L2.start
        rw [List.getElem?_set_self (by simp [hm])]
      | i + 2 =>
        simp only [List.getElem?_cons_succ] at e
        rw [List.getElem?_replicate] at e
        split at e <;> cases e
    · match i with
      | 0 =>
        simp only [List.getElem?_cons_zero, Option.some.injEq] at e1
        subst e1
        cases o1
      | 1 =>
        simp only [List.getElem?_cons_succ, List.getElem?_cons_zero, Option.some.injEq] at e1
        subst e1
        cases o1
      | i + 2 =>
        simp only [List.getElem?_cons_succ] at e1
        rw [List.getElem?_replicate] at e1
        split at e1 <;> cases e1
    · rw [e]
      exact fun v H' g1 r1 => by
        cases r1
        exact q H'
end
end G

namespace G
open PySem PySem.Spec PyProof.Rows L2

/-! ### arithmetic -/
/-! ### rules that make a tuple: it bears no dict -/
abbrev plainO (us : Array Value) : Obj := { cls := .type "tuple", data := .seq us }
theorem plain_ok {P : Program} {w : World} {H : Hp} {h : Heap} {xs : List V} {us : List Value} (z : xs.length ≤ sizeLine) (r : Vals xs us) : ObjOk P w H (h.push (plainO us.toArray)) h.objs.size (.frz (plainO us.toArray) (.tup xs)) :=
  ⟨Heap.get?_push_size _ rfl, z, us, r, IsTup.new _ _⟩
def rCatP (K : PySem.W.Frag) : R2 := fun x y H Q => ∃ a b xs ys, x = .ref a ∧ y = .ref b ∧ SqT K H a xs ∧ SqT K H b ys ∧ xs.length + ys.length ≤ sizeLine ∧
  (xs = [] → Q (.ref b) H) ∧ (xs ≠ [] → ys = [] → Q (.ref a) H) ∧ (xs ≠ [] → ys ≠ [] → ∀ (p : Addr) (o : Obj), o.dict = none → H p = none → Q (.ref p) (upd H p (.frz o (.tup (xs ++ ys)))))
def rRepP (K : PySem.W.Frag) : R2 := fun x y H Q => ∃ l k xs, x = .ref l ∧ y = .int k ∧ SqT K H l xs ∧ xs ≠ [] ∧ 2 ≤ k ∧ k ≤ 1000 ∧ xs.length ≤ 1000 ∧ ∀ (p : Addr) (o : Obj), o.dict = none → H p = none → Q (.ref p) (upd H p (.frz o (.tup (List.replicate k.toNat xs).flatten)))
def rSlP (K : PySem.W.Frag) : V → Option Int → Option Int → Hp → VK → Prop := fun x lo hi H Q => ∃ a xs, x = .ref a ∧ SqT K H a xs ∧
  (HT.sIx xs.length 0 lo = 0 ∧ HT.sIx xs.length xs.length hi = xs.length → Q (.ref a) H) ∧ (¬ (HT.sIx xs.length 0 lo = 0 ∧ HT.sIx xs.length xs.length hi = xs.length) → ∀ (p : Addr) (o : Obj), o.dict = none → H p = none → Q (.ref p) (upd H p (.frz o (.tup (cutV xs lo hi)))))
def rTupP (K : PySem.W.Frag) : List V → Hp → VK → Prop := fun xs H Q => ∃ p ys, xs = [.ref p] ∧ ((SqL K H p ys ∧ ∀ (l : Addr) (o : Obj), o.dict = none → H l = none → Q (.ref l) (upd H l (.frz o (.tup ys)))) ∨ (SqT K H p ys ∧ Q (.ref p) H))
section
variable {X : Cx}
theorem op_catP : OpR X (binaryOp .Add) (rCatP X.K) := by
  intro pins s σ H x y v u Q I rx ry h
  obtain ⟨a, b, xs, ys, rfl, rfl, ha, hb, hz, q0, q1, q2⟩ := h
  cases rx
  cases ry
  obtain ⟨us, r1, p1, _⟩ := I.tuple ha
  obtain ⟨ws, r2, p2, _⟩ := I.tuple hb
  by_cases hx : xs = []
  · subst hx
    cases r1
    exact cat_tup0 p1 p2 ⟨.ref b, H, I, rfl, q0 rfl⟩
  · refine HT.cat_tup p1 p2 (fun z => hx (r1.nil_iff.mp z)) (fun z => ⟨.ref a, H, I, rfl, q1 hx (r2.nil_iff.mp z)⟩) (fun z => ?_) (by rw [← r1.length, ← r2.length]; exact hz)
    exact ⟨.ref s.heap.objs.size, _, I.laid (t' := s.toks) (fun b ob q => Heap.get?_push_of_some _ q) (Nat.le_refl _) (plain_ok (by rw [List.length_append]; exact hz) (r1.append r2)), rfl, q2 hx (fun w => z (r2.nil_iff.mpr w)) _ _ rfl (I.hok.fresh (Nat.le_refl _))⟩
theorem sl_tupP : SlR X (rSlP X.K) := by
  intro pins s σ H x v vl vu lo hi sl Q I rx hs pl pu h
  obtain ⟨a, xs, rfl, hx, q1, q2⟩ := h
  cases rx
  obtain ⟨us, r, ht, hz⟩ := I.tuple hx
  have hn : us.toArray.size = xs.length := by rw [List.size_toArray]; exact r.length.symm
  refine ⟨"tuple", _, PyProof.Rows.slot_tuple_getitem.lookup, ht.typeIs, ?_⟩
  by_cases hw : HT.sIx xs.length 0 lo = 0 ∧ HT.sIx xs.length xs.length hi = xs.length
  · exact getItem_tuple_whole ht hs pl pu (by rw [hn]; exact hw) ⟨.ref a, H, I, rfl, q1 hw⟩
  · refine HT.getItem_tuple_cut ht hs pl pu (by rw [hn]; exact hw) ?_ (by rw [hn]; exact hz)
    rw [hn]
    exact ⟨.ref s.heap.objs.size, _, I.laid (t' := s.toks) (fun b ob q => Heap.get?_push_of_some _ q) (Nat.le_refl _) (plain_ok (Nat.le_trans (cutV_length xs lo hi) hz) ((r.drop (HT.sIx xs.length 0 lo)).take (HT.sIx xs.length xs.length hi - HT.sIx xs.length 0 lo))), rfl, q2 hw _ _ rfl (I.hok.fresh (Nat.le_refl _))⟩
theorem call_tupP : CallR X (.type "tuple") (rTupP X.K) := by
  intro pins s σ H xs us Q I r h
  obtain ⟨p, ys, rfl, h⟩ := h
  obtain ⟨u, rfl, rx⟩ := vals1 r
  cases rx
  rcases h with ⟨hq, q⟩ | ⟨hq, q⟩
  · obtain ⟨ws, r', pl, hz⟩ := I.list hq
    have hn := r'.length
    refine call_tuple_list pl.isList (fun h' kp => ?_) (by simp only [List.size_toArray] <;> omega)
    have I1 : Inv X pins σ H { s with heap := h' } := I.kept (t' := s.toks) kp
    exact ⟨.ref h'.objs.size, _, I1.laid (t' := s.toks) (fun b o e => Heap.get?_push_of_some _ e) (Nat.le_refl _) (plain_ok hz r'), rfl, q _ _ rfl (I1.hok.fresh (Nat.le_refl _))⟩
  · obtain ⟨ws, r', pl, hz⟩ := I.tuple hq
    exact call_tuple_same pl ⟨.ref p, H, I, rfl, q⟩
theorem op_repP : OpR X (binaryOp .Mult) (rRepP X.K) := by
  intro pins s σ H x y v u Q I rx ry h
  obtain ⟨l, k, xs, rfl, rfl, hT, hne, h1, h2, hz, q⟩ := h
  cases rx
  obtain ⟨t, rfl⟩ := ry
  obtain ⟨us, r, ⟨⟨cls, dd, data, sl⟩, ho, hc, n, hd⟩, hs⟩ := I.tuple hT
  simp only at hc hd
  subst hc hd
  have hle : us.length = xs.length := r.length.symm
  have n0 : us.toArray.isEmpty = false := by
    cases us with
    | nil => exact absurd (List.eq_nil_of_length_eq_zero hle.symm) hne
    | cons a b => rfl
  have n1 : us.toArray.size = xs.length := by rw [List.size_toArray, hle]
  have n2 : ((us.toArray.size : Nat) : Int) * k ≤ 1000000 := by
    rw [n1]
    have a1 : ((xs.length : Nat) : Int) * k ≤ 1000 * k := Int.mul_le_mul_of_nonneg_right (by omega) (by omega)
    omega
  have n3 : k.toNat * xs.length ≤ 1000 * 1000 := Nat.mul_le_mul (by omega) hz
  have n4 : (List.replicate k.toNat us).flatten.length ≤ sizeLine := by
    rw [PyProof.Rows.lm_len_rep_flat, hle, sizeLine_eq]
    omega
  have b0 : (decide (k < -(2 ^ 63)) || decide (k ≥ 2 ^ 63)) = false := by
    rw [decide_eq_false (by omega), decide_eq_false (by omega)] <;> rfl
  have b1 : (us.toArray.isEmpty || k == 1) = false := by
    rw [n0, Bool.false_or]
    exact beq_eq_false_iff_ne.mpr (by omega)
  have b2 : (decide (k ≤ 0) || us.toArray.isEmpty) = false := by
    rw [n0, Bool.or_false]
    exact decide_eq_false (by omega)
  have b4 : Builtin.Tuple.tupleTooMany (((us.toArray.size : Nat) : Int) * k) = false := by
    unfold Builtin.Tuple.tupleTooMany
    rw [sizeLine_eq]
    exact decide_eq_false (by omega)
  refine wpAny_binaryOp_repeat_ref (T := "tuple") (U := "int") (by decide) ⟨_, ho, rfl⟩ (fun s' => typeIs_int s' k t) noFill_tuple_mul F.fills_int_mul F.slot_int_rmul repeat_tuple F.slot_int_index.lookup
    (call_meets F.slot_int_rmul (typeIs_int s k t) F.entry_int_rmul (F.args_int_rmul_2 _ _) (int_rmul_tuple k t l us.toArray n dd sl)
      ⟨ho, rfl, ⟨_, ho, rfl⟩, call_meets F.slot_tuple_mul ⟨_, ho, rfl⟩ F.entry_tuple_mul (F.args_tuple_mul_2 _ _) (tuple_mulW l us.toArray n dd sl k t b0 b1 b2 (by omega) b4 (by rw [size_rep, List.size_toArray]; exact n4)) ⟨ho, ?_⟩⟩)
  rw [size_rep]
  exact ⟨.ref s.heap.objs.size, _, I.laid (t' := s.toks) (fun b ob q => Heap.get?_push_of_some _ q) (Nat.le_refl _) (plain_ok (by rw [PyProof.Rows.lm_len_rep_flat, sizeLine_eq]; omega) (r.rep k.toNat)), rfl, q _ _ rfl (I.hok.fresh (Nat.le_refl _))⟩
end
def opAdd : D → D → Option D
  | .int i, .int j => some (.int (i + j))
  | .str x, .str y => if x.length + y.length ≤ sizeLine then some (.str (x ++ y)) else none
  | .tuple xs, .tuple ys => if xs.length + ys.length ≤ sizeLine then some (.tuple (xs ++ ys)) else none
  | .list xs, .list ys => if xs.length + ys.length ≤ sizeLine then some (.list (xs ++ ys)) else none
  | _, _ => none
def rAdd (K : PySem.W.Frag) : R2 := fun x y H Q => ((∃ i j, x = .int i ∧ y = .int j ∧ Q (.int (i + j)) H) ∨ (∃ i j, x = .str i ∧ y = .str j ∧ i.length + j.length ≤ sizeLine ∧ Q (.str (i ++ j)) H)) ∨ (rCatP K x y H Q ∨ rCat x y H Q)
section
variable {X : Cx} {K : PySem.W.Frag}
theorem or_add : OpR X (binaryOp .Add) (rAdd X.K) := OpR.or (OpR.or op_add op_add_str) (OpR.or op_catP op_cat)
theorem o_add : Op2 K (rAdd K) opAdd := by
  intro B H x y a b d Q all ra rb e q
  cases ra with
  | int i =>
    cases rb with
    | int j => cases e; exact .inl (.inl ⟨i, j, rfl, rfl, q _ H (Same.refl H) (.int _)⟩)
    | _ => cases e
  | str i =>
    cases rb with
    | str j =>
      unfold opAdd at e
      simp only at e
      split at e
      · cases e
        exact .inl (.inr ⟨i, j, rfl, rfl, by assumption, q _ H (Same.refl H) (.str _)⟩)
      · cases e
    | _ => cases e
  | @tup a xs ds h1 h2 =>
    cases rb with
    | @tup b ys es k1 k2 =>
      unfold opAdd at e
      simp only at e
      split at e
      · rename_i hz
        cases e
        refine .inr (.inl ⟨a, b, xs, ys, rfl, rfl, sqT_mono (fun _ _ => hid_sub) h1.sq, sqT_mono (fun _ _ => hid_sub) k1.sq, by rw [h2.length, k2.length]; exact hz, fun z => ?_, fun _ z => ?_, fun _ _ p o ho hp => ?_⟩)
        · subst z
          cases h2
          exact q _ H (Same.refl H) (.tup k1 k2)
        · subst z
          cases k2
          refine q _ H (Same.refl H) ?_
          rw [List.append_nil]
          exact .tup h1 h2
        · exact q _ _ (same_upd hp) (new_tup (by assumption) all hp (h2.append k2))
      · cases e
    | _ => cases e
  | @lst a xs ds h1 h2 =>
    cases rb with
    | @lst b ys es k1 k2 =>
      unfold opAdd at e
      simp only at e
      split at e
      · rename_i hz
        cases e
        exact .inr (.inr ⟨a, b, xs, ys, rfl, rfl, hid_sub h1, hid_sub k1, by rw [h2.length, k2.length]; exact hz, fun p hp => q _ _ (same_upd hp) (new_lst all hp (h2.append k2))⟩)
      · cases e
    | _ => cases e
  | _ => cases rb <;> cases e
def opSub : D → D → Option D
  | .int i, .int j => some (.int (i - j))
  | _, _ => none
theorem o_sub : Op2 K (rI0 fun i j => .int (i - j)) opSub := by
  intro B H x y a b d Q all ra rb e q
  cases ra with
  | int i =>
    cases rb with
    | int j => cases e; exact ⟨i, j, rfl, rfl, q _ H (Same.refl H) (.int _)⟩
    | _ => cases e
  | _ => cases rb <;> cases e
noncomputable def mulOk (i j : Int) : Bool := @decide (((-(2 ^ 64) < i) ∧ (i < 2 ^ 64)) ∨ ((-(2 ^ 64) < j) ∧ (j < 2 ^ 64))) (Classical.propDecidable _)
theorem mulOk_iff {i j : Int} : mulOk i j = true ↔ ((-(2 ^ 64) < i) ∧ (i < 2 ^ 64)) ∨ ((-(2 ^ 64) < j) ∧ (j < 2 ^ 64)) := @decide_eq_true_iff _ (Classical.propDecidable _)

theorem tuple_mul1 (l : Addr) (items : Array Value) (n : Nat) (dd : Option Addr) (sl : Array (Option Value)) (u : Tok) :
    Meets (Builtin.«tuple.__mul__» ⟨[.ref l, .int 1 u], []⟩) (fun _ R s => s.heap.get? l = some { cls := .type "tuple", dict := dd, data := .seq items n, slots := sl } ∧
      R (.ok (.ret (Value.ref l))) s) :=
  .of_wp fun prog w A R s h => by
    obtain ⟨hp, g, d, tk, os⟩ := s
    obtain ⟨hl, h⟩ := h
    have f1 := AutoSeq1.idx_int
    wp_walk using wpAny_loadPart' hl
    exact ⟨_, rfl, h⟩
def rRep1 (K : PySem.W.Frag) : R2 := fun x y H Q => ∃ l xs, x = .ref l ∧ y = .int 1 ∧ SqT K H l xs ∧ Q (.ref l) H
theorem op_rep1 : OpR X (binaryOp .Mult) (rRep1 X.K) := by
  intro pins s σ H x y v u Q I rx ry h
  obtain ⟨l, xs, rfl, rfl, hT, q⟩ := h
  cases rx
  obtain ⟨t, rfl⟩ := ry
  obtain ⟨its, r, ⟨⟨cls, dd, data, sl⟩, ho, hc, n, hd⟩, hs⟩ := I.tuple hT
  simp only at hc hd
  subst hc hd
  exact wpAny_binaryOp_repeat_ref (T := "tuple") (U := "int") (by decide) ⟨_, ho, rfl⟩ (fun s' => typeIs_int s' 1 t) noFill_tuple_mul F.fills_int_mul F.slot_int_rmul repeat_tuple F.slot_int_index.lookup
    (call_meets F.slot_int_rmul (typeIs_int s 1 t) F.entry_int_rmul (F.args_int_rmul_2 _ _) (int_rmul_tuple 1 t l its.toArray n dd sl)
      ⟨ho, rfl, ⟨_, ho, rfl⟩, call_meets F.slot_tuple_mul ⟨_, ho, rfl⟩ F.entry_tuple_mul (F.args_tuple_mul_2 _ _) (tuple_mul1 l its.toArray n dd sl t) ⟨ho, ⟨.ref l, H, I, rfl, q⟩⟩⟩)
noncomputable def opMul : D → D → Option D
  | .int i, .int j => if mulOk i j = true then some (.int (i * j)) else none
  | .tuple xs, .int k => if 1 ≤ k ∧ k ≤ 1000 ∧ xs.length ≤ 1000 ∧ xs ≠ [] then some (.tuple (List.replicate k.toNat xs).flatten) else none
  | .list xs, .int k => if 0 ≤ k ∧ k ≤ 1000 ∧ xs.length ≤ 1000 then some (.list (List.replicate k.toNat xs).flatten) else none
  | _, _ => none
def rMul (K : PySem.W.Frag) : R2 := fun x y H Q => rI CMul (fun i j => .int (i * j)) x y H Q ∨ (rRep1 K x y H Q ∨ (rRepP K x y H Q ∨ rRep x y H Q))
theorem or_mul : OpR X (binaryOp .Mult) (rMul X.K) := OpR.or op_mul (OpR.or op_rep1 (OpR.or op_repP op_rep))
theorem RepAll.rep {H : Hp} {vs : List V} {ds : List D} (r : RepAll K H vs ds) : ∀ k : Nat, RepAll K H (List.replicate k vs).flatten (List.replicate k ds).flatten
  | 0 => .nil
  | k + 1 => by
    rw [List.replicate_succ, List.replicate_succ, List.flatten_cons, List.flatten_cons]
    exact r.append (RepAll.rep r k)
theorem o_mul : Op2 K (rMul K) opMul := by
  intro B H x y a b d Q all ra rb e q
  cases ra with
  | int i =>
    cases rb with
    | int j =>
      unfold opMul at e
      simp only at e
      split at e
      · rename_i hm
        cases e
        refine .inl ⟨i, j, rfl, rfl, ?_, q _ H (Same.refl H) (.int _)⟩
        exact mulOk_iff.mp hm
      · cases e
    | _ => cases e
  | @tup a xs ds h1 h2 =>
    cases rb with
    | int k =>
      unfold opMul at e
      simp only at e
      split at e
      · rename_i hz
        obtain ⟨z1, z2, z3, z4⟩ := hz
        cases e
        by_cases hk : k = 1
        · subst hk
          refine .inr (.inl ⟨a, xs, rfl, rfl, sqT_mono (fun _ _ => hid_sub) h1.sq, q _ H (Same.refl H) ?_⟩)
          show Rep K (hid B H) (.ref a) (.tuple (List.replicate 1 ds).flatten)
          simp only [List.replicate_succ, List.replicate_zero, List.flatten_cons, List.flatten_nil, List.append_nil]
          exact .tup h1 h2
        · refine .inr (.inr (.inl ⟨a, k, xs, rfl, rfl, sqT_mono (fun _ _ => hid_sub) h1.sq, fun z => ?_, by omega, z2, by rw [h2.length]; exact z3, fun p o ho hp => q _ _ (same_upd hp) (new_tup ho all hp (h2.rep _))⟩))
          subst z
          cases h2
          exact z4 rfl
      · cases e
    | _ => cases e
  | @lst a xs ds h1 h2 =>
    cases rb with
    | int k =>
      unfold opMul at e
      simp only at e
      split at e
      · rename_i hz
        obtain ⟨z1, z2, z3⟩ := hz
        cases e
        have hb : xs.length * k.toNat ≤ 1000 * 1000 := Nat.mul_le_mul (by rw [h2.length]; exact z3) (by omega)
        exact .inr (.inr (.inr ⟨a, k, xs, rfl, rfl, hid_sub h1, by omega, by omega, by rw [sizeLine_eq]; omega, fun p hp => q _ _ (same_upd hp) (new_lst all hp (h2.rep _))⟩))
      · cases e
    | _ => cases e
  | _ => cases rb <;> cases e
def opMod : D → D → Option D
  | .int i, .int j => if 0 < j then some (.int (i % j)) else none
  | _, _ => none
theorem o_mod : Op2 K (rI (fun _ j => 0 < j) fun i j => .int (i % j)) opMod := by
  intro B H x y a b d Q all ra rb e q
  cases ra with
  | int i =>
    cases rb with
    | int j =>
      unfold opMod at e
      simp only at e
      split at e
      · cases e; exact ⟨i, j, rfl, rfl, by assumption, q _ H (Same.refl H) (.int _)⟩
      · cases e
    | _ => cases e
  | _ => cases rb <;> cases e
def opDiv : D → D → Option D
  | .int i, .int j => if 0 < j ∧ j < 1073741824 then some (.int (i / j)) else none
  | _, _ => none
theorem o_div : Op2 K (rI CDiv fun i j => .int (i / j)) opDiv := by
  intro B H x y a b d Q all ra rb e q
  cases ra with
  | int i =>
    cases rb with
    | int j =>
      unfold opDiv at e
      simp only at e
      split at e
      · cases e; exact ⟨i, j, rfl, rfl, by assumption, q _ H (Same.refl H) (.int _)⟩
      · cases e
    | _ => cases e
  | _ => cases rb <;> cases e
def opNeg : D → Option D
  | .int i => some (.int (-i))
  | _ => none
theorem o_neg : Op1 K (rU fun i => .int (-i)) opNeg := by
  intro B H x a d Q all ra e q
  cases ra with
  | int i => cases e; exact ⟨i, rfl, q _ H (Same.refl H) (.int _)⟩
  | _ => cases e

/-! ### comparisons -/
/-- equal data, where the model tells -/
def opEq (a b : D) : Option D := if SeqAt.shaped a = true ∧ SeqAt.shaped b = true then some (.bool (PyData.eqv a b)) else none
def opNe (a b : D) : Option D := if SeqAt.shaped a = true ∧ SeqAt.shaped b = true then some (.bool (!PyData.eqv a b)) else none
theorem o_eq : Op2 K (rEqD K) opEq := by
  intro B H x y a b d Q all ra rb e q
  unfold opEq at e
  split at e
  · rename_i h
    cases e
    exact ⟨a, b, Rep.dp (fun _ _ => hid_sub) _ _ ra, Rep.dp (fun _ _ => hid_sub) _ _ rb, h.1, h.2, q _ H (Same.refl H) (.bl _)⟩
  · cases e
theorem o_ne : Op2 K (rNeD K) opNe := by
  intro B H x y a b d Q all ra rb e q
  unfold opNe at e
  split at e
  · rename_i h
    cases e
    exact ⟨a, b, Rep.dp (fun _ _ => hid_sub) _ _ ra, Rep.dp (fun _ _ => hid_sub) _ _ rb, h.1, h.2, q _ H (Same.refl H) (.bl _)⟩
  · cases e
def opLt : D → D → Option D
  | .int i, .int j => some (.bool (decide (i < j)))
  | .str x, .str y => some (.bool (decide (x.cps.toList < y.cps.toList)))
  | _, _ => none
def opLe : D → D → Option D
  | .int i, .int j => some (.bool (decide (i ≤ j)))
  | .str x, .str y => some (.bool (!decide (y.cps.toList < x.cps.toList)))
  | _, _ => none
def opGt : D → D → Option D
  | .int i, .int j => some (.bool (decide (j < i)))
  | .str x, .str y => some (.bool (decide (y.cps.toList < x.cps.toList)))
  | _, _ => none
def opGe : D → D → Option D
  | .int i, .int j => some (.bool (decide (j ≤ i)))
  | .str x, .str y => some (.bool (!decide (x.cps.toList < y.cps.toList)))
  | _, _ => none
def rCmp (fi : Int → Int → Bool) (fs : Str → Str → Bool) : R2 := fun x y H Q => rI0 (fun i j => .bl (fi i j)) x y H Q ∨ ∃ i j, x = .str i ∧ y = .str j ∧ Q (.bl (fs i j)) H
theorem o_cmp {f : D → D → Option D} {fi : Int → Int → Bool} {fs : Str → Str → Bool} (h1 : ∀ i j, f (.int i) (.int j) = some (.bool (fi i j))) (h2 : ∀ i j, f (.str i) (.str j) = some (.bool (fs i j)))
    (h3 : ∀ a b d, f a b = some d → (∃ i j, a = .int i ∧ b = .int j) ∨ ∃ i j, a = .str i ∧ b = .str j) : Op2 K (rCmp fi fs) f := by
  intro B H x y a b d Q all ra rb e q
  rcases h3 a b d e with ⟨i, j, rfl, rfl⟩ | ⟨i, j, rfl, rfl⟩
  · cases ra; cases rb
    rw [h1] at e; cases e
    exact .inl ⟨i, j, rfl, rfl, q _ H (Same.refl H) (.bl _)⟩
  · cases ra; cases rb
    rw [h2] at e; cases e
    exact .inr ⟨i, j, rfl, rfl, q _ H (Same.refl H) (.bl _)⟩
theorem or_lt : OpR X (compareOp .Lt) (rCmp (fun i j => decide (i < j)) fun x y => decide (x.cps.toList < y.cps.toList)) := OpR.or op_lt op_lt_str
theorem or_le : OpR X (compareOp .LtE) (rCmp (fun i j => decide (i ≤ j)) fun x y => !decide (y.cps.toList < x.cps.toList)) := OpR.or op_le op_le_str
theorem or_gt : OpR X (compareOp .Gt) (rCmp (fun i j => decide (j < i)) fun x y => decide (y.cps.toList < x.cps.toList)) := OpR.or op_gt op_gt_str
theorem or_ge : OpR X (compareOp .GtE) (rCmp (fun i j => decide (j ≤ i)) fun x y => !decide (x.cps.toList < y.cps.toList)) := OpR.or op_ge op_ge_str
theorem o_lt : Op2 K (rCmp (fun i j => decide (i < j)) fun x y => decide (x.cps.toList < y.cps.toList)) opLt := o_cmp (fun _ _ => rfl) (fun _ _ => rfl) fun a b d e => by
  cases a <;> cases b <;> first | (cases e; done) | exact .inl ⟨_, _, rfl, rfl⟩ | exact .inr ⟨_, _, rfl, rfl⟩
theorem o_le : Op2 K (rCmp (fun i j => decide (i ≤ j)) fun x y => !decide (y.cps.toList < x.cps.toList)) opLe := o_cmp (fun _ _ => rfl) (fun _ _ => rfl) fun a b d e => by
  cases a <;> cases b <;> first | (cases e; done) | exact .inl ⟨_, _, rfl, rfl⟩ | exact .inr ⟨_, _, rfl, rfl⟩
theorem o_gt : Op2 K (rCmp (fun i j => decide (j < i)) fun x y => decide (y.cps.toList < x.cps.toList)) opGt := o_cmp (fun _ _ => rfl) (fun _ _ => rfl) fun a b d e => by
  cases a <;> cases b <;> first | (cases e; done) | exact .inl ⟨_, _, rfl, rfl⟩ | exact .inr ⟨_, _, rfl, rfl⟩
theorem o_ge : Op2 K (rCmp (fun i j => decide (j ≤ i)) fun x y => !decide (x.cps.toList < y.cps.toList)) opGe := o_cmp (fun _ _ => rfl) (fun _ _ => rfl) fun a b d e => by
  cases a <;> cases b <;> first | (cases e; done) | exact .inl ⟨_, _, rfl, rfl⟩ | exact .inr ⟨_, _, rfl, rfl⟩
def isNoneD : D → Bool
  | .none => true
  | _ => false
def opIsN (a b : D) : Option D := if isNoneD b = true then some (.bool (isNoneD a)) else none
def opNotN (a b : D) : Option D := if isNoneD b = true then some (.bool (!isNoneD a)) else none
theorem isNone_rep {H : Hp} {x : V} {a : D} (r : Rep K H x a) : decide (x = V.non) = isNoneD a := by
  cases r <;> first | rfl | simp [isNoneD]
theorem o_isN : Op2 K (fun x y H Q => y = .non ∧ Q (.bl (decide (x = .non))) H) opIsN := by
  intro B H x y a b d Q all ra rb e q
  unfold opIsN at e
  split at e
  · rename_i h
    cases e
    cases rb with
    | non => exact ⟨rfl, by rw [isNone_rep ra]; exact q _ H (Same.refl H) (.bl _)⟩
    | _ => cases h
  · cases e
theorem o_notN : Op2 K (fun x y H Q => y = .non ∧ Q (.bl (!decide (x = .non))) H) opNotN := by
  intro B H x y a b d Q all ra rb e q
  unfold opNotN at e
  split at e
  · rename_i h
    cases e
    cases rb with
    | non => exact ⟨rfl, by rw [isNone_rep ra]; exact q _ H (Same.refl H) (.bl _)⟩
    | _ => cases h
  · cases e
/-- one of flat things, or a text within a text -/
def flatD : D → Bool
  | .none => true
  | .bool _ => true
  | .int _ => true
  | .str _ => true
  | _ => false
theorem flat_rep {H : Hp} {x : V} {a : D} (r : Rep K H x a) (h : flatD a = true) : flatV x = true := by
  cases r <;> first | rfl | cases h
theorem eqV_rep {H : Hp} {x y : V} {a b : D} (ra : Rep K H x a) (rb : Rep K H y b) (ha : flatD a = true) (hb : flatD b = true) : eqV x y = PyData.eqv a b := by
  cases ra <;> cases rb <;> first | rfl | (cases ha; done) | (cases hb; done) | skip
  all_goals simp [eqV, PyData.eqv]
theorem flat_all {H : Hp} : ∀ {ds : List D} {vs : List V}, RepAll K H vs ds → ds.all flatD = true → vs.all flatV = true
  | [], _, h, _ => by cases h; rfl
  | d :: ds, _, h, e => by
    cases h with
    | cons h1 h2 =>
      simp only [List.all_cons, Bool.and_eq_true] at e ⊢
      exact ⟨flat_rep h1 e.1, flat_all h2 e.2⟩
theorem inV_rep {H : Hp} {x : V} {a : D} (ra : Rep K H x a) (ha : flatD a = true) : ∀ {ds : List D} {vs : List V}, RepAll K H vs ds → ds.all flatD = true → inV x vs = ds.any fun z => PyData.eqv z a
  | [], _, h, _ => by cases h; rfl
  | d :: ds, _, h, e => by
    cases h with
    | cons h1 h2 =>
      simp only [List.all_cons, Bool.and_eq_true] at e
      have ih := inV_rep ra ha h2 e.2
      unfold inV at ih ⊢
      rw [List.any_cons, List.any_cons, ih, eqV_rep h1 ra e.1 ha]
def opIn : D → D → Option D
  | .str x, .str y => some (.bool (PySem.Txt.contains y x))
  | a, .tuple ds => if flatD a = true ∧ ds.all flatD = true then some (.bool (ds.any fun z => PyData.eqv z a)) else none
  | a, .list ds => if flatD a = true ∧ ds.all flatD = true then some (.bool (ds.any fun z => PyData.eqv z a)) else
      if SeqAt.shaped a = true ∧ SeqAt.shaped (.list ds) = true then some (.bool (ds.any fun z => PyData.eqv z a)) else none
  | _, _ => none
def opNotIn (a b : D) : Option D := match opIn a b with
  | some (.bool k) => some (.bool (!k))
  | _ => none
def rInA (K : PySem.W.Frag) (neg : Bool) : R2 := fun x y H Q => (∃ i j, x = .str i ∧ y = .str j ∧ Q (.bl (if neg then !PySem.Txt.contains j i else PySem.Txt.contains j i)) H) ∨
  (rIn K neg x y H Q ∨ (∃ d ds, Dp K H x d ∧ Dp K H y (.list ds) ∧ SeqAt.shaped d = true ∧ SeqAt.shaped (.list ds) = true ∧ Q (.bl (if neg then !(ds.any fun z => PyData.eqv z d) else ds.any fun z => PyData.eqv z d)) H))
theorem or_in {k : Nat} (hr : Room k X.A) : OpR X (compareOp .In) (rInA X.K false) := OpR.or op_in_str (OpR.or op_in_seq (op_inD (by have := hr.un; omega)))
theorem or_notIn {k : Nat} (hr : Room k X.A) : OpR X (compareOp .NotIn) (rInA X.K true) := OpR.or L2.op_notin_str (OpR.or op_notIn_seq (op_notInD (by have := hr.un; omega)))
theorem in_core {neg : Bool} {B : List Addr} {H : Hp} {x y : V} {a b : D} {k : Bool} {Q : VK} (ra : Rep K (hid B H) x a) (rb : Rep K (hid B H) y b) (e : opIn a b = some (.bool k)) (q : Q (.bl (if neg then !k else k)) H) : rInA K neg x y H Q := by
  cases rb with
  | str z =>
    cases ra with
    | str w => cases e; exact .inl ⟨w, z, rfl, rfl, q⟩
    | _ => cases e
  | @tup c ys es k1 k2 =>
    have e' : (if flatD a = true ∧ es.all flatD = true then some (PyData.bool (es.any fun z => PyData.eqv z a)) else none) = some (.bool k) := by cases a <;> exact e
    split at e'
    · rename_i h
      cases e'
      exact .inr (.inl ⟨c, ys, rfl, .inr (sqT_mono (fun _ _ => hid_sub) k1.sq), flat_rep ra h.1, flat_all k2 h.2, by rw [inV_rep ra h.1 k2 h.2]; exact q⟩)
    · cases e'
  | @lst c ys es k1 k2 =>
    have e' : (if flatD a = true ∧ es.all flatD = true then some (PyData.bool (es.any fun z => PyData.eqv z a)) else
      if SeqAt.shaped a = true ∧ SeqAt.shaped (.list es) = true then some (PyData.bool (es.any fun z => PyData.eqv z a)) else none) = some (.bool k) := by cases a <;> exact e
    split at e'
    · rename_i h
      cases e'
      exact .inr (.inl ⟨c, ys, rfl, .inl (.inl (.inl (hid_sub k1))), flat_rep ra h.1, flat_all k2 h.2, by rw [inV_rep ra h.1 k2 h.2]; exact q⟩)
    · split at e'
      · rename_i h
        cases e'
        exact .inr (.inr ⟨a, es, Rep.dp (fun _ _ => hid_sub) _ _ ra, Rep.dp (fun _ _ => hid_sub) _ _ (.lst k1 k2), h.1, h.2, q⟩)
      · cases e'
  | _ => cases a <;> cases e
theorem opIn_bool {a b d : D} (e : opIn a b = some d) : ∃ k, d = .bool k := by
  cases b with
  | str z => cases a <;> first | (cases e; done) | (cases e; exact ⟨_, rfl⟩)
  | tuple es =>
    have e' : (if flatD a = true ∧ es.all flatD = true then some (PyData.bool (es.any fun z => PyData.eqv z a)) else none) = some d := by cases a <;> exact e
    split at e' <;> cases e'
    exact ⟨_, rfl⟩
  | list es =>
    have e' : (if flatD a = true ∧ es.all flatD = true then some (PyData.bool (es.any fun z => PyData.eqv z a)) else
      if SeqAt.shaped a = true ∧ SeqAt.shaped (.list es) = true then some (PyData.bool (es.any fun z => PyData.eqv z a)) else none) = some d := by cases a <;> exact e
    split at e'
    · cases e'; exact ⟨_, rfl⟩
    · split at e' <;> cases e'
      exact ⟨_, rfl⟩
  | _ => cases a <;> cases e
theorem o_in : Op2 K (rInA K false) opIn := by
  intro B H x y a b d Q all ra rb e q
  obtain ⟨k, rfl⟩ := opIn_bool e
  exact in_core ra rb e (q _ H (Same.refl H) (.bl _))
theorem o_notIn : Op2 K (rInA K true) opNotIn := by
  intro B H x y a b d Q all ra rb e q
  unfold opNotIn at e
  split at e
  · rename_i k h
    cases e
    exact in_core ra rb h (q _ H (Same.refl H) (.bl _))
  · cases e

/-! ### subscripts, slices -/
def opIx : D → D → Option D
  | .list ds, .int i => atI ds i
  | .tuple ds, .int i => atI ds i
  | .str z, .int i => if z.length ≤ sizeLine then (atI z.cps.toList i).map fun c => T [c] else none
  | _, _ => none
theorem atI_rep {H : Hp} {vs : List V} {ds : List D} {i : Int} {d : D} (r : RepAll K H vs ds) (h : atI ds i = some d) : ∃ v, atI vs i = some v ∧ Rep K H v d := by
  unfold atI at h ⊢
  rw [r.length]
  cases q : ixN ds.length i with
  | none => rw [q] at h; cases h
  | some j =>
    rw [q] at h
    exact r.get h
theorem o_ix : Op2 K (rIx K) opIx := by
  intro B H x y a b d Q all ra rb e q
  cases rb with
  | int i =>
    cases ra with
    | str z =>
      unfold opIx at e
      simp only at e
      split at e
      · rename_i hz
        cases h : atI z.cps.toList i with
        | none => rw [h] at e; cases e
        | some c =>
          rw [h] at e
          cases e
          exact .inr (.inr ⟨z, i, c, rfl, rfl, hz, h, q _ H (Same.refl H) (.str _)⟩)
      · cases e
    | @lst p xs ds h1 h2 =>
      obtain ⟨v, h3, h4⟩ := atI_rep h2 (show atI ds i = some d from e)
      exact .inl ⟨p, xs, i, v, rfl, rfl, .inl (.inl (hid_sub h1)), h3, q _ H (Same.refl H) h4⟩
    | @tup p xs ds h1 h2 =>
      obtain ⟨v, h3, h4⟩ := atI_rep h2 (show atI ds i = some d from e)
      exact .inr (.inl ⟨p, xs, i, v, rfl, rfl, sqT_mono (fun _ _ => hid_sub) h1.sq, h3, q _ H (Same.refl H) h4⟩)
    | _ => cases e
  | _ => cases ra <;> cases e
theorem ev_ix {a b : Expr} {ga gb : M D} {ca : String → Addr} {W : WX} {pos : Pos} (ha : PE X a (tG X.K ca W ga)) (hb : PE X b (tG X.K ca W gb)) (hs : PlainIx b := by exact fun _ _ => rfl) : PE X (.Subscript a b pos) (tG X.K ca W (c2 opIx ga gb)) :=
  PE.weak (pe_ix ix_seq ha hb hs) fun _ _ _ h => tG_c2 o_ix h
/-- l[lo:hi] -/
def cutL {α : Type} (l : List α) (lo hi : Option Int) : List α := (l.drop (HT.sIx l.length 0 lo)).take (HT.sIx l.length l.length hi - HT.sIx l.length 0 lo)
def opSl : D → Option Int → Option Int → Option D
  | .str z, lo, hi => if z.length ≤ sizeLine then some (T (cutL z.cps.toList lo hi)) else none
  | .list ds, lo, hi => some (.list (cutL ds lo hi))
  | .tuple ds, lo, hi => some (.tuple (cutL ds lo hi))
  | _, _, _ => none
def partD : D → Option (Option Int)
  | .int i => some (some i)
  | _ => none
def gPart (g : M D) : M (Option Int) := fun ρ n => (g ρ n).bind fun d n1 => Res.lift (partD d) n1
def gNoPart : M (Option Int) := fun _ n => .ok none n
def cSl (g : M D) (lo hi : M (Option Int)) : M D := fun ρ n => (g ρ n).bind fun a n1 => (lo ρ n1).bind fun l n2 => (hi ρ n2).bind fun h n3 => Res.lift (opSl a l h) n3
def tGO (K : PySem.W.Frag) (ca : String → Addr) (W : WX) (g : M (Option Int)) : TO := fun σ H Q => ∃ c ρ n, SR K c σ H ρ n ∧ (g ρ n).Post (fun o n' => ∀ H', Gx c.t H n' H' → Q o H') (exK ca W c σ H)
theorem PO.weak {e : Option Expr} {t t' : TO} (h : PO X e t) (w : ∀ σ H Q, t' σ H Q → t σ H Q) : PO X e t' := ⟨fun pins s σ H Q I q => h.run pins s σ H Q I (w σ H Q q)⟩
theorem eo_none {ca : String → Addr} {W : WX} : PO X none (tGO X.K ca W gNoPart) := PO.weak po_none fun σ H Q ⟨c, ρ, n, S, h⟩ => h H S.gx
theorem eo_some {ca : String → Addr} {W : WX} {e : Expr} {g : M D} (h : PE X e (tG X.K ca W g)) : PO X (some e) (tGO X.K ca W (gPart g)) := PO.weak (po_some h) fun σ H Q ⟨c, ρ, n, S, h⟩ => by
  refine ⟨c, ρ, n, S, (Res.post_bind h).mono (fun a n1 h1 x H1 g1 r1 => ?_) (fun e m h => h)⟩
  obtain ⟨o, e, h2⟩ := Res.post_lift h1
  cases r1 with
  | int i => cases e; exact ⟨i, rfl, h2 H1 g1⟩
  | _ => cases e
def rSlG (K : PySem.W.Frag) : V → Option Int → Option Int → Hp → VK → Prop := fun x lo hi H Q => rSlS x lo hi H Q ∨ (rSlL K x lo hi H Q ∨ rSlP K x lo hi H Q)
theorem cutV_rep {H : Hp} {vs : List V} {ds : List D} (r : RepAll K H vs ds) (lo hi : Option Int) : RepAll K H (cutV vs lo hi) (cutL ds lo hi) := by
  unfold cutV cutL
  rw [r.length]
  exact (r.drop _).take _
theorem ev_sl {e : Expr} {lo hi : Option Expr} {g : M D} {gl gh : M (Option Int)} {ca : String → Addr} {W : WX} {p2 pos : Pos} (he : PE X e (tG X.K ca W g)) (hl : PO X lo (tGO X.K ca W gl)) (hh : PO X hi (tGO X.K ca W gh)) : PE X (.Subscript e (.Slice lo hi none p2) pos) (tG X.K ca W (cSl g gl gh)) :=
  PE.weak (pe_slice (r := rSlG X.K) (SlR.or sl_str (SlR.or sl_list sl_tupP)) he hl hh) fun σ H Q ⟨c, ρ, n, S, h⟩ => by
    refine ⟨c, ρ, n, S, (Res.post_bind h).mono (fun a n1 h1 x H1 g1 r1 => ?_) (fun e m h => h)⟩
    have S1 := S.ext g1
    refine ⟨c, ρ, n1, S1, (Res.post_bind h1).mono (fun l n2 h2 H2 g2 => ?_) (fun e m h => exK.at h g1)⟩
    have S2 := S1.ext g2
    refine ⟨c, ρ, n2, S2, (Res.post_bind h2).mono (fun u n3 h3 H3 g3 => ?_) (fun e m h => exK.at h (g1.trans g2))⟩
    have S3 := S2.ext g3
    obtain ⟨d, ed, h4⟩ := Res.post_lift h3
    have g13 := (g1.trans g2).trans g3
    have r3 := Rep.mono ((g2.trans g3).sees S.tB') _ _ r1
    cases r3 with
    | str z =>
      unfold opSl at ed
      simp only at ed
      split at ed
      · rename_i hz
        cases ed
        exact .inl ⟨z, rfl, hz, h4 _ H3 g13 (.str _)⟩
      · cases ed
    | @lst p xs ds k1 k2 =>
      cases ed
      refine .inr (.inl ⟨p, xs, rfl, .inl (.inl (hid_sub k1)), fun q hq => h4 _ _ (g13.trans (S3.pure (same_upd hq))) (new_lst S3.all hq (cutV_rep k2 l u))⟩)
    | @tup p xs ds k1 k2 =>
      cases ed
      refine .inr (.inr ⟨p, xs, rfl, sqT_mono (fun _ _ => hid_sub) k1.sq, fun ⟨z1, z2⟩ => ?_, fun _ q o ho hq => h4 _ _ (g13.trans (S3.pure (same_upd hq))) (new_tup ho S3.all hq (cutV_rep k2 l u))⟩)
      refine h4 _ H3 g13 ?_
      rw [k2.length] at z1 z2
      unfold cutL
      rw [z1, z2, List.drop_zero, Nat.sub_zero, List.take_length]
      exact .tup k1 k2
    | _ => cases ed

/-! ### built-ins -/
def fLen : List D → Option D
  | [.str z] => if z.length ≤ sizeLine then some (.int z.length) else none
  | [.list ds] => some (.int ds.length)
  | [.tuple ds] => some (.int ds.length)
  | _ => none
theorem o_len : OpN K (fun xs H Q => ∃ x n, xs = [x] ∧ LenV K x H n ∧ Q (.int n) H) fLen := by
  intro B H xs as d Q all r e q
  cases r with
  | nil => cases e
  | @cons v vs a as r1 r2 =>
    cases r2 with
    | nil =>
      cases r1 with
      | str z =>
        unfold fLen at e
        simp only at e
        split at e
        · cases e; exact ⟨_, z.length, rfl, ⟨by assumption, rfl⟩, q _ H (Same.refl H) (.int _)⟩
        · cases e
      | @lst p xs ds h1 h2 => cases e; exact ⟨_, xs.length, rfl, .inl ⟨xs, .inl (.inl (hid_sub h1)), rfl⟩, by rw [h2.length]; exact q _ H (Same.refl H) (.int _)⟩
      | @tup p xs ds h1 h2 => cases e; exact ⟨_, xs.length, rfl, .inr ⟨xs, sqT_mono (fun _ _ => hid_sub) h1.sq, rfl⟩, by rw [h2.length]; exact q _ H (Same.refl H) (.int _)⟩
      | _ => cases e
    | cons _ _ => unfold fLen at e; cases r1 <;> cases e
def fTuple : List D → Option D
  | [.list ds] => some (.tuple ds)
  | [.tuple ds] => some (.tuple ds)
  | _ => none
theorem o_tuple : OpN K (rTupP K) fTuple := by
  intro B H xs as d Q all r e q
  cases r with
  | nil => cases e
  | @cons v vs a as r1 r2 =>
    cases r2 with
    | nil =>
      cases r1 with
      | @lst p xs ds h1 h2 => cases e; exact ⟨p, xs, rfl, .inl ⟨.inl (.inl (hid_sub h1)), fun l o ho hl => q _ _ (same_upd hl) (new_tup ho all hl h2)⟩⟩
      | @tup p xs ds h1 h2 => cases e; exact ⟨p, xs, rfl, .inr ⟨sqT_mono (fun _ _ => hid_sub) h1.sq, q _ H (Same.refl H) (.tup h1 h2)⟩⟩
      | _ => cases e
    | cons _ _ => unfold fTuple at e; cases r1 <;> cases e
def fList : List D → Option (List D)
  | [.list ds] => some ds
  | [.tuple ds] => some ds
  | _ => none
theorem o_list : OpNF K (fun xs H Q => ∃ p ys, xs = [.ref p] ∧ (SqL K H p ys ∨ SqT K H p ys) ∧ ∀ l, H l = none → Q (.ref l) (upd H l (.lst ys))) fList := by
  intro B H xs as ds' Q all r e q
  cases r with
  | nil => cases e
  | @cons v vs a as r1 r2 =>
    cases r2 with
    | nil =>
      cases r1 with
      | @lst p xs ds h1 h2 => cases e; exact ⟨p, xs, rfl, .inl (.inl (.inl (hid_sub h1))), fun l hl => q l xs _ (same_upd hl) hl upd_same (Rep.monoAll (hid_fresh hl) _ _ h2)⟩
      | @tup p xs ds h1 h2 => cases e; exact ⟨p, xs, rfl, .inr (sqT_mono (fun _ _ => hid_sub) h1.sq), fun l hl => q l xs _ (same_upd hl) hl upd_same (Rep.monoAll (hid_fresh hl) _ _ h2)⟩
      | _ => cases e
    | cons _ _ => unfold fList at e; cases r1 <;> cases e
def fAny : List D → Option D
  | [.list ds] => (boolsOf ds).map fun bs => .bool (bs.any id)
  | _ => none
def fAll : List D → Option D
  | [.list ds] => (boolsOf ds).map fun bs => .bool (bs.all id)
  | _ => none
def fSum : List D → Option D
  | [.list ds] => (intsOf ds).map fun bs => .int bs.sum
  | _ => none
theorem o_any : OpN K (rAny K) fAny := by
  intro B H xs as d Q all r e q
  cases r with
  | nil => cases e
  | @cons v vs a as r1 r2 =>
    cases r2 with
    | nil =>
      cases r1 with
      | @lst p xs ds h1 h2 =>
        cases z : boolsOf ds with
        | none => simp [fAny, z] at e
        | some bs =>
          simp [fAny, z] at e
          subst e
          rw [boolsOf_eq z] at h2
          rw [h2.bools] at h1
          exact ⟨p, bs, rfl, .inl (.inl (hid_sub h1)), q _ H (Same.refl H) (.bl _)⟩
      | _ => cases e
    | cons _ _ => unfold fAny at e; cases r1 <;> cases e
theorem o_all : OpN K (rAll K) fAll := by
  intro B H xs as d Q all r e q
  cases r with
  | nil => cases e
  | @cons v vs a as r1 r2 =>
    cases r2 with
    | nil =>
      cases r1 with
      | @lst p xs ds h1 h2 =>
        cases z : boolsOf ds with
        | none => simp [fAll, z] at e
        | some bs =>
          simp [fAll, z] at e
          subst e
          rw [boolsOf_eq z] at h2
          rw [h2.bools] at h1
          exact ⟨p, bs, rfl, .inl (.inl (hid_sub h1)), q _ H (Same.refl H) (.bl _)⟩
      | _ => cases e
    | cons _ _ => unfold fAll at e; cases r1 <;> cases e
theorem o_sum : OpN K (rSum K) fSum := by
  intro B H xs as d Q all r e q
  cases r with
  | nil => cases e
  | @cons v vs a as r1 r2 =>
    cases r2 with
    | nil =>
      cases r1 with
      | @lst p xs ds h1 h2 =>
        cases z : intsOf ds with
        | none => simp [fSum, z] at e
        | some bs =>
          simp [fSum, z] at e
          subst e
          rw [intsOf_eq z] at h2
          rw [h2.ints] at h1
          exact ⟨p, bs, rfl, .inl (.inl (hid_sub h1)), q _ H (Same.refl H) (.int _)⟩
      | _ => cases e
    | cons _ _ => unfold fSum at e; cases r1 <;> cases e
def fAbs : List D → Option D
  | [.int i] => some (.int (if i < 0 then -i else i))
  | _ => none
def fMax2 : List D → Option D
  | [.int i, .int j] => some (.int (if j > i then j else i))
  | _ => none
def fMin2 : List D → Option D
  | [.int i, .int j] => some (.int (if j < i then j else i))
  | _ => none
def fInt : List D → Option D
  | [.int i] => some (.int i)
  | [.bool k] => some (.int (if k then 1 else 0))
  | _ => none
def fOrd : List D → Option D
  | [.str x] => if x.length = 1 then some (.int (x.cps.getD 0 0 : Nat)) else none
  | _ => none
theorem o_abs : OpN K (fun xs H Q => ∃ i, xs = [.int i] ∧ Q (.int (if i < 0 then -i else i)) H) fAbs := by
  intro B H xs as d Q all r e q
  cases r with
  | nil => cases e
  | @cons v vs a as r1 r2 =>
    cases r2 with
    | nil =>
      cases r1 with
      | int i => cases e; exact ⟨i, rfl, q _ H (Same.refl H) (.int _)⟩
      | _ => cases e
    | cons _ _ => unfold fAbs at e; cases r1 <;> cases e
theorem o_int : OpN K (fun xs H Q => (∃ i, xs = [.int i] ∧ Q (.int i) H) ∨ ∃ k, xs = [.bl k] ∧ Q (.int (if k then 1 else 0)) H) fInt := by
  intro B H xs as d Q all r e q
  cases r with
  | nil => cases e
  | @cons v vs a as r1 r2 =>
    cases r2 with
    | nil =>
      cases r1 with
      | int i => cases e; exact .inl ⟨i, rfl, q _ H (Same.refl H) (.int _)⟩
      | bl k => cases e; exact .inr ⟨k, rfl, q _ H (Same.refl H) (.int _)⟩
      | _ => cases e
    | cons _ _ => unfold fInt at e; cases r1 <;> cases e
theorem o_ord : OpN K (fun xs H Q => ∃ x, xs = [.str x] ∧ x.length = 1 ∧ Q (.int (x.cps.getD 0 0 : Nat)) H) fOrd := by
  intro B H xs as d Q all r e q
  cases r with
  | nil => cases e
  | @cons v vs a as r1 r2 =>
    cases r2 with
    | nil =>
      cases r1 with
      | str x =>
        unfold fOrd at e
        simp only at e
        split at e
        · cases e; exact ⟨x, rfl, by assumption, q _ H (Same.refl H) (.int _)⟩
        · cases e
      | _ => cases e
    | cons _ _ => unfold fOrd at e; cases r1 <;> cases e
theorem o_max2 : OpN K (fun xs H Q => ∃ i j, xs = [.int i, .int j] ∧ Q (.int (if j > i then j else i)) H) fMax2 := by
  intro B H xs as d Q all r e q
  cases r with
  | nil => cases e
  | @cons v vs a as r1 r2 =>
    cases r2 with
    | nil => cases r1 <;> cases e
    | @cons v2 vs2 a2 as2 r3 r4 =>
      cases r4 with
      | nil =>
        cases r1 with
        | int i =>
          cases r3 with
          | int j => cases e; exact ⟨i, j, rfl, q _ H (Same.refl H) (.int _)⟩
          | _ => cases e
        | _ => cases r3 <;> cases e
      | cons _ _ => unfold fMax2 at e; cases r1 <;> cases r3 <;> cases e
theorem o_min2 : OpN K (fun xs H Q => ∃ i j, xs = [.int i, .int j] ∧ Q (.int (if j < i then j else i)) H) fMin2 := by
  intro B H xs as d Q all r e q
  cases r with
  | nil => cases e
  | @cons v vs a as r1 r2 =>
    cases r2 with
    | nil => cases r1 <;> cases e
    | @cons v2 vs2 a2 as2 r3 r4 =>
      cases r4 with
      | nil =>
        cases r1 with
        | int i =>
          cases r3 with
          | int j => cases e; exact ⟨i, j, rfl, q _ H (Same.refl H) (.int _)⟩
          | _ => cases e
        | _ => cases r3 <;> cases e
      | cons _ _ => unfold fMin2 at e; cases r1 <;> cases r3 <;> cases e
end
end G

namespace G
open PySem PySem.Spec PyProof.Rows L2

/-! ### what is walked -/
def itemsD : D → Option (List D)
  | .list ds => some ds
  | .tuple ds => some ds
  | .str z => some (z.cps.toList.map fun c => T [c])
  | _ => none
def gItems (g : M D) : M (List D) := fun ρ n => (g ρ n).bind fun d n1 => Res.lift (itemsD d) n1
section
variable {X : Cx} {K : PySem.W.Frag} {ca : String → Addr} {W : WX} {tg e : Expr} {g : M D}
def iAny (K : PySem.W.Frag) (te : TE) : TI := fun σ H R => te σ H fun x H1 => (∃ a, x = .ref a ∧ (∃ xs, SqL K H1 a xs) ∧ R (Itl K a) H1) ∨ (∃ a, x = .ref a ∧ (∃ xs, SqT K H1 a xs) ∧ R (Itt K a) H1) ∨ ∃ z, x = .str z ∧ R (Its z) H1
theorem pi_any {te : TE} (he : PE X e te) : PI X tg e (iAny X.K te) := by
  refine ⟨fun pins s σ H R I h => ?_⟩
  refine thn (he.run pins s σ H _ I h) fun v s1 ⟨x, H1, I1, r1, q1⟩ => ?_
  rcases q1 with ⟨a, rfl, ⟨xs, hq⟩, q⟩ | ⟨a, rfl, ⟨xs, hq⟩, q⟩ | ⟨x, rfl, q⟩
  · cases r1
    obtain ⟨its, rv, p, hz⟩ := I1.list hq
    refine wpAny_pyIter_list p.isList ?_
    refine ⟨s1.heap.objs.size, [s1.heap.objs.size], _, _, H1, rfl, I1.kept (t' := s1.toks) fun b o e => Heap.get?_push_of_some _ e, turn_list a _, ⟨_, Heap.get?_push_size _ rfl, rfl, rfl⟩, fun b hb => ?_, q⟩
    have e : b = s1.heap.objs.size := by simpa using hb
    subst e
    exact I1.fpOk (Nat.le_refl _) (I1.hok.fresh (Nat.le_refl _))
  · cases r1
    obtain ⟨its, rv, p, hz⟩ := I1.tuple hq
    refine wpAny_pyIter_tuple (show s1.heap.IsTuple a its.toArray from p) ?_
    refine ⟨s1.heap.objs.size, [s1.heap.objs.size], _, _, H1, rfl, I1.kept (t' := s1.toks) fun b o e => Heap.get?_push_of_some _ e, turn_tuple a _, ⟨_, Heap.get?_push_size _ rfl, rfl, rfl⟩, fun b hb => ?_, q⟩
    have e : b = s1.heap.objs.size := by simpa using hb
    subst e
    exact I1.fpOk (Nat.le_refl _) (I1.hok.fresh (Nat.le_refl _))
  · obtain ⟨t, rfl⟩ := r1
    cases ha : x.cps.all (· < 128)
    · exact wpAny_pyIter_wide ha (pi_one (tk := s1.toks) I1 _ (turn_str _ x t "str_iterator" (.inr rfl)) ⟨_, Heap.get?_push_size _ rfl, rfl, rfl⟩ q)
    · exact wpAny_pyIter_ascii ha (pi_one (tk := s1.toks) I1 _ (turn_str _ x t "str_ascii_iterator" (.inl rfl)) ⟨_, Heap.get?_push_size _ rfl, rfl, rfl⟩ q)
theorem it_list {B : List Addr} {H : Hp} {a : Addr} {xs : List V} {ds : List D} (h : hid B H a = some (.lst xs)) (r : RepAll K (hid B H) xs ds) : ItOk K B H (Itl K a) ds := fun i B' H' se all => by
  have h' : H' a = some (.lst xs) := hid_sub (se _ _ h)
  have sq : SqL K H' a xs := .inl (.inl h')
  have r' := Rep.monoAll se _ _ r
  refine ⟨fun hi => ⟨xs, xs[i]'(by rw [r.length]; exact hi), sq, List.getElem?_eq_getElem _⟩, fun hi => ⟨xs, sq, by rw [r.length]; exact hi⟩, fun d x H2 hd y => ?_⟩
  obtain ⟨rfl, y⟩ := y
  obtain ⟨v, hv, rv⟩ := r'.get hd
  have e := (y xs sq).symm.trans hv
  cases e
  exact ⟨Same.refl _, rv⟩
theorem it_str {B : List Addr} {H : Hp} (z : Str) : ItOk K B H (Its z) (z.cps.toList.map fun c => T [c]) := fun i B' H' se all => by
  refine ⟨fun hi => by (show i < z.cps.size; simpa using hi), fun hi => by (show z.cps.size ≤ i; simpa using hi), fun d x H2 hd y => ?_⟩
  obtain ⟨rfl, c, hc, rfl⟩ := y
  have e : z.cps.toList[i]? = some c := by simpa using hc
  rw [List.getElem?_map, e] at hd
  cases hd
  exact ⟨Same.refl _, .str _⟩
theorem ig_any (he : PE X e (tG X.K ca W g)) : PI X tg e (iG X.K ca W (gItems g)) := ⟨fun pins s σ H R I ⟨c, ρ, n, S, h⟩ => by
  refine (pi_any he).run pins s σ H R I ⟨c, ρ, n, S, (Res.post_bind h).mono (fun d n1 h1 x H1 g1 r1 => ?_) (fun e m h => h)⟩
  obtain ⟨ds, e, h2⟩ := Res.post_lift h1
  cases r1 with
  | @lst a xs es k1 k2 => cases e; exact .inl ⟨a, rfl, ⟨xs, .inl (.inl (hid_sub k1))⟩, h2 _ H1 g1 (it_list k1 k2)⟩
  | @tup a xs es k1 k2 =>
    cases e
    refine .inr (.inl ⟨a, rfl, ⟨xs, sqT_mono (fun _ _ => hid_sub) k1.sq⟩, h2 _ H1 g1 fun i B' H' se all => ?_⟩)
    have sq : SqT X.K H' a xs := sqT_mono (fun b o q => hid_sub (se b o q)) k1.sq
    have r' := Rep.monoAll se _ _ k2
    refine ⟨fun hi => ⟨xs, xs[i]'(by rw [k2.length]; exact hi), sq, List.getElem?_eq_getElem _⟩, fun hi => ⟨xs, sq, by rw [k2.length]; exact hi⟩, fun d x H2 hd y => ?_⟩
    obtain ⟨rfl, y⟩ := y
    obtain ⟨v, hv, rv⟩ := r'.get hd
    have e := (y xs sq).symm.trans hv
    cases e
    exact ⟨Same.refl _, rv⟩
  | str z => cases e; exact .inr (.inr ⟨z, rfl, h2 _ H1 g1 (it_str z)⟩)
  | _ => cases e⟩
/-- range -/
def rngL (lo : Int) (n : Nat) : List D := (List.range n).map fun i : Nat => PyData.int (lo + ((i : Nat) : Int))
theorem it_rng {B : List Addr} {H : Hp} (lo : Int) (n : Nat) : ItOk K B H (Itr lo n) (rngL lo n) := fun i B' H' se all => by
  refine ⟨fun hi => by (show i < n; simpa [rngL] using hi), fun hi => by (show n ≤ i; simpa [rngL] using hi), fun d x H2 hd y => ?_⟩
  obtain ⟨rfl, rfl⟩ := y
  unfold rngL at hd
  rw [List.getElem?_map] at hd
  by_cases hi : i < n
  · rw [List.getElem?_range hi] at hd
    cases hd
    exact ⟨Same.refl _, .int _⟩
  · rw [List.getElem?_eq_none (by simpa using hi)] at hd
    cases hd
noncomputable def small62 (j : Int) : Bool := @decide (-(2 ^ 62) ≤ j ∧ j < 2 ^ 62) (Classical.propDecidable _)
theorem small62_iff {j : Int} : small62 j = true ↔ -(2 ^ 62) ≤ j ∧ j < 2 ^ 62 := @decide_eq_true_iff _ (Classical.propDecidable _)
theorem small62_of {j : Int} (h : small62 j = true) : -(2 ^ 62) ≤ j ∧ j < 2 ^ 62 := small62_iff.mp h
noncomputable def fRng1 : List D → Option (List D)
  | [.int j] => if small62 j = true then some (rngL 0 j.toNat) else none
  | _ => none
noncomputable def fRng2 : List D → Option (List D)
  | [.int i, .int j] => if small62 i = true ∧ small62 j = true then some (rngL i (j - i).toNat) else none
  | _ => none
def gRng (f : List D → Option (List D)) (g : M (List L)) : M (List D) := fun ρ n => (g ρ n).bind fun ls n1 => (asDs ls n1).bind fun ds n2 => Res.lift (f ds) n2
theorem ig_rng1 {a : Expr} {ga : M (List L)} {p pos : Pos} (hg : Gl X "range") (hm : X.mg "range" = none) (ha : PA X [a] (tGA X.K ca W ga)) (hs : starEach [a] X.env = [(false, eval a X.env)] := by rfl) : PI X tg (.Call (.Name "range" p) [a] [] pos) (iG X.K ca W (gRng fRng1 ga)) :=
  ⟨fun pins s σ H R I ⟨c, ρ, n, S, h⟩ => by
    refine (pi_range1 hg hm ha hs).run pins s σ H R I ⟨c, ρ, n, S, (Res.post_bind h).mono (fun ls n1 h1 vs H1 g1 r1 => ?_) (fun e m h => h)⟩
    obtain ⟨ds, e, h2⟩ := Res.post_lift (Res.post_bind h1)
    obtain ⟨is, e2, h3⟩ := Res.post_lift h2
    have r2 := r1.ds e
    cases r2 with
    | nil => cases e2
    | @cons v vs d ds k1 k2 =>
      cases k2 with
      | nil =>
        cases k1 with
        | int j =>
          unfold fRng1 at e2
          simp only at e2
          split at e2
          · rename_i hz
            cases e2
            obtain ⟨z1, z2⟩ := small62_of hz
            exact ⟨j, rfl, z1, z2, h3 _ H1 g1 (it_rng 0 _)⟩
          · cases e2
        | _ => cases e2
      | cons _ _ => unfold fRng1 at e2; cases k1 <;> cases e2⟩
theorem ig_rng2 {a b : Expr} {ga : M (List L)} {p pos : Pos} (hg : Gl X "range") (hm : X.mg "range" = none) (ha : PA X [a, b] (tGA X.K ca W ga)) (hs : starEach [a, b] X.env = [(false, eval a X.env), (false, eval b X.env)] := by rfl) (hs2 : starEach [b] X.env = [(false, eval b X.env)] := by rfl) :
    PI X tg (.Call (.Name "range" p) [a, b] [] pos) (iG X.K ca W (gRng fRng2 ga)) :=
  ⟨fun pins s σ H R I ⟨c, ρ, n, S, h⟩ => by
    refine (pi_range2 hg hm ha hs hs2).run pins s σ H R I ⟨c, ρ, n, S, (Res.post_bind h).mono (fun ls n1 h1 vs H1 g1 r1 => ?_) (fun e m h => h)⟩
    obtain ⟨ds, e, h2⟩ := Res.post_lift (Res.post_bind h1)
    obtain ⟨is, e2, h3⟩ := Res.post_lift h2
    have r2 := r1.ds e
    cases r2 with
    | nil => cases e2
    | @cons v vs d ds k1 k2 =>
      cases k2 with
      | nil => cases k1 <;> cases e2
      | @cons v2 vs2 d2 ds2 k3 k4 =>
        cases k4 with
        | nil =>
          cases k1 with
          | int i =>
            cases k3 with
            | int j =>
              unfold fRng2 at e2
              simp only at e2
              split at e2
              · rename_i hz
                cases e2
                obtain ⟨z1, z2⟩ := small62_of hz.1
                obtain ⟨z3, z4⟩ := small62_of hz.2
                exact ⟨i, j, rfl, ⟨z1, z2, z3, z4⟩, h3 _ H1 g1 (it_rng i _)⟩
              · cases e2
            | _ => cases e2
          | _ => cases k3 <;> cases e2
        | cons _ _ => unfold fRng2 at e2; cases k1 <;> cases k3 <;> cases e2⟩

/-! ### the script, the town -/
def cScrT (i : Nat) : M Bool := fun ρ n => match ρ[i]? with
  | some (some (.scr ns)) => .ok (!ns.isEmpty) n
  | _ => .bad
def cScrIx (i : Nat) (g : M D) : M D := fun ρ n => match ρ[i]? with
  | some (some (.scr ns)) => (g ρ n).bind fun z n1 => match z with
    | .int k => Res.lift ((atI ns k).map PyData.int) n1
    | _ => .bad
  | _ => .bad
def cLenV (i : Nat) : M D := fun ρ n => match ρ[i]? with
  | some (some (.scr ns)) => .ok (.int ns.length) n
  | some (some .town) => .ok (.int n) n
  | _ => .bad
variable {pos : Pos}
theorem et_scr (i : Nat) {x : Str} (hN : X.N[i]? = some x := by rfl) (hv : Vis X.env.scope x := by first | exact Or.inl rfl | exact Or.inr (Or.inl rfl) | exact Or.inr (Or.inr rfl)) (hd : (x == ("__debug__" : Str)) = false := by decide)
    (hcd : (x == ("__classdict__" : Str)) = false := by decide) (he : ∀ whole, isTrue (.Name x pos) X.env whole = (do let v ← whole; standAt pos; holding [v] (truthy v)) := by intro _; rfl) : PT X (.Name x pos) (tGT X.K ca W (cScrT i)) :=
  PT.weak (pt_truth (pe_var hN hv hd hcd) he) fun σ H Q ⟨c, ρ, n, S, h⟩ => by
    unfold cScrT at h
    split at h
    · rename_i ns q
      obtain ⟨v, h1, a, rfl, h2⟩ := S.slot i _ q
      refine ⟨_, h1, !ns.isEmpty, .inl ⟨_, sqL_mono (fun _ _ => hid_sub) h2, by cases ns <;> rfl⟩, h H S.gx⟩
    · exact h.elim
theorem atI_map {α β : Type} (f : α → β) (xs : List α) (i : Int) : atI (xs.map f) i = (atI xs i).map f := by
  unfold atI
  rw [List.length_map]
  cases ixN xs.length i with
  | none => rfl
  | some j => simp
theorem ev_scrIx (i : Nat) {x : Str} {b : Expr} {p : Pos} (hb : PE X b (tG X.K ca W g)) (hs : PlainIx b := by exact fun _ _ => rfl) (hN : X.N[i]? = some x := by rfl) (hv : Vis X.env.scope x := by first | exact Or.inl rfl | exact Or.inr (Or.inl rfl) | exact Or.inr (Or.inr rfl)) (hd : (x == ("__debug__" : Str)) = false := by decide)
    (hcd : (x == ("__classdict__" : Str)) = false := by decide) : PE X (.Subscript (.Name x p) b pos) (tG X.K ca W (cScrIx i g)) :=
  PE.weak (pe_ix ix_list (pe_var hN hv hd hcd) hb hs) fun σ H Q ⟨c, ρ, n, S, h⟩ => by
    unfold cScrIx at h
    split at h
    · rename_i ns q
      obtain ⟨v, h1, a, rfl, h2⟩ := S.slot i _ q
      refine ⟨_, h1, c, ρ, n, S, (Res.post_bind h).mono (fun z n1 h3 y H1 g1 r1 => ?_) (fun e m h => h)⟩
      split at h3
      · rename_i k
        cases r1
        obtain ⟨d, e, h4⟩ := Res.post_lift h3
        cases z : atI ns k with
        | none => rw [z] at e; cases e
        | some j =>
          rw [z] at e
          cases e
          exact ⟨a, _, k, .int j, rfl, rfl, sqL_mono (fun b o q => hid_sub (g1.sees S.tB' b o q)) h2, by rw [atI_map, z]; rfl, h4 _ H1 g1 (.int j)⟩
      · exact h3.elim
    · exact h.elim
theorem ev_lenV (i : Nat) {x : Str} {p p2 : Pos} (hg : Gl X "len") (hm : X.mg "len" = none) (hN : X.N[i]? = some x := by rfl) (hv : Vis X.env.scope x := by first | exact Or.inl rfl | exact Or.inr (Or.inl rfl) | exact Or.inr (Or.inr rfl)) (hd : (x == ("__debug__" : Str)) = false := by decide)
    (hcd : (x == ("__classdict__" : Str)) = false := by decide) (hs : starEach [(.Name x p2 : Expr)] X.env = (false, eval (.Name x p2) X.env) :: starEach [] X.env := by rfl) (hpl : (backTo pos (starEach [] X.env)).any (·.1) = false := by rfl) : PE X (.Call (.Name "len" p) [.Name x p2] [] pos) (tG X.K ca W (cLenV i)) :=
  PE.weak (pe_callB call_len_seq hg hm PySem.boot_len (pa_cons (pe_var hN hv hd hcd) pa_nil hs) (by decide) (by decide) hs hpl) fun σ H Q ⟨c, ρ, n, S, h⟩ => by
    unfold cLenV at h
    split at h
    · rename_i ns q
      obtain ⟨v, h1, a, rfl, h2⟩ := S.slot i _ q
      refine ⟨_, h1, a, _, rfl, .inl (sqL_mono (fun _ _ => hid_sub) h2), ?_⟩
      rw [List.length_map]
      exact h _ H S.gx (.int _)
    · rename_i q
      obtain ⟨v, h1, rfl⟩ := S.slot i _ q
      refine ⟨_, h1, c.t, _, rfl, .inl (.inl (.inl S.town)), ?_⟩
      rw [List.length_replicate]
      exact h _ H S.gx (.int _)
    · exact h.elim

/-! ### a text's methods -/
def cM1 (f : D → D → Option D) (go ge : M D) : M D := fun ρ n => (go ρ n).bind fun a n1 => match a with
  | .str z => (ge ρ n1).bind fun b n2 => Res.lift (f (.str z) b) n2
  | _ => .bad
def cM0 (f : D → Option D) (go : M D) : M D := fun ρ n => (go ρ n).bind fun a n1 => match a with
  | .str z => Res.lift (f (.str z)) n1
  | _ => .bad
def cM1F (f : D → D → Option (List D)) (go ge : M D) : M (List D) := fun ρ n => (go ρ n).bind fun a n1 => match a with
  | .str z => (ge ρ n1).bind fun b n2 => Res.lift (f (.str z) b) n2
  | _ => .bad
def OpM1 (K : PySem.W.Frag) (r : V → List V → Hp → VK → Prop) (f : D → D → Option D) : Prop :=
  ∀ (B : List Addr) (H : Hp) (z : Str) (y : V) (b d : D) (Q : VK), (∀ b ∈ B, H b ≠ none) → Rep K (hid B H) y b → f (.str z) b = some d → (∀ v H', Same H H' → Rep K (hid B H') v d → Q v H') → r (.str z) [y] H Q
def OpM0 (K : PySem.W.Frag) (r : V → List V → Hp → VK → Prop) (f : D → Option D) : Prop :=
  ∀ (B : List Addr) (H : Hp) (z : Str) (d : D) (Q : VK), (∀ b ∈ B, H b ≠ none) → f (.str z) = some d → (∀ v H', Same H H' → Rep K (hid B H') v d → Q v H') → r (.str z) [] H Q
def OpM1F (K : PySem.W.Frag) (r : V → List V → Hp → VK → Prop) (f : D → D → Option (List D)) : Prop :=
  ∀ (B : List Addr) (H : Hp) (z : Str) (y : V) (b : D) (ds : List D) (Q : VK), (∀ b ∈ B, H b ≠ none) → Rep K (hid B H) y b → f (.str z) b = some ds →
    (∀ p vs H', Same H H' → H p = none → H' p = some (.lst vs) → RepAll K (hid (p :: B) H') vs ds → Q (.ref p) H') → r (.str z) [y] H Q
theorem ev_m1 {o : Expr} {go ge : M D} {id : String} {name : Str} {apos : Pos} {r : V → List V → Hp → VK → Prop} {f : D → D → Option D} (slot : Slot "str" name id) (ty : typeOf (.builtin id) = pure (.type "method_descriptor")) (rule : MtR X id r) (hf : OpM1 X.K r f) (ho : PE X o (tG X.K ca W go)) (he : PE X e (tG X.K ca W ge))
    (hs : starEach [e] X.env = [(false, eval e X.env)] := by rfl) (hbase : attributeBase o name X.env (eval o X.env) = eval o X.env := by rfl) (hline : (apos.endLine == pos.line) = true := by rfl) :
    PE X (.Call (.Attribute o name apos) [e] [] pos) (tG X.K ca W (cM1 f go ge)) :=
  PE.weak (pe_m1 slot ty rule ho he hs hbase hline) fun σ H Q ⟨c, ρ, n, S, h⟩ => by
    refine ⟨c, ρ, n, S, (Res.post_bind h).mono (fun a n1 h1 x H1 g1 r1 => ?_) (fun e m h => h)⟩
    have S1 := S.ext g1
    split at h1
    · rename_i z
      cases r1
      refine ⟨⟨z, rfl⟩, c, ρ, n1, S1, (Res.post_bind h1).mono (fun b n2 h2 y H2 g2 r2 => ?_) (fun e m h => exK.at h g1)⟩
      obtain ⟨d, ed, h3⟩ := Res.post_lift h2
      have S2 := S1.ext g2
      exact hf c.B H2 z y b d Q S2.all r2 ed fun v H3 s3 r3 => h3 v H3 ((g1.trans g2).trans (S2.pure s3)) r3
    · exact h1.elim
theorem ev_m0 {o : Expr} {go : M D} {id : String} {name : Str} {apos : Pos} {r : V → List V → Hp → VK → Prop} {f : D → Option D} (slot : Slot "str" name id) (ty : typeOf (.builtin id) = pure (.type "method_descriptor")) (rule : MtR X id r) (hf : OpM0 X.K r f) (ho : PE X o (tG X.K ca W go))
    (hbase : attributeBase o name X.env (eval o X.env) = eval o X.env := by rfl) (hline : (apos.endLine == pos.line) = true := by rfl) :
    PE X (.Call (.Attribute o name apos) [] [] pos) (tG X.K ca W (cM0 f go)) :=
  PE.weak (pe_m0 slot ty rule ho hbase hline) fun σ H Q ⟨c, ρ, n, S, h⟩ => by
    refine ⟨c, ρ, n, S, (Res.post_bind h).mono (fun a n1 h1 x H1 g1 r1 => ?_) (fun e m h => h)⟩
    have S1 := S.ext g1
    split at h1
    · rename_i z
      cases r1
      obtain ⟨d, ed, h3⟩ := Res.post_lift h1
      exact ⟨⟨z, rfl⟩, hf c.B H1 z d Q S1.all ed fun v H3 s3 r3 => h3 v H3 (g1.trans (S1.pure s3)) r3⟩
    · exact h1.elim
theorem ef_m1 {o : Expr} {go ge : M D} {id : String} {name : Str} {apos : Pos} {r : V → List V → Hp → VK → Prop} {f : D → D → Option (List D)} (slot : Slot "str" name id) (ty : typeOf (.builtin id) = pure (.type "method_descriptor")) (rule : MtR X id r) (hf : OpM1F X.K r f) (ho : PE X o (tG X.K ca W go)) (he : PE X e (tG X.K ca W ge))
    (hs : starEach [e] X.env = [(false, eval e X.env)] := by rfl) (hbase : attributeBase o name X.env (eval o X.env) = eval o X.env := by rfl) (hline : (apos.endLine == pos.line) = true := by rfl) :
    PE X (.Call (.Attribute o name apos) [e] [] pos) (tGF X.K ca W (cM1F f go ge)) :=
  PE.weak (pe_m1 slot ty rule ho he hs hbase hline) fun σ H Q ⟨c, ρ, n, S, h⟩ => by
    refine ⟨c, ρ, n, S, (Res.post_bind h).mono (fun a n1 h1 x H1 g1 r1 => ?_) (fun e m h => h)⟩
    have S1 := S.ext g1
    split at h1
    · rename_i z
      cases r1
      refine ⟨⟨z, rfl⟩, c, ρ, n1, S1, (Res.post_bind h1).mono (fun b n2 h2 y H2 g2 r2 => ?_) (fun e m h => exK.at h g1)⟩
      obtain ⟨d, ed, h3⟩ := Res.post_lift h2
      have S2 := S1.ext g2
      exact hf c.B H2 z y b d Q S2.all r2 ed fun p vs H3 s3 hp hv r3 => h3 p vs H3 ((g1.trans g2).trans (S2.pure s3)) (fresh_back (g1.trans g2) S.tB' S2.all hp) hv r3
    · exact h1.elim
/-- sep.join -/
def joinFit (a : Str) (ys : List Str) : Bool := decide ((ys.map (·.length)).sum + ys.length * a.length ≤ 16777216)
def mJoin : D → D → Option D
  | .str a, .list ds => (strsOf ds).bind fun ys => if joinFit a ys = true then some (.str (PySem.Txt.join a ys)) else none
  | .str a, .tuple ds => (strsOf ds).bind fun ys => if joinFit a ys = true then some (.str (PySem.Txt.join a ys)) else none
  | _, _ => none
theorem om_join : OpM1 K (fun x xs H Q => ∃ a p, ∃ ys : List Str, x = .str a ∧ xs = [.ref p] ∧ (SqL K H p (ys.map V.str) ∨ SqT K H p (ys.map V.str)) ∧
    (ys.map (·.length)).sum + ys.length * a.length ≤ 16777216 ∧ Q (.str (PySem.Txt.join a ys)) H) mJoin := by
  intro B H z y b d Q all r e q
  cases r with
  | @lst p xs ds k1 k2 =>
    cases s : strsOf ds with
    | none => simp [mJoin, s] at e
    | some ys =>
      simp [mJoin, s] at e
      obtain ⟨e1, rfl⟩ := e
      rw [strsOf_eq s] at k2
      rw [k2.strs] at k1
      exact ⟨z, p, ys, rfl, rfl, .inl (.inl (.inl (hid_sub k1))), of_decide_eq_true e1, q _ H (Same.refl H) (.str _)⟩
  | @tup p xs ds k1 k2 =>
    cases s : strsOf ds with
    | none => simp [mJoin, s] at e
    | some ys =>
      simp [mJoin, s] at e
      obtain ⟨e1, rfl⟩ := e
      rw [strsOf_eq s] at k2
      rw [k2.strs] at k1
      exact ⟨z, p, ys, rfl, rfl, .inr (sqT_mono (fun _ _ => hid_sub) k1.sq), of_decide_eq_true e1, q _ H (Same.refl H) (.str _)⟩
  | _ => cases e
def mRstrip : D → D → Option D
  | .str a, .str b => if a.length ≤ sizeLine then some (.str (PySem.Txt.rstripChars a b)) else none
  | _, _ => none
theorem om_rstrip : OpM1 K (fun x xs H Q => ∃ a b, x = .str a ∧ xs = [.str b] ∧ a.length ≤ sizeLine ∧ Q (.str (PySem.Txt.rstripChars a b)) H) mRstrip := by
  intro B H z y b d Q all r e q
  cases r with
  | str w =>
    unfold mRstrip at e
    simp only at e
    split at e
    · cases e; exact ⟨z, w, rfl, rfl, by assumption, q _ H (Same.refl H) (.str _)⟩
    · cases e
  | _ => cases e
def mEnds : D → D → Option D
  | .str a, .str b => some (.bool (PySem.Txt.endswith a b))
  | _, _ => none
theorem om_ends : OpM1 K (fun x xs H Q => ∃ a b, x = .str a ∧ xs = [.str b] ∧ Q (.bl (PySem.Txt.endswith a b)) H) mEnds := by
  intro B H z y b d Q all r e q
  cases r with
  | str w => cases e; exact ⟨z, w, rfl, rfl, q _ H (Same.refl H) (.bl _)⟩
  | _ => cases e
def mSplit : D → D → Option (List D)
  | .str a, .str b => if (b.length == 0) = false ∧ a.length + 2 ≤ sizeLine then some ((PySem.Txt.split a b).map PyData.str) else none
  | _, _ => none
theorem om_split : OpM1F K (fun x xs H Q => ∃ a b, x = .str a ∧ xs = [.str b] ∧ (b.length == 0) = false ∧ a.length + 2 ≤ sizeLine ∧ rNewStrs (PySem.Txt.split a b) H Q) mSplit := by
  intro B H z y b ds Q all r e q
  cases r with
  | str w =>
    unfold mSplit at e
    simp only at e
    split at e
    · rename_i h
      cases e
      exact ⟨z, w, rfl, rfl, h.1, h.2, fun p hp => q p _ _ (same_upd hp) hp upd_same RepAll.of_strs⟩
    · cases e
  | _ => cases e

/-! ### l[::-1] -/
def opRevL : D → Option (List D)
  | .list ds => some ds.reverse
  | _ => none
end
end G

namespace G
open PySem PySem.Spec PyProof.Rows L2

/-! ### a, b = x, y -/
def sParDD (i j : Nat) (ga gb : M D) : MS := fun ρ n => ofR (ga ρ n) ρ fun a n1 => ofR (gb ρ n1) ρ fun b n2 => if i < ρ.length ∧ j < ρ.length then .nx ((ρ.set i (some (.d a))).set j (some (.d b))) n2 else .bad
def sParDF (i j : Nat) (ga : M D) (gb : M (List D)) : MS := fun ρ n => ofR (ga ρ n) ρ fun a n1 => ofR (gb ρ n1) ρ fun b n2 => if i < ρ.length ∧ j < ρ.length ∧ i ≠ j then .nx ((ρ.set i (some (.d a))).set j (some (.own b))) n2 else .bad
def sParFD (i j : Nat) (ga : M (List D)) (gb : M D) : MS := fun ρ n => ofR (ga ρ n) ρ fun a n1 => ofR (gb ρ n1) ρ fun b n2 => if i < ρ.length ∧ j < ρ.length ∧ i ≠ j then .nx ((ρ.set i (some (.own a))).set j (some (.d b))) n2 else .bad
def sParFF (i j : Nat) (ga gb : M (List D)) : MS := fun ρ n => ofR (ga ρ n) ρ fun a n1 => ofR (gb ρ n1) ρ fun b n2 => if i < ρ.length ∧ j < ρ.length ∧ i ≠ j then .nx ((ρ.set i (some (.own a))).set j (some (.own b))) n2 else .bad
def sPar3 (i j k : Nat) (ga gb gc : M D) : MS := fun ρ n => ofR (ga ρ n) ρ fun a n1 => ofR (gb ρ n1) ρ fun b n2 => ofR (gc ρ n2) ρ fun e n3 => if i < ρ.length ∧ j < ρ.length ∧ k < ρ.length then .nx (((ρ.set i (some (.d a))).set j (some (.d b))).set k (some (.d e))) n3 else .bad
section
variable {K : PySem.W.Frag} {ca : String → Addr} {W : WX} {c : Fm} {σ : L2.St} {H H' H1 : Hp} {ρ : Env} {n n' n1 : Nat} {B' : List Addr} {E : Ends}
theorem h0_none (S : SR K c σ H ρ n) {a : Addr} (hn : H a = none) : c.H0 a = none := by
  cases q : c.H0 a with
  | none => rfl
  | some o =>
    have z : a ≠ c.t := fun z => by rw [z, S.town] at hn; cases hn
    rw [S.keep a o q z] at hn
    cases hn
/-- no own object stands at a new address -/
theorem no_own (S : SR K c σ H ρ n) {a : Addr} (hn : H a = none) : ∀ (j : Nat) (l' : L), ρ[j]? = some (some l') → isOwn l' = true → σ[j]? ≠ some (some (.ref a)) := fun j l' ej oj sj => by
  obtain ⟨v, q1, q2⟩ := S.slot j l' ej
  rw [sj] at q1
  cases q1
  cases l' with
  | own xs => obtain ⟨b, _, z, _, _, z4, _⟩ := q2; cases z; rw [hn] at z4; cases z4
  | dic xs => obtain ⟨b, _, z, _, _, z4, _⟩ := q2; cases z; rw [hn] at z4; cases z4
  | dit xs => obtain ⟨b, _, z, _, _, z4, _⟩ := q2; cases z; rw [hn] at z4; cases z4
  | ob o => exact (RO.nn (show RO K c H (.ref a) o from q2) hn).elim
  | _ => cases oj
/-- a new list stored -/
theorem SR.set_own (S : SR K c σ H ρ n) {i : Nat} (hi : i < ρ.length) {a : Addr} {vs : List V} {ds : List D} (ha : a ∈ c.B) (h0 : c.H0 a = none) (hv : H a = some (.lst vs)) (r : RepAll K (hid c.B H) vs ds)
    (no : ∀ (j : Nat) (l' : L), ρ[j]? = some (some l') → isOwn l' = true → σ[j]? ≠ some (some (.ref a))) : SR K c (σ.set i (some (.ref a))) H (ρ.set i (some (.own ds))) n :=
  S.set_ix hi ⟨a, vs, rfl, ha, h0, hv, r⟩ fun _ j l' b hj ej oj sj z => by
    cases z
    exact no j l' ej oj sj
end
section
variable {X : Cx} {ca : String → Addr} {W : WX} {a b e : Expr} {ga gb gc : M D} {fa fb : M (List D)} {pos : Pos}
theorem es_parDD {i j : Nat} {x y : Str} {px py pt : Pos} {kt k2 : Nat} {pt2 : Pos} (hc : X.calm = true) (hN : X.N.Nodup) (hi : X.N[i]? = some x) (hj : X.N[j]? = some y) (hij : i ≠ j)
    (hx : X.env.scope.names.lookup x = some .local) (hy : X.env.scope.names.lookup y = some .local) (ha : PE X a (tG X.K ca W ga)) (hb : PE X b (tG X.K ca W gb))
    (hw : swappedStores [.Tuple [.Name x px, .Name y py] kt pt] (.Tuple [a, b] k2 pt2) X.env = pure (some [x, y]))
    (hs1 : starEach [a, b] X.env = (false, eval a X.env) :: starEach [b] X.env := by rfl) (hs2 : starEach [b] X.env = (false, eval b X.env) :: starEach [] X.env := by rfl)
    (hs : swapsWithSole [.Tuple [.Name x px, .Name y py] kt pt] (.Tuple [a, b] k2 pt2) pos.line X.env = pure false := by rfl) :
    PS X (.Assign [.Tuple [.Name x px, .Name y py] kt pt] (.Tuple [a, b] k2 pt2) pos) (tS X.K ca W (sParDD i j ga gb)) :=
  PS.weak (ps_par hc hN hi hj hij hx hy (pa_cons ha (pa_cons hb pa_nil hs2) hs1) hw hs) fun E σ H ⟨c, ρ, n, S, h⟩ => by
    refine ⟨c, ρ, n, S, (post_ofR S h).mono (fun d n1 h1 v H1 g1 r1 => ?_) (fun e m h => h)⟩
    have S1 := S.ext g1
    refine ⟨c, ρ, n1, S1, (post_ofR S1 (h1.at (g1.sees S.tB'))).mono (fun d2 n2 h2 w H2 g2 r2 => ⟨v, w, rfl, ?_⟩) (fun e m h => h)⟩
    split at h2
    · rename_i hlt
      exact h2 _ H2 c.B (((S1.ext g2).set_d hlt.1 (Rep.mono (g2.sees S.tB') _ _ r1)).set_d (by simpa using hlt.2) r2) (g2.sees S.tB')
    · exact h2.elim
theorem es_parDF {i j : Nat} {x y : Str} {px py pt : Pos} {kt k2 : Nat} {pt2 : Pos} (hc : X.calm = true) (hN : X.N.Nodup) (hi : X.N[i]? = some x) (hj : X.N[j]? = some y) (hij : i ≠ j)
    (hx : X.env.scope.names.lookup x = some .local) (hy : X.env.scope.names.lookup y = some .local) (ha : PE X a (tG X.K ca W ga)) (hb : PE X b (tGF X.K ca W fb))
    (hw : swappedStores [.Tuple [.Name x px, .Name y py] kt pt] (.Tuple [a, b] k2 pt2) X.env = pure (some [x, y]))
    (hs1 : starEach [a, b] X.env = (false, eval a X.env) :: starEach [b] X.env := by rfl) (hs2 : starEach [b] X.env = (false, eval b X.env) :: starEach [] X.env := by rfl)
    (hs : swapsWithSole [.Tuple [.Name x px, .Name y py] kt pt] (.Tuple [a, b] k2 pt2) pos.line X.env = pure false := by rfl) :
    PS X (.Assign [.Tuple [.Name x px, .Name y py] kt pt] (.Tuple [a, b] k2 pt2) pos) (tS X.K ca W (sParDF i j ga fb)) :=
  PS.weak (ps_par hc hN hi hj hij hx hy (pa_cons ha (pa_cons hb pa_nil hs2) hs1) hw hs) fun E σ H ⟨c, ρ, n, S, h⟩ => by
    refine ⟨c, ρ, n, S, (post_ofR S h).mono (fun d n1 h1 v H1 g1 r1 => ?_) (fun e m h => h)⟩
    have S1 := S.ext g1
    refine ⟨c, ρ, n1, S1, (post_ofR S1 (h1.at (g1.sees S.tB'))).mono (fun ds n2 h2 p vs H2 g2 hn hv r2 => ⟨v, .ref p, rfl, ?_⟩) (fun e m h => h)⟩
    split at h2
    · rename_i hlt
      obtain ⟨S2, se⟩ := S1.adopt g2 hn (by rw [hv]; simp)
      have S3 := S2.set_d (i := i) hlt.1 (Rep.mono se _ _ r1)
      refine h2 _ H2 _ (S3.set_own (by simpa using hlt.2.1) List.mem_cons_self (h0_none S1 hn) hv r2 fun k l' ek ok sk => ?_) se
      by_cases hk : i = k
      · subst hk
        rw [List.getElem?_set_self hlt.1] at ek
        cases ek
        cases ok
      · rw [List.getElem?_set_ne hk] at ek sk
        exact no_own S1 hn k l' ek ok sk
    · exact h2.elim
theorem es_parFD {i j : Nat} {x y : Str} {px py pt : Pos} {kt k2 : Nat} {pt2 : Pos} (hc : X.calm = true) (hN : X.N.Nodup) (hi : X.N[i]? = some x) (hj : X.N[j]? = some y) (hij : i ≠ j)
    (hx : X.env.scope.names.lookup x = some .local) (hy : X.env.scope.names.lookup y = some .local) (ha : PE X a (tGF X.K ca W fa)) (hb : PE X b (tG X.K ca W gb))
    (hw : swappedStores [.Tuple [.Name x px, .Name y py] kt pt] (.Tuple [a, b] k2 pt2) X.env = pure (some [x, y]))
    (hs1 : starEach [a, b] X.env = (false, eval a X.env) :: starEach [b] X.env := by rfl) (hs2 : starEach [b] X.env = (false, eval b X.env) :: starEach [] X.env := by rfl)
    (hs : swapsWithSole [.Tuple [.Name x px, .Name y py] kt pt] (.Tuple [a, b] k2 pt2) pos.line X.env = pure false := by rfl) :
    PS X (.Assign [.Tuple [.Name x px, .Name y py] kt pt] (.Tuple [a, b] k2 pt2) pos) (tS X.K ca W (sParFD i j fa gb)) :=
  PS.weak (ps_par hc hN hi hj hij hx hy (pa_cons ha (pa_cons hb pa_nil hs2) hs1) hw hs) fun E σ H ⟨c, ρ, n, S, h⟩ => by
    refine ⟨c, ρ, n, S, (post_ofR S h).mono (fun ds n1 h1 p vs H1 g1 hn hv r1 => ?_) (fun e m h => h)⟩
    obtain ⟨S1, se⟩ := S.adopt g1 hn (by rw [hv]; simp)
    refine ⟨c.at (p :: c.B), ρ, n1, S1, (post_ofR S1 (h1.at se)).mono (fun d2 n2 h2 w H2 g2 r2 => ⟨.ref p, w, rfl, ?_⟩) (fun e m h => h)⟩
    split at h2
    · rename_i hlt
      have S2 := S1.ext g2
      have hv2 : H2 p = some (.lst vs) := g2.ext p _ hv fun z => by
        have := S.all c.t S.tB'
        rw [← z, hn] at this
        exact this rfl
      have S3 := S2.set_own (i := i) hlt.1 List.mem_cons_self (h0_none S hn) hv2 (Rep.monoAll (g2.sees S1.tB') _ _ r1) (no_own S hn)
      exact h2 _ H2 _ (S3.set_d (by simpa using hlt.2.1) r2) (g2.sees S1.tB')
    · exact h2.elim
theorem es_parFF {i j : Nat} {x y : Str} {px py pt : Pos} {kt k2 : Nat} {pt2 : Pos} (hc : X.calm = true) (hN : X.N.Nodup) (hi : X.N[i]? = some x) (hj : X.N[j]? = some y) (hij : i ≠ j)
    (hx : X.env.scope.names.lookup x = some .local) (hy : X.env.scope.names.lookup y = some .local) (ha : PE X a (tGF X.K ca W fa)) (hb : PE X b (tGF X.K ca W fb))
    (hw : swappedStores [.Tuple [.Name x px, .Name y py] kt pt] (.Tuple [a, b] k2 pt2) X.env = pure (some [x, y]))
    (hs1 : starEach [a, b] X.env = (false, eval a X.env) :: starEach [b] X.env := by rfl) (hs2 : starEach [b] X.env = (false, eval b X.env) :: starEach [] X.env := by rfl)
    (hs : swapsWithSole [.Tuple [.Name x px, .Name y py] kt pt] (.Tuple [a, b] k2 pt2) pos.line X.env = pure false := by rfl) :
    PS X (.Assign [.Tuple [.Name x px, .Name y py] kt pt] (.Tuple [a, b] k2 pt2) pos) (tS X.K ca W (sParFF i j fa fb)) :=
  PS.weak (ps_par hc hN hi hj hij hx hy (pa_cons ha (pa_cons hb pa_nil hs2) hs1) hw hs) fun E σ H ⟨c, ρ, n, S, h⟩ => by
    refine ⟨c, ρ, n, S, (post_ofR S h).mono (fun ds n1 h1 p vs H1 g1 hn hv r1 => ?_) (fun e m h => h)⟩
    obtain ⟨S1, se⟩ := S.adopt g1 hn (by rw [hv]; simp)
    refine ⟨c.at (p :: c.B), ρ, n1, S1, (post_ofR S1 (h1.at se)).mono (fun d2 n2 h2 q us H2 g2 hq hu r2 => ⟨.ref p, .ref q, rfl, ?_⟩) (fun e m h => h)⟩
    split at h2
    · rename_i hlt
      obtain ⟨S2, se2⟩ := S1.adopt g2 hq (by rw [hu]; simp)
      have hv2 : H2 p = some (.lst vs) := g2.ext p _ hv fun z => by
        have := S.all c.t S.tB'
        rw [← z, hn] at this
        exact this rfl
      have hpq : q ≠ p := fun z => by rw [z, hv] at hq; cases hq
      have S3 := S2.set_own (i := i) hlt.1 (List.mem_cons_of_mem _ List.mem_cons_self) (h0_none S hn) hv2 (Rep.monoAll se2 _ _ r1) (no_own S hn)
      refine h2 _ H2 _ (S3.set_own (by simpa using hlt.2.1) List.mem_cons_self (h0_none S1 hq) hu r2 fun k l' ek ok sk => ?_) se2
      by_cases hk : i = k
      · subst hk
        rw [List.getElem?_set_self (by rw [S1.len]; exact hlt.1)] at sk
        exact hpq (by cases sk; rfl)
      · rw [List.getElem?_set_ne hk] at ek sk
        exact no_own S1 hq k l' ek ok sk
    · exact h2.elim
theorem es_par3 {i j l : Nat} {x y z : Str} {px py pz pt : Pos} {kt k2 : Nat} {pt2 : Pos} {e : Expr} (hc : X.calm = true) (hN : X.N.Nodup) (hi : X.N[i]? = some x) (hj : X.N[j]? = some y) (hl : X.N[l]? = some z) (hij : i ≠ j) (hil : i ≠ l) (hjl : j ≠ l)
    (hx : X.env.scope.names.lookup x = some .local) (hy : X.env.scope.names.lookup y = some .local) (hz : X.env.scope.names.lookup z = some .local) (ha : PE X a (tG X.K ca W ga)) (hb : PE X b (tG X.K ca W gb)) (he : PE X e (tG X.K ca W gc))
    (hw : swappedStores [.Tuple [.Name x px, .Name y py, .Name z pz] kt pt] (.Tuple [a, b, e] k2 pt2) X.env = pure (some [x, y, z]))
    (hs1 : starEach [a, b, e] X.env = (false, eval a X.env) :: starEach [b, e] X.env := by rfl) (hs2 : starEach [b, e] X.env = (false, eval b X.env) :: starEach [e] X.env := by rfl) (hs3 : starEach [e] X.env = (false, eval e X.env) :: starEach [] X.env := by rfl)
    (hs : swapsWithSole [.Tuple [.Name x px, .Name y py, .Name z pz] kt pt] (.Tuple [a, b, e] k2 pt2) pos.line X.env = pure false := by rfl) :
    PS X (.Assign [.Tuple [.Name x px, .Name y py, .Name z pz] kt pt] (.Tuple [a, b, e] k2 pt2) pos) (tS X.K ca W (sPar3 i j l ga gb gc)) :=
  PS.weak (ps_par3 hc hN hi hj hl hij hil hjl hx hy hz (pa_cons ha (pa_cons hb (pa_cons he pa_nil hs3) hs2) hs1) hw hs) fun E σ H ⟨c, ρ, n, S, h⟩ => by
    refine ⟨c, ρ, n, S, (post_ofR S h).mono (fun d n1 h1 v H1 g1 r1 => ?_) (fun e m h => h)⟩
    have S1 := S.ext g1
    refine ⟨c, ρ, n1, S1, (post_ofR S1 (h1.at (g1.sees S.tB'))).mono (fun d2 n2 h2 w H2 g2 r2 => ?_) (fun e m h => h)⟩
    have S2 := S1.ext g2
    refine ⟨c, ρ, n2, S2, (post_ofR S2 (h2.at (g2.sees S.tB'))).mono (fun d3 n3 h3 u H3 g3 r3 => ⟨v, w, u, rfl, ?_⟩) (fun e m h => h)⟩
    split at h3
    · rename_i hlt
      exact h3 _ H3 c.B ((((S2.ext g3).set_d hlt.1 (Rep.mono ((g2.trans g3).sees S.tB') _ _ r1)).set_d (by simpa using hlt.2.1) (Rep.mono (g3.sees S.tB') _ _ r2)).set_d (by simpa using hlt.2.2) r3) (g3.sees S.tB')
    · exact h3.elim
end
end G
namespace G
open PySem PySem.Spec PyProof.Rows L2
section
variable {P : Program} {w : World} {K : PySem.W.Frag} {mg : Str → Option Value} {base : Heap} {ca : String → Addr}
theorem fn_ok2 {x qual : Str} {st : Stmt} {f : Addr} {fd : FuncData} {N ps : List Str} {k : Nat} {g : MS} (F : Fun K x qual st f fd) (S : FnScope N ps (defScope st))
    (hbody : ∀ (cdv : Value) (A : Around) (outer : List PySem.Env) (s : Shared) (H : Hp) (E : XK), Room k (A.deeper (envOfC qual (defScope st) s.heap.objs.size f cdv)) →
      Takes (cxOf (L2.CX P w) P w K mg base N qual (defScope st) f cdv A outer s H E) (fun cls d _ H => E cls d H) →
      PassesOwn (model P w) (A.deeper (envOfC qual (defScope st) s.heap.objs.size f cdv)) (envOfC qual (defScope st) s.heap.objs.size f cdv) (cxOf (L2.CX P w) P w K mg base N qual (defScope st) f cdv A outer s H E).xe →
      PSs (cxOf (L2.CX P w) P w K mg base N qual (defScope st) f cdv A outer s H E) (defBody st) (tS K ca (fun cls d _ H => E cls d H) g)) : FnOk P w K mg base (L2.CX P w) (k + 1) f fd ps (spG K ca ps.length (runF N.length g)) :=
  fn_ok F S fun cdv A outer s H E hr => hbody cdv A outer s H E hr (takes_of rfl rfl rfl rfl) (passes_of rfl)
theorem law_ok2 {st : Stmt} {f : Addr} {fd : FuncData} {N : List Str} {k : Nat} {g : MS} {x0 x1 : Str} {p1 p2 p3 : Pos} {rest : List Stmt} (F : Fun K "law" "law" st f fd) (S : FnScope N [x0] (defScope st)) (hb : defBody st = .Assign [.Name x1 p1] (.List [] p2) p3 :: rest) (hx : N[1]? = some x1) (hL : (defScope st).names.lookup x1 = some .local ∨ (defScope st).names.lookup x1 = some .cell) {m : Nat} (hm : N.length = m + 2)
    (hbody : ∀ (cdv : Value) (A : Around) (outer : List PySem.Env) (s : Shared) (H : Hp) (E : XK), Room k (A.deeper (envOfC "law" (defScope st) s.heap.objs.size f cdv)) →
      Takes (cxOf (L2.CX P w) P w K mg base N "law" (defScope st) f cdv A outer s H E) (fun cls d _ H => E cls d H) →
      PassesOwn (model P w) (A.deeper (envOfC "law" (defScope st) s.heap.objs.size f cdv)) (envOfC "law" (defScope st) s.heap.objs.size f cdv) (cxOf (L2.CX P w) P w K mg base N "law" (defScope st) f cdv A outer s H E).xe →
      PSs (cxOf (L2.CX P w) P w K mg base N "law" (defScope st) f cdv A outer s H E) rest (tS K ca (fun cls d _ H => E cls d H) g)) (law : LawTrue m g) : FnOk P w K mg base (L2.CX P w) (k + 1) f fd [x0] (spLaw K) :=
  law_ok (ca := ca) F S hb hx hL hm (fun _ _ _ _ _ _ => rfl) (fun cdv A outer s H E hr => hbody cdv A outer s H E hr (takes_of rfl rfl rfl rfl) (passes_of rfl)) law
/-- a def behind the top, by what the head tells -/
structure DefAt (K : PySem.W.Frag) (mg : Str → Option Value) (x : Str) (st : Stmt) (ps : List Str) (f : Addr) (fd : FuncData) : Prop where
  F : Fun K x x st f fd
  g : mg x = some (.ref f)
  b : Binds K fd ps []
theorem def_at {h : Heap} (X : K.In h) (G : h.Ns mainGlobals mg) {x : Str} {st : Stmt} {ps : List Str} {f : Addr} {oc : Value} {od an : Option Addr} {osl : Array (Option Value)} {kV doc pm cdv ct : Value}
    (a : PySem.W.nsIn K mainGlobals x = some (some (.ref f))) (l : K.lookup f = some ⟨oc, od, .func (PySem.W.fnOf x x (defArgs st) (defBody st) (defScope st) .none kV doc pm an cdv ct), osl⟩) (c : PySem.W.codeIn K cdv x = true) (k : PySem.W.keepIn K (.ref f) = true)
    (hb : ∀ (kV doc pm : Value) (an : Option Addr) (cdv ct : Value) (us : List Value), us.length = ps.length → bindArgs (PySem.W.fnOf x x (defArgs st) (defBody st) (defScope st) .none kV doc pm an cdv ct) ⟨us, []⟩ = pure (ps.zip us)) :
    DefAt K mg x st ps f (PySem.W.fnOf x x (defArgs st) (defBody st) (defScope st) .none kV doc pm an cdv ct) :=
  have F := fun_mk (st := st) l c k
  ⟨F, PySem.W.mg_of X G a, F.binds hb⟩
theorem no_exc {w : World} {P : Program} {H : Hp} {s : Shared} {e : Value} {s' : Shared} (h : L2.CX P w [] H s (fun _ _ _ => False) e s') : False := by
  obtain ⟨_, _, _, _, _, _, _, _, _, _, _, _, z⟩ := h
  exact z
end
end G

namespace G
open PySem PySem.Spec PyProof.Rows L2
section
variable {prog : Program} {w : World} {A : Around} {E : Value → Shared → Prop} {s : Shared}
theorem adjust_rev (n : Nat) : Builtin.Slice.sliceAdjust none none (-1) (n : Int) = ((n : Int) - 1, -1) := rfl
theorem places_rev (n : Nat) : Builtin.Slice.slicePlaces ((n : Int) - 1) (-1) (-1) = n := by
  unfold Builtin.Slice.slicePlaces
  have h1 : ¬ ((-1 : Int) > 0) := by omega
  simp only [h1, if_false]
  split
  · rw [show (-(-1) : Int) = 1 from rfl, Int.ediv_one]; omega
  · omega
theorem sliceApplied_rev {sl : Addr} {tk : Tok} {n : Nat} {Q : Int × Int × Nat → Shared → Prop} (hs : s.heap.IsSliceOf sl .none .none (.int (-1) tk)) (h : Q ((n : Int) - 1, -1, n) s) :
    wpAny (model prog w) A (Builtin.Slice.sliceApplied (.ref sl) (pure (n : Int))) Q E s := by
  obtain ⟨os, hos, hcs, hds⟩ := id hs
  unfold Builtin.Slice.sliceApplied Builtin.Slice.sliceFields
  refine wpAny_bind (wpAny_bind (wpAny_field hos hds (x := .none) rfl (wpAny_bind (wpAny_field hos hds (x := .none) rfl (wpAny_bind (wpAny_field hos hds (x := .int (-1) tk) rfl (wpAny_pure ?_)))))))
  refine wpAny_bind (slicePart_int ?_)
  show wpAny _ _ (if ((-1 : Int) == 0) = true then _ else _) _ _ s
  rw [if_neg (by decide)]
  refine wpAny_bind (slicePart_none (wpAny_bind (slicePart_none (wpAny_bind (wpAny_pure ?_)))))
  show wpAny _ _ (match Builtin.Slice.sliceAdjust none none (-1) (n : Int) with | (lo, hi) => pure (lo, (-1 : Int), Builtin.Slice.slicePlaces lo hi (-1))) _ _ s
  rw [adjust_rev n]
  show wpAny _ _ (pure ((n : Int) - 1, (-1 : Int), Builtin.Slice.slicePlaces ((n : Int) - 1) (-1) (-1))) _ _ s
  rw [places_rev]
  exact wpAny_pure h
theorem fm_congr {α β : Type} {f g : α → Option β} : ∀ {l : List α}, (∀ x ∈ l, f x = g x) → l.filterMap f = l.filterMap g
  | [], _ => rfl
  | a :: l, h => by
    rw [List.filterMap_cons, List.filterMap_cons, h a List.mem_cons_self, fm_congr fun x hx => h x (List.mem_cons_of_mem _ hx)]
theorem fm_some {α β : Type} {f : α → β} : ∀ {l : List α}, l.filterMap (fun x => some (f x)) = l.map f
  | [] => rfl
  | a :: l => by rw [List.filterMap_cons, List.map_cons, fm_some]
theorem pick_rev (xs : Array Value) : ((List.range xs.size).filterMap fun (m : Nat) => xs[(((xs.size : Nat) : Int) - 1 + (m : Int) * (-1)).toNat]?).toArray = xs.toList.reverse.toArray := by
  congr 1
  have e : ∀ m ∈ List.range xs.size, (fun (m : Nat) => xs[(((xs.size : Nat) : Int) - 1 + (m : Int) * (-1)).toNat]?) m = (fun m => xs[xs.size - 1 - m]?) m := fun m hm => by
    have hm' := List.mem_range.mp hm
    have : (((xs.size : Nat) : Int) - 1 + (m : Int) * (-1)).toNat = xs.size - 1 - m := by omega
    show xs[_]? = xs[_]?
    rw [this]
  have e2 : (List.range xs.size).filterMap (fun (m : Nat) => xs[(((xs.size : Nat) : Int) - 1 + (m : Int) * (-1)).toNat]?) = (List.range xs.size).filterMap fun m => xs[xs.size - 1 - m]? :=
    fm_congr e
  rw [e2]
  have := PySem.W.krv_pick xs
  apply List.ext_getElem?
  intro i
  have key : ∀ m ∈ List.range xs.size, (fun m => xs[xs.size - 1 - m]?) m = some ((fun m => xs.toList.getD (xs.size - 1 - m) .none) m) := fun m hm => by
    have hm' := List.mem_range.mp hm
    have : xs.size - 1 - m < xs.size := by omega
    simp [List.getD, this]
  rw [fm_congr (g := fun m => some (xs.toList.getD (xs.size - 1 - m) .none)) key, fm_some]
  rw [List.getElem?_map]
  by_cases hi : i < xs.size
  · rw [List.getElem?_range hi, List.getElem?_reverse (by simpa using hi)]
    have : xs.size - 1 - i < xs.toList.length := by simp; omega
    simp only [Option.map_some, Array.length_toList]
    rw [List.getD_eq_getElem?_getD, List.getElem?_eq_getElem this]
    rfl
  · rw [List.getElem?_eq_none (by simpa using hi), List.getElem?_eq_none (by simpa using hi)]
    rfl
theorem getItem_tuple_rev {t sl : Addr} {items : Array Value} {tk : Tok} {Q : Value → Shared → Prop} (ht : IsTup s.heap t items) (hs : s.heap.IsSliceOf sl .none .none (.int (-1) tk))
    (h : Q (.ref s.heap.objs.size) { s with heap := s.heap.push { cls := .type "tuple", data := .seq items.toList.reverse.toArray } })
    (hsz : items.size ≤ sizeLine) : wpAny (model prog w) A (getItem (.ref t) (.ref sl)) Q E s := by
  have htake : sizeOk (.seq items.toList.reverse.toArray) := by
    show items.toList.reverse.toArray.size ≤ sizeLine
    simpa using hsz
  obtain ⟨os, hos, hcs, hds⟩ := id hs
  have hTs : s.TypeIs (.ref sl) "slice" := ⟨os, hos, hcs⟩
  unfold getItem
  try with_reducible refine wpAny_holding ?_
  first | refine wpAny_bind (wpAny_pure ?_) | skip
  refine wpAny_bind (wpAny_sequenceKey ht.typeIs (by decide) ?_)
  refine wpAny_bind (wpAny_callSpecial?_slot (name := Str.ofString "__getitem__") ht.typeIs PyProof.Rows.slot_tuple_getitem
    (wpAny_call_entry PyProof.Rows.slot_tuple_getitem ht.typeIs entry_tuple_getitem ?_ (args_tuple_getitem _ _)))
  show wpAny _ _ (Builtin.Tuple.tupleItemsOf (.ref t) >>= _) _ _ s
  refine wpAny_bind (tupleItemsOf_ ht ?_)
  refine wpAny_bind (wpAny_typeOf hTs ?_)
  rw [if_pos (by decide)]
  refine wpAny_bind (sliceApplied_rev hs ?_)
  have hno : ¬ (((((items.size : Nat) : Int) - 1) == 0 && (-1 : Int) == 1 && items.size == items.size) = true) := by
    intro q
    rw [Bool.and_eq_true, Bool.and_eq_true] at q
    exact absurd q.1.2 (by decide)
  show wpAny _ _ (if ((((items.size : Nat) : Int) - 1) == 0 && (-1 : Int) == 1 && items.size == items.size) = true then _ else _) _ _ s
  rw [if_neg hno, pick_rev]
  first
    | exact wpAny_bind (m := Builtin.Tuple.tupleExact _) (wpAny_newObj_type (wpAny_pure ⟨_, rfl, wpAny_pure h⟩) htake)
    | exact wpAny_bind (m := Builtin.Tuple.tupleExact _) (wpAny_newObj_type (wpAny_bind (wpAny_pure (wpAny_pure ⟨_, rfl, wpAny_pure h⟩))) htake)
    | exact wpAny_bind (wpAny_bind (m := Builtin.Tuple.tupleExact _) (wpAny_newObj_type (wpAny_pure (wpAny_pure ⟨_, rfl, wpAny_pure h⟩)) htake))
    | exact wpAny_bind (wpAny_bind (m := Builtin.Tuple.tupleExact _) (wpAny_newObj_type (wpAny_pure ⟨_, rfl, wpAny_pure h⟩) htake))
end
theorem sliceBy_rev (x : Str) (u : Tok) : Txt.sliceBy x none none (-1, u) = ⟨x.cps.toList.reverse.toArray⟩ := by
  apply Str.ext'
  apply Array.toList_inj.mp
  rw [step_rev_list, List.toList_toArray]
  apply List.ext_getElem?
  intro i
  rw [List.getElem?_map]
  by_cases hi : i < x.length
  · have hi' : i < x.cps.toList.length := by simpa [Str.length] using hi
    rw [List.getElem?_range hi, List.getElem?_reverse hi']
    have : x.length - 1 - i < x.cps.size := by unfold Str.length at hi ⊢; omega
    simp only [Option.map_some, Array.length_toList]
    show some (x.cps.getD (x.length - 1 - i) 0) = x.cps.toList[x.cps.size - 1 - i]?
    rw [Array.getElem?_toList]
    unfold Str.length at this ⊢
    simp [Array.getD, this]
  · have hi' : ¬ i < x.cps.toList.length := by simpa [Str.length] using hi
    rw [List.getElem?_eq_none (by simpa using hi), List.getElem?_eq_none (by simpa using hi')]
    rfl
def opRev : D → Option D
  | .list ds => some (.list ds.reverse)
  | .tuple ds => some (.tuple ds.reverse)
  | .str z => if z.length ≤ sizeLine then some (T z.cps.toList.reverse) else none
  | _ => none
def rRev (K : PySem.W.Frag) : V → Hp → VK → Prop := fun x H Q => (∃ a xs, x = .ref a ∧ SqL K H a xs ∧ ∀ p, H p = none → Q (.ref p) (upd H p (.lst xs.reverse))) ∨
  (∃ a xs, x = .ref a ∧ SqT K H a xs ∧ ∀ (p : Addr) (o : Obj), o.dict = none → H p = none → Q (.ref p) (upd H p (.frz o (.tup xs.reverse)))) ∨ ∃ z, x = .str z ∧ z.length ≤ sizeLine ∧ Q (.str ⟨z.cps.toList.reverse.toArray⟩) H
section
variable {X : Cx} {K : PySem.W.Frag} {ca : String → Addr} {W : WX} {e : Expr} {g : M D}
theorem pe_rev {te : TE} {k : Nat} {p1 p2 p3 pos : Pos} (he : PE X e te) : PE X (.Subscript e (.Slice none none (some (.UnaryOp .USub (.Constant (.int 1) k p1) p2)) p3) pos) (tUn (rRev X.K) te) := by
  refine ⟨fun pins s σ H Q I h => ?_⟩
  refine Subscript_ (thn (he.run pins s σ H _ I h) fun v s1 ⟨x, H1, I1, r1, q1⟩ => ?_)
  have hst : PO X (some (.UnaryOp .USub (.Constant (.int 1) k p1) p2)) (tPart (tUn (rU fun i => .int (-i)) (tC (.int 1)))) := po_some (pe_un un_neg pe_int)
  refine wpAny_Slice (thn (po_none.run pins s1 σ H1 (fun o H2 => o = none ∧ H2 = H1) I1 ⟨rfl, rfl⟩) fun vl s2 ⟨l, H2, I2, pl, el, e2⟩ => ?_)
  subst el e2
  refine thn (po_none.run pins s2 σ H2 (fun o H3 => o = none ∧ H3 = H2) I2 ⟨rfl, rfl⟩) fun vu s3 ⟨u, H3, I3, pu, eu, e3⟩ => ?_
  subst eu e3
  refine thn (hst.run pins s3 σ H3 (fun o H4 => o = some (-1) ∧ H4 = H3) I3 ⟨1, rfl, -1, rfl, rfl, rfl⟩) fun vs s4 ⟨o, H4, I4, ps, eo, e4⟩ => ?_
  subst eo e4
  have I5 : Inv X pins σ H4 { s4 with heap := s4.heap.push { cls := .type "slice", data := .fields #[vl, vu, vs] } } := I4.kept (t' := s4.toks) fun b ob q => Heap.get?_push_of_some _ q
  cases pl
  cases pu
  cases ps with
  | int i tk =>
  rcases q1 with ⟨a, xs, rfl, hx, q⟩ | ⟨a, xs, rfl, hx, q⟩ | ⟨z, rfl, hz, q⟩
  · cases r1
    obtain ⟨its, r, ht, hz⟩ := I5.list hx
    have hlen := r.length
    show wpAny (model X.prog X.w) X.A (subscriptTail e (.Slice none none (some (.UnaryOp .USub (.Constant (.int 1) k p1) p2)) p3) (.ref a) (.ref s4.heap.objs.size)) (EP X pins σ Q) X.xe { s4 with heap := s4.heap.push { cls := .type "slice", data := .fields #[.none, .none, .int (-1) tk] } }
    refine tail_any (ops := [.ref a, .ref s4.heap.objs.size]) ht.isList.typeIs (PySem.slot_list_getitem.lookup) ?_ (by with_unfolding_all rfl)
    refine wpAny_getItem_list_slice ht.isList (Heap.IsSliceOf.new _ .none .none (.int (-1) tk)) .none .none (.int (-1) tk) (by decide) ?_ (by rw [List.size_toArray]; omega)
    rw [PySem.W.krv_pick]
    refine ⟨.ref _, _, I5.laid (t' := s4.toks) (o := .lst xs.reverse) (fun b ob q => Heap.get?_push_of_some _ q) (Nat.le_refl _) ?_, rfl, q _ (I5.hok.fresh (Nat.le_refl _))⟩
    exact ⟨by rw [List.length_reverse]; exact hz, _, 0, r.reverse, Heap.get?_push_size _ rfl⟩
  · cases r1
    obtain ⟨its, r, ht, hz⟩ := I5.tuple hx
    have hlen := r.length
    show wpAny (model X.prog X.w) X.A (subscriptTail e (.Slice none none (some (.UnaryOp .USub (.Constant (.int 1) k p1) p2)) p3) (.ref a) (.ref s4.heap.objs.size)) (EP X pins σ Q) X.xe { s4 with heap := s4.heap.push { cls := .type "slice", data := .fields #[.none, .none, .int (-1) tk] } }
    refine tail_any (ops := [.ref a, .ref s4.heap.objs.size]) ht.typeIs (PyProof.Rows.slot_tuple_getitem.lookup) ?_ (by with_unfolding_all rfl)
    refine getItem_tuple_rev ht (Heap.IsSliceOf.new _ .none .none (.int (-1) tk)) ?_ (by rw [List.size_toArray]; omega)
    rw [List.toList_toArray]
    exact ⟨.ref _, _, I5.laid (t' := s4.toks) (fun b ob q => Heap.get?_push_of_some _ q) (Nat.le_refl _) (plain_ok (by rw [List.length_reverse]; exact hz) r.reverse), rfl, q _ _ rfl (I5.hok.fresh (Nat.le_refl _))⟩
  · obtain ⟨t, rfl⟩ := r1
    show wpAny (model X.prog X.w) X.A (subscriptTail e (.Slice none none (some (.UnaryOp .USub (.Constant (.int 1) k p1) p2)) p3) (.str z t) (.ref s4.heap.objs.size)) (EP X pins σ Q) X.xe { s4 with heap := s4.heap.push { cls := .type "slice", data := .fields #[.none, .none, .int (-1) tk] } }
    refine tail_any (ops := [.ref s4.heap.objs.size, .str z t]) (typeIs_str _ _ _) (F.slot_str_getitem.lookup) ?_ (by with_unfolding_all rfl)
    refine wpAny_getItem_str_slice (l := none) (u := none) (st := some (-1, tk)) ⟨_, Heap.get?_push_size _ rfl, rfl, rfl⟩ rfl ?_
    have e := sliceBy_rev z tk
    have hl : (Txt.sliceBy z none none (-1, tk)).length ≤ sizeLine := by rw [step_rev_len]; exact hz
    rw [← e] at q
    unfold Txt.sliceBy slicePicked at q hl
    show Made.post (if ((-1 : Int) == 1 && (Builtin.Str.strSliceIndices none none (-1) z.length).length == z.length) = true then Made.val (.str z t)
      else Made.str ⟨((Builtin.Str.strSliceIndices none none (-1) z.length).filterMap (z.cps[·]?)).toArray⟩) (EP X pins σ Q) _
    have c : ¬ (((-1 : Int) == 1 && (Builtin.Str.strSliceIndices none none (-1) z.length).length == z.length) = true) := by
      intro h; rw [Bool.and_eq_true] at h; exact absurd h.1 (by decide)
    rw [if_neg c]
    have c' : ¬ ((((some ((-1 : Int), tk)).map (·.1)).getD 1 == 1 && (Builtin.Str.strSliceIndices ((none : Option (Int × Tok)).map (·.1)) ((none : Option (Int × Tok)).map (·.1)) (((some ((-1 : Int), tk)).map (·.1)).getD 1) z.length).length == z.length) = true) := c
    rw [if_neg c'] at q hl
    exact ⟨hl, .str _, H4, I5.tok _, ⟨_, rfl⟩, q⟩
theorem o_rev : Op1 K (rRev K) opRev := by
  intro B H x a d Q all ra e q
  cases ra with
  | @lst p xs ds h1 h2 => cases e; exact .inl ⟨p, xs, rfl, .inl (.inl (hid_sub h1)), fun p hp => q _ _ (same_upd hp) (new_lst all hp h2.reverse)⟩
  | @tup p xs ds h1 h2 => cases e; exact .inr (.inl ⟨p, xs, rfl, sqT_mono (fun _ _ => hid_sub) h1.sq, fun p o ho hp => q _ _ (same_upd hp) (new_tup ho all hp h2.reverse)⟩)
  | str z =>
    unfold opRev at e
    simp only at e
    split at e
    · cases e; exact .inr (.inr ⟨z, rfl, by assumption, q _ H (Same.refl H) (.str _)⟩)
    · cases e
  | _ => cases e
theorem ev_rev {k : Nat} {p1 p2 p3 pos : Pos} (he : PE X e (tG X.K ca W g)) : PE X (.Subscript e (.Slice none none (some (.UnaryOp .USub (.Constant (.int 1) k p1) p2)) p3) pos) (tG X.K ca W (c1 opRev g)) :=
  PE.weak (pe_rev he) fun _ _ _ h => tG_c1 o_rev h
end
end G

/-! plain evaluation of the combinators -/
namespace G
open PySem PySem.Spec PyProof.Rows L2
section
variable {ρ : Env} {n : Nat} {f g h : MS} {ga gb gc : M D} {fa fb : M (List D)} {ba bb : M Bool} {gl : M (List L)} {i j k : Nat}
@[simp] theorem e_sNx : sNx ρ n = .nx ρ n := rfl
theorem e_sSeq : sSeq f g ρ n = match f ρ n with | .nx ρ1 n1 => g ρ1 n1 | o => o := rfl
@[simp] theorem e_sDrop : sDrop ga ρ n = ofR (ga ρ n) ρ fun _ n1 => .nx ρ n1 := rfl
@[simp] theorem e_sRet : sRet ga ρ n = ofR (ga ρ n) ρ fun d n1 => .rt d n1 := rfl
@[simp] theorem e_sRetN : sRetN ρ n = .rt .none n := rfl
@[simp] theorem e_sSet : sSet i ga ρ n = ofR (ga ρ n) ρ fun d n1 => if i < ρ.length then .nx (ρ.set i (some (.d d))) n1 else .bad := rfl
@[simp] theorem e_sOwn : sOwn i fa ρ n = ofR (fa ρ n) ρ fun ds n1 => if i < ρ.length then .nx (ρ.set i (some (.own ds))) n1 else .bad := rfl
theorem e_sIf : sIf ba g h ρ n = ofR (ba ρ n) ρ fun k n1 => if k = true then g ρ n1 else h ρ n1 := rfl
@[simp] theorem e_sBk : sBk ρ n = .bk ρ n := rfl
@[simp] theorem e_sCt : sCt ρ n = .ct ρ n := rfl
@[simp] theorem e_sBad : sBad ρ n = .bad := rfl
@[simp] theorem e_sApp : sApp i ga ρ n = match ρ[i]? with
  | some (some (.own xs)) => ofR (ga ρ n) ρ fun d n1 => if xs.length < sizeLine then .nx (ρ.set i (some (.own (xs ++ [d])))) n1 else .bad
  | _ => .bad := rfl
@[simp] theorem e_sTown : sTown i ρ n = match ρ[i]? with
  | some (some .town) => if n < sizeLine then .nx ρ (n + 1) else .bad
  | _ => .bad := rfl
@[simp] theorem e_sExt : sExt i ga ρ n = match ρ[i]? with
  | some (some (.own xs)) => ofR (ga ρ n) ρ fun d n1 => match d with
    | .list ys => if xs.length + ys.length ≤ sizeLine then .nx (ρ.set i (some (.own (xs ++ ys)))) n1 else .bad
    | _ => .bad
  | _ => .bad := rfl
@[simp] theorem e_sPut : sPut i ga gb ρ n = match ρ[i]? with
  | some (some (.own xs)) => ofR (gb ρ n) ρ fun d n1 => ofR (ga ρ n1) ρ fun z n2 => match z with
    | .int k => match ixN xs.length k with
      | some j => .nx (ρ.set i (some (.own (xs.set j d)))) n2
      | none => .bad
    | _ => .bad
  | _ => .bad := rfl
@[simp] theorem e_sPop : sPop i ρ n = match ρ[i]? with
  | some (some (.own xs)) => if xs = [] then .bad else .nx (ρ.set i (some (.own xs.dropLast))) n
  | _ => .bad := rfl
@[simp] theorem e_sRel : sRel i f ρ n = match ρ[i]? with
  | some (some (.own xs)) => f (ρ.set i (some (.d (.list xs)))) n
  | some (some (.d x)) => f ρ n
  | _ => .bad := rfl
@[simp] theorem e_sTup {tg : D → Env → Option Env} : sTup tg ga ρ n = ofR (ga ρ n) ρ fun d n1 => match tg d ρ with
  | some ρ1 => .nx ρ1 n1
  | none => .bad := rfl
@[simp] theorem e_sParDD : sParDD i j ga gb ρ n = ofR (ga ρ n) ρ fun a n1 => ofR (gb ρ n1) ρ fun b n2 => if i < ρ.length ∧ j < ρ.length then .nx ((ρ.set i (some (.d a))).set j (some (.d b))) n2 else .bad := rfl
@[simp] theorem e_sParDF : sParDF i j ga fb ρ n = ofR (ga ρ n) ρ fun a n1 => ofR (fb ρ n1) ρ fun b n2 => if i < ρ.length ∧ j < ρ.length ∧ i ≠ j then .nx ((ρ.set i (some (.d a))).set j (some (.own b))) n2 else .bad := rfl
@[simp] theorem e_sParFD : sParFD i j fa gb ρ n = ofR (fa ρ n) ρ fun a n1 => ofR (gb ρ n1) ρ fun b n2 => if i < ρ.length ∧ j < ρ.length ∧ i ≠ j then .nx ((ρ.set i (some (.own a))).set j (some (.d b))) n2 else .bad := rfl
@[simp] theorem e_sParFF : sParFF i j fa fb ρ n = ofR (fa ρ n) ρ fun a n1 => ofR (fb ρ n1) ρ fun b n2 => if i < ρ.length ∧ j < ρ.length ∧ i ≠ j then .nx ((ρ.set i (some (.own a))).set j (some (.own b))) n2 else .bad := rfl
@[simp] theorem e_sPar3 : sPar3 i j k ga gb gc ρ n = ofR (ga ρ n) ρ fun a n1 => ofR (gb ρ n1) ρ fun b n2 => ofR (gc ρ n2) ρ fun e n3 => if i < ρ.length ∧ j < ρ.length ∧ k < ρ.length then .nx (((ρ.set i (some (.d a))).set j (some (.d b))).set k (some (.d e))) n3 else .bad := rfl
@[simp] theorem e_sFor {tg : D → Env → Option Env} : sFor tg fa g ρ n = ofR (fa ρ n) ρ fun ds n1 => forL tg g ds ρ n1 := rfl
@[simp] theorem e_cVar : cVar i ρ n = match ρ[i]? with
  | some (some (.d x)) => .ok x n
  | _ => .bad := rfl
@[simp] theorem e_cC {x : D} : cC x ρ n = .ok x n := rfl
@[simp] theorem e_c1 {o : D → Option D} : c1 o ga ρ n = (ga ρ n).bind fun a n1 => Res.lift (o a) n1 := rfl
@[simp] theorem e_c2 {o : D → D → Option D} : c2 o ga gb ρ n = (ga ρ n).bind fun a n1 => (gb ρ n1).bind fun b n2 => Res.lift (o a b) n2 := rfl
@[simp] theorem e_aNil : aNil ρ n = .ok [] n := rfl
@[simp] theorem e_aCons : aCons ga gl ρ n = (ga ρ n).bind fun a n1 => (gl ρ n1).bind fun b n2 => .ok (.d a :: b) n2 := rfl
@[simp] theorem e_aVar : aVar i gl ρ n = match ρ[i]? with
  | some (some .town) => (gl ρ n).bind fun b n2 => .ok (.town :: b) n2
  | some (some (.scr ns)) => (gl ρ n).bind fun b n2 => .ok (.scr ns :: b) n2
  | some (some (.d x)) => (gl ρ n).bind fun b n2 => .ok (.d x :: b) n2
  | _ => .bad := rfl
@[simp] theorem e_cB : cB ga ρ n = (ga ρ n).bind asB := rfl
@[simp] theorem e_asB {b : Bool} : asB (.bool b) n = .ok b n := rfl
@[simp] theorem e_cCh {o o' : D → D → Option D} : cCh o o' ga gb gc ρ n = (ga ρ n).bind fun a n1 => (gb ρ n1).bind fun b n2 => (Res.lift (o a b) n2).bind fun z n3 => (asB z n3).bind fun k n4 =>
  if k = true then (gc ρ n4).bind fun e n5 => Res.lift (o' b e) n5 else .ok (.bool false) n4 := rfl
@[simp] theorem e_cTru : cTru ga ρ n = (ga ρ n).bind fun a n1 => Res.lift (truthD a) n1 := rfl
@[simp] theorem e_bAnd : bAnd ba bb ρ n = (ba ρ n).bind fun k n1 => if k = true then bb ρ n1 else .ok false n1 := rfl
@[simp] theorem e_bOr : bOr ba bb ρ n = (ba ρ n).bind fun k n1 => if k = true then .ok true n1 else bb ρ n1 := rfl
@[simp] theorem e_bNot : bNot ba ρ n = (ba ρ n).bind fun k n1 => .ok (!k) n1 := rfl
@[simp] theorem e_bYes : bYes ρ n = .ok true n := rfl
@[simp] theorem e_vAnd : vAnd ga gb ρ n = (ga ρ n).bind fun x n1 => (Res.lift (truthD x) n1).bind fun k n2 => if k = true then gb ρ n2 else .ok x n2 := rfl
@[simp] theorem e_vOr : vOr ga gb ρ n = (ga ρ n).bind fun x n1 => (Res.lift (truthD x) n1).bind fun k n2 => if k = true then .ok x n2 else gb ρ n2 := rfl
@[simp] theorem e_vNot : vNot ga ρ n = (ga ρ n).bind fun x n1 => (Res.lift (truthD x) n1).bind fun k n2 => .ok (.bool (!k)) n2 := rfl
@[simp] theorem e_cIf : cIf ba ga gb ρ n = (ba ρ n).bind fun k n1 => if k = true then ga ρ n1 else gb ρ n1 := rfl
@[simp] theorem e_asDs {ls : List L} : asDs ls n = Res.lift (dsOf ls) n := rfl
@[simp] theorem e_dsNil : dsOf [] = some [] := rfl
@[simp] theorem e_dsCons {x : D} {r : List L} : dsOf (.d x :: r) = (dsOf r).map (x :: ·) := rfl
@[simp] theorem e_cTup : cTup gl ρ n = (gl ρ n).bind fun ls n1 => (asDs ls n1).bind fun ds n2 => if ds.length ≤ sizeLine then .ok (.tuple ds) n2 else .bad := rfl
@[simp] theorem e_cLst : cLst gl ρ n = (gl ρ n).bind fun ls n1 => (asDs ls n1).bind fun ds n2 => if ds.length ≤ sizeLine then .ok ds n2 else .bad := rfl
@[simp] theorem e_cF : cF fa ρ n = (fa ρ n).bind fun ds n1 => .ok (.list ds) n1 := rfl
@[simp] theorem e_cBt {o : List D → Option D} : cBt o gl ρ n = (gl ρ n).bind fun ls n1 => (asDs ls n1).bind fun ds n2 => Res.lift (o ds) n2 := rfl
@[simp] theorem e_cBtF {o : List D → Option (List D)} : cBtF o gl ρ n = (gl ρ n).bind fun ls n1 => (asDs ls n1).bind fun ds n2 => Res.lift (o ds) n2 := rfl
@[simp] theorem e_cCall {F : Fn} : cCall k F gl ρ n = (gl ρ n).bind fun ls n1 => if ls.length = k then F ls n1 else .bad := rfl
@[simp] theorem e_cSl {l u : M (Option Int)} : cSl ga l u ρ n = (ga ρ n).bind fun a n1 => (l ρ n1).bind fun x n2 => (u ρ n2).bind fun y n3 => Res.lift (opSl a x y) n3 := rfl
@[simp] theorem e_gPart : gPart ga ρ n = (ga ρ n).bind fun d n1 => Res.lift (partD d) n1 := rfl
@[simp] theorem e_gNoPart : gNoPart ρ n = .ok none n := rfl
@[simp] theorem e_gItems : gItems ga ρ n = (ga ρ n).bind fun d n1 => Res.lift (itemsD d) n1 := rfl
@[simp] theorem e_gRng {o : List D → Option (List D)} : gRng o gl ρ n = (gl ρ n).bind fun ls n1 => (asDs ls n1).bind fun ds n2 => Res.lift (o ds) n2 := rfl
@[simp] theorem e_cScrT : cScrT i ρ n = match ρ[i]? with
  | some (some (.scr ns)) => .ok (!ns.isEmpty) n
  | _ => .bad := rfl
@[simp] theorem e_cScrIx : cScrIx i ga ρ n = match ρ[i]? with
  | some (some (.scr ns)) => (ga ρ n).bind fun z n1 => match z with
    | .int k => Res.lift ((atI ns k).map PyData.int) n1
    | _ => .bad
  | _ => .bad := rfl
@[simp] theorem e_cLenV : cLenV i ρ n = match ρ[i]? with
  | some (some (.scr ns)) => .ok (.int ns.length) n
  | some (some .town) => .ok (.int n) n
  | _ => .bad := rfl
def onT {β : Type} (a : D) (f : D → Res β) : Res β := match a with
  | .str z => f (.str z)
  | _ => .bad
@[simp] theorem onT_T {β : Type} {l : List Nat} {f : D → Res β} : onT (T l) f = f (T l) := rfl
@[simp] theorem e_cM1 {o : D → D → Option D} : cM1 o ga gb ρ n = (ga ρ n).bind fun a n1 => onT a fun a => (gb ρ n1).bind fun b n2 => Res.lift (o a b) n2 := by
  show (ga ρ n).bind _ = _
  congr 1
@[simp] theorem e_cM0 {o : D → Option D} : cM0 o ga ρ n = (ga ρ n).bind fun a n1 => onT a fun a => Res.lift (o a) n1 := by
  show (ga ρ n).bind _ = _
  congr 1
@[simp] theorem e_cM1F {o : D → D → Option (List D)} : cM1F o ga gb ρ n = (ga ρ n).bind fun a n1 => onT a fun a => (gb ρ n1).bind fun b n2 => Res.lift (o a b) n2 := by
  show (ga ρ n).bind _ = _
  congr 1
@[simp] theorem e_bor {α : Type} {gx : M α} {kk : α → Bool} : bor i gx kk ρ n = match ρ[i]? with
  | some (some (.own xs)) => (gx (ρ.set i (some (.d (.list xs)))) n).bind fun d n1 => if kk d = true then .ok d n1 else .bad
  | _ => .bad := rfl
@[simp] theorem e_borrow : borrow i ga ρ n = bor i ga noList ρ n := rfl
@[simp] theorem e_borrowF : borrowF i fa ρ n = bor i fa noListA ρ n := rfl
@[simp] theorem e_borrowT : borrowT i ba ρ n = bor i ba (fun _ => true) ρ n := rfl
theorem e_cLc {vs : List Nat} {tg : D → Env → Option Env} : cLc vs tg fa ba ga ρ n = (fa ρ n).bind fun ds n1 =>
  if ds.length < sizeLine then lcL tg ba ga (wipeE ρ vs) ds n1 else .bad := rfl
@[simp] theorem e_tgN {d : D} : tgN i d ρ = if i < ρ.length then some (ρ.set i (some (.d d))) else none := rfl
@[simp] theorem e_tgPt {fs : List (D → Env → Option Env)} {ds : List D} : tgP fs (.tuple ds) ρ = if ds.length = fs.length then tgT fs ds ρ else none := rfl
@[simp] theorem e_tgPl {fs : List (D → Env → Option Env)} {ds : List D} : tgP fs (.list ds) ρ = if ds.length = fs.length then tgT fs ds ρ else none := rfl
@[simp] theorem e_tgT0 : tgT [] [] ρ = some ρ := rfl
@[simp] theorem e_tgT1 {fx : D → Env → Option Env} {r : List (D → Env → Option Env)} {d : D} {es : List D} : tgT (fx :: r) (d :: es) ρ = (fx d ρ).bind fun ρ1 => tgT r es ρ1 := rfl
@[simp] theorem e_wipe0 : wipeE ρ [] = ρ := rfl
@[simp] theorem e_wipe1 {v : Nat} {vs : List Nat} : wipeE ρ (v :: vs) = (wipeE ρ vs).set v none := rfl
end
/-! the operations on their own kinds -/
@[simp] theorem x_add_int {i j : Int} : opAdd (.int i) (.int j) = some (.int (i + j)) := rfl
@[simp] theorem x_add_tup {xs ys : List D} : opAdd (.tuple xs) (.tuple ys) = if xs.length + ys.length ≤ sizeLine then some (.tuple (xs ++ ys)) else none := rfl
@[simp] theorem x_add_lst {xs ys : List D} : opAdd (.list xs) (.list ys) = if xs.length + ys.length ≤ sizeLine then some (.list (xs ++ ys)) else none := rfl
theorem T_append (a b : List Nat) : (⟨a.toArray⟩ : Str) ++ ⟨b.toArray⟩ = ⟨(a ++ b).toArray⟩ := by
  show Str.append _ _ = _
  unfold Str.append
  simp
theorem T_len (a : List Nat) : (⟨a.toArray⟩ : Str).length = a.length := by simp [Str.length]
@[simp] theorem x_add_T {a b : List Nat} : opAdd (T a) (T b) = if a.length + b.length ≤ sizeLine then some (T (a ++ b)) else none := by
  unfold T opAdd
  simp only [T_append, T_len]
@[simp] theorem x_sub {i j : Int} : opSub (.int i) (.int j) = some (.int (i - j)) := rfl
theorem x_mul {i j : Int} : opMul (.int i) (.int j) = if mulOk i j = true then some (.int (i * j)) else none := rfl
@[simp] theorem x_mul_tup {xs : List D} {k : Int} : opMul (.tuple xs) (.int k) = if 1 ≤ k ∧ k ≤ 1000 ∧ xs.length ≤ 1000 ∧ xs ≠ [] then some (.tuple (List.replicate k.toNat xs).flatten) else none := rfl
@[simp] theorem x_mul_lst {xs : List D} {k : Int} : opMul (.list xs) (.int k) = if 0 ≤ k ∧ k ≤ 1000 ∧ xs.length ≤ 1000 then some (.list (List.replicate k.toNat xs).flatten) else none := rfl
@[simp] theorem x_mod {i j : Int} : opMod (.int i) (.int j) = if 0 < j then some (.int (i % j)) else none := rfl
@[simp] theorem x_div {i j : Int} : opDiv (.int i) (.int j) = if 0 < j ∧ j < 1073741824 then some (.int (i / j)) else none := rfl
@[simp] theorem x_neg {i : Int} : opNeg (.int i) = some (.int (-i)) := rfl
@[simp] theorem x_lt {i j : Int} : opLt (.int i) (.int j) = some (.bool (decide (i < j))) := rfl
@[simp] theorem x_le {i j : Int} : opLe (.int i) (.int j) = some (.bool (decide (i ≤ j))) := rfl
@[simp] theorem x_gt {i j : Int} : opGt (.int i) (.int j) = some (.bool (decide (j < i))) := rfl
@[simp] theorem x_ge {i j : Int} : opGe (.int i) (.int j) = some (.bool (decide (j ≤ i))) := rfl
@[simp] theorem x_lt_T {a b : List Nat} : opLt (T a) (T b) = some (.bool (decide (a < b))) := rfl
@[simp] theorem x_gt_T {a b : List Nat} : opGt (T a) (T b) = some (.bool (decide (b < a))) := rfl
@[simp] theorem x_le_T {a b : List Nat} : opLe (T a) (T b) = some (.bool (!decide (b < a))) := rfl
@[simp] theorem x_ge_T {a b : List Nat} : opGe (T a) (T b) = some (.bool (!decide (a < b))) := rfl
@[simp] theorem x_ix_lst {ds : List D} {i : Int} : opIx (.list ds) (.int i) = atI ds i := rfl
@[simp] theorem x_ix_tup {ds : List D} {i : Int} : opIx (.tuple ds) (.int i) = atI ds i := rfl
@[simp] theorem x_ix_T {l : List Nat} {i : Int} : opIx (T l) (.int i) = if l.length ≤ sizeLine then (atI l i).map fun c => T [c] else none := by
  unfold T opIx
  simp only [T_len]
  rfl
@[simp] theorem x_sl_tup {ds : List D} {a b : Option Int} : opSl (.tuple ds) a b = some (.tuple (cutL ds a b)) := rfl
@[simp] theorem x_sl_lst {ds : List D} {a b : Option Int} : opSl (.list ds) a b = some (.list (cutL ds a b)) := rfl
@[simp] theorem x_sl_T {l : List Nat} {a b : Option Int} : opSl (T l) a b = if l.length ≤ sizeLine then some (T (cutL l a b)) else none := by
  unfold T opSl
  simp only [T_len]
  rfl
@[simp] theorem x_part {i : Int} : partD (.int i) = some (some i) := rfl
@[simp] theorem x_it_lst {ds : List D} : itemsD (.list ds) = some ds := rfl
@[simp] theorem x_it_tup {ds : List D} : itemsD (.tuple ds) = some ds := rfl
@[simp] theorem x_it_T {l : List Nat} : itemsD (T l) = some (l.map fun c => T [c]) := rfl
@[simp] theorem x_rev_tup {ds : List D} : opRev (.tuple ds) = some (.tuple ds.reverse) := rfl
@[simp] theorem x_rev_lst {ds : List D} : opRev (.list ds) = some (.list ds.reverse) := rfl
@[simp] theorem x_rev_T {l : List Nat} : opRev (T l) = if l.length ≤ sizeLine then some (T l.reverse) else none := by
  unfold T opRev
  simp only [T_len]
  rfl
@[simp] theorem x_len_T {l : List Nat} : fLen [T l] = if l.length ≤ sizeLine then some (.int l.length) else none := by
  unfold T fLen
  simp only [T_len]
@[simp] theorem x_len_lst {ds : List D} : fLen [.list ds] = some (.int ds.length) := rfl
@[simp] theorem x_len_tup {ds : List D} : fLen [.tuple ds] = some (.int ds.length) := rfl
@[simp] theorem x_tup_lst {ds : List D} : fTuple [.list ds] = some (.tuple ds) := rfl
@[simp] theorem x_tup_tup {ds : List D} : fTuple [.tuple ds] = some (.tuple ds) := rfl
@[simp] theorem x_lst_lst {ds : List D} : fList [.list ds] = some ds := rfl
@[simp] theorem x_lst_tup {ds : List D} : fList [.tuple ds] = some ds := rfl
@[simp] theorem x_rng1 {j : Int} : fRng1 [.int j] = if small62 j = true then some (rngL 0 j.toNat) else none := rfl
@[simp] theorem x_rng2 {i j : Int} : fRng2 [.int i, .int j] = if small62 i = true ∧ small62 j = true then some (rngL i (j - i).toNat) else none := rfl
@[simp] theorem x_tru_T {l : List Nat} : truthD (T l) = if l.length ≤ sizeLine then some (l.length != 0) else none := by
  unfold T truthD
  simp only [T_len]
@[simp] theorem x_tru_n : truthD .none = some false := rfl
@[simp] theorem x_tru_b {b : Bool} : truthD (.bool b) = some b := rfl
@[simp] theorem x_tru_i {i : Int} : truthD (.int i) = some (i != 0) := rfl
@[simp] theorem x_tru_l {ds : List D} : truthD (.list ds) = some (!ds.isEmpty) := rfl
@[simp] theorem x_tru_t {ds : List D} : truthD (.tuple ds) = some (!ds.isEmpty) := rfl
theorem boolsOf_map (bs : List Bool) : boolsOf (bs.map PyData.bool) = some bs := by
  induction bs with
  | nil => rfl
  | cons b r ih => simp [boolsOf, ih]
theorem intsOf_map (bs : List Int) : intsOf (bs.map PyData.int) = some bs := by
  induction bs with
  | nil => rfl
  | cons b r ih => simp [intsOf, ih]
theorem strsOf_map (bs : List Str) : strsOf (bs.map PyData.str) = some bs := by
  induction bs with
  | nil => rfl
  | cons b r ih => simp [strsOf, ih]
theorem strsOf_T (ls : List (List Nat)) : strsOf (ls.map T) = some (ls.map fun l => ⟨l.toArray⟩) := by
  induction ls with
  | nil => rfl
  | cons b r ih => simp [strsOf, ih, T]
@[simp] theorem x_any {bs : List Bool} : fAny [.list (bs.map PyData.bool)] = some (.bool (bs.any id)) := by simp [fAny, boolsOf_map]
@[simp] theorem x_all {bs : List Bool} : fAll [.list (bs.map PyData.bool)] = some (.bool (bs.all id)) := by simp [fAll, boolsOf_map]
@[simp] theorem x_sum {bs : List Int} : fSum [.list (bs.map PyData.int)] = some (.int bs.sum) := by simp [fSum, intsOf_map]

theorem join_flat (ls : List (List Nat)) : PySem.Txt.join ⟨#[]⟩ (ls.map fun l => ⟨l.toArray⟩) = ⟨ls.flatten.toArray⟩ := by
  rw [TL.join_eq]
  apply TL.ext_tl
  rw [TL.tl_join, List.map_map]
  have e : (TL.tl ∘ fun l : List Nat => (⟨l.toArray⟩ : Str)) = id := by funext l; rfl
  rw [e, List.map_id, TL.tl_mk]
  have key : ∀ ls : List (List Nat), TL.joinL [] ls = ls.flatten := by
    intro ls
    induction ls with
    | nil => rfl
    | cons a r ih =>
      cases r with
      | nil => simp [TL.joinL]
      | cons b r =>
        show a ++ ([] ++ TL.joinL [] (b :: r)) = _
        rw [ih]
        simp
  exact key ls
theorem fit_T (l : List Nat) (ls : List (List Nat)) : joinFit ⟨l.toArray⟩ (ls.map fun l => ⟨l.toArray⟩) = decide ((ls.map List.length).sum + ls.length * l.length ≤ 16777216) := by
  unfold joinFit
  rw [List.map_map, List.length_map]
  have e : (Str.length ∘ fun l : List Nat => (⟨l.toArray⟩ : Str)) = List.length := by funext l; exact T_len l
  rw [e, T_len]
/-- ''.join of texts -/
theorem x_join_l {ls : List (List Nat)} (h : (ls.map List.length).sum ≤ 16777216) : mJoin (T []) (.list (ls.map T)) = some (T ls.flatten) := by
  have e : mJoin (T []) (.list (ls.map T)) = (strsOf (ls.map T)).bind fun ys => if joinFit ⟨#[]⟩ ys = true then some (.str (PySem.Txt.join ⟨#[]⟩ ys)) else none := rfl
  have f := fit_T [] ls
  have f' : joinFit ⟨#[]⟩ (ls.map fun l => ⟨l.toArray⟩) = true := by
    rw [show (⟨#[]⟩ : Str) = ⟨([] : List Nat).toArray⟩ from rfl, f]
    simpa using h
  rw [e, strsOf_T, Option.bind_some, if_pos f', join_flat]
  rfl
theorem x_join_t {ls : List (List Nat)} (h : (ls.map List.length).sum ≤ 16777216) : mJoin (T []) (.tuple (ls.map T)) = some (T ls.flatten) := x_join_l h
end G

/-! what a pure statement reaches -/
namespace G
open PySem PySem.Spec PyProof.Rows L2
inductive Out.Sat (N : Env → Nat → Prop) (R : D → Nat → Prop) (B C : Env → Nat → Prop) : Out → Prop
  | nx {ρ : Env} {n : Nat} : N ρ n → Out.Sat N R B C (.nx ρ n)
  | rt {d : D} {n : Nat} : R d n → Out.Sat N R B C (.rt d n)
  | bk {ρ : Env} {n : Nat} : B ρ n → Out.Sat N R B C (.bk ρ n)
  | ct {ρ : Env} {n : Nat} : C ρ n → Out.Sat N R B C (.ct ρ n)
abbrev no2 : Env → Nat → Prop := fun _ _ => False
section
variable {N N' B C B' C' : Env → Nat → Prop} {R R' : D → Nat → Prop} {ρ : Env} {n : Nat} {f g : MS}
@[simp] theorem sat_nx : (Out.nx ρ n).Sat N R B C ↔ N ρ n := ⟨fun h => by cases h; assumption, .nx⟩
@[simp] theorem sat_rt {d : D} : (Out.rt d n).Sat N R B C ↔ R d n := ⟨fun h => by cases h; assumption, .rt⟩
@[simp] theorem sat_bk : (Out.bk ρ n).Sat N R B C ↔ B ρ n := ⟨fun h => by cases h; assumption, .bk⟩
@[simp] theorem sat_ct : (Out.ct ρ n).Sat N R B C ↔ C ρ n := ⟨fun h => by cases h; assumption, .ct⟩
@[simp] theorem sat_bad : Out.bad.Sat N R B C ↔ False := ⟨(fun h => by cases h), False.elim⟩
@[simp] theorem sat_exc {c : String} : (Out.ex c ρ n).Sat N R B C ↔ False := ⟨(fun h => by cases h), False.elim⟩
theorem Out.Sat.mono {o : Out} (h : o.Sat N R B C) (hN : ∀ ρ n, N ρ n → N' ρ n) (hR : ∀ d n, R d n → R' d n) (hB : ∀ ρ n, B ρ n → B' ρ n) (hC : ∀ ρ n, C ρ n → C' ρ n) : o.Sat N' R' B' C' := by
  cases h with
  | nx h => exact .nx (hN _ _ h)
  | rt h => exact .rt (hR _ _ h)
  | bk h => exact .bk (hB _ _ h)
  | ct h => exact .ct (hC _ _ h)
theorem sat_seq (h : (f ρ n).Sat (fun ρ1 n1 => (g ρ1 n1).Sat N R B C) R B C) : (sSeq f g ρ n).Sat N R B C := by
  rw [e_sSeq]
  cases q : f ρ n with
  | nx ρ1 n1 => rw [q] at h; exact sat_nx.mp h
  | rt d n1 => rw [q] at h; exact .rt (sat_rt.mp h)
  | bk d n1 => rw [q] at h; exact .bk (sat_bk.mp h)
  | ct d n1 => rw [q] at h; exact .ct (sat_ct.mp h)
  | ex c d n1 => rw [q] at h; exact (sat_exc.mp h).elim
  | bad => rw [q] at h; exact (sat_bad.mp h).elim
theorem sat_to {o : Out} {ρ1 : Env} {n1 : Nat} (e : o = .nx ρ1 n1) (h : N ρ1 n1) : o.Sat N R B C := e ▸ .nx h
theorem sat_sq (ρ1 : Env) (n1 : Nat) (e : f ρ n = .nx ρ1 n1) (h : (g ρ1 n1).Sat N R B C) : (sSeq f g ρ n).Sat N R B C := sat_seq (e ▸ .nx h)
theorem sat_no (n1 : Nat) {t : M Bool} (e : t ρ n = .ok false n1) (h : (g ρ n1).Sat N R B C) : (sSeq (sIf t f sNx) g ρ n).Sat N R B C := sat_sq ρ n1 (by rw [e_sIf, e]; rfl) h
theorem sat_noE (n1 : Nat) {t : M Bool} (e : t ρ n = .ok false n1) (h : N ρ n1) : (sIf t f sNx ρ n).Sat N R B C := sat_to (ρ1 := ρ) (n1 := n1) (by rw [e_sIf, e]; rfl) h
theorem sat_ofR {α : Type} {r : Res α} {k : α → Nat → Out} (h : ∃ a n1, r = .ok a n1 ∧ (k a n1).Sat N R B C) : (ofR r ρ k).Sat N R B C := by
  obtain ⟨a, n1, e, h⟩ := h
  rw [e]
  exact h
theorem sat_if {t : M Bool} (k : Bool) (n1 : Nat) (e : t ρ n = .ok k n1) (h1 : k = true → (f ρ n1).Sat N R B C) (h2 : k = false → (g ρ n1).Sat N R B C) : (sIf t f g ρ n).Sat N R B C := by
  rw [e_sIf, e]
  cases k with
  | true => exact h1 rfl
  | false => exact h2 rfl
theorem sat_forL {α : Type} (enc : α → D) {tg : D → Env → Option Env} {body : MS} (I : List α → Env → Nat → Prop) (all : List α)
    (hs : ∀ pre a post ρ n, all = pre ++ a :: post → I pre ρ n → ∃ ρ1, tg (enc a) ρ = some ρ1 ∧ (body ρ1 n).Sat (I (pre ++ [a])) R N (I (pre ++ [a]))) (hN : ∀ ρ n, I all ρ n → N ρ n) :
    ∀ (xs pre : List α) (ρ : Env) (n : Nat), all = pre ++ xs → I pre ρ n → (forL tg body (xs.map enc) ρ n).Sat N R B C := by
  intro xs
  induction xs with
  | nil =>
    intro pre ρ n e h
    rw [List.append_nil] at e
    subst e
    exact .nx (hN _ _ h)
  | cons a r ih =>
    intro pre ρ n e h
    obtain ⟨ρ1, e1, h1⟩ := hs pre a r ρ n e h
    show (match tg (enc a) ρ with | none => Out.bad | some ρ1 => _ : Out).Sat N R B C
    rw [e1]
    have e' : all = (pre ++ [a]) ++ r := by rw [e]; simp
    show (match body ρ1 n with | .nx ρ2 n2 => forL tg body (r.map enc) ρ2 n2 | .ct ρ2 n2 => forL tg body (r.map enc) ρ2 n2 | .bk ρ2 n2 => .nx ρ2 n2 | o => o : Out).Sat N R B C
    cases q : body ρ1 n with
    | nx ρ2 n2 => rw [q] at h1; exact ih _ _ _ e' (sat_nx.mp h1)
    | ct ρ2 n2 => rw [q] at h1; exact ih _ _ _ e' (sat_ct.mp h1)
    | bk ρ2 n2 => rw [q] at h1; exact .nx (sat_bk.mp h1)
    | rt d n2 => rw [q] at h1; exact .rt (sat_rt.mp h1)
    | ex => rw [q] at h1; exact (sat_exc.mp h1).elim
    | bad => rw [q] at h1; exact (sat_bad.mp h1).elim
theorem sat_for {α : Type} (enc : α → D) {tg : D → Env → Option Env} {body : MS} (I : List α → Env → Nat → Prop) (xs : List α) (h0 : I [] ρ n)
    (hs : ∀ pre a post ρ n, xs = pre ++ a :: post → I pre ρ n → ∃ ρ1, tg (enc a) ρ = some ρ1 ∧ (body ρ1 n).Sat (I (pre ++ [a])) R N (I (pre ++ [a]))) (hN : ∀ ρ n, I xs ρ n → N ρ n) : (forL tg body (xs.map enc) ρ n).Sat N R B C :=
  sat_forL enc I xs hs hN xs [] ρ n rfl h0
/-- over a range, by the number of turns done -/
theorem sat_rng {tg : D → Env → Option Env} {body : MS} (I : Nat → Env → Nat → Prop) (lo : Int) (k : Nat) (h0 : I 0 ρ n)
    (hs : ∀ i ρ n, i < k → I i ρ n → ∃ ρ1, tg (.int (lo + i)) ρ = some ρ1 ∧ (body ρ1 n).Sat (I (i + 1)) R N (I (i + 1))) (hN : ∀ ρ n, I k ρ n → N ρ n) : (forL tg body (rngL lo k) ρ n).Sat N R B C := by
  refine sat_for (fun i : Nat => PyData.int (lo + ((i : Nat) : Int))) (fun pre ρ n => I pre.length ρ n) (List.range k) h0 (fun pre a post ρ n e h => ?_) (fun ρ n h => hN ρ n (by simpa using h))
  have hl : pre.length < k := by
    have := congrArg List.length e
    simp at this
    omega
  have ha : a = pre.length := by
    have h1 : (List.range k)[pre.length]? = some a := by rw [e]; simp
    rw [List.getElem?_range hl] at h1
    exact (Option.some.inj h1).symm
  subst ha
  obtain ⟨ρ1, e1, h1⟩ := hs _ ρ n hl h
  exact ⟨ρ1, e1, by simpa using h1⟩
theorem sat_while {t : M Bool} {body : MS} (I : Env → Nat → Prop) (μ : Env → Nat) (hs : ∀ ρ n, I ρ n → ∃ b n1, t ρ n = .ok b n1 ∧ (b = false → N ρ n1) ∧ (b = true → (body ρ n1).Sat (fun ρ' n' => I ρ' n' ∧ μ ρ' < μ ρ) R N (fun ρ' n' => I ρ' n' ∧ μ ρ' < μ ρ))) (h0 : I ρ n) :
    (sWhile t body ρ n).Sat N R B C := by
  have key : ∀ (m : Nat) (ρ : Env) (n : Nat), μ ρ ≤ m → I ρ n → (whileF t body (m + 1) ρ n).Sat N R B C := by
    intro m
    induction m with
    | zero =>
      intro ρ n hm h
      obtain ⟨b, n1, e, h1, h2⟩ := hs ρ n h
      unfold whileF
      rw [e]
      cases b with
      | false => exact .nx (h1 rfl)
      | true =>
        simp only [ofR_ok, if_true]
        have h3 := h2 rfl
        cases q : body ρ n1 with
        | nx ρ2 n2 => rw [q] at h3; obtain ⟨_, hlt⟩ := sat_nx.mp h3; omega
        | ct ρ2 n2 => rw [q] at h3; obtain ⟨_, hlt⟩ := sat_ct.mp h3; omega
        | bk ρ2 n2 => rw [q] at h3; exact .nx (sat_bk.mp h3)
        | rt d n2 => rw [q] at h3; exact .rt (sat_rt.mp h3)
        | ex => rw [q] at h3; exact (sat_exc.mp h3).elim
        | bad => rw [q] at h3; exact (sat_bad.mp h3).elim
    | succ m ih =>
      intro ρ n hm h
      obtain ⟨b, n1, e, h1, h2⟩ := hs ρ n h
      unfold whileF
      rw [e]
      cases b with
      | false => exact .nx (h1 rfl)
      | true =>
        simp only [ofR_ok, if_true]
        have h3 := h2 rfl
        cases q : body ρ n1 with
        | nx ρ2 n2 => rw [q] at h3; obtain ⟨hi, hlt⟩ := sat_nx.mp h3; exact ih _ _ (by omega) hi
        | ct ρ2 n2 => rw [q] at h3; obtain ⟨hi, hlt⟩ := sat_ct.mp h3; exact ih _ _ (by omega) hi
        | bk ρ2 n2 => rw [q] at h3; exact .nx (sat_bk.mp h3)
        | rt d n2 => rw [q] at h3; exact .rt (sat_rt.mp h3)
        | ex => rw [q] at h3; exact (sat_exc.mp h3).elim
        | bad => rw [q] at h3; exact (sat_bad.mp h3).elim
  have h1 := key (μ ρ) ρ n (Nat.le_refl _) h0
  have hne : whileF t body (μ ρ + 1) ρ n ≠ .bad := fun z => by rw [z] at h1; exact sat_bad.mp h1
  rw [sWhile_eq rfl hne]
  exact h1
/-- a def's value -/
theorem run_post {m : Nat} {g : MS} {ls : List L} {P : D → Nat → Prop} {E : String → Nat → Prop} (h : (g (ls.map some ++ List.replicate (m - ls.length) none) n).Sat (fun _ n => P .none n) P no2 no2) : (runF m g ls n).Post P E := by
  unfold runF
  cases q : g (ls.map some ++ List.replicate (m - ls.length) none) n with
  | nx ρ1 n1 => rw [q] at h; exact sat_nx.mp h
  | rt d n1 => rw [q] at h; exact sat_rt.mp h
  | bk => rw [q] at h; exact (sat_bk.mp h).elim
  | ct => rw [q] at h; exact (sat_ct.mp h).elim
  | ex => rw [q] at h; exact (sat_exc.mp h).elim
  | bad => rw [q] at h; exact (sat_bad.mp h).elim
theorem run_eq {m : Nat} {g : MS} {ls : List L} {v : D} {n' : Nat} (h : (g (ls.map some ++ List.replicate (m - ls.length) none) n).Sat no2 (fun d k => d = v ∧ k = n') no2 no2) : runF m g ls n = .ok v n' := by
  unfold runF
  cases q : g (ls.map some ++ List.replicate (m - ls.length) none) n with
  | rt d n1 =>
    rw [q] at h
    obtain ⟨rfl, rfl⟩ := sat_rt.mp h
    rfl
  | nx => rw [q] at h; exact (sat_nx.mp h).elim
  | bk => rw [q] at h; exact (sat_bk.mp h).elim
  | ct => rw [q] at h; exact (sat_ct.mp h).elim
  | ex => rw [q] at h; exact (sat_exc.mp h).elim
  | bad => rw [q] at h; exact (sat_bad.mp h).elim
theorem run_ex {m : Nat} {g : MS} {ls : List L} {P : D → Nat → Prop} (h : (g (ls.map some ++ List.replicate (m - ls.length) none) n).Sat no2 P no2 no2) : ∃ v n', runF m g ls n = .ok v n' ∧ P v n' := by
  unfold runF
  cases q : g (ls.map some ++ List.replicate (m - ls.length) none) n with
  | rt d n1 => rw [q] at h; exact ⟨d, n1, rfl, sat_rt.mp h⟩
  | nx => rw [q] at h; exact (sat_nx.mp h).elim
  | bk => rw [q] at h; exact (sat_bk.mp h).elim
  | ct => rw [q] at h; exact (sat_ct.mp h).elim
  | ex => rw [q] at h; exact (sat_exc.mp h).elim
  | bad => rw [q] at h; exact (sat_bad.mp h).elim
theorem law_of {m : Nat} {g : MS} (h : ∀ ns : List Int, ns.length ≤ 63 → (g (some (.scr ns) :: some .town :: List.replicate m none) 0).Sat no2 (fun d _ => d = .bool true) no2 no2) : LawTrue m g := by
  intro ns hn
  have h1 := h ns hn
  cases q : g (some (.scr ns) :: some .town :: List.replicate m none) 0 with
  | rt d n1 =>
    rw [q] at h1
    exact ⟨n1, by rw [show d = .bool true from sat_rt.mp h1]⟩
  | nx => rw [q] at h1; exact (sat_nx.mp h1).elim
  | bk => rw [q] at h1; exact (sat_bk.mp h1).elim
  | ct => rw [q] at h1; exact (sat_ct.mp h1).elim
  | ex => rw [q] at h1; exact (sat_exc.mp h1).elim
  | bad => rw [q] at h1; exact (sat_bad.mp h1).elim
end
/-! comprehensions -/
section
variable {ρ : Env} {n : Nat} {tg : D → Env → Option Env} {tt : M Bool} {te : M D}
theorem lc_filter {α : Type} (enc : α → D) (p : α → Bool) (f : α → D) : ∀ (xs : List α), (∀ a ∈ xs, ∃ ρ1, tg (enc a) ρ = some ρ1 ∧ tt ρ1 n = .ok (p a) n ∧ (p a = true → te ρ1 n = .ok (f a) n)) → lcL tg tt te ρ (xs.map enc) n = .ok ((xs.filter p).map f) n
  | [], _ => rfl
  | a :: r, h => by
    obtain ⟨ρ1, e1, e2, e3⟩ := h a List.mem_cons_self
    have ih := lc_filter enc p f r fun b hb => h b (List.mem_cons_of_mem _ hb)
    show (match tg (enc a) ρ with | none => Res.bad | some ρ1 => _ : Res (List D)) = _
    rw [e1]
    show (match tt ρ1 n with | .ok true n1 => _ | .ok false n1 => _ | _ => Res.bad : Res (List D)) = _
    rw [e2]
    cases q : p a with
    | false =>
      rw [List.filter_cons_of_neg (by simp [q])]
      exact ih
    | true =>
      rw [List.filter_cons_of_pos q, List.map_cons]
      show (match te ρ1 n with | .ok y n2 => _ | _ => Res.bad : Res (List D)) = _
      rw [e3 q]
      show (lcL tg tt te ρ (r.map enc) n).bind _ = _
      rw [ih]
      rfl
theorem lc_map {α : Type} (enc : α → D) (f : α → D) (xs : List α) (h : ∀ a ∈ xs, ∃ ρ1, tg (enc a) ρ = some ρ1 ∧ te ρ1 n = .ok (f a) n) : lcL tg bYes te ρ (xs.map enc) n = .ok (xs.map f) n := by
  have := lc_filter (tt := bYes) (te := te) enc (fun _ => true) f xs fun a ha => by
    obtain ⟨ρ1, e1, e2⟩ := h a ha
    exact ⟨ρ1, e1, rfl, fun _ => e2⟩
  rw [this]
  congr 2
  simp
/-- elements that draw -/
theorem lc_draw {ty : Type} (enc : ty → D) (Q : D → Prop) (c : Nat) : ∀ (ds : List D) (n : Nat), (∀ d ∈ ds, ∀ m, m ≤ n + ds.length * c → ∃ ρ1 y m', tg d ρ = some ρ1 ∧ te ρ1 m = .ok y m' ∧ m' ≤ m + c ∧ Q y) →
    ∃ ys n', lcL tg bYes te ρ ds n = .ok ys n' ∧ n' ≤ n + ds.length * c ∧ ys.length = ds.length ∧ ∀ y ∈ ys, Q y
  | [], n, _ => ⟨[], n, rfl, by simp, rfl, by simp⟩
  | d :: ds, n, h => by
    have e0 : (d :: ds).length * c = ds.length * c + c := by rw [List.length_cons, Nat.succ_mul]
    obtain ⟨ρ1, y, m', e1, e2, h1, h2⟩ := h d List.mem_cons_self n (by omega)
    obtain ⟨ys, n', e3, h3, h4, h5⟩ := lc_draw enc Q c ds m' fun b hb m hm => h b (List.mem_cons_of_mem _ hb) m (by rw [e0]; omega)
    refine ⟨y :: ys, n', ?_, by rw [e0]; omega, by simp [h4], fun z hz => ?_⟩
    · show (match tg d ρ with | none => Res.bad | some ρ1 => _ : Res (List D)) = _
      rw [e1]
      show (match te ρ1 n with | .ok y n2 => _ | _ => Res.bad : Res (List D)) = _
      rw [e2]
      show (lcL tg bYes te ρ ds m').bind _ = _
      rw [e3]
      rfl
    · rcases List.mem_cons.mp hz with z | z
      · rw [z]; exact h2
      · exact h5 _ z
theorem e_lcf {α : Type} {vs : List Nat} {fa : M (List D)} (enc : α → D) (p : α → Bool) (f : α → D) (xs : List α) (h0 : fa ρ n = .ok (xs.map enc) n) (hl : xs.length < 16777216)
    (h : ∀ a ∈ xs, ∃ ρ1, tg (enc a) (wipeE ρ vs) = some ρ1 ∧ tt ρ1 n = .ok (p a) n ∧ (p a = true → te ρ1 n = .ok (f a) n)) : cLc vs tg fa tt te ρ n = .ok ((xs.filter p).map f) n := by
  rw [e_cLc, h0, Res.bind_ok, if_pos (by rw [List.length_map, sizeLine_eq]; exact hl), lc_filter enc p f xs h]
theorem e_lcm {α : Type} {vs : List Nat} {fa : M (List D)} (enc : α → D) (f : α → D) (xs : List α) (h0 : fa ρ n = .ok (xs.map enc) n) (hl : xs.length < 16777216)
    (h : ∀ a ∈ xs, ∃ ρ1, tg (enc a) (wipeE ρ vs) = some ρ1 ∧ te ρ1 n = .ok (f a) n) : cLc vs tg fa bYes te ρ n = .ok (xs.map f) n := by
  rw [e_cLc, h0, Res.bind_ok, if_pos (by rw [List.length_map, sizeLine_eq]; exact hl), lc_map enc f xs h]
theorem e_lcd {vs : List Nat} {fa : M (List D)} {ds ys : List D} {n1 n2 : Nat} (h0 : fa ρ n = .ok ds n1) (hl : ds.length < 16777216) (h : lcL tg tt te (wipeE ρ vs) ds n1 = .ok ys n2) : cLc vs tg fa tt te ρ n = .ok ys n2 := by
  rw [e_cLc, h0, Res.bind_ok, if_pos (by rw [sizeLine_eq]; exact hl), h]
theorem e_rng1 {ga : M D} {k n1 : Nat} (h : ga ρ n = .ok (.int k) n1) (hk : k ≤ 1000000000) : gRng fRng1 (aCons ga aNil) ρ n = .ok (rngL 0 k) n1 := by
  have hs : small62 (k : Int) = true := small62_iff.mpr ⟨by omega, by omega⟩
  rw [e_gRng, e_aCons, h, Res.bind_ok, e_aNil, Res.bind_ok, Res.bind_ok, e_asDs, e_dsCons, e_dsNil, Option.map_some, Res.lift_some, Res.bind_ok, x_rng1, if_pos hs, Int.toNat_natCast, Res.lift_some]
theorem e_rng2 {ga gb : M D} {j : Int} {k n1 n2 : Nat} (h : ga ρ n = .ok (.int j) n1) (h2 : gb ρ n1 = .ok (.int k) n2) (hj : -1000000000 ≤ j) (hj2 : j ≤ 1000000000) (hk : k ≤ 1000000000) : gRng fRng2 (aCons ga (aCons gb aNil)) ρ n = .ok (rngL j (k - j).toNat) n2 := by
  have hs : small62 (k : Int) = true := small62_iff.mpr ⟨by omega, by omega⟩
  have hs2 : small62 j = true := small62_iff.mpr ⟨by omega, by omega⟩
  rw [e_gRng, e_aCons, h, Res.bind_ok, e_aCons, h2, Res.bind_ok, e_aNil, Res.bind_ok, Res.bind_ok, Res.bind_ok, e_asDs, e_dsCons, e_dsCons, e_dsNil, Option.map_some, Option.map_some, Res.lift_some, Res.bind_ok, x_rng2, if_pos ⟨hs2, hs⟩, Res.lift_some]
theorem rngL_len (lo : Int) (k : Nat) : (rngL lo k).length = k := by unfold rngL; simp
theorem tgN_ok {i : Nat} {d : D} {ρ : G.Env} (h : i < ρ.length) : tgN i d ρ = some (ρ.set i (some (.d d))) := if_pos h
end
end G

/-! texts as lists of codes -/
namespace G
open PySem PySem.Spec PyProof.Rows L2
/-- without blanks at its end -/
def rs (l : List Nat) : List Nat := l.take (l.length - (l.reverse.takeWhile (fun c => c == 32)).length)
theorem rs_len (l : List Nat) : (rs l).length ≤ l.length := by
  unfold rs
  rw [List.length_take]
  omega
theorem str_mk (x : Str) (l : List Nat) (h : x.cps.toList = l) : x = ⟨l.toArray⟩ := Str.ext' (Array.toList_inj.mp h)
theorem contains_one (c d : Nat) : (#[d] : Array Nat).contains c = (c == d) := by simp [Array.contains]
theorem rstrip_T (l : List Nat) : PySem.Txt.rstripChars ⟨l.toArray⟩ ⟨#[32]⟩ = ⟨(rs l).toArray⟩ := by
  unfold PySem.Txt.rstripChars
  rw [PyProof.Rows.stripBy_eq]
  apply str_mk
  show TL.tl _ = _
  rw [TL.tl_strSub]
  unfold stripLo stripHi rs
  simp only [Bool.false_eq_true, if_false, if_true, List.drop_zero, Nat.sub_zero]
  have e : ((#[32] : Array Nat).contains) = fun c => c == 32 := by funext c; exact contains_one c 32
  show (TL.tl ⟨l.toArray⟩).take _ = _
  rw [TL.tl_mk]
  show l.take ((⟨l.toArray⟩ : Str).length - (l.reverse.takeWhile ((#[32] : Array Nat).contains)).length) = _
  rw [T_len, e]
@[simp] theorem x_rstrip {l : List Nat} : mRstrip (T l) (T [32]) = if l.length ≤ sizeLine then some (T (rs l)) else none := by
  unfold mRstrip T
  simp only [T_len]
  rw [rstrip_T]
/-- ends with -/
def endsL (l w : List Nat) : Bool := decide (w.length ≤ l.length) && (l.drop (l.length - w.length) == w)
theorem ends_T (l w : List Nat) : PySem.Txt.endswith ⟨l.toArray⟩ ⟨w.toArray⟩ = endsL l w := by
  unfold PySem.Txt.endswith endsL
  rw [T_len, T_len, Nat.zero_add]
  by_cases h : w.length ≤ l.length
  · rw [decide_eq_true h, Bool.true_and, Bool.true_and]
    unfold Builtin.Str.subAt
    show (l.toArray.extract (l.length - w.length) (l.length - w.length + (⟨w.toArray⟩ : Str).length) == w.toArray) = _
    rw [T_len]
    have e : l.toArray.extract (l.length - w.length) (l.length - w.length + w.length) = (l.drop (l.length - w.length)).toArray := by
      apply Array.toList_inj.mp
      rw [Array.toList_extract, List.extract_eq_take_drop]
      simp only [List.toList_toArray]
      rw [List.take_of_length_le]
      rw [List.length_drop]
      omega
    rw [e, Bool.eq_iff_iff]
    simp
  · rw [decide_eq_false h]; rfl
@[simp] theorem x_ends {l w : List Nat} : mEnds (T l) (T w) = some (.bool (endsL l w)) := by
  unfold mEnds T
  simp only [ends_T]
/-! shape of data -/
theorem strOk_T (l : List Nat) : PyData.strOk ⟨l.toArray⟩ = l.all (· < 0x110000) := by
  unfold PyData.strOk
  simp
/-- codes that texts may have -/
def okT (l : List Nat) : Bool := l.all (· < 0x110000)
theorem lay_T (l : List Nat) : (T l).canLay0 = okT l := by
  unfold T okT
  rw [← strOk_T]
  simp [PyData.canLay0]
theorem layAll_T (ls : List (List Nat)) (h : ∀ l ∈ ls, okT l = true) : PyData.canLayAll0 (ls.map T) = true := by
  induction ls with
  | nil => simp [PyData.canLayAll0]
  | cons a r ih =>
    rw [List.map_cons]
    unfold PyData.canLayAll0
    rw [lay_T, h a List.mem_cons_self, ih fun l hl => h l (List.mem_cons_of_mem _ hl)]
    rfl
theorem depth_T (l : List Nat) : (T l).depth = 0 := by unfold T; simp [PyData.depth]
theorem depthAll_T (ls : List (List Nat)) : PyData.depthAll (ls.map T) = 0 := by
  induction ls with
  | nil => simp [PyData.depthAll]
  | cons a r ih => simp [PyData.depthAll, depth_T, ih]
theorem shaped_T {l : List Nat} (h : okT l = true) : SeqAt.shaped (T l) = true := by
  unfold SeqAt.shaped
  rw [lay_T, h, depth_T]
  rfl
theorem shaped_tupT {ls : List (List Nat)} (h : ∀ l ∈ ls, okT l = true) : SeqAt.shaped (.tuple (ls.map T)) = true := by
  unfold SeqAt.shaped
  have e1 : (PyData.tuple (ls.map T)).canLay0 = true := by simp [PyData.canLay0, layAll_T ls h]
  have e2 : (PyData.tuple (ls.map T)).depth ≤ 64 := by simp [PyData.depth, depthAll_T]
  rw [e1, decide_eq_true e2]
  rfl
theorem eqv_T (a b : List Nat) : PyData.eqv (T a) (T b) = (a == b) := by
  unfold T
  simp only [PyData.eqv]
  rw [Bool.eq_iff_iff]
  simp
theorem eqvAll_T : ∀ (a b : List (List Nat)), PyData.eqvAll (a.map T) (b.map T) = (a == b)
  | [], [] => by simp [PyData.eqvAll]
  | [], _ :: _ => by simp [PyData.eqvAll]
  | _ :: _, [] => by simp [PyData.eqvAll]
  | x :: xs, y :: ys => by
    simp only [List.map_cons, PyData.eqvAll, eqv_T, eqvAll_T xs ys]
    rfl
theorem eqv_tupT (a b : List (List Nat)) : PyData.eqv (.tuple (a.map T)) (.tuple (b.map T)) = (a == b) := by
  simp only [PyData.eqv, eqvAll_T]
theorem x_ne_tupT {a b : List (List Nat)} (ha : ∀ l ∈ a, okT l = true) (hb : ∀ l ∈ b, okT l = true) : opNe (.tuple (a.map T)) (.tuple (b.map T)) = some (.bool (!(a == b))) := by
  unfold opNe
  rw [if_pos ⟨shaped_tupT ha, shaped_tupT hb⟩, eqv_tupT]
theorem x_eq_tupT {a b : List (List Nat)} (ha : ∀ l ∈ a, okT l = true) (hb : ∀ l ∈ b, okT l = true) : opEq (.tuple (a.map T)) (.tuple (b.map T)) = some (.bool (a == b)) := by
  unfold opEq
  rw [if_pos ⟨shaped_tupT ha, shaped_tupT hb⟩, eqv_tupT]
theorem x_ne_T {a b : List Nat} (ha : okT a = true) (hb : okT b = true) : opNe (T a) (T b) = some (.bool (!(a == b))) := by
  unfold opNe
  rw [if_pos ⟨shaped_T ha, shaped_T hb⟩, eqv_T]
theorem x_eq_T {a b : List Nat} (ha : okT a = true) (hb : okT b = true) : opEq (T a) (T b) = some (.bool (a == b)) := by
  unfold opEq
  rw [if_pos ⟨shaped_T ha, shaped_T hb⟩, eqv_T]
theorem shaped_int (i : Int) : SeqAt.shaped (.int i) = true := by unfold SeqAt.shaped; simp [PyData.canLay0, PyData.depth]
theorem shaped_bool (i : Bool) : SeqAt.shaped (.bool i) = true := by unfold SeqAt.shaped; simp [PyData.canLay0, PyData.depth]
theorem shaped_none : SeqAt.shaped .none = true := by unfold SeqAt.shaped; simp [PyData.canLay0, PyData.depth]
@[simp] theorem x_eq_int {i j : Int} : opEq (.int i) (.int j) = some (.bool (i == j)) := by
  unfold opEq
  rw [if_pos ⟨shaped_int i, shaped_int j⟩]
  simp [PyData.eqv]
@[simp] theorem x_ne_int {i j : Int} : opNe (.int i) (.int j) = some (.bool (!(i == j))) := by
  unfold opNe
  rw [if_pos ⟨shaped_int i, shaped_int j⟩]
  simp [PyData.eqv]
theorem okT_app {a b : List Nat} : okT (a ++ b) = (okT a && okT b) := by simp [okT]
theorem okT_flat {ls : List (List Nat)} (h : ∀ l ∈ ls, okT l = true) : okT ls.flatten = true := by
  unfold okT at *
  rw [List.all_eq_true]
  intro c hc
  obtain ⟨l, hl, hc'⟩ := List.mem_flatten.mp hc
  exact List.all_eq_true.mp (h l hl) c hc'
theorem sum_flat (ls : List (List Nat)) : (ls.map List.length).sum = ls.flatten.length := by rw [List.length_flatten]
/-! places -/
theorem atI_neg1 {α : Type} (xs : List α) (x : α) : atI (xs ++ [x]) (-1) = some x := atI_last xs x
theorem ixN_neg1 {n : Nat} (h : 0 < n) : ixN n (-1) = some (n - 1) := by
  unfold ixN
  rw [if_neg (by omega), if_pos (by omega)]
  congr 1
  omega
theorem noList_T (l : List Nat) : noList (T l) = true := by unfold T; simp [noList]
theorem noListA_T (ls : List (List Nat)) : noListA (ls.map T) = true := by
  induction ls with
  | nil => simp [noListA]
  | cons a r ih => simp [noListA, noList_T, ih]
theorem noList_tupT (ls : List (List Nat)) : noList (.tuple (ls.map T)) = true := by simp [noList, noListA_T]
theorem small_nat {k : Nat} (h : k ≤ 1000000000) : small62 (k : Int) = true := small62_iff.mpr ⟨by omega, by omega⟩
theorem small_int {k : Int} (h : -1000000000 ≤ k) (h2 : k ≤ 1000000000) : small62 k = true := small62_iff.mpr ⟨by omega, by omega⟩
theorem size_ok {k : Nat} (h : k ≤ 16777216) : k ≤ sizeLine := by rw [sizeLine_eq]; exact h
theorem size_lt {k : Nat} (h : k < 16777216) : k < sizeLine := by rw [sizeLine_eq]; exact h
/-! slices -/
theorem cutL_take {α : Type} (l : List α) (k : Nat) : cutL l none (some (k : Int)) = l.take k := by
  unfold cutL
  rw [HT.sIx_none, HT.sIx_nat, List.drop_zero, Nat.sub_zero]
  by_cases h : k ≤ l.length
  · rw [Nat.min_eq_left h]
  · rw [Nat.min_eq_right (by omega), List.take_length, List.take_of_length_le (by omega)]
theorem cutL_drop {α : Type} (l : List α) (k : Nat) : cutL l (some (k : Int)) none = l.drop k := by
  unfold cutL
  rw [HT.sIx_none, HT.sIx_nat]
  by_cases h : k ≤ l.length
  · rw [Nat.min_eq_left h, List.take_of_length_le (by rw [List.length_drop]; omega)]
  · rw [Nat.min_eq_right (by omega), List.drop_length, List.drop_eq_nil_of_le (by omega)]
    simp
theorem cutL_mid {α : Type} (l : List α) (a b : Nat) : cutL l (some (a : Int)) (some (b : Int)) = (l.drop a).take (b - a) := by
  unfold cutL
  rw [HT.sIx_nat, HT.sIx_nat]
  by_cases h : a ≤ l.length
  · rw [Nat.min_eq_left h]
    by_cases h2 : b ≤ l.length
    · rw [Nat.min_eq_left h2]
    · rw [Nat.min_eq_right (Nat.le_of_not_le h2), List.take_of_length_le (by rw [List.length_drop]; omega), List.take_of_length_le (by rw [List.length_drop]; omega)]
  · rw [Nat.min_eq_right (a := a) (b := l.length) (by omega), List.drop_length, List.drop_eq_nil_of_le (as := l) (i := a) (by omega)]
    simp
theorem cutL_last1 {α : Type} (l : List α) (x : α) : cutL (l ++ [x]) (some (-1)) none = [x] := by
  unfold cutL HT.sIx
  have e : (-1 + ((l.length : Int) + 1)).toNat = l.length := by omega
  simp [e]
theorem cutL_init1 {α : Type} (l : List α) (x : α) : cutL (l ++ [x]) none (some (-1)) = l := by
  unfold cutL HT.sIx
  have e : (-1 + ((l.length : Int) + 1)).toNat = l.length := by omega
  simp [e]
end G

/-! sorted over data, lists and tuples -/
namespace G
open PySem PySem.Spec PySem.Calls PyProof.Rows L2 PySem.W
section
variable {prog : Program} {w : World} {A : Around} {E : Value → Shared → Prop} {s : Shared}
/-- the items of a tuple, in a new list -/
theorem collectTup {t : Addr} {us : List Value} {R : List Value → Shared → Prop} (ht : s.heap.IsTuple t us.toArray) (hsz : us.length ≤ sizeLine)
    (q : R us { s with heap := (s.heap.push (seqObj "list" #[] 0)).update s.heap.objs.size (Obj.mapSeq (· ++ us.toArray)) }) : wpAny (model prog w) A (collect (.ref t)) R E s := by
  obtain ⟨ob, go, gc, m, gd⟩ := id ht
  unfold collect
  refine wpAny_bind (wpAny_runValue (codeAny_builtin entry_proto_collect' ?_))
  show wpAny _ _ (do again (.builtin "list.__iadd__" ⟨[← newList [], .ref t], []⟩)) _ _ s
  refine wpAny_bind (wpAny_newList (wpAny_pure ⟨Code.quiet_builtin _ (by decide +kernel), codeAny_builtin entry_list_iadd' ?_⟩))
  show wpAny _ _ (Builtin.List.listExtendWith (.ref s.heap.objs.size) (.ref t) (.ref s.heap.objs.size)) _ _ { s with heap := s.heap.push (seqObj "list" #[] 0) }
  unfold Builtin.List.listExtendWith
  have go' : (s.heap.push (seqObj "list" #[] 0)).get? t = some ob := Heap.get?_push_of_some _ go
  refine wpAny_bind (wpAny_typeOf (T := "tuple") ⟨ob, go', gc⟩ ?_)
  have e1 : (Value.type "tuple" == Value.type "tuple") = true := by rfl
  rw [if_pos (by rw [e1]; simp)]
  refine wpAny_bind (listItems_at go' gd ?_)
  refine wpAny_bind (listItems_at (xs := #[]) (n := 0) (Heap.get?_push_size _ rfl) rfl ?_)
  rw [if_neg (by simp)]
  refine wpAny_bind (listUpdate_at (xs := #[]) (n := 0) (Heap.get?_push_size _ rfl) rfl ?_ (Nat.zero_le _) (by show (#[] ++ us.toArray).size ≤ sizeLine + 1; simp only [Array.size_append, List.size_toArray, List.length_nil]; omega))
  refine wpAny_pure ?_
  show wpAny (model prog w) A (do
      let ob ← load s.heap.objs.size
      match ob.data with
      | .seq ys _ => pure ys.toList
      | _ => unsupported "internal:collect") R E { s with heap := (s.heap.push (seqObj "list" #[] 0)).update s.heap.objs.size (Obj.mapSeq (· ++ us.toArray)) }
  refine wpAny_bind (wpAny_load (get?_update_seq (Heap.get?_push_size _ rfl) _) ?_)
  show wpAny _ _ (pure ((#[] : Array Value) ++ us.toArray).toList) R E _
  rw [show ((#[] : Array Value) ++ us.toArray).toList = us by simp]
  exact wpAny_pure q
theorem sortedTup {t : Addr} {us : List Value} {R : Value → Shared → Prop} (ht : s.heap.IsTuple t us.toArray) (hsz : us.length ≤ sizeLine)
    (body : ∀ E' : Value → Shared → Prop, wpAny (model prog w) A.in1.in1 (Builtin.«list.sort» ⟨[.ref (s.heap.objs.size + 1)], []⟩) (fun f s' => f = .done (.ret .none) ∧ R (.ref (s.heap.objs.size + 1)) s') E' { s with heap := copyHeap s.heap us }) :
    wpAny (model prog w) A (call (.builtin "sorted") [.ref t]) R E s := by
  refine call_function_entry_kw kind_sorted plain_sorted entry_sorted (args_sorted1 _) ?_
  unfold Builtin.«sorted»
  refine wpAny_bind (m := checkCount "sorted" 1 1 _) (wpAny_pure ?_)
  refine wpAny_bind (collectTup ht hsz ?_)
  refine wpAny_bind (wpAny_newList ?_ hsz)
  have e2 : ((s.heap.push (seqObj "list" #[] 0)).update s.heap.objs.size (Obj.mapSeq (· ++ us.toArray))).objs.size = s.heap.objs.size + 1 := by
    rw [Heap.size_update, size_push']
  show wpAny _ _ _ _ _ { s with heap := copyHeap s.heap us }
  rw [e2]
  refine wpAny_bind (wpAny_holding (wpAny_call_entry_kw slot_list_sort ⟨_, copyHeap_at s.heap us, rfl⟩ entry_list_sort ?bd (args_list_sort _)))
  case bd =>
    show wpAny (model prog w) A.in1.in1 (Builtin.«list.sort» ⟨[.ref (s.heap.objs.size + 1)], []⟩) _ _ _
    refine wpAny_mono (body _) (fun f s' hf => ?_) fun _ _ e => e
    obtain ⟨rfl, hq⟩ := hf
    exact ⟨_, rfl, wpAny_pure ⟨_, rfl, hq⟩⟩
theorem sortedTupData {t : Addr} {us : List Value} {bs : List D} {R : Value → D → Prop} {Q : Value → Shared → Prop} (ht : s.heap.IsTuple t us.toArray) (e : EachIs R us bs) (er : EachIs (fun v b => ∃ as, Reads s.heap v b as) us bs) (hal : AllAlike bs) (hk : Sortable bs) (hL : bs.length ≤ sizeLine)
    (hu : ∀ b, b ∈ bs → A.units + 2 + b.depth < cLine) (h : ∀ out, out.length = bs.length → EachIs R out (bs.mergeSort (dataLe false id)) → Q (.ref (s.heap.objs.size + 1)) { s with heap := sortedAll s.heap us (List.toArray out) }) :
    wpAny (model prog w) A (call (.builtin "sorted") [.ref t]) Q E s := by
  have er' : EachIs (fun v b => ∃ as, Reads (sortingHeap (copyHeap s.heap us) (s.heap.objs.size + 1) us) v b as) us bs := er.mono fun _ _ ⟨as, r⟩ => ⟨as, PyProof.Rows.Reads.keeps (fun _ _ => sorting_copy_old) r⟩
  have hL' : us.length ≤ sizeLine := by rw [e.length]; exact hL
  have hal' : AllAlike (bs.map id) := by rw [List.map_id]; exact hal
  refine sortedTup ht hL' fun E' => list_sort_vals (s := { s with heap := copyHeap s.heap us }) (copyHeap_at s.heap us) (SortsAt.data (s := { s with heap := sortingHeap (copyHeap s.heap us) (s.heap.objs.size + 1) us }) er' hal hk hu) hL' ⟨rfl, ?_⟩
  have z := sortVals_data (enc := id) false e er' hal'
  rw [List.map_id] at z
  exact h _ (by rw [sortVals_length false rfl]; exact e.length) z
end
/-! as a rule -/
def sortOk (ds : List D) : Prop := AllAlike ds ∧ Sortable ds ∧ ∀ d ∈ ds, d.depth ≤ 8
open Classical in
noncomputable def fSort : List D → Option (List D)
  | [.list ds] => if sortOk ds then some (ds.mergeSort (dataLe false id)) else none
  | [.tuple ds] => if sortOk ds then some (ds.mergeSort (dataLe false id)) else none
  | _ => none
def rSortD (K : PySem.W.Frag) : List V → Hp → VK → Prop := fun vs H Q => ∃ (a : Addr) (xs : List V) (ds : List D) (R : V → D → Prop), vs = [.ref a] ∧ (SqL K H a xs ∨ SqT K H a xs) ∧ DpAll K H xs ds ∧ EachIs R xs ds ∧ sortOk ds ∧
  ∀ ys p, EachIs R ys (ds.mergeSort (dataLe false id)) → H p = none → Q (.ref p) (upd H p (.lst ys))
theorem each_vals {R : V → D → Prop} : ∀ {xs : List V} {us : List Value} {ds : List D}, Vals xs us → EachIs R xs ds → EachIs (fun u d => ∃ x, RelV x u ∧ R x d) us ds
  | [], _, _, r, e => by cases e; cases r; exact .nil
  | _ :: _, _, _, r, e => by
    cases e with
    | cons h1 h2 =>
      cases r with
      | cons r1 r2 => exact .cons ⟨_, r1, h1⟩ (each_vals r2 h2)
theorem vals_each {R : V → D → Prop} : ∀ {us : List Value} {ds : List D}, EachIs (fun u d => ∃ x, RelV x u ∧ R x d) us ds → ∃ xs, Vals xs us ∧ EachIs R xs ds
  | _, _, .nil => ⟨[], .nil, .nil⟩
  | _, _, .cons ⟨x, h1, h2⟩ t => by
    obtain ⟨xs, q1, q2⟩ := vals_each t
    exact ⟨x :: xs, .cons h1 q1, .cons h2 q2⟩
theorem each_len {α β : Type} {R : α → β → Prop} : ∀ {as : List α} {bs : List β}, EachIs R as bs → as.length = bs.length
  | _, _, .nil => rfl
  | _, _, .cons _ t => by rw [List.length_cons, List.length_cons, each_len t]
theorem each_reads {h : Heap} : ∀ {us : List Value} {ds : List D} {as : List Addr}, ReadsAll h us ds as → EachIs (fun u d => ∃ as, Reads h u d as) us ds
  | _, [], _, r => by cases r; exact .nil
  | _, d :: ds, _, r => by
    cases r with
    | cons h1 h2 => exact .cons ⟨_, h1⟩ (each_reads h2)
theorem cr_sortD {X : Cx} (hu : X.A.units + 64 < cLine) : CallR X (.builtin "sorted") (rSortD X.K) := by
  intro pins s σ H vs us Q I r h
  obtain ⟨a, xs, ds, R, rfl, hs, hd, he, hok, q⟩ := h
  rw [Vals.ref1 r]
  obtain ⟨its, rv, hz, hl⟩ : ∃ its : List Value, Vals xs its ∧ xs.length ≤ sizeLine ∧ (s.heap.IsList a its.toArray ∨ s.heap.IsTuple a its.toArray) := by
    rcases hs with hs | hs
    · obtain ⟨its, rv, hl, hz⟩ := I.list hs
      exact ⟨its, rv, hz, .inl hl.isList⟩
    · obtain ⟨its, rv, hl, hz⟩ := I.tuple hs
      exact ⟨its, rv, hz, .inr hl⟩
  obtain ⟨as, rd⟩ := Dp.readsAll I ds xs its hd rv
  have e1 := each_vals rv he
  have hlen : ds.length = xs.length := (each_len he).symm
  have key : ∀ out, out.length = ds.length → EachIs (fun u d => ∃ x, RelV x u ∧ R x d) out (ds.mergeSort (dataLe false id)) → EP X pins σ Q (.ref (s.heap.objs.size + 1)) { s with heap := sortedAll s.heap its (List.toArray out) } := by
    intro out ho eo
    obtain ⟨ys, v1, v2⟩ := vals_each eo
    obtain ⟨ep, he'⟩ := PyProof.Rows.sortedAll_at s.heap its out.toArray
    have hly : ys.length ≤ sizeLine := by rw [v1.length, ho, hlen]; exact hz
    exact ⟨.ref _, upd H (s.heap.objs.size + 1) (.lst ys), I.laid (t' := s.toks) (fun _ _ => PyProof.Rows.sortedAll_old) (Nat.le_succ _) ⟨hly, out, ep, v1, he'⟩, rfl, q _ _ v2 (I.hok.fresh (Nat.le_succ _))⟩
  have hdep : ∀ b, b ∈ ds → X.A.units + 2 + b.depth < cLine := fun b hb => by
    have := hok.2.2 b hb
    omega
  rcases hl with hl | hl
  · exact sorted_data (enc := id) hl e1 (each_reads rd) (by rw [List.map_id]; exact hok.1) (by rw [List.map_id]; exact hok.2.1) (by rw [hlen]; exact hz) hdep key
  · exact sortedTupData hl e1 (each_reads rd) hok.1 hok.2.1 (by rw [hlen]; exact hz) hdep key
theorem each_rep {K : PySem.W.Frag} {H : Hp} : ∀ {xs : List V} {ds : List D}, RepAll K H xs ds → EachIs (Rep K H) xs ds
  | _, _, .nil => .nil
  | _, _, .cons h t => .cons h (each_rep t)
theorem rep_each {K : PySem.W.Frag} {H : Hp} : ∀ {xs : List V} {ds : List D}, EachIs (Rep K H) xs ds → RepAll K H xs ds
  | _, _, .nil => .nil
  | _, _, .cons h t => .cons h (rep_each t)
theorem fSort_of {ds es : List D} {d : D} (h : d = .list ds ∨ d = .tuple ds) (e : fSort [d] = some es) : sortOk ds ∧ es = ds.mergeSort (dataLe false id) := by
  classical
  have e' : (if sortOk ds then some (ds.mergeSort (dataLe false id)) else none) = some es := by
    rcases h with rfl | rfl
    · rw [← e]; unfold fSort; congr
    · rw [← e]; unfold fSort; congr
  by_cases hk : sortOk ds
  · rw [if_pos hk] at e'
    exact ⟨hk, (Option.some.inj e').symm⟩
  · rw [if_neg hk] at e'
    cases e'
theorem x_sort_l {ds : List D} (h : sortOk ds) : fSort [.list ds] = some (ds.mergeSort (dataLe false id)) := by
  classical
  show (if sortOk ds then some (ds.mergeSort (dataLe false id)) else none) = _
  exact if_pos h
theorem x_sort_t {ds : List D} (h : sortOk ds) : fSort [.tuple ds] = some (ds.mergeSort (dataLe false id)) := by
  classical
  show (if sortOk ds then some (ds.mergeSort (dataLe false id)) else none) = _
  exact if_pos h
theorem o_sort {K : PySem.W.Frag} : OpNF K (rSortD K) fSort := by
  intro B H xs as ds' Q all r e q
  cases r with
  | nil => cases e
  | @cons v vs a as r1 r2 =>
    cases r2 with
    | nil =>
      cases r1 with
      | @lst p ys ds h1 h2 =>
        obtain ⟨hok, rfl⟩ := fSort_of (.inl rfl) e
        exact ⟨p, ys, ds, _, rfl, .inl (.inl (.inl (hid_sub h1))), Rep.dpAll (fun _ _ => hid_sub) _ _ h2, each_rep h2, hok, fun zs l hz hl => q l zs _ (same_upd hl) hl upd_same (Rep.monoAll (hid_fresh hl) _ _ (rep_each hz))⟩
      | @tup p ys ds h1 h2 =>
        obtain ⟨hok, rfl⟩ := fSort_of (.inr rfl) e
        exact ⟨p, ys, ds, _, rfl, .inr (sqT_mono (fun _ _ => hid_sub) h1.sq), Rep.dpAll (fun _ _ => hid_sub) _ _ h2, each_rep h2, hok, fun zs l hz hl => q l zs _ (same_upd hl) hl upd_same (Rep.monoAll (hid_fresh hl) _ _ (rep_each hz))⟩
      | _ => cases e
    | cons _ _ => unfold fSort at e; cases r1 <;> cases e
end G

/-! sorted(set(xs)), xs a list of ints -/
namespace G
open PySem PySem.Spec PyProof.Rows L2
section
variable {P : Program} {w : World} {A : Around} {E : Value → Shared → Prop} {s : Shared}
abbrev eSet (w : World) : Obj := { cls := .type "set", dict := none, data := .set #[] 0 (.fresh 0 0 (!w.params.followText "set-order")) }
theorem setOfList {b : Addr} {us : Array Value} (js : List Int) {R : Value → Shared → Prop} (hn : A.handled = none) (hb : s.heap.IsList b us) (hj : IntsAre us.toList js) (hz : js.length + 1 < scanBound)
    (q : ∀ (g : Heap) (k m : Nat), SetR w g s.heap.objs.size (fun j => decide (j ∈ js)) m → m ≤ js.length → (∀ a o, s.heap.get? a = some o → g.get? a = some o) → R (.ref s.heap.objs.size) { s with heap := g, toks := k }) :
    wpAny (model P w) A (call (.type "set") [.ref b]) R E s := by
  have sz : us.size = js.length := by
    have z := IntsAre.length hj
    rwa [Array.length_toList] at z
  obtain ⟨m1, m2, hmr⟩ := F.called_set.mro
  have q1 := F.called_set.made
  have q2 := F.called_set.sub
  refine wpAny_call (codeAny_of_tree ?_)
  show wpAny _ _ (callAny (.type "set") _) _ _ _
  refine wpAny_pure ⟨Code.quiet_builtin _ (by decide +kernel), codeAny_builtin F.entry_type_call ?_⟩
  rw [Around.under_plain (weight_type_call_type "set" [.ref b] []) rfl]
  have q3 := F.called_set.notType
  have q4 := F.called_set.canCreate
  have q5 := F.typeCall_set_1 (.ref b)
  repeat (any_goals (first | assumption | wp_step))
  refine codeAny_mono (code_set_led1 (.ref b) (E := E) (Q₁ := fun x s1 => x = .ref s.heap.objs.size ∧ s1 = { s with heap := s.heap.push (eSet w) }) ⟨rfl, rfl⟩) fun r s1 hr => ?_
  cases r with
  | error e => exact hr
  | ok fl =>
    cases fl with
    | ret obj =>
      obtain ⟨rfl, rfl⟩ := hr
      have p1 : (s.heap.push (eSet w)).get? s.heap.objs.size = some (eSet w) := Heap.get?_push_size _ rfl
      have p2 : Shared.TypeIs { s with heap := s.heap.push (eSet w) } (.ref s.heap.objs.size) "set" := ⟨_, p1, rfl⟩
      have p3 := F.called_set.init.lookup
      have p4 := F.called_set.init.bind (.ref s.heap.objs.size)
      repeat (any_goals (first | assumption | wp_step))
      refine codeAny_mono (codeAny_call_builtin (R := wants (fun r s2 => r = .none ∧ ∃ g k m, s2 = { s with heap := g, toks := k } ∧ SetR w g s.heap.objs.size (fun j => decide (j ∈ js)) m ∧ m ≤ js.length ∧
          (∀ a o, s.heap.get? a = some o → g.get? a = some o)) E) F.called_set.init.plain F.entry_set_init (check_set_init_1 p2 ?_)) fun r2 s2 hr2 => ?_
      · obtain ⟨ob, gb, gc, nb, gd⟩ := hb
        obtain ⟨x1, x2, x3, x4⟩ := ob
        simp only at gc gd
        subst gc; subst gd
        have gb' : (s.heap.push (eSet w)).get? b = some { cls := .type "list", dict := x2, data := .seq us nb, slots := x4 } := Heap.get?_push_of_some _ gb
        have y1 := F.sub_list_set
        have y2 := F.sub_list_frozenset
        have y3 : (Value.type "list" == Value.type "dict") = false := by decide
        have y4 : (s.heap.push (eSet w)).IsList b us := ⟨_, gb', rfl, nb, rfl⟩
        unfold Builtin.«set.__init__»
        unfold noKeywords
        unfold Builtin.Frozenset.updateFrom
        generalize hPI : pyIter = PI
        wp_walk
        subst hPI
        refine wpAny_pyIter_list y4 ?_
        refine wpAny_bind (wpAny_runValue ?_)
        have z1 : b < s.heap.objs.size := Heap.lt_size gb
        have z2 : A.in1.in1.in1.handled = none := by simp [hn]
        have z3 : (s.heap.push (eSet w)).objs.size = s.heap.objs.size + 1 := Heap.size_push ..
        have z4 : b ≠ (s.heap.push (eSet w)).objs.size := by rw [z3]; exact Nat.ne_of_lt (Nat.lt_succ_of_lt z1)
        have z5 : s.heap.objs.size ∉ [(s.heap.push (eSet w)).objs.size, b] := by
          rw [z3]
          intro hm
          rcases List.mem_cons.mp hm with e | e
          · exact absurd e (Nat.ne_of_lt (Nat.lt_succ_self _))
          · exact absurd (List.mem_singleton.mp e) (Nat.ne_of_gt z1)
        have z6 : ∀ (i : Nat) (v : Value), us[i]? = some v → ∃ k t, js[i]? = some k ∧ v = .int k t := fun i v hv => by
          have hi : i < js.length := by rw [← sz]; exact (Array.getElem?_eq_some_iff.mp hv).1
          obtain ⟨t, e⟩ := PyProof.Rows.IntsAre.int_at hj i v (by rw [Array.getElem?_toList]; exact hv)
          refine ⟨js[i], t, List.getElem?_eq_getElem hi, ?_⟩
          rw [e, List.getD_eq_getElem?_getD, List.getElem?_eq_getElem hi] <;> rfl
        refine set_update_ints ((Walks.list z2 _ b z4 us).toS) s.heap.objs.size z5 js sz hz z6 (us.size - 0) 0 _ (by omega) (Nat.zero_le _)
          ⟨⟨_, Heap.get?_push_size _ rfl, rfl, rfl⟩, (y4.push _)⟩ ?a1 ?a2
        case a1 =>
          refine ⟨0, Nat.le_refl 0, setR_new_at (w := w) (ns := js) ?_⟩
          exact Heap.get?_push_of_some _ p1
        case a2 =>
          intro s' m hm hm' hS
          obtain ⟨g, g2, d2, k2, o2⟩ := s'
          have e1 : g2 = s.gens := hm.gens
          have e2 : d2 = s.drawn := hm.drawn
          have e3 : o2 = s.os := hm.os
          subst e1; subst e2; subst e3
          show wpAny _ _ _ _ _ _
          refine wpAny_pure ?_
          show wpAny _ _ (ret Value.none) _ _ _
          rw [sz] at hm'
          refine wpAny_pure ⟨rfl, g, k2, m, rfl, hS, hm', fun a o e => ?_⟩
          have l0 : a < s.heap.objs.size := Heap.lt_size e
          refine hm.heap a o ?_ (Heap.get?_push_of_some _ (Heap.get?_push_of_some _ e))
          intro hx
          rcases List.mem_cons.mp hx with e | e
          · exact absurd e (Nat.ne_of_lt l0)
          · have e9 := List.mem_singleton.mp e
            rw [z3] at e9
            exact absurd e9 (Nat.ne_of_lt (Nat.lt_succ_of_lt l0))
      · cases r2 with
        | error e => exact hr2
        | ok fl2 =>
          cases fl2 with
          | ret r =>
            obtain ⟨rfl, g, k, m, rfl, hS, hm, hk⟩ := hr2
            repeat (any_goals (first | assumption | wp_step))
            exact q _ _ _ hS hm hk
          | _ => exact hr2.elim
    | _ => exact hr.elim
end
/-! ### rising, each once -/
def insU (x : Int) : List Int → List Int
  | [] => [x]
  | y :: r => if x < y then x :: y :: r else if x = y then y :: r else y :: insU x r
def upI (ns : List Int) : List Int := ns.foldr insU []
theorem mem_insU (x k : Int) : ∀ l, k ∈ insU x l ↔ k = x ∨ k ∈ l
  | [] => by simp [insU]
  | y :: r => by
    unfold insU
    split
    · simp
    · split
      · rename_i h; subst h; simp
      · rw [List.mem_cons, mem_insU x k r, List.mem_cons]
        constructor
        · rintro (h | h | h)
          · exact .inr (.inl h)
          · exact .inl h
          · exact .inr (.inr h)
        · rintro (h | h | h)
          · exact .inr (.inl h)
          · exact .inl h
          · exact .inr (.inr h)
theorem rise_insU (x : Int) : ∀ l : List Int, l.Pairwise (· < ·) → (insU x l).Pairwise (· < ·)
  | [], _ => List.pairwise_singleton _ _
  | y :: r, h => by
    obtain ⟨h1, h2⟩ := List.pairwise_cons.mp h
    unfold insU
    split
    · rename_i hx
      refine List.pairwise_cons.mpr ⟨fun k hk => ?_, h⟩
      rcases List.mem_cons.mp hk with e | e
      · rw [e]; exact hx
      · have := h1 k e; omega
    · split
      · exact h
      · refine List.pairwise_cons.mpr ⟨fun k hk => ?_, rise_insU x r h2⟩
        rcases (mem_insU x k r).mp hk with e | e
        · omega
        · exact h1 k e
theorem mem_upI (k : Int) : ∀ ns, k ∈ upI ns ↔ k ∈ ns
  | [] => Iff.rfl
  | x :: r => by
    show k ∈ insU x (upI r) ↔ _
    rw [mem_insU, mem_upI k r, List.mem_cons]
theorem rise_upI : ∀ ns, (upI ns).Pairwise (· < ·)
  | [] => List.Pairwise.nil
  | x :: r => rise_insU x _ (rise_upI r)
theorem rise_uniq : ∀ {a b : List Int}, a.Pairwise (· < ·) → b.Pairwise (· < ·) → (∀ k, k ∈ a ↔ k ∈ b) → a = b
  | [], [], _, _, _ => rfl
  | [], y :: b, _, _, h => absurd ((h y).mpr List.mem_cons_self) (by simp)
  | x :: a, [], _, _, h => absurd ((h x).mp List.mem_cons_self) (by simp)
  | x :: a, y :: b, ha, hb, h => by
    obtain ⟨a1, a2⟩ := List.pairwise_cons.mp ha
    obtain ⟨b1, b2⟩ := List.pairwise_cons.mp hb
    have e : x = y := by
      rcases List.mem_cons.mp ((h x).mp List.mem_cons_self) with e | e
      · exact e
      · rcases List.mem_cons.mp ((h y).mpr List.mem_cons_self) with e' | e'
        · exact e'.symm
        · have := a1 _ e'; have := b1 _ e; omega
    subst e
    rw [rise_uniq a2 b2 fun k => ?_]
    constructor
    · intro hk
      rcases List.mem_cons.mp ((h k).mp (List.mem_cons_of_mem _ hk)) with e | e
      · have := a1 k hk; omega
      · exact e
    · intro hk
      rcases List.mem_cons.mp ((h k).mpr (List.mem_cons_of_mem _ hk)) with e | e
      · have := b1 k hk; omega
      · exact e
theorem nodup_upI (ns : List Int) : (upI ns).Nodup := (rise_upI ns).imp fun h => by omega
theorem setR_len {w : World} {h : Heap} {a : Addr} {ns : List Int} {c : Nat} (R : SetR w h a (fun j => decide (j ∈ ns)) c) : c = (upI ns).length := by
  obtain ⟨o, es, ep, t, _, _, _, _, nd, hm, _, _, hn, _⟩ := R
  have pm : (es.toList.map keyOf).Perm (upI ns) := (List.perm_ext_iff_of_nodup nd (nodup_upI ns)).mpr fun k => by
    rw [← hm k, mem_upI, decide_eq_true_eq]
  have := pm.length_eq
  rw [List.length_map, Array.length_toList, hn] at this
  exact this
/-! as rules -/
def rSetI (K : PySem.W.Frag) (w : World) : List V → Hp → VK → Prop := fun vs H Q => ∃ (a : Addr) (ns : List Int), vs = [.ref a] ∧ SqL K H a (ns.map V.int) ∧ ns.length ≤ 1000 ∧
  ∀ p c, H p = none → c = (upI ns).length → Q (.ref p) (upd H p (SetO w p (fun j => decide (j ∈ ns)) c))
section
variable {X : Cx}
theorem cr_setI (hc : X.calm = true) : CallR X (.type "set") (rSetI X.K X.w) := by
  intro pins s σ H vs us Q I r h
  obtain ⟨a, ns, rfl, hs, h1, q⟩ := h
  rw [Vals.ref1 r]
  obtain ⟨its, rv, hl, hz⟩ := I.list hs
  refine setOfList ns (I.ok.hd hc) hl.isList (ints_of_vals rv) (by unfold scanBound; omega) fun g k m R hm hk => ?_
  exact ⟨.ref s.heap.objs.size, upd H s.heap.objs.size (SetO X.w s.heap.objs.size (fun j => decide (j ∈ ns)) m), I.laid (t' := k) hk (Nat.le_refl _) (setO_new R), rfl, q _ m (I.hok.fresh (Nat.le_refl _)) (setR_len R)⟩
end
def intsD : List D → Option (List Int)
  | [] => some []
  | .int i :: r => (intsD r).map (i :: ·)
  | _ => none
theorem intsD_map (ns : List Int) : intsD (ns.map PyData.int) = some ns := by
  induction ns with
  | nil => rfl
  | cons a r ih => simp [intsD, ih]
def fUp : D → Option (List D)
  | .list ds => (intsD ds).bind fun ns => if ns.length ≤ 1000 ∧ (upI ns).length < 64 then some ((upI ns).map PyData.int) else none
  | _ => none
@[simp] theorem x_up {ns : List Int} : fUp (.list (ns.map PyData.int)) = if ns.length ≤ 1000 ∧ (upI ns).length < 64 then some ((upI ns).map PyData.int) else none := by
  unfold fUp
  simp only [intsD_map, Option.bind_some]
def cUp (g : M D) : M (List D) := fun ρ n => (g ρ n).bind fun d n1 => Res.lift (fUp d) n1
@[simp] theorem e_cUp {g : M D} {ρ : G.Env} {n : Nat} : cUp g ρ n = (g ρ n).bind fun d n1 => Res.lift (fUp d) n1 := rfl
theorem rep_ints {K : PySem.W.Frag} {H : Hp} : ∀ {xs : List V} {ds : List D} {ns : List Int}, RepAll K H xs ds → intsD ds = some ns → xs = ns.map V.int
  | _, [], ns, r, e => by cases r; cases e; rfl
  | _, d :: ds, ns, r, e => by
    cases r with
    | cons r1 r2 =>
      cases r1 with
      | int i =>
        unfold intsD at e
        cases q : intsD ds with
        | none => rw [q] at e; cases e
        | some ms =>
          rw [q] at e
          cases e
          rw [rep_ints r2 q]
          rfl
      | _ => cases e
theorem ints_rep {K : PySem.W.Frag} {H : Hp} : ∀ ns : List Int, RepAll K H (ns.map V.int) (ns.map PyData.int)
  | [] => .nil
  | a :: r => .cons (.int a) (ints_rep r)
section
variable {X : Cx} {ca : String → Addr} {W : WX} {e : Expr} {g : M D} {p1 p2 q1 q2 : Pos}
theorem ef_up (hc : X.calm = true) (hg : Gl X "sorted") (hm : X.mg "sorted" = none) (hg2 : Gl X "set") (hm2 : X.mg "set" = none) (he : PE X e (tG X.K ca W g))
    (h1 : starEach [e] X.env = (false, eval e X.env) :: starEach [] X.env := by rfl) (h2 : (backTo q2 (starEach [] X.env)).any (·.1) = false := by rfl)
    (h3 : starEach [.Call (.Name "set" p2) [e] [] q2] X.env = (false, eval (.Call (.Name "set" p2) [e] [] q2) X.env) :: starEach [] X.env := by rfl) (h4 : (backTo q1 (starEach [] X.env)).any (·.1) = false := by rfl) :
    PE X (.Call (.Name "sorted" p1) [.Call (.Name "set" p2) [e] [] q2] [] q1) (tGF X.K ca W (cUp g)) :=
  PE.weak (pe_callB (cr_sortedSet hc) hg hm (by rfl) (pa_cons (pe_callTy (cr_setI hc) hg2 hm2 (by rfl) (pa_cons he pa_nil h1) (by decide) (by decide) h1 h2) pa_nil h3) (by decide) (by decide) h3 h4) fun σ H Q ⟨c, ρ, n, S, h⟩ => by
    refine ⟨c, ρ, n, S, (Res.post_bind h).mono (fun d n1 h1 v H1 g1 r1 => ?_) (fun e m h => h)⟩
    have S1 := S.ext g1
    obtain ⟨ds, e2, h2⟩ := Res.post_lift h1
    cases r1 with
    | @lst a xs es k1 k2 =>
      unfold fUp at e2
      simp only at e2
      cases z : intsD es with
      | none => rw [z] at e2; cases e2
      | some ns =>
        rw [z, Option.bind_some] at e2
        split at e2
        · rename_i hz
          cases e2
          have ex := rep_ints k2 z
          subst ex
          refine ⟨a, ns, rfl, .inl (.inl (hid_sub k1)), hz.1, fun p m hp hm => ⟨p, _, m, rfl, upd_same, by rw [hm]; exact hz.2, fun ns' l rise mem len hl => ?_⟩⟩
          have e3 : ns' = upI ns := rise_uniq rise (rise_upI ns) fun k => by rw [mem k, mem_upI, decide_eq_true_eq]
          subst e3
          have hlp : l ≠ p := fun q => by rw [q, upd_same] at hl; cases hl
          have hl1 : H1 l = none := by rw [upd_ne hlp] at hl; exact hl
          exact h2 l _ _ (g1.trans (S1.pure ((same_upd hp).trans (same_upd hl)))) (fresh_back g1 S.tB' S1.all hl1) upd_same (ints_rep _)
        · cases e2
    | _ => cases e2
end
end G

/-! dicts: dict(pairs), d.get(k, x) -/
namespace G
open PySem PySem.Spec PyProof.Rows L2
def rDicP (K : PySem.W.Frag) : List V → Hp → VK → Prop := fun xs H Q => ∃ (a : Addr) (ps : List Addr) (kvs : List (Key × V)), xs = [.ref a] ∧ PlT K H a (ps.map V.ref) ∧ Paired (fun p kv => SqT K H p [kV kv.1, kv.2]) ps kvs ∧
  ∀ p, H p = none → Q (.ref p) (upd H p (.dK (mergeK [] kvs)))
section
variable {X : Cx}
theorem plT_at {pins : List (Addr × Obj)} {σ : L2.St} {H : Hp} {s : Shared} {a : Addr} {xs : List V} (I : Inv X pins σ H s) (h : PlT X.K H a xs) :
    ∃ (o : Obj) (us : Array Value) (n : Nat), s.heap.get? a = some o ∧ o.cls = .type "tuple" ∧ o.dict = none ∧ o.data = .seq us n ∧ xs.length ≤ sizeLine ∧ Vals xs us.toList := by
  rcases h with ⟨o, h, z⟩ | ⟨o, us, n, h1, h2, h3, h4, h5, h6⟩
  · obtain ⟨g, hz, us, r, ⟨o', g', hc, n, hd⟩⟩ := I.hok a _ h
    rw [g] at g'
    cases g'
    exact ⟨o, us.toArray, n, g, hc, z, hd, hz, by simpa using r⟩
  · exact ⟨o, us, n, I.kIn a o h1, h2, h3, h4, by rw [h6.length]; simpa using h5, h6⟩
theorem pairsV {pins : List (Addr × Obj)} {σ : L2.St} {H : Hp} {s : Shared} (I : Inv X pins σ H s) : ∀ {ps : List Addr} {kvs : List (Key × V)}, Paired (fun p kv => SqT X.K H p [kV kv.1, kv.2]) ps kvs →
    ∃ (prs : List (Key × Value)) (uvs : List (Value × Value)), KV kvs prs ∧ prs.length = ps.length ∧ uvs.length = ps.length ∧ ∀ (j : Nat) (u v : Value), uvs[j]? = some (u, v) → ∃ (b : Addr) (k : Key), ps[j]? = some b ∧ IsTup s.heap b #[u, v] ∧ prs[j]? = some (k, v) ∧ (mixKind X.prog X.w).is k u = true
  | _, _, .nil => ⟨[], [], .nil, rfl, rfl, fun j u v e => by simp at e⟩
  | _, _, .cons (a := p) (b := kv) h t => by
    obtain ⟨prs, uvs, r, hl, hl2, hp⟩ := pairsV I t
    obtain ⟨its, rv, ht, _⟩ := I.tuple h
    obtain ⟨u, y, ei, ru, ry⟩ := vals2 rv
    subst ei
    refine ⟨(kv.1, y) :: prs, (u, y) :: uvs, .cons ⟨rfl, ry⟩ r, by rw [List.length_cons, List.length_cons, hl], by rw [List.length_cons, List.length_cons, hl2], fun j u' v' e => ?_⟩
    cases j with
    | zero =>
      have e' : (u, y) = (u', v') := Option.some.inj e
      cases e'
      exact ⟨p, kv.1, rfl, ht, rfl, kV_is ru⟩
    | succ j =>
      obtain ⟨b, k, e1, e2, e3, e4⟩ := hp j u' v' (by simpa using e)
      exact ⟨b, k, by simpa using e1, e2, by simpa using e3, e4⟩
theorem cr_dicP (hcalm : X.calm = true) : CallR X (.type "dict") (rDicP X.K) := by
  intro pins s σ H xs us Q I r q
  obtain ⟨a, ps, kvs, ex, hq, hp, q⟩ := q
  subst ex
  obtain ⟨u, eu, rx⟩ := vals1 r
  subst eu
  cases rx
  obtain ⟨o, its, n, ho, hc, hd, hdat, hz, rv⟩ := plT_at I hq
  have ei := refs_at rv
  rw [List.length_map] at hz
  obtain ⟨prs, uvs, rel, hl, hl2, hpr⟩ := pairsV I hp
  have hsz : its.size = uvs.length := by
    have := congrArg List.length ei
    rw [Array.length_toList, List.length_map] at this
    rw [this, hl2]
  refine _root_.PySem.call_dict_pairs (knd := mixKind X.prog X.w) (kvs := prs) (_root_.PySem.PairArg.tuple a its (fun j => ps.getD j 0) uvs) (I.ok.hd hcalm) ⟨⟨o, n, ho, hc, hd, hdat⟩, hsz, fun j u v e => ?_⟩ ⟨by rw [hl, hl2], fun i key v e => ?_⟩ (by rw [hl2]; exact hz) fun h' tk hd' k => ?_
  · obtain ⟨b, k, e1, e2, e3, e4⟩ := hpr j u v e
    refine ⟨?_, .inl ?_⟩
    · have : its.toList[j]? = some (.ref b) := by rw [ei, List.getElem?_map, e1]; rfl
      simpa [List.getD_eq_getElem?_getD, e1] using this
    · have eb : ps.getD j 0 = b := by simp [List.getD_eq_getElem?_getD, e1]
      show s.heap.IsTuple (ps.getD j 0) _
      rw [eb]
      exact e2
  · obtain ⟨b, k, e1, e2, e3, e4⟩ := hpr i key v e
    exact ⟨k, e3, e4⟩
  · have hm : (s.heap.objs.size == sysModules) = false := beq_eq_false_iff_ne.mpr (Nat.ne_of_gt I.big)
    have hlen : (mergeK [] kvs).length ≤ sizeLine := by
      refine Nat.le_trans (length_mergeK kvs []) ?_
      rw [List.length_nil, Nat.zero_add, rel.length, hl]
      exact hz
    exact ⟨.ref s.heap.objs.size, upd H s.heap.objs.size (.dK (mergeK [] kvs)), I.laid (t' := tk) (fun b o e => k b o (by simp) e) (Nat.le_refl _) (show ObjOk X.prog X.w _ _ _ (.dK (mergeK [] kvs)) from ⟨hlen, hm, merged [] prs, KV.merge rel .nil, hd'⟩), rfl, q _ (I.hok.fresh (Nat.le_refl _))⟩
end
/-! ### in plain words -/
def keyD : D → Option Key
  | .int i => some (.inl i)
  | .str x => some (.inr x)
  | _ => none
def lookD (kvs : List (Key × D)) (k : Key) : Option D := (kvs.find? fun kv => decide (kv.1 = k)).map (·.2)
def putD (kvs : List (Key × D)) (k : Key) (v : D) : List (Key × D) :=
  if (kvs.any fun kv => decide (kv.1 = k)) = true then kvs.map (fun kv => if kv.1 = k then (kv.1, v) else kv) else kvs ++ [(k, v)]
def pairsD : List D → Option (List (Key × D))
  | [] => some []
  | .tuple [k, v] :: r => (keyD k).bind fun k => (pairsD r).map ((k, v) :: ·)
  | _ => none
def mergeD (kvs more : List (Key × D)) : List (Key × D) := more.foldl (fun acc kv => putD acc kv.1 kv.2) kvs
def fDic : D → Option (List (Key × D))
  | .tuple ds => (pairsD ds).map (mergeD [])
  | _ => none
def cDic (g : M D) : M (List (Key × D)) := fun ρ n => (g ρ n).bind fun d n1 => Res.lift (fDic d) n1
section
variable {K : PySem.W.Frag} {H : Hp}
abbrev RepK (K : PySem.W.Frag) (H : Hp) : List (Key × V) → List (Key × D) → Prop := PySem.W.EachIs fun p q => p.1 = q.1 ∧ Rep K H p.2 q.2
theorem RepK.keys : ∀ {ws : List (Key × V)} {kvs : List (Key × D)}, RepK K H ws kvs → ws.map (·.1) = kvs.map (·.1)
  | _, _, .nil => rfl
  | _, _, .cons h t => by rw [List.map_cons, List.map_cons, h.1, RepK.keys t]
theorem RepK.vals : ∀ {ws : List (Key × V)} {kvs : List (Key × D)}, RepK K H ws kvs → RepAll K H (ws.map (·.2)) (kvs.map (·.2))
  | _, _, .nil => .nil
  | _, _, .cons h t => .cons h.2 (RepK.vals t)
theorem RepK.of : ∀ {ws : List (Key × V)} {kvs : List (Key × D)}, ws.map (·.1) = kvs.map (·.1) → RepAll K H (ws.map (·.2)) (kvs.map (·.2)) → RepK K H ws kvs
  | [], [], _, _ => .nil
  | [], _ :: _, e, _ => by cases e
  | _ :: _, [], e, _ => by cases e
  | p :: ws, q :: kvs, e, r => by
    rw [List.map_cons, List.map_cons] at e r
    cases r with
    | cons r1 r2 => exact .cons ⟨(List.cons.inj e).1, r1⟩ (RepK.of (List.cons.inj e).2 r2)
theorem RepK.any {k : Key} : ∀ {ws : List (Key × V)} {kvs : List (Key × D)}, RepK K H ws kvs → (ws.any fun kv => decide (kv.1 = k)) = (kvs.any fun kv => decide (kv.1 = k))
  | _, _, .nil => rfl
  | _, _, .cons h t => by rw [List.any_cons, List.any_cons, h.1, RepK.any t]
theorem RepK.look {k : Key} : ∀ {ws : List (Key × V)} {kvs : List (Key × D)}, RepK K H ws kvs → (valV ws k = none ∧ lookD kvs k = none) ∨ ∃ v d, valV ws k = some v ∧ lookD kvs k = some d ∧ Rep K H v d
  | _, _, .nil => .inl ⟨rfl, rfl⟩
  | _, _, .cons (a := p) (b := q) (as := ws) (bs := kvs) h t => by
    by_cases e : q.1 = k
    · have e1 : valV (p :: ws) k = some p.2 := valV_pos (h.1.trans e)
      have e2 : lookD (q :: kvs) k = some q.2 := by simp [lookD, List.find?_cons, e]
      exact .inr ⟨_, _, e1, e2, h.2⟩
    · have e1 : valV (p :: ws) k = valV ws k := valV_neg (by rw [h.1]; exact e)
      have e2 : lookD (q :: kvs) k = lookD kvs k := by simp [lookD, List.find?_cons, e]
      rw [e1, e2]
      exact RepK.look t
theorem RepK.repl {k : Key} {v : V} {d : D} (r : Rep K H v d) : ∀ {ws : List (Key × V)} {kvs : List (Key × D)}, RepK K H ws kvs →
    RepK K H (ws.map fun kv => if kv.1 = k then (kv.1, v) else kv) (kvs.map fun kv => if kv.1 = k then (kv.1, d) else kv)
  | _, _, .nil => .nil
  | _, _, .cons (a := p) (b := q) h t => by
    rw [List.map_cons, List.map_cons]
    refine .cons ?_ (RepK.repl r t)
    by_cases e : q.1 = k
    · rw [if_pos e, if_pos (h.1.trans e)]
      exact ⟨h.1, r⟩
    · rw [if_neg e, if_neg (by rw [h.1]; exact e)]
      exact h
theorem RepK.app : ∀ {ws ws' : List (Key × V)} {kvs kvs' : List (Key × D)}, RepK K H ws kvs → RepK K H ws' kvs' → RepK K H (ws ++ ws') (kvs ++ kvs')
  | _, _, _, _, .nil, h => h
  | _, _, _, _, .cons h t, h' => .cons h (RepK.app t h')
theorem RepK.put {k : Key} {v : V} {d : D} {ws : List (Key × V)} {kvs : List (Key × D)} (h : RepK K H ws kvs) (r : Rep K H v d) : RepK K H (putK ws k v) (putD kvs k d) := by
  unfold putK putD
  rw [RepK.any h]
  split
  · exact RepK.repl r h
  · exact RepK.app h (.cons ⟨rfl, r⟩ .nil)
theorem RepK.merge : ∀ {more : List (Key × V)} {more' : List (Key × D)} {ws : List (Key × V)} {kvs : List (Key × D)}, RepK K H more more' → RepK K H ws kvs → RepK K H (mergeK ws more) (mergeD kvs more')
  | _, _, _, _, .nil, h => h
  | _, _, _, _, .cons (a := p) (b := q) h t, h' => by
    show RepK K H (mergeK (putK _ p.1 p.2) _) (mergeD (putD _ q.1 q.2) _)
    rw [h.1]
    exact RepK.merge t (h'.put h.2)
theorem pairs_rep : ∀ {xs : List V} {ds : List D} {kvs : List (Key × D)}, RepAll K H xs ds → pairsD ds = some kvs → ∃ (ps : List Addr) (ws : List (Key × V)), xs = ps.map V.ref ∧ Paired (fun p kv => SqT K H p [kV kv.1, kv.2]) ps ws ∧ RepK K H ws kvs
  | _, [], kvs, r, e => by cases r; cases e; exact ⟨[], [], rfl, .nil, .nil⟩
  | _, d :: ds, kvs, r, e => by
    cases r with
    | cons r1 r2 =>
      unfold pairsD at e
      split at e
      · rename_i heq
        cases heq
      · rename_i k v r' heq
        cases heq
        cases hk : keyD k with
        | none => rw [hk] at e; cases e
        | some kk =>
          rw [hk, Option.bind_some] at e
          cases hr : pairsD ds with
          | none => rw [hr] at e; cases e
          | some more =>
            rw [hr] at e
            cases e
            obtain ⟨ps, ws, e1, e2, e3⟩ := pairs_rep r2 hr
            cases r1 with
            | @tup p ys _ h1 h2 =>
              cases h2 with
              | @cons kv _ _ _ k1 k2 =>
                cases k2 with
                | @cons vv _ _ _ v1 v2 =>
                  cases v2
                  have ek : kv = kV kk := by
                    cases k1 with
                    | int i => cases hk; rfl
                    | str x => cases hk; rfl
                    | _ => cases hk
                  subst ek
                  exact ⟨p :: ps, (kk, vv) :: ws, by rw [e1]; rfl, .cons h1.sq e2, .cons ⟨rfl, v1⟩ e3⟩
      · cases e
end
/-! ### as rules -/
section
variable {K : PySem.W.Frag} {ca : String → Addr} {W : WX}
/-- a new dict -/
def tGD (K : PySem.W.Frag) (ca : String → Addr) (W : WX) (g : M (List (Key × D))) : TE := fun σ H Q => ∃ c ρ n, SR K c σ H ρ n ∧
  (g ρ n).Post (fun kvs n' => ∀ a ws H', Gx c.t H n' H' → H a = none → H' a = some (.dK ws) → RepK K (hid (a :: c.B) H') ws kvs → Q (.ref a) H') (exK ca W c σ H)
def sDic (i : Nat) (g : M (List (Key × D))) : MS := fun ρ n => ofR (g ρ n) ρ fun kvs n1 => if i < ρ.length then .nx (ρ.set i (some (.dic kvs))) n1 else .bad
def cDGet (i : Nat) (ge gf : M D) : M D := fun ρ n => match ρ[i]? with
  | some (some (.dic kvs)) => (ge ρ n).bind fun k n1 => (gf ρ n1).bind fun d n2 => Res.lift ((keyD k).map fun k => (lookD kvs k).getD d) n2
  | _ => .bad
def cDAt (i : Nat) (ge : M D) : M D := fun ρ n => match ρ[i]? with
  | some (some (.dic kvs)) => (ge ρ n).bind fun k n1 => Res.lift ((keyD k).bind fun k => lookD kvs k) n1
  | _ => .bad
def cDIn (i : Nat) (ge : M D) : M D := fun ρ n => match ρ[i]? with
  | some (some (.dic kvs)) => (ge ρ n).bind fun k n1 => Res.lift ((keyD k).map fun k => .bool (lookD kvs k).isSome) n1
  | _ => .bad
theorem dic_post {i : Nat} {c : Fm} {σ : L2.St} {H H1 : Hp} {ρ : G.Env} {n n1 : Nat} {kvs : List (Key × D)} {E : Ends} {a : Addr} {ws : List (Key × V)} (S : SR K c σ H ρ n)
    (h1 : OPost K ca W c H (if i < ρ.length then .nx (ρ.set i (some (.dic kvs))) n1 else .bad) E) (g1 : Gx c.t H n1 H1) (hn : H a = none) (hv : H1 a = some (.dK ws)) (r1 : RepK K (hid (a :: c.B) H1) ws kvs) : E.nx (σ.set i (some (.ref a))) H1 := by
  split at h1
  · rename_i hlt
    obtain ⟨S1, se⟩ := S.adopt g1 hn (by rw [hv]; simp)
    have h0 : c.H0 a = none := by
      cases q : c.H0 a with
      | none => rfl
      | some o =>
        have z : a ≠ c.t := fun z => by rw [z, S.town] at hn; cases hn
        rw [S.keep a o q z] at hn
        cases hn
    exact h1 _ H1 (a :: c.B) (S1.set_ix hlt ⟨a, ws, rfl, List.mem_cons_self, h0, hv, r1.keys, r1.vals⟩ fun _ j l' b hj ej oj sj z => by
      cases z
      obtain ⟨v, q1, q2⟩ := S.slot j l' ej
      rw [sj] at q1
      cases q1
      cases l' with
      | own xs => obtain ⟨b, _, z, _, _, z4, _⟩ := q2; cases z; rw [hn] at z4; cases z4
      | dic xs => obtain ⟨b, _, z, _, _, z4, _⟩ := q2; cases z; rw [hn] at z4; cases z4
      | dit xs => obtain ⟨b, _, z, _, _, z4, _⟩ := q2; cases z; rw [hn] at z4; cases z4
      | ob o => exact (RO.nn (show RO K c H (.ref a) o from q2) hn).elim
      | _ => cases oj) se
  · exact h1.elim
end
section
variable {X : Cx} {ca : String → Addr} {W : WX} {e f : Expr} {ge gf g : M D} {gd : M (List (Key × D))} {pos p1 p2 cpos apos : Pos} {i : Nat} {x : Str}
theorem es_dic {pos' : Pos} (hN : X.N.Nodup) (hi : X.N[i]? = some x) (hx : Loc X.env.scope x) (he : PE X e (tGD X.K ca W gd)) (hs : swapsWith e (some (.Name x pos')) pos.line X.env = pure false := by rfl) (hf : X.fn x = true ∨ X.env.scope.names.lookup x = some .local := by first | exact .inl rfl | exact .inr rfl | assumption) :
    PS X (.Assign [.Name x pos'] e pos) (tS X.K ca W (sDic i gd)) :=
  PS.weak (ps_set hN hi hx he hs hf) fun E σ H ⟨c, ρ, n, S, h⟩ => ⟨c, ρ, n, S, (post_ofR S h).mono (fun ds n1 h1 a vs H1 g1 hn hv r1 => dic_post S h1 g1 hn hv r1) (fun e m h => h)⟩
/-- dict(x), x a tuple of pairs -/
theorem ed_dict (hc : X.calm = true) (hg : Gl X "dict") (hm : X.mg "dict" = none) (he : PE X e (tG X.K ca W g)) (h1 : starEach [e] X.env = (false, eval e X.env) :: starEach [] X.env := by rfl) (h2 : (backTo pos (starEach [] X.env)).any (·.1) = false := by rfl) :
    PE X (.Call (.Name "dict" p1) [e] [] pos) (tGD X.K ca W (cDic g)) :=
  PE.weak (pe_callTy (cr_dicP hc) hg hm (by rfl) (pa_cons he pa_nil h1) (by decide) (by decide) h1 h2) fun σ H Q ⟨c, ρ, n, S, h⟩ => by
    refine ⟨c, ρ, n, S, (Res.post_bind h).mono (fun d n1 h1 v H1 g1 r1 => ?_) (fun e m h => h)⟩
    have S1 := S.ext g1
    obtain ⟨kvs, e2, h2⟩ := Res.post_lift h1
    cases r1 with
    | @tup a xs es k1 k2 =>
      unfold fDic at e2
      simp only at e2
      cases z : pairsD es with
      | none => rw [z] at e2; cases e2
      | some more =>
        rw [z] at e2
        cases e2
        obtain ⟨ps, ws, ex, pp, rk⟩ := pairs_rep k2 z
        subst ex
        have pp' : Paired (fun p kv => SqT X.K H1 p [kV kv.1, kv.2]) ps ws := by
          have : ∀ {ps : List Addr} {ws : List (Key × V)}, Paired (fun p kv => SqT X.K (hid c.B H1) p [kV kv.1, kv.2]) ps ws → Paired (fun p kv => SqT X.K H1 p [kV kv.1, kv.2]) ps ws := by
            intro ps ws h
            induction h with
            | nil => exact .nil
            | cons h t ih => exact .cons (sqT_mono (fun _ _ => hid_sub) h) ih
          exact this pp
        refine ⟨a, ps, ws, rfl, plT_mono (fun _ _ => hid_sub) k1, pp', fun p hp => ?_⟩
        refine h2 p _ _ (g1.trans (S1.pure (same_upd hp))) (fresh_back g1 S.tB' S1.all hp) upd_same ?_
        exact RepK.merge (PySem.W.EachIs.mono (fun p q h => ⟨h.1, Rep.mono (hid_fresh hp) _ _ h.2⟩) rk) .nil
    | _ => cases e2
theorem key_rep {K : PySem.W.Frag} {H : Hp} {v : V} {d : D} {k : Key} (r : Rep K H v d) (e : keyD d = some k) : v = kV k := by
  cases r with
  | int i => cases e; rfl
  | str x => cases e; rfl
  | _ => cases e
/-- d.get(k, x) -/
theorem ev_dget2 (hu : X.A.units + 64 < cLine) (he : PE X e (tG X.K ca W ge)) (hf : PE X f (tG X.K ca W gf)) (hN : X.N[i]? = some x := by rfl) (hv : Vis X.env.scope x := by first | exact Or.inl rfl | exact Or.inr (Or.inl rfl) | exact Or.inr (Or.inr rfl)) (hd : (x == ("__debug__" : Str)) = false := by decide)
    (hcd : (x == ("__classdict__" : Str)) = false := by decide) (m : M2 X (.Name x p1) "get" apos e f cpos := by exact ⟨rfl, rfl, rfl, rfl⟩) :
    PE X (.Call (.Attribute (.Name x p1) "get" apos) [e, f] [] cpos) (tG X.K ca W (cDGet i ge gf)) :=
  PE.weak (pe_dget2 (by omega) (pe_var hN hv hd hcd) he hf m) fun σ H Q ⟨c, ρ, n, S, h⟩ => by
    unfold cDGet at h
    split at h
    · rename_i kvs q
      obtain ⟨v, hσ, a, ws, rfl, ha, h0, hH, hk, hr⟩ := S.slot i _ q
      have rk := RepK.of hk hr
      refine ⟨_, hσ, a, rfl, .inl ⟨ws, .inl hH⟩, c, ρ, n, S, (Res.post_bind h).mono (fun d n1 h1 y H1 g1 r1 => ?_) (fun e m h => h)⟩
      have S1 := S.ext g1
      refine ⟨c, ρ, n1, S1, (Res.post_bind h1).mono (fun z n2 h2 w H2 g2 r2 => ?_) (fun e m h => exK.at h g1)⟩
      obtain ⟨d', e', h3⟩ := Res.post_lift h2
      have g12 := g1.trans g2
      cases ek : keyD d with
      | none => rw [ek] at e'; cases e'
      | some k =>
        rw [ek] at e'
        cases e'
        have ey := key_rep r1 ek
        subst ey
        have hH2 : H2 a = some (.dK ws) := g12.ext a _ hH fun z => S.old _ S.tB (z ▸ h0)
        refine ⟨valV ws k, DGet.k hH2, ?_⟩
        refine h3 _ H2 g12 ?_
        show Rep X.K (hid c.B H2) ((valV ws k).getD w) ((lookD kvs k).getD z)
        rcases RepK.look (k := k) rk with ⟨z1, z2⟩ | ⟨v1, d1, z1, z2, z3⟩
        · rw [z1, z2]; exact r2
        · rw [z1, z2]; exact Rep.mono (g12.sees S.tB') _ _ z3
    · exact h.elim
end
section
variable {ρ : G.Env} {n i : Nat} {ge gf g : M D} {gd : M (List (Key × D))}
@[simp] theorem e_sDic : sDic i gd ρ n = ofR (gd ρ n) ρ fun kvs n1 => if i < ρ.length then .nx (ρ.set i (some (.dic kvs))) n1 else .bad := rfl
@[simp] theorem e_cDGet : cDGet i ge gf ρ n = match ρ[i]? with
  | some (some (.dic kvs)) => (ge ρ n).bind fun k n1 => (gf ρ n1).bind fun d n2 => Res.lift ((keyD k).map fun k => (lookD kvs k).getD d) n2
  | _ => .bad := rfl
@[simp] theorem e_cDic : cDic g ρ n = (g ρ n).bind fun d n1 => Res.lift (fDic d) n1 := rfl
@[simp] theorem key_T {l : List Nat} : keyD (T l) = some (.inr ⟨l.toArray⟩) := rfl
@[simp] theorem key_int {k : Int} : keyD (.int k) = some (.inl k) := rfl
end
end G

/-! enumerate over a list or a tuple -/
namespace G
open PySem PySem.Spec PyProof.Rows L2
/-- the two kinds of a row -/
structure Kind where
  T : String
  I : String
def sqAt (tup : Bool) (h : Heap) (a : Addr) (us : Array Value) : Prop := if tup = true then h.IsTuple a us else h.IsList a us
def itAt (tup : Bool) (h : Heap) (it a : Addr) (i : Nat) : Prop := if tup = true then h.IsTupleIter it a i else h.IsListIter it a i
def itO (tup : Bool) (a : Addr) : Obj := if tup = true then { cls := .type "tuple_iterator", data := .fields #[.ref a, .int 0 0] } else { cls := .type "list_iterator", data := .fields #[.ref a, .int 0 0] }
theorem begins (tup : Bool) (a : Addr) (us : Array Value) : Begins (.ref a) (itO tup a) fun h => sqAt tup h a us := by
  cases tup with
  | true => exact begins_tuple a us
  | false => exact begins_list a us
theorem draws {prog : Program} {w : World} {A : Around} (tup : Bool) (hh : A.handled = none) (it a : Addr) (hne : a ≠ it) (us : Array Value) :
    Draws prog w A it [it, a] us.size (fun i v => us[i]? = some v) (fun i h => itAt tup h it a i ∧ sqAt tup h a us) := by
  cases tup with
  | true => exact Draws.tuple hh it a hne us
  | false => exact Draws.list hh it a hne us
theorem drawsEnd {prog : Program} {w : World} {A : Around} (tup : Bool) (hh : A.handled = none) (it a : Addr) (hne : a ≠ it) (us : Array Value) (i : Nat) (hi : us.size ≤ i) :
    Draws prog w A it [it, a] i (fun _ _ => True) (fun j h => j = i ∧ itAt tup h it a i ∧ sqAt tup h a us) := by
  cases tup with
  | true => exact {
      live := fun _ _ st => let ⟨o, ho, _⟩ := st.2.1; ⟨o, ho⟩
      frame := fun _ _ _ st hk => ⟨st.1, Heap.IsTupleIter.at st.2.1 fun o e => hk it (by simp) o e, Heap.IsTuple.at st.2.2 fun o e => hk a (by simp) o e⟩
      item := fun j s Q E hj st hQ => absurd st.1 (Nat.ne_of_lt hj)
      done := fun s Q E st hE => wpAny_nextOf_tuple_end hh st.2.1 st.2.2 (by simp; omega) hE }
  | false => exact {
      live := fun _ _ st => let ⟨o, ho, _⟩ := st.2.1; ⟨o, ho⟩
      frame := fun _ _ _ st hk => ⟨st.1, Heap.IsListIter.at st.2.1 fun o e => hk it (by simp) o e, Heap.IsList.at st.2.2 fun o e => hk a (by simp) o e⟩
      item := fun j s Q E hj st hQ => absurd st.1 (Nat.ne_of_lt hj)
      done := fun s Q E st hE => wpAny_nextOf_list_end hh st.2.1 st.2.2 (by simp; omega) hE }
theorem itAt_new {tup : Bool} {h : Heap} {it a : Addr} (e : h.get? it = some (itO tup a)) : itAt tup h it a 0 := by
  cases tup with
  | true => exact ⟨_, e, rfl, rfl⟩
  | false => exact ⟨_, e, rfl, rfl⟩
theorem itAt_at {tup : Bool} {h h' : Heap} {it a : Addr} {i : Nat} (x : itAt tup h it a i) (e : ∀ o, h.get? it = some o → h'.get? it = some o) : itAt tup h' it a i := by
  cases tup with
  | true => exact Heap.IsTupleIter.at x e
  | false => exact Heap.IsListIter.at x e
theorem itAt_ob {tup : Bool} {h : Heap} {it a : Addr} {i : Nat} (x : itAt tup h it a i) : ∃ o, h.get? it = some o ∧ ∀ v, o.data ≠ .cell v := by
  cases tup with
  | true => obtain ⟨o, ho, hc, hd⟩ := x; exact ⟨o, ho, fun v q => by rw [hd] at q; cases q⟩
  | false => obtain ⟨o, ho, hc, hd⟩ := x; exact ⟨o, ho, fun v q => by rw [hd] at q; cases q⟩
section
variable {prog : Program} {w : World} {A : Around} {E : Value → Shared → Prop} {s : Shared}
theorem meets_enum1 {v : Value} {o : Obj} {Hp0 : Heap → Prop} (B : Begins v o Hp0) :
    Meets (Builtin.«enumerate.__new__» ⟨[.type "enumerate", v], []⟩) (fun _ R s => Hp0 s.heap ∧
      R (.ok (.ret (.ref (s.heap.push o).objs.size))) { s with heap := (s.heap.push o).push { cls := .type "enumerate", data := .fields #[.none, .bool false, .ref s.heap.objs.size, rawInt 0, .none, .none] } }) :=
  .of_wp fun prog w A R s h => by
    obtain ⟨hp, g, d, tk, os⟩ := s
    obtain ⟨h1, h⟩ := h
    have hsub := sub_enumerate
    have q1 : ∀ {A' : Around} {E : Value → Shared → Prop} {Q : Value → Shared → Prop}, Q (.ref hp.objs.size) ⟨hp.push o, g, d, tk, os⟩ → wpAny (model prog w) A' (pyIter v) Q E ⟨hp, g, d, tk, os⟩ :=
      fun q => B.iter prog w _ _ ⟨hp, g, d, tk, os⟩ _ h1 q
    wp_walk using q1
    refine wpAny_stack_any fun st => wpAny_pure ?_
    split
    · rename_i c _ _ _ _ _
      cases (c == Value.type "enumerate")
      · wp_walk using q1
        exact ⟨_, rfl, h⟩
      · wp_walk using q1
        exact ⟨_, rfl, h⟩
    · wp_walk using q1
      exact ⟨_, rfl, h⟩
theorem call_enum1 {v : Value} {o : Obj} {Hp0 : Heap → Prop} {Q : Value → Shared → Prop} (B : Begins v o Hp0) (h1 : Hp0 s.heap)
    (q : ∀ h', IsEnum h' (s.heap.objs.size + 1) s.heap.objs.size 0 .none → h'.get? s.heap.objs.size = some o → (∀ b u, s.heap.get? b = some u → h'.get? b = some u) → Q (.ref (s.heap.objs.size + 1)) { s with heap := h' }) :
    wpAny (model prog w) A (call (.type "enumerate") [v]) Q E s := by
  refine callType_new F.called_enumerate (by decide) (F.typeCall_enumerate_1 _) (F.newCall_enumerate_1 _) (fun obj => F.args_object_init_2 obj _) F.entry_enumerate_new (meets_enum1 B) ⟨h1, ?_⟩
  have hz : (s.heap.push o).objs.size = s.heap.objs.size + 1 := Heap.size_push ..
  show _ ∧ _
  rw [hz]
  have he : IsEnum ((s.heap.push o).push { cls := .type "enumerate", data := .fields #[.none, .bool false, .ref s.heap.objs.size, rawInt 0, .none, .none] }) (s.heap.objs.size + 1) s.heap.objs.size 0 .none := by
    have := Heap.get?_push_size (s.heap.push o) (o := { cls := .type "enumerate", data := .fields #[.none, .bool false, .ref s.heap.objs.size, rawInt 0, .none, .none] }) rfl
    rw [hz] at this
    exact this
  exact ⟨⟨_, he, rfl⟩, q _ he (Heap.get?_push_of_some _ (Heap.get?_push_size _ B.free)) fun b u x => Heap.get?_push_of_some _ (Heap.get?_push_of_some _ x)⟩
end
def SqB (K : PySem.W.Frag) (tup : Bool) (H : Hp) (a : Addr) (xs : List V) : Prop := if tup = true then SqT K H a xs else SqL K H a xs
/-- the row at a as it stands at each turn, each item in a new pair -/
def ItE (K : PySem.W.Frag) (tup : Bool) (a : Addr) : It :=
  ⟨fun i H => ∃ (xs : List V) (x : V), SqB K tup H a xs ∧ xs[i]? = some x, fun i H v H' => ∃ (T : Addr) (x : V) (o : Obj), v = .ref T ∧ o.dict = none ∧ H T = none ∧ H' = upd H T (.frz o (.tup [.int (i : Nat), x])) ∧ ∀ xs, SqB K tup H a xs → xs[i]? = some x, fun i H => ∃ xs : List V, SqB K tup H a xs ∧ xs.length ≤ i⟩
section
variable {X : Cx} {pins : List (Addr × Obj)} {σ : L2.St} {H : Hp} {s : Shared}
theorem sqB_at {tup : Bool} {a : Addr} {xs : List V} (I : Inv X pins σ H s) (h : SqB X.K tup H a xs) : ∃ its : List Value, Vals xs its ∧ sqAt tup s.heap a its.toArray ∧ xs.length ≤ sizeLine := by
  cases tup with
  | true =>
    obtain ⟨its, rv, p, hz⟩ := I.tuple (show SqT X.K H a xs from h)
    exact ⟨its, rv, p, hz⟩
  | false =>
    obtain ⟨its, rv, p, hz⟩ := I.list (show SqL X.K H a xs from h)
    exact ⟨its, rv, p.isList, hz⟩
theorem sqB_inj {tup : Bool} {a : Addr} {xs ys : List V} (I : Inv X pins σ H s) (h : SqB X.K tup H a xs) (h' : SqB X.K tup H a ys) : xs = ys := by
  cases tup with
  | true => exact I.tuple_inj (show SqT X.K H a xs from h) h'
  | false => exact I.list_inj (show SqL X.K H a xs from h) h'
end
theorem sqAt_ne {tup : Bool} {h : Heap} {it a : Addr} {i : Nat} {us : Array Value} (x : sqAt tup h a us) (y : itAt tup h it a i) : a ≠ it := by
  rintro rfl
  cases tup with
  | true =>
    obtain ⟨o, ho, hc, _⟩ := x
    obtain ⟨o', ho', hc', _⟩ := y
    rw [ho] at ho'
    cases ho'
    rw [hc] at hc'
    exact absurd hc' (by decide)
  | false =>
    obtain ⟨o, ho, hc, _⟩ := x
    obtain ⟨o', ho', hc', _⟩ := y
    rw [ho] at ho'
    cases ho'
    rw [hc] at hc'
    exact absurd hc' (by decide)
theorem sqAt_neE {tup : Bool} {h : Heap} {e it a : Addr} {i : Int} {old : Value} {us : Array Value} (x : sqAt tup h a us) (y : IsEnum h e it i old) : e ≠ a := by
  rintro rfl
  cases tup with
  | true =>
    obtain ⟨o, ho, hc, _⟩ := x
    rw [show h.get? e = _ from y] at ho
    cases ho
    injection hc with z
    exact absurd z (by decide)
  | false =>
    obtain ⟨o, ho, hc, _⟩ := x
    rw [show h.get? e = _ from y] at ho
    cases ho
    injection hc with z
    exact absurd z (by decide)
theorem turn_en {P : Program} {w : World} {K : PySem.W.Frag} {elts : List Expr} {kk : Nat} {tpos : Pos} (tup : Bool) (a e it : Addr) :
    Turn P w K (.Tuple elts kk tpos) (ItE K tup a) [e, it] e (fun i h => (∃ old, IsEnum h e it ((i : Nat) : Int) old) ∧ itAt tup h it a i ∧ e ≠ it) where
  mem := by simp
  obj := fun i h st b hb => by
    obtain ⟨⟨old, he⟩, hi, _⟩ := st
    have e' : b = e ∨ b = it := by simpa using hb
    rcases e' with z | z
    · rw [z]; exact ⟨_, he, fun v q => nomatch q⟩
    · rw [z]; exact itAt_ob hi
  keep := fun i h h' st k => let ⟨⟨old, he⟩, hi, hne⟩ := st; ⟨⟨old, k e (by simp) _ he⟩, itAt_at hi fun o q => k it (by simp) o q, hne⟩
  item := by
    intro X hP hw hK hc i pins s σ H E I hf st hg
    subst hP hw hK
    obtain ⟨⟨old, he⟩, hit, hne⟩ := st
    obtain ⟨xs, x, hq, hx⟩ := hg
    obtain ⟨its, rv, p, hz⟩ := sqB_at I hq
    obtain ⟨u, hu, ru⟩ := rv.get hx
    have hel : e < s.heap.objs.size := Heap.lt_size he
    have hil : it < s.heap.objs.size := by obtain ⟨_, q, _⟩ := itAt_ob hit; exact Heap.lt_size q
    have hi : i < its.toArray.size := by
      have := (List.getElem?_eq_some_iff.mp hu).1
      simpa using this
    refine wpAny_pyNext_enum_itemD (draws tup (by simp [I.ok.hd hc]) it a (sqAt_ne p hit) its.toArray) he ⟨hit, p⟩ hi hne (by simp [hne, sqAt_neE p he]) fun y h' tk hy ho hst hT hsz hk => ?_
    have ey : y = u := by
      have : its.toArray[i]? = some u := by simpa using hu
      rw [this] at hy
      exact (Option.some.inj hy).symm
    subst ey
    refine ⟨_, rfl, wpAny_letOwnedTupleGo_enum (s := { s with heap := h', toks := tk + 1 }) ho fun h'' he' sb => ?_⟩
    have hT2 : h''.get? s.heap.objs.size = some { cls := .type "tuple", data := .seq #[.int i tk, y] } := (sb.2 _ (Nat.ne_of_gt hel)).trans hT
    have new : ObjOk X.prog X.w (upd H s.heap.objs.size (.frz (plainO #[.int i tk, y]) (.tup [.int (i : Nat), x]))) h'' s.heap.objs.size (.frz (plainO #[.int i tk, y]) (.tup [.int (i : Nat), x])) :=
      ⟨hT2, by show 2 ≤ sizeLine; decide, [.int i tk, y], .cons ⟨_, rfl⟩ (.cons ru .nil), ⟨_, hT2, rfl, _, rfl⟩⟩
    have I1 : Inv X pins σ (upd H s.heap.objs.size (.frz (plainO #[.int i tk, y]) (.tup [.int (i : Nat), x]))) { s with heap := h'', toks := tk + 1 } :=
      I.turnedNew (ch := [e, it]) (fun b ob hb q => (sb.2 b (fun z => hb (by simp [z]))).trans (hk b ob (fun z => hb (by simp [z])) (fun z => hb (by simp [z])) q)) hf (Nat.le_refl _) new
    refine ⟨.ref s.heap.objs.size, _, I1, rfl, ⟨_, x, _, rfl, rfl, I.hok.fresh (Nat.le_refl _), rfl, fun ys hy => by rw [sqB_inj I hy hq]; exact hx⟩, ⟨⟨y, ?_⟩, itAt_at hst.1 fun o q => (sb.2 it (Ne.symm hne)).trans q, hne⟩, fun b hb => ?_⟩
    · have e1 : ((i + 1 : Nat) : Int) = (i : Int) + 1 := by omega
      rw [e1]
      exact he'
    · have hb' : b < s.heap.objs.size := by
        have e' : b = e ∨ b = it := by simpa using hb
        rcases e' with z | z
        · rw [z]; exact hel
        · rw [z]; exact hil
      rw [upd_ne (Nat.ne_of_lt hb')]
      exact (hf b hb).1
  done := by
    intro X hP hw hK hc i pins s σ H E I hf st hg
    subst hP hw hK
    obtain ⟨⟨old, he⟩, hit, hne⟩ := st
    obtain ⟨xs, hq, hx⟩ := hg
    obtain ⟨its, rv, p, hz⟩ := sqB_at I hq
    obtain ⟨f0, f1, f2, f3, f4, f5⟩ := hf it (by simp)
    have hl := rv.length
    exact wpAny_pyNext_enum_endD (drawsEnd tup (by simp [I.ok.hd hc]) it a (sqAt_ne p hit) its.toArray i (by simp; omega)) he ⟨rfl, hit, p⟩ fun h' eb => ⟨rfl, I.turned (t' := s.toks) (fun b o hb q => eb b o hb q) f0 f1 f3 f4 f5⟩
  self := fun A i s Q E st h => let ⟨⟨_, he⟩, _⟩ := st; wpAny_pyIter_enum he h
def iEn (K : PySem.W.Frag) (ta : TA) : TI := fun σ H R => ta σ H fun vs H1 => ∃ (tup : Bool) (a : Addr) (xs : List V), vs = [.ref a] ∧ SqB K tup H1 a xs ∧ R (ItE K tup a) H1
section
variable {X : Cx} {ca : String → Addr} {W : WX}
theorem pi_en {e : Expr} {ta : TA} {p pos tpos : Pos} {elts : List Expr} {kk : Nat} (hg : Gl X "enumerate") (hm : X.mg "enumerate" = none) (ha : PA X [e] ta) (hs : starEach [e] X.env = [(false, eval e X.env)] := by rfl) :
    PI X (.Tuple elts kk tpos) (.Call (.Name "enumerate" p) [e] [] pos) (iEn X.K ta) := by
  refine ⟨fun pins s σ H R I h => ?_⟩
  refine Call_ (ld_blt I hg hm boot_enumerate (PyProof.Rows.callWith_type1 (thn (ha.run pos pins s σ H _ I h) fun us s1 ⟨vs, H1, I1, r1, q1⟩ => ?_) hs rfl))
  obtain ⟨tup, a, xs, ex, hq, q⟩ := q1
  subst ex
  cases r1 with
  | cons r rr =>
    cases rr
    cases r
    obtain ⟨its, rv, p', hz⟩ := sqB_at I1 hq
    refine call_enum1 (begins tup a its.toArray) p' fun h' he hit hk => wpAny_pyIter_enum he ?_
    have I2 : Inv X pins σ H1 { s1 with heap := h' } := I1.kept (t' := s1.toks) hk
    refine ⟨s1.heap.objs.size + 1, [s1.heap.objs.size + 1, s1.heap.objs.size], _, _, H1, rfl, I2, turn_en tup a (s1.heap.objs.size + 1) s1.heap.objs.size, ⟨⟨.none, he⟩, itAt_new hit, Nat.succ_ne_self _⟩, fun b hb => ?_, q⟩
    have e' : b = s1.heap.objs.size + 1 ∨ b = s1.heap.objs.size := by simpa using hb
    have hle : s1.heap.objs.size ≤ b := by
      rcases e' with z | z
      · rw [z]; exact Nat.le_add_right _ _
      · rw [z]; exact Nat.le_refl _
    exact I1.fpOk hle (I1.hok.fresh hle)
def enumFrom0 : Nat → List D → List D
  | _, [] => []
  | i, d :: ds => .tuple [.int (i : Nat), d] :: enumFrom0 (i + 1) ds
theorem enum_get : ∀ (ds : List D) (k i : Nat), (enumFrom0 k ds)[i]? = (ds[i]?).map fun d => .tuple [.int ((k + i : Nat) : Int), d]
  | [], k, i => by simp [enumFrom0]
  | d :: ds, k, 0 => by simp [enumFrom0]
  | d :: ds, k, i + 1 => by
    have ih := enum_get ds (k + 1) i
    rw [show k + 1 + i = k + (i + 1) by omega] at ih
    simpa [enumFrom0] using ih
theorem enum_len : ∀ (ds : List D) (k : Nat), (enumFrom0 k ds).length = ds.length
  | [], _ => rfl
  | d :: ds, k => by simp [enumFrom0, enum_len ds]
def fEnum : List D → Option (List D)
  | [.list ds] => some (enumFrom0 0 ds)
  | [.tuple ds] => some (enumFrom0 0 ds)
  | _ => none
def gEnumerate (g : M (List L)) : M (List D) := gRng fEnum g
theorem it_en {K : PySem.W.Frag} {B : List Addr} {H : Hp} {tup : Bool} {a : Addr} {xs : List V} {ds : List D} (h : SqB K tup (hid B H) a xs) (r : RepAll K (hid B H) xs ds) : ItOk K B H (ItE K tup a) (enumFrom0 0 ds) := fun i B' H' se all => by
  have sq : SqB K tup H' a xs := by
    cases tup with
    | true => exact sqT_mono (fun b o q => hid_sub (se b o q)) (show SqT K (hid B H) a xs from h)
    | false => exact sqL_mono (fun b o q => hid_sub (se b o q)) (show SqL K (hid B H) a xs from h)
  have r' := Rep.monoAll se _ _ r
  rw [enum_len]
  refine ⟨fun hi => ⟨xs, xs[i]'(by rw [r.length]; exact hi), sq, List.getElem?_eq_getElem _⟩, fun hi => ⟨xs, sq, by rw [r.length]; exact hi⟩, fun d x H2 hd y => ?_⟩
  obtain ⟨T, x', o, rfl, ho, hT, rfl, y⟩ := y
  rw [enum_get, Nat.zero_add] at hd
  cases hdi : ds[i]? with
  | none => rw [hdi] at hd; cases hd
  | some d0 =>
    rw [hdi] at hd
    cases hd
    obtain ⟨v, hv, rv⟩ := r'.get hdi
    have e := (y xs sq).symm.trans hv
    cases e
    exact ⟨same_upd hT, new_tup ho all hT (.cons (.int _) (.cons rv .nil))⟩
theorem ig_enumerate {e : Expr} {ga : M (List L)} {p pos tpos : Pos} {elts : List Expr} {kk : Nat} (hg : Gl X "enumerate") (hm : X.mg "enumerate" = none) (ha : PA X [e] (tGA X.K ca W ga)) (hs : starEach [e] X.env = [(false, eval e X.env)] := by rfl) :
    PI X (.Tuple elts kk tpos) (.Call (.Name "enumerate" p) [e] [] pos) (iG X.K ca W (gEnumerate ga)) :=
  ⟨fun pins s σ H R I ⟨c, ρ, n, S, h⟩ => by
    refine (pi_en hg hm ha hs).run pins s σ H R I ⟨c, ρ, n, S, (Res.post_bind h).mono (fun ls n1 h1 vs H1 g1 r1 => ?_) (fun e m h => h)⟩
    obtain ⟨ds, e, h2⟩ := Res.post_lift (Res.post_bind h1)
    obtain ⟨is, e2, h3⟩ := Res.post_lift h2
    have r2 := r1.ds e
    cases r2 with
    | nil => cases e2
    | @cons v vs d ds k1 k2 =>
      cases k2 with
      | nil =>
        cases k1 with
        | @lst a xs es z1 z2 =>
          cases e2
          exact ⟨false, a, xs, rfl, .inl (.inl (hid_sub z1)), h3 _ H1 g1 (it_en (tup := false) (.inl (.inl z1)) z2)⟩
        | @tup a xs es z1 z2 =>
          cases e2
          exact ⟨true, a, xs, rfl, sqT_mono (fun _ _ => hid_sub) z1.sq, h3 _ H1 g1 (it_en (tup := true) z1.sq z2)⟩
        | _ => cases e2
      | cons _ _ => unfold fEnum at e2; cases k1 <;> cases e2⟩
/-- a name of the module that holds plain data -/
theorem ev_const {x : Str} {v : V} {d : D} {u : Value} {pos : Pos} (h : X.mg x = some u) (r : RelV v u) (rd : ∀ H, Rep X.K H v d) (hg : Gl X x := by rfl) (hd : (x == ("__debug__" : Str)) = false := by decide) : PE X (.Name x pos) (tG X.K ca W (cC d)) :=
  PE.weak (pe_glob hg h r hd) fun σ H Q ⟨c, ρ, n, S, h⟩ => h v H S.gx (rd _)
end
@[simp] theorem e_gEnum {gl : M (List L)} {ρ : G.Env} {n : Nat} : gEnumerate gl ρ n = (gl ρ n).bind fun ls n1 => (asDs ls n1).bind fun ds n2 => Res.lift (fEnum ds) n2 := rfl
@[simp] theorem x_enum_l {ds : List D} : fEnum [.list ds] = some (enumFrom0 0 ds) := rfl
@[simp] theorem x_enum_t {ds : List D} : fEnum [.tuple ds] = some (enumFrom0 0 ds) := rfl
end G

/-! zip over rows; a range downward -/
namespace G
open PySem PySem.Spec PyProof.Rows L2
/-- two rows at once, the items in new pairs -/
def ItZ (K : PySem.W.Frag) (t1 t2 : Bool) (a b : Addr) (m : Nat) : It :=
  ⟨fun i H => ∃ (xs ys : List V) (x y : V), SqB K t1 H a xs ∧ SqB K t2 H b ys ∧ xs[i]? = some x ∧ ys[i]? = some y,
    fun i H v H' => ∃ (T : Addr) (x y : V) (o : Obj), v = .ref T ∧ o.dict = none ∧ H T = none ∧ H' = upd H T (.frz o (.tup [x, y])) ∧ (∀ xs, SqB K t1 H a xs → xs[i]? = some x) ∧ ∀ ys, SqB K t2 H b ys → ys[i]? = some y,
    fun i H => ∃ xs ys : List V, SqB K t1 H a xs ∧ SqB K t2 H b ys ∧ (xs.length ≤ i ∨ ys.length ≤ i)⟩
/-- a row's iterator, wherever it stands: at i it draws the item there, or ends -/
theorem drawsAt {prog : Program} {w : World} {A : Around} (tup : Bool) (hh : A.handled = none) (it a : Addr) (hne : a ≠ it) (us : Array Value) (i n : Nat) (hn : us.size ≤ i → n = i) (hn2 : i < us.size → n = us.size) :
    Draws prog w A it [it, a] n (fun j v => us[j]? = some v) (fun j h => (us.size ≤ i → j = i) ∧ itAt tup h it a j ∧ sqAt tup h a us) := by
  by_cases hi : us.size ≤ i
  · have e := hn hi
    subst e
    have D := drawsEnd (prog := prog) (w := w) (A := A) tup hh it a hne us n hi
    exact {
      live := fun j h st => by
        have ej := st.1 hi
        subst ej
        exact D.live j h ⟨rfl, st.2⟩
      frame := fun j h h' st hk => by
        have ej := st.1 hi
        subst ej
        have z := D.frame j h h' ⟨rfl, st.2⟩ hk
        exact ⟨fun _ => rfl, z.2⟩
      item := fun j s Q E hj st hQ => absurd (st.1 hi) (Nat.ne_of_lt hj)
      done := fun s Q E st hE => D.done s Q E ⟨rfl, st.2⟩ hE }
  · have e := hn2 (by omega)
    subst e
    have D := draws (prog := prog) (w := w) (A := A) tup hh it a hne us
    exact {
      live := fun j h st => D.live j h st.2
      frame := fun j h h' st hk => ⟨fun z => absurd z hi, D.frame j h h' st.2 hk⟩
      item := fun j s Q E hj st hQ => D.item j s Q E hj st.2 fun x h' tk hx st' sb => hQ x h' tk hx ⟨fun z => absurd z hi, st'⟩ sb
      done := fun s Q E st hE => D.done s Q E st.2 hE }
structure Apart (z TI TO i1 i2 : Addr) : Prop where
  h1 : TI ≠ z
  h2 : TO ≠ z
  h3 : TI ≠ TO
  h4 : TI ≠ i1
  h5 : TI ≠ i2
  h6 : z ≠ i1
  h7 : z ≠ i2
  h8 : TO ≠ i1
  h9 : TO ≠ i2
  h10 : i1 ≠ i2
theorem sqAt_lt {tup : Bool} {h : Heap} {a : Addr} {us : Array Value} (x : sqAt tup h a us) : a < h.objs.size := by
  cases tup with
  | true => obtain ⟨o, ho, _⟩ := x; exact Heap.lt_size ho
  | false => obtain ⟨o, ho, _⟩ := x; exact Heap.lt_size ho
theorem turn_zp {P : Program} {w : World} {K : PySem.W.Frag} {elts : List Expr} {kk : Nat} {tpos : Pos} {a b z TI TO i1 i2 : Addr} (t1 t2 : Bool) (m : Nat) (D : Apart z TI TO i1 i2) (za : a < z ∧ a < TI ∧ a < TO ∧ a < i1 ∧ a < i2) (zb : b < z ∧ b < TI ∧ b < TO ∧ b < i1 ∧ b < i2) :
    Turn P w K (.Tuple elts kk tpos) (ItZ K t1 t2 a b m) [z, TI, TO, i1, i2] z (fun i h => IsZip h z TI TO .none ∧ IsPair h TI (.ref i1) (.ref i2) ∧ (∃ x y, IsPair h TO x y) ∧ itAt t1 h i1 a i ∧ itAt t2 h i2 b i) where
  mem := by simp
  obj := fun i h st c hc => by
    obtain ⟨hz, hTI, ⟨x, y, hTO⟩, h1, h2⟩ := st
    have e' : c = z ∨ c = TI ∨ c = TO ∨ c = i1 ∨ c = i2 := by simpa using hc
    rcases e' with q | q | q | q | q
    · rw [q]; exact ⟨_, hz, fun v q => nomatch q⟩
    · rw [q]; exact ⟨_, hTI, fun v q => nomatch q⟩
    · rw [q]; exact ⟨_, hTO, fun v q => nomatch q⟩
    · rw [q]; exact itAt_ob h1
    · rw [q]; exact itAt_ob h2
  keep := fun i h h' st k => by
    obtain ⟨hz, hTI, ⟨x, y, hTO⟩, h1, h2⟩ := st
    exact ⟨k z (by simp) _ hz, k TI (by simp) _ hTI, ⟨x, y, k TO (by simp) _ hTO⟩, itAt_at h1 fun o q => k i1 (by simp) o q, itAt_at h2 fun o q => k i2 (by simp) o q⟩
  item := by
    intro X hP hw hK hc i pins s σ H E I hf st hg
    subst hP hw hK
    obtain ⟨hz, hTI, ⟨x0, y0, hTO⟩, h1, h2⟩ := st
    obtain ⟨xs, ys, x, y, hqx, hqy, hx, hy⟩ := hg
    obtain ⟨its, rv, p, _⟩ := sqB_at I hqx
    obtain ⟨its2, rv2, p2, _⟩ := sqB_at I hqy
    obtain ⟨u, hu, ru⟩ := rv.get hx
    obtain ⟨u2, hu2, ru2⟩ := rv2.get hy
    have hzl : z < s.heap.objs.size := Heap.lt_size hz
    have g1 : i < its.toArray.size := by simpa using (List.getElem?_eq_some_iff.mp hu).1
    have g2 : i < its2.toArray.size := by simpa using (List.getElem?_eq_some_iff.mp hu2).1
    have S : ZipSep2 z TI TO i1 i2 [i1, a] [i2, b] := {
      TIz := D.h1, TOz := D.h2, TITO := D.h3, TIi1 := D.h4, mem1 := by simp
      zf1 := by simp [D.h6, Nat.ne_of_gt za.1], Tf1 := by simp [D.h8, Nat.ne_of_gt za.2.2.1]
      TIi2 := D.h5, mem2 := by simp
      zf2 := by simp [D.h7, Nat.ne_of_gt zb.1], Tf2 := by simp [D.h9, Nat.ne_of_gt zb.2.2.1]
      sep1_2 := by simp [D.h10, Nat.ne_of_gt zb.2.2.2.1], sep2_1 := by simp [Ne.symm D.h10, Nat.ne_of_gt za.2.2.2.2] }
    refine wpAny_pyNext_zipD2_item S (draws t1 (by simp [I.ok.hd hc]) i1 a (sqAt_ne p h1) its.toArray) (draws t2 (by simp [I.ok.hd hc]) i2 b (sqAt_ne p2 h2) its2.toArray) hz hTI hTO ⟨h1, p⟩ ⟨h2, p2⟩ g1 g2 fun y1 y2 h' tk e1 e2 z' TO' s1 s2 hT hsz hk => ?_
    have q1 : y1 = u := by
      have : its.toArray[i]? = some u := by simpa using hu
      rw [this] at e1
      exact (Option.some.inj e1).symm
    have q2 : y2 = u2 := by
      have : its2.toArray[i]? = some u2 := by simpa using hu2
      rw [this] at e2
      exact (Option.some.inj e2).symm
    subst q1 q2
    refine ⟨_, rfl, wpAny_letOwnedTupleGo_zip (s := { s with heap := h', toks := tk }) z' fun h'' z'' sb => ?_⟩
    have hT2 : h''.get? s.heap.objs.size = some { cls := .type "tuple", data := .seq #[y1, y2] } := (sb.2 _ (Nat.ne_of_gt hzl)).trans hT
    have new : ObjOk X.prog X.w (upd H s.heap.objs.size (.frz (plainO #[y1, y2]) (.tup [x, y]))) h'' s.heap.objs.size (.frz (plainO #[y1, y2]) (.tup [x, y])) :=
      ⟨hT2, by show 2 ≤ sizeLine; decide, [y1, y2], .cons ru (.cons ru2 .nil), ⟨_, hT2, rfl, _, rfl⟩⟩
    have I1 : Inv X pins σ (upd H s.heap.objs.size (.frz (plainO #[y1, y2]) (.tup [x, y]))) { s with heap := h'', toks := tk } :=
      I.turnedNew (t' := tk) (ch := [z, TI, TO, i1, i2]) (fun c o hb q => (sb.2 c (fun q' => hb (by simp [q']))).trans (hk c o (fun q' => hb (by simp [q'])) (fun q' => hb (by simp [q'])) (fun q' => hb (by simp [q'])) (fun q' => hb (by simp [q'])) q)) hf (Nat.le_refl _) new
    refine ⟨.ref s.heap.objs.size, _, I1, rfl, ⟨_, x, y, _, rfl, rfl, I.hok.fresh (Nat.le_refl _), rfl, fun l hl => by rw [sqB_inj I hl hqx]; exact hx, fun l hl => by rw [sqB_inj I hl hqy]; exact hy⟩, ⟨z'', ?_, ⟨y1, y2, ?_⟩, ?_, ?_⟩, fun c hcm => ?_⟩
    · exact (sb.2 _ D.h1).trans (hk _ _ D.h1 D.h3 D.h4 D.h5 hTI)
    · exact (sb.2 _ D.h2).trans TO'
    · exact itAt_at s1.1 fun o q => (sb.2 _ (Ne.symm D.h6)).trans q
    · exact itAt_at s2.1 fun o q => (sb.2 _ (Ne.symm D.h7)).trans q
    · have hlt : c < s.heap.objs.size := by
        have e' : c = z ∨ c = TI ∨ c = TO ∨ c = i1 ∨ c = i2 := by simpa using hcm
        rcases e' with q | q | q | q | q
        · rw [q]; exact hzl
        · rw [q]; exact Heap.lt_size hTI
        · rw [q]; exact Heap.lt_size hTO
        · rw [q]; obtain ⟨_, e1, _⟩ := itAt_ob h1; exact Heap.lt_size e1
        · rw [q]; obtain ⟨_, e2, _⟩ := itAt_ob h2; exact Heap.lt_size e2
      rw [upd_ne (Nat.ne_of_lt hlt)]
      exact (hf c hcm).1
  done := by
    intro X hP hw hK hc i pins s σ H E I hf st hg
    subst hP hw hK
    obtain ⟨hz, hTI, ⟨x0, y0, hTO⟩, h1, h2⟩ := st
    obtain ⟨xs, ys, hqx, hqy, hend⟩ := hg
    obtain ⟨its, rv, p, _⟩ := sqB_at I hqx
    obtain ⟨its2, rv2, p2, _⟩ := sqB_at I hqy
    have l1 := rv.length
    have l2 := rv2.length
    have S : ZipSep2 z TI TO i1 i2 [i1, a] [i2, b] := {
      TIz := D.h1, TOz := D.h2, TITO := D.h3, TIi1 := D.h4, mem1 := by simp
      zf1 := by simp [D.h6, Nat.ne_of_gt za.1], Tf1 := by simp [D.h8, Nat.ne_of_gt za.2.2.1]
      TIi2 := D.h5, mem2 := by simp
      zf2 := by simp [D.h7, Nat.ne_of_gt zb.1], Tf2 := by simp [D.h9, Nat.ne_of_gt zb.2.2.1]
      sep1_2 := by simp [D.h10, Nat.ne_of_gt zb.2.2.2.1], sep2_1 := by simp [Ne.symm D.h10, Nat.ne_of_gt za.2.2.2.2] }
    have D1 := drawsAt (prog := X.prog) (w := X.w) (A := X.A.in1) t1 (by simp [I.ok.hd hc]) i1 a (sqAt_ne p h1) its.toArray i (max i its.toArray.size) (fun q => by omega) (fun q => by omega)
    have D2 := drawsAt (prog := X.prog) (w := X.w) (A := X.A.in1) t2 (by simp [I.ok.hd hc]) i2 b (sqAt_ne p2 h2) its2.toArray i (max i its2.toArray.size) (fun q => by omega) (fun q => by omega)
    have hz1 : its.toArray.size = xs.length := by rw [List.size_toArray]; omega
    have hz2 : its2.toArray.size = ys.length := by rw [List.size_toArray]; omega
    refine wpAny_pyNext_zipD2_end S D1 D2 hz hTI hTO (i := i) ⟨fun _ => rfl, h1, p⟩ ⟨fun _ => rfl, h2, p2⟩ (by omega) (by omega) ?_ fun h' tk hk => ⟨rfl, I.turnedL (t' := tk) (ch := [z, TI, TO, i1, i2]) (fun c o hb q =>
      hk c o (fun q' => hb (by simp [q'])) (fun q' => hb (by simp [q'])) (fun q' => hb (by simp [q'])) (fun q' => hb (by simp [q'])) q) hf⟩
    rcases hend with q | q
    · exact .inl (by omega)
    · exact .inr (by omega)
  self := fun A i s Q E st h => wpAny_pyIter_zip st.1 h
def iZp (K : PySem.W.Frag) (ta : TA) : TI := fun σ H R => ta σ H fun vs H1 => ∃ (t1 t2 : Bool) (a b : Addr) (xs ys : List V), vs = [.ref a, .ref b] ∧ SqB K t1 H1 a xs ∧ SqB K t2 H1 b ys ∧ R (ItZ K t1 t2 a b 0) H1
section
variable {X : Cx} {ca : String → Addr} {W : WX}
theorem pi_zp {e e2 : Expr} {ta : TA} {p pos tpos : Pos} {elts : List Expr} {kk : Nat} (hg : Gl X "zip") (hm : X.mg "zip" = none) (ha : PA X [e, e2] ta)
    (hs : starEach [e, e2] X.env = (false, eval e X.env) :: starEach [e2] X.env := by rfl) (hpl : (backTo pos (starEach [e2] X.env)).any (·.1) = false := by rfl) :
    PI X (.Tuple elts kk tpos) (.Call (.Name "zip" p) [e, e2] [] pos) (iZp X.K ta) := by
  refine ⟨fun pins s σ H R I h => ?_⟩
  refine Call_ (ld_blt I hg hm boot_zip (PyProof.Rows.callWith_type1 (thn (ha.run pos pins s σ H _ I h) fun us s1 ⟨vs, H1, I1, r1, q1⟩ => ?_) hs hpl))
  obtain ⟨t1, t2, a, b, xs, ys, ex, hq, hq2, q⟩ := q1
  subst ex
  cases r1 with
  | cons r rr =>
    cases rr with
    | cons r' rr =>
      cases rr
      cases r
      cases r'
      obtain ⟨its, rv, p1, hz⟩ := sqB_at I1 hq
      obtain ⟨its2, rv2, p2, hz2⟩ := sqB_at I1 hq2
      have la := sqAt_lt p1
      have lb := sqAt_lt p2
      refine zip_begins2 (begins t1 a its.toArray) (begins t2 b its2.toArray) p1 p2 fun h' zz zT zO g1 g2 hsz hk => wpAny_pyIter_zip zz ?_
      have I2 : Inv X pins σ H1 { s1 with heap := h' } := I1.kept (t' := s1.toks) hk
      have ne : ∀ i j : Nat, i ≠ j → s1.heap.objs.size + i ≠ s1.heap.objs.size + j := fun i j h e => h (Nat.add_left_cancel e)
      have D : Apart (s1.heap.objs.size + 4) (s1.heap.objs.size + 2) (s1.heap.objs.size + 3) s1.heap.objs.size (s1.heap.objs.size + 1) :=
        ⟨ne 2 4 (by decide), ne 3 4 (by decide), ne 2 3 (by decide), ne 2 0 (by decide), ne 2 1 (by decide), ne 4 0 (by decide), ne 4 1 (by decide), ne 3 0 (by decide), ne 3 1 (by decide), ne 0 1 (by decide)⟩
      have lt : ∀ c i : Nat, c < s1.heap.objs.size → c < s1.heap.objs.size + i := fun c i h => Nat.lt_of_lt_of_le h (Nat.le_add_right _ _)
      refine ⟨s1.heap.objs.size + 4, [s1.heap.objs.size + 4, s1.heap.objs.size + 2, s1.heap.objs.size + 3, s1.heap.objs.size, s1.heap.objs.size + 1], _, _, H1, rfl, I2,
        turn_zp t1 t2 0 D ⟨lt _ 4 la, lt _ 2 la, lt _ 3 la, la, lt _ 1 la⟩ ⟨lt _ 4 lb, lt _ 2 lb, lt _ 3 lb, lb, lt _ 1 lb⟩, ⟨zz, zT, ⟨_, _, zO⟩, itAt_new g1, itAt_new g2⟩, fun c hc => ?_, q⟩
      have hle : s1.heap.objs.size ≤ c := by
        have e' : c = s1.heap.objs.size + 4 ∨ c = s1.heap.objs.size + 2 ∨ c = s1.heap.objs.size + 3 ∨ c = s1.heap.objs.size ∨ c = s1.heap.objs.size + 1 := by simpa using hc
        rcases e' with z | z | z | z | z
        · rw [z]; exact Nat.le_add_right _ _
        · rw [z]; exact Nat.le_add_right _ _
        · rw [z]; exact Nat.le_add_right _ _
        · rw [z]; exact Nat.le_refl _
        · rw [z]; exact Nat.le_add_right _ _
      exact I1.fpOk hle (I1.hok.fresh hle)
def zipD : List D → List D → List D
  | a :: as, b :: bs => .tuple [a, b] :: zipD as bs
  | _, _ => []
theorem zip_get : ∀ (as bs : List D) (i : Nat) (d : D), (zipD as bs)[i]? = some d → ∃ a b, as[i]? = some a ∧ bs[i]? = some b ∧ d = .tuple [a, b]
  | [], _, i, d, h => by simp [zipD] at h
  | _ :: _, [], i, d, h => by simp [zipD] at h
  | a :: as, b :: bs, 0, d, h => by
    have : PyData.tuple [a, b] = d := by simpa [zipD] using h
    exact ⟨a, b, rfl, rfl, this.symm⟩
  | a :: as, b :: bs, i + 1, d, h => by
    obtain ⟨x, y, e1, e2, e3⟩ := zip_get as bs i d (by simpa [zipD] using h)
    exact ⟨x, y, by simpa using e1, by simpa using e2, e3⟩
theorem zip_len : ∀ (as bs : List D), (zipD as bs).length = min as.length bs.length
  | [], _ => by simp [zipD]
  | _ :: _, [] => by simp [zipD]
  | a :: as, b :: bs => by simp [zipD, zip_len as bs]
def rowD : D → Option (List D)
  | .list ds => some ds
  | .tuple ds => some ds
  | _ => none
def fZip : List D → Option (List D)
  | [a, b] => (rowD a).bind fun xs => (rowD b).map fun ys => zipD xs ys
  | _ => none
def gZip (g : M (List L)) : M (List D) := gRng fZip g
theorem rowD_rep {K : PySem.W.Frag} {H : Hp} {v : V} {d : D} {ds : List D} (r : Rep K H v d) (e : rowD d = some ds) : ∃ (t : Bool) (a : Addr) (xs : List V), v = .ref a ∧ SqB K t H a xs ∧ RepAll K H xs ds := by
  cases r with
  | @lst a xs es h1 h2 => cases e; exact ⟨false, a, xs, rfl, .inl (.inl h1), h2⟩
  | @tup a xs es h1 h2 => cases e; exact ⟨true, a, xs, rfl, h1.sq, h2⟩
  | _ => cases e
theorem sqB_mono {K : PySem.W.Frag} {H H' : Hp} {t : Bool} {a : Addr} {xs : List V} (e : ∀ b o, H b = some o → H' b = some o) (h : SqB K t H a xs) : SqB K t H' a xs := by
  cases t with
  | true => exact sqT_mono e (show SqT K H a xs from h)
  | false => exact sqL_mono e (show SqL K H a xs from h)
theorem it_zp {K : PySem.W.Frag} {B : List Addr} {H : Hp} {t1 t2 : Bool} {a b : Addr} {xs ys : List V} {ds es : List D} (h : SqB K t1 (hid B H) a xs) (r : RepAll K (hid B H) xs ds) (h2 : SqB K t2 (hid B H) b ys) (r2 : RepAll K (hid B H) ys es) :
    ItOk K B H (ItZ K t1 t2 a b 0) (zipD ds es) := fun i B' H' se all => by
  have sq : SqB K t1 H' a xs := sqB_mono (fun b o q => hid_sub (se b o q)) h
  have sq2 : SqB K t2 H' b ys := sqB_mono (fun b o q => hid_sub (se b o q)) h2
  have k := Rep.monoAll se _ _ r
  have k2 := Rep.monoAll se _ _ r2
  have l1 := r.length
  have l2 := r2.length
  rw [zip_len]
  refine ⟨fun hi => ⟨xs, ys, xs[i]'(by omega), ys[i]'(by omega), sq, sq2, List.getElem?_eq_getElem _, List.getElem?_eq_getElem _⟩, fun hi => ⟨xs, ys, sq, sq2, by omega⟩, fun d v H2 hd y => ?_⟩
  obtain ⟨T, x', y', o, rfl, ho, hT, rfl, y1, y2⟩ := y
  obtain ⟨d1, d2, e1, e2, rfl⟩ := zip_get ds es i d hd
  obtain ⟨v1, hv1, rv1⟩ := k.get e1
  obtain ⟨v2, hv2, rv2⟩ := k2.get e2
  have f1 := (y1 xs sq).symm.trans hv1
  cases f1
  have f2 := (y2 ys sq2).symm.trans hv2
  cases f2
  exact ⟨same_upd hT, new_tup ho all hT (.cons rv1 (.cons rv2 .nil))⟩
theorem ig_zip {e e2 : Expr} {ga : M (List L)} {p pos tpos : Pos} {elts : List Expr} {kk : Nat} (hg : Gl X "zip") (hm : X.mg "zip" = none) (ha : PA X [e, e2] (tGA X.K ca W ga))
    (hs : starEach [e, e2] X.env = (false, eval e X.env) :: starEach [e2] X.env := by rfl) (hpl : (backTo pos (starEach [e2] X.env)).any (·.1) = false := by rfl) :
    PI X (.Tuple elts kk tpos) (.Call (.Name "zip" p) [e, e2] [] pos) (iG X.K ca W (gZip ga)) :=
  ⟨fun pins s σ H R I ⟨c, ρ, n, S, h⟩ => by
    refine (pi_zp hg hm ha hs hpl).run pins s σ H R I ⟨c, ρ, n, S, (Res.post_bind h).mono (fun ls n1 h1 vs H1 g1 r1 => ?_) (fun e m h => h)⟩
    obtain ⟨ds, e, h2⟩ := Res.post_lift (Res.post_bind h1)
    obtain ⟨is, e2, h3⟩ := Res.post_lift h2
    have r2 := r1.ds e
    unfold fZip at e2
    split at e2
    · rename_i d1 d2
      cases r2 with
      | cons k1 r3 =>
        cases r3 with
        | cons k2 r4 =>
          cases r4
          cases q1 : rowD d1 with
          | none => rw [q1] at e2; cases e2
          | some xs =>
            rw [q1, Option.bind_some] at e2
            cases q2 : rowD d2 with
            | none => rw [q2] at e2; cases e2
            | some ys =>
              rw [q2] at e2
              cases e2
              obtain ⟨t1, a, vs1, rfl, w1, w2⟩ := rowD_rep k1 q1
              obtain ⟨t2, b, vs2, rfl, w3, w4⟩ := rowD_rep k2 q2
              exact ⟨t1, t2, a, b, vs1, vs2, rfl, sqB_mono (fun _ _ => hid_sub) w1, sqB_mono (fun _ _ => hid_sub) w3, h3 _ H1 g1 (it_zp w1 w2 w3 w4)⟩
    · cases e2⟩
/-! ### range(a, b, -1) -/
def downL (i : Int) (n : Nat) : List D := (List.range n).map fun j : Nat => PyData.int (i + ((j : Nat) : Int) * (-1))
noncomputable def fRng3 : List D → Option (List D)
  | [.int i, .int j, .int k] => if k = -1 ∧ small62 i = true ∧ small62 j = true then some (downL i (i - j).toNat) else none
  | _ => none
theorem it_down {K : PySem.W.Frag} {B : List Addr} {H : Hp} (lo : Int) (n : Nat) : ItOk K B H (Itc lo (-1) n) (downL lo n) := fun i B' H' se all => by
  have hl : (downL lo n).length = n := by simp [downL]
  rw [hl]
  refine ⟨fun hi => hi, fun hi => hi, fun d x H2 hd y => ?_⟩
  obtain ⟨rfl, rfl⟩ := y
  unfold downL at hd
  rw [List.getElem?_map] at hd
  by_cases hi : i < n
  · rw [List.getElem?_range hi] at hd
    cases hd
    exact ⟨Same.refl _, .int _⟩
  · rw [List.getElem?_eq_none (by simpa using hi)] at hd
    cases hd
theorem ig_rng3 {tg a b e : Expr} {ga : M (List L)} {p pos : Pos} (hg : Gl X "range") (hm : X.mg "range" = none) (ha : PA X [a, b, e] (tGA X.K ca W ga))
    (hs : starEach [a, b, e] X.env = (false, eval a X.env) :: starEach [b, e] X.env := by rfl) (hpl : (backTo pos (starEach [b, e] X.env)).any (·.1) = false := by rfl) :
    PI X tg (.Call (.Name "range" p) [a, b, e] [] pos) (iG X.K ca W (gRng fRng3 ga)) :=
  ⟨fun pins s σ H R I ⟨c, ρ, n, S, h⟩ => by
    refine (pi_range3 hg hm ha hs hpl).run pins s σ H R I ⟨c, ρ, n, S, (Res.post_bind h).mono (fun ls n1 h1 vs H1 g1 r1 => ?_) (fun e m h => h)⟩
    obtain ⟨ds, e, h2⟩ := Res.post_lift (Res.post_bind h1)
    obtain ⟨is, e2, h3⟩ := Res.post_lift h2
    have r2 := r1.ds e
    unfold fRng3 at e2
    split at e2
    · rename_i i j k
      split at e2
      · rename_i hz
        obtain ⟨rfl, z1, z2⟩ := hz
        cases e2
        cases r2 with
        | cons k1 r3 =>
          cases r3 with
          | cons k2 r4 =>
            cases r4 with
            | cons k3 r5 =>
              cases r5
              cases k1
              cases k2
              cases k3
              obtain ⟨q1, q2⟩ := small62_of z1
              obtain ⟨q3, q4⟩ := small62_of z2
              exact ⟨i, j, -1, (i - j).toNat, rfl, RgC.neg q1 q2 q3 q4, h3 _ H1 g1 (it_down i _)⟩
      · cases e2
    · cases e2⟩
end
@[simp] theorem e_gZip {gl : M (List L)} {ρ : G.Env} {n : Nat} : gZip gl ρ n = (gl ρ n).bind fun ls n1 => (asDs ls n1).bind fun ds n2 => Res.lift (fZip ds) n2 := rfl
@[simp] theorem x_zip_tt {xs ys : List D} : fZip [.tuple xs, .tuple ys] = some (zipD xs ys) := rfl
end G

/-! min, max of one row of data -/
namespace G
open PySem PySem.Spec PyProof.Rows L2 PySem.W
def minOk (ds : List D) : Prop := AlikeAll ds ∧ PyData.canLayAll0 ds = true ∧ PyData.depthAll ds ≤ 8
def rBest (K : PySem.W.Frag) (f : D → List D → D) : List V → Hp → VK → Prop := fun vs H Q => ∃ (a : Addr) (xs : List V) (x : D) (ds : List D), vs = [.ref a] ∧ (SqL K H a xs ∨ SqT K H a xs) ∧ DpAll K H xs (x :: ds) ∧ minOk (x :: ds) ∧
  ∀ (i : Nat) (v : V), xs[i]? = some v → (x :: ds)[i]? = some (f x ds) → Q v H
section
variable {X : Cx}
theorem vals_back1 : ∀ {xs : List V} {us : List Value} {i : Nat} {u : Value}, Vals xs us → us[i]? = some u → ∃ v, xs[i]? = some v ∧ RelV v u
  | [], _, i, u, r, h => by cases r; simp at h
  | x :: xs, _, 0, u, r, h => by
    cases r with
    | cons r1 r2 => simp at h; subst h; exact ⟨x, rfl, r1⟩
  | x :: xs, _, i + 1, u, r, h => by
    cases r with
    | cons r1 r2 =>
      obtain ⟨v, h1, h2⟩ := vals_back1 r2 (by simpa using h)
      exact ⟨v, by simpa using h1, h2⟩
theorem reads_get {h : Heap} : ∀ {us : List Value} {ds : List D} {as : List Addr} {i : Nat} {u : Value}, ReadsAll h us ds as → us[i]? = some u → ∃ d bs, ds[i]? = some d ∧ Reads h u d bs
  | _, [], _, i, u, r, h => by cases r; simp at h
  | _, d :: ds, _, 0, u, r, h => by
    cases r with
    | cons r1 r2 => simp at h; subst h; exact ⟨d, _, rfl, r1⟩
  | _, d :: ds, _, i + 1, u, r, h => by
    cases r with
    | cons r1 r2 =>
      obtain ⟨e, bs, h1, h2⟩ := reads_get r2 (by simpa using h)
      exact ⟨e, bs, by simpa using h1, h2⟩
theorem best_end {pins : List (Addr × Obj)} {σ : L2.St} {H : Hp} {s : Shared} {xs : List V} {x : D} {ds : List D} {its : List Value} {as : List Addr} {Q : VK} {f : D → List D → D} (I : Inv X pins σ H s) (rv : Vals xs its) (rd : ReadsAll s.heap its (x :: ds) as) (hc : PyData.canLayAll0 (x :: ds) = true)
    (q : ∀ (i : Nat) (v : V), xs[i]? = some v → (x :: ds)[i]? = some (f x ds) → Q v H) (i : Nat) (u : Value) (h' : Heap) (tk : Nat) (bs : List Addr) (hu : its[i]? = some u) (rr : Reads h' u (f x ds) bs) (kk : ∀ b o, s.heap.get? b = some o → h'.get? b = some o) :
    EP X pins σ Q u { s with heap := h', toks := tk } := by
  obtain ⟨v, hv, rel⟩ := vals_back1 rv hu
  obtain ⟨d, bs2, hd, rd2⟩ := reads_get rd hu
  have e := (Reads.unique (Reads.keeps kk rd2) _ _ rr).1
  rw [e] at hd
  exact ⟨v, H, I.kept (t' := tk) kk, rel, q i v hv hd⟩
theorem cr_minD (hcalm : X.calm = true) (hu : X.A.units + 64 < cLine) : CallR X (.builtin "min") (rBest X.K minD) := by
  intro pins s σ H vs us Q I r h
  obtain ⟨a, xs, x, ds, rfl, hs, hd, ⟨ha, hc, hdp⟩, q⟩ := h
  rw [Vals.ref1 r]
  rcases hs with hs | hs
  · obtain ⟨its, rv, hl, hz⟩ := I.list hs
    obtain ⟨as, rd⟩ := Dp.readsAll I (x :: ds) xs its hd rv
    exact min_list_data (I.ok.hd hcalm) hl.isList (as := as) (by simpa using rd) ha (by omega) fun i u h' tk bs hu' rr kk => best_end I rv rd hc q i u h' tk bs (by simpa using hu') rr kk
  · obtain ⟨its, rv, hl, hz⟩ := I.tuple hs
    obtain ⟨as, rd⟩ := Dp.readsAll I (x :: ds) xs its hd rv
    exact min_tuple_data (I.ok.hd hcalm) hl (as := as) (by simpa using rd) ha (by omega) fun i u h' tk bs hu' rr kk => best_end I rv rd hc q i u h' tk bs (by simpa using hu') rr kk
theorem cr_maxD (hcalm : X.calm = true) (hu : X.A.units + 64 < cLine) : CallR X (.builtin "max") (rBest X.K maxD) := by
  intro pins s σ H vs us Q I r h
  obtain ⟨a, xs, x, ds, rfl, hs, hd, ⟨ha, hc, hdp⟩, q⟩ := h
  rw [Vals.ref1 r]
  rcases hs with hs | hs
  · obtain ⟨its, rv, hl, hz⟩ := I.list hs
    obtain ⟨as, rd⟩ := Dp.readsAll I (x :: ds) xs its hd rv
    exact max_list_data (I.ok.hd hcalm) hl.isList (as := as) (by simpa using rd) ha (by omega) fun i u h' tk bs hu' rr kk => best_end I rv rd hc q i u h' tk bs (by simpa using hu') rr kk
  · obtain ⟨its, rv, hl, hz⟩ := I.tuple hs
    obtain ⟨as, rd⟩ := Dp.readsAll I (x :: ds) xs its hd rv
    exact max_tuple_data (I.ok.hd hcalm) hl (as := as) (by simpa using rd) ha (by omega) fun i u h' tk bs hu' rr kk => best_end I rv rd hc q i u h' tk bs (by simpa using hu') rr kk
end
open Classical in
noncomputable def bestL (f : D → List D → D) : List D → Option D
  | x :: ds => if minOk (x :: ds) then some (f x ds) else none
  | [] => none
noncomputable def fBest (f : D → List D → D) : List D → Option D
  | [d] => (rowD d).bind (bestL f)
  | _ => none
theorem x_best_l {f : D → List D → D} {x : D} {ds : List D} (h : minOk (x :: ds)) : fBest f [.list (x :: ds)] = some (f x ds) := by
  classical
  show (if minOk (x :: ds) then some (f x ds) else none) = _
  exact if_pos h
theorem x_best_t {f : D → List D → D} {x : D} {ds : List D} (h : minOk (x :: ds)) : fBest f [.tuple (x :: ds)] = some (f x ds) := by
  classical
  show (if minOk (x :: ds) then some (f x ds) else none) = _
  exact if_pos h
theorem fBest_of {f : D → List D → D} {a d : D} {l : List D} (hr : rowD a = some l) (e : fBest f [a] = some d) : ∃ x ds, l = x :: ds ∧ minOk (x :: ds) ∧ d = f x ds := by
  classical
  have e' : bestL f l = some d := by
    rw [← e]
    show _ = (rowD a).bind (bestL f)
    rw [hr]
    rfl
  cases l with
  | nil => cases e'
  | cons x ds =>
    by_cases h : minOk (x :: ds)
    · have e2 : (if minOk (x :: ds) then some (f x ds) else none) = some d := e'
      rw [if_pos h] at e2
      exact ⟨x, ds, rfl, h, (Option.some.inj e2).symm⟩
    · have e2 : (if minOk (x :: ds) then some (f x ds) else none) = some d := e'
      rw [if_neg h] at e2
      cases e2
theorem o_best {K : PySem.W.Frag} {f : D → List D → D} : OpN K (rBest K f) (fBest f) := by
  intro B H xs as d Q all r e q
  cases r with
  | nil => cases e
  | @cons v vs a as r1 r2 =>
    cases r2 with
    | nil =>
      cases hr : rowD a with
      | none =>
        have e' : (rowD a).bind (bestL f) = some d := e
        rw [hr] at e'
        cases e'
      | some l =>
        obtain ⟨x, ds, rfl, hok, rfl⟩ := fBest_of hr e
        obtain ⟨t, p, ys, rfl, h1, h2⟩ := rowD_rep r1 hr
        have sq : SqL K H p ys ∨ SqT K H p ys := by
          cases t with
          | true => exact .inr (sqT_mono (fun _ _ => hid_sub) (show SqT K (hid B H) p ys from h1))
          | false => exact .inl (sqL_mono (fun _ _ => hid_sub) (show SqL K (hid B H) p ys from h1))
        refine ⟨p, ys, x, ds, rfl, sq, Rep.dpAll (fun _ _ => hid_sub) _ _ h2, hok, fun i w hw hd => q w H (Same.refl H) ?_⟩
        obtain ⟨w', hw', rw'⟩ := h2.get hd
        rw [hw] at hw'
        cases hw'
        exact rw'
    | cons _ _ => unfold fBest at e; cases e
end G

/-! a def that calls itself: by how deep -/
namespace G
open PySem PySem.Spec PyProof.Rows L2
theorem fn_bad {P : Program} {w : World} {K : PySem.W.Frag} {mg : Str → Option Value} {base : Heap} {CX : CXT} {ca : String → Addr} {k m : Nat} {f : Addr} {fd : FuncData} {ps : List Str} (hm : ps.length = m) :
    FnOk P w K mg base CX k f fd ps (spG K ca m fun _ _ => .bad) where
  len := fun vs H Q E h => by rw [hm]; exact h.1
  run := fun A outer s H args us vs Q E _ _ _ _ h => by
    obtain ⟨_, c, ls, n, _, _, _, _, _, h⟩ := h
    exact h.elim
end G

/-! tools for the plain proofs: steps, equality, order -/
namespace G
open PySem PySem.Spec PyProof.Rows L2
section
variable {N B C : Env → Nat → Prop} {R : D → Nat → Prop} {ρ ρ1 : Env} {n n1 : Nat} {f g : MS} {t : M Bool}
theorem sq (e : f ρ n = .nx ρ1 n1) (h : (g ρ1 n1).Sat N R B C) : (sSeq f g ρ n).Sat N R B C := sat_sq ρ1 n1 e h
theorem so (e : f ρ n = .nx ρ1 n1) (h : N ρ1 n1) : (f ρ n).Sat N R B C := sat_to e h
theorem sno (e : t ρ n = .ok false n1) (h : (g ρ n1).Sat N R B C) : (sSeq (sIf t f sNx) g ρ n).Sat N R B C := sat_no n1 e h
theorem snoE (e : t ρ n = .ok false n1) (h : N ρ n1) : (sIf t f sNx ρ n).Sat N R B C := sat_noE n1 e h
theorem sif {k : Bool} (e : t ρ n = .ok k n1) (h1 : k = true → (f ρ n1).Sat N R B C) (h2 : k = false → (g ρ n1).Sat N R B C) : (sIf t f g ρ n).Sat N R B C := sat_if k n1 e h1 h2
theorem sifT (e : t ρ n = .ok true n1) (h1 : (f ρ n1).Sat N R B C) : (sIf t f g ρ n).Sat N R B C := sat_if true n1 e (fun _ => h1) (fun h => by cases h)
theorem sifF (e : t ρ n = .ok false n1) (h1 : (g ρ n1).Sat N R B C) : (sIf t f g ρ n).Sat N R B C := sat_if false n1 e (fun h => by cases h) (fun _ => h1)
theorem sret {ga : M D} {d : D} (e : ga ρ n = .ok d n1) (h : R d n1) : (sRet ga ρ n).Sat N R B C := by rw [e_sRet, e]; exact .rt h
theorem run_to {m : Nat} {g : MS} {ls : List L} {ρ0 : Env} {v : D} {n' : Nat} (e : ls.map some ++ List.replicate (m - ls.length) none = ρ0) (h : (g ρ0 n).Sat no2 (fun d k => d = v ∧ k = n') no2 no2) : runF m g ls n = .ok v n' := run_eq (e ▸ h)
theorem run_toP {m : Nat} {g : MS} {ls : List L} {ρ0 : Env} {P : D → Nat → Prop} (e : ls.map some ++ List.replicate (m - ls.length) none = ρ0) (h : (g ρ0 n).Sat no2 P no2 no2) : ∃ v n', runF m g ls n = .ok v n' ∧ P v n' := run_ex (e ▸ h)
end
/-! ### values that may be held against one another -/
def okD (k : Nat) (d : D) : Prop := d.canLay0 = true ∧ d.depth ≤ k
theorem okD.sh {k : Nat} {d : D} (h : okD k d) (hk : k ≤ 64 := by omega) : SeqAt.shaped d = true := by
  unfold SeqAt.shaped
  rw [h.1, decide_eq_true (Nat.le_trans h.2 hk)]
  rfl
theorem okD.up {k m : Nat} {d : D} (h : okD k d) (hk : k ≤ m := by omega) : okD m d := ⟨h.1, Nat.le_trans h.2 hk⟩
theorem okD_n {k : Nat} : okD k .none := ⟨rfl, by simp [PyData.depth]⟩
theorem okD_b {k : Nat} {b : Bool} : okD k (.bool b) := ⟨rfl, by simp [PyData.depth]⟩
theorem okD_i {k : Nat} {i : Int} : okD k (.int i) := ⟨rfl, by simp [PyData.depth]⟩
theorem okD_T {k : Nat} {l : List Nat} (h : okT l = true) : okD k (T l) := ⟨by rw [lay_T]; exact h, by rw [depth_T]; omega⟩
theorem okD_all {k : Nat} : ∀ {ds : List D}, (∀ d ∈ ds, okD k d) → PyData.canLayAll0 ds = true ∧ PyData.depthAll ds ≤ k
  | [], _ => ⟨by simp [PyData.canLayAll0], by simp [PyData.depthAll]⟩
  | d :: ds, h => by
    obtain ⟨a, b⟩ := h d List.mem_cons_self
    obtain ⟨c, e⟩ := okD_all fun x hx => h x (List.mem_cons_of_mem _ hx)
    exact ⟨by simp [PyData.canLayAll0, a, c], by simp [PyData.depthAll]; omega⟩
theorem okD_t {k : Nat} {ds : List D} (h : ∀ d ∈ ds, okD k d) : okD (k + 1) (.tuple ds) := by
  obtain ⟨a, b⟩ := okD_all h
  exact ⟨by simp [PyData.canLay0, a], by simp [PyData.depth]; omega⟩
theorem okD_l {k : Nat} {ds : List D} (h : ∀ d ∈ ds, okD k d) : okD (k + 1) (.list ds) := by
  obtain ⟨a, b⟩ := okD_all h
  exact ⟨by simp [PyData.canLay0, a], by simp [PyData.depth]; omega⟩
theorem okD_mp {k : Nat} {α : Type} {e : α → D} {l : List α} (h : ∀ a ∈ l, okD k (e a)) : ∀ d ∈ l.map e, okD k d := fun d hd => by
  obtain ⟨a, ha, rfl⟩ := List.mem_map.mp hd
  exact h a ha
theorem okD_tm {k : Nat} {α : Type} {e : α → D} {l : List α} (h : ∀ a ∈ l, okD k (e a)) : okD (k + 1) (.tuple (l.map e)) := okD_t (okD_mp h)
theorem okD_lm {k : Nat} {α : Type} {e : α → D} {l : List α} (h : ∀ a ∈ l, okD k (e a)) : okD (k + 1) (.list (l.map e)) := okD_l (okD_mp h)
theorem x_eq_self {d : D} (h : okD 60 d) : opEq d d = some (.bool true) := by
  unfold opEq
  rw [if_pos ⟨h.sh, h.sh⟩, PySem.SeqAt.eqv_refl d h.1]
theorem x_ne_self {d : D} (h : okD 60 d) : opNe d d = some (.bool false) := by
  unfold opNe
  rw [if_pos ⟨h.sh, h.sh⟩, PySem.SeqAt.eqv_refl d h.1]
  rfl
theorem x_ne_same {d d' : D} (e : d = d') (h : okD 60 d) : opNe d d' = some (.bool false) := e ▸ x_ne_self h
theorem x_eq_same {d d' : D} (e : d = d') (h : okD 60 d) : opEq d d' = some (.bool true) := e ▸ x_eq_self h
/-! ### encoders -/
def EqE {α : Type} (e : α → D) : Prop := ∀ a b, PyData.eqv (e a) (e b) = true ↔ a = b
theorem eqE_T : EqE T := fun a b => by rw [eqv_T]; simp
theorem eqE_C : EqE fun c : Nat => T [c] := fun a b => by show PyData.eqv (T [a]) (T [b]) = true ↔ _; rw [eqv_T]; simp
theorem eqE_int : EqE PyData.int := fun a b => by simp [PyData.eqv]
theorem eqE_bool : EqE PyData.bool := fun a b => by simp [PyData.eqv]
def encN (k : Nat) : D := .int (k : Int)
theorem eqE_N : EqE encN := fun a b => by
  simp [encN, PyData.eqv]
  omega
def encO : Option Nat → D
  | none => .none
  | some i => encN i
theorem eqE_O : EqE encO := fun a b => by cases a <;> cases b <;> simp [encO, encN, PyData.eqv] <;> omega
theorem EqE.all {α : Type} {e : α → D} (h : EqE e) : ∀ a b : List α, PyData.eqvAll (a.map e) (b.map e) = true ↔ a = b
  | [], [] => by simp [PyData.eqvAll]
  | [], _ :: _ => by simp [PyData.eqvAll]
  | _ :: _, [] => by simp [PyData.eqvAll]
  | x :: xs, y :: ys => by
    have ih := h.all xs ys
    have h1 := h x y
    simp [PyData.eqvAll, ih, h1]
theorem EqE.t {α : Type} {e : α → D} (h : EqE e) : EqE fun l : List α => .tuple (l.map e) := fun a b => by
  show PyData.eqv (.tuple _) (.tuple _) = true ↔ _
  rw [PyData.eqv]
  exact h.all a b
theorem EqE.l {α : Type} {e : α → D} (h : EqE e) : EqE fun l : List α => .list (l.map e) := fun a b => by
  show PyData.eqv (.list _) (.list _) = true ↔ _
  rw [PyData.eqv]
  exact h.all a b
theorem EqE.p2 {α β : Type} {e : α → D} {e' : β → D} (h : EqE e) (h' : EqE e') : EqE fun p : α × β => .tuple [e p.1, e' p.2] := fun a b => by
  have h1 := h a.1 b.1
  have h2 := h' a.2 b.2
  show PyData.eqv (.tuple _) (.tuple _) = true ↔ _
  simp [PyData.eqv, PyData.eqvAll, h1, h2, Prod.ext_iff]
theorem EqE.p3 {α β γ : Type} {e : α → D} {e' : β → D} {e'' : γ → D} (h : EqE e) (h' : EqE e') (h'' : EqE e'') : EqE fun p : α × β × γ => .tuple [e p.1, e' p.2.1, e'' p.2.2] := fun a b => by
  have h1 := h a.1 b.1
  have h2 := h' a.2.1 b.2.1
  have h3 := h'' a.2.2 b.2.2
  show PyData.eqv (.tuple _) (.tuple _) = true ↔ _
  simp [PyData.eqv, PyData.eqvAll, h1, h2, h3, Prod.ext_iff]
theorem EqE.dec {α : Type} [DecidableEq α] {e : α → D} (h : EqE e) (a b : α) : PyData.eqv (e a) (e b) = decide (a = b) := by
  rw [Bool.eq_iff_iff, h a b]; simp
theorem x_eq_E {α : Type} [DecidableEq α] {e : α → D} (h : EqE e) {a b : α} (ha : okD 60 (e a)) (hb : okD 60 (e b)) : opEq (e a) (e b) = some (.bool (decide (a = b))) := by
  unfold opEq
  rw [if_pos ⟨ha.sh, hb.sh⟩, h.dec]
theorem x_ne_E {α : Type} [DecidableEq α] {e : α → D} (h : EqE e) {a b : α} (ha : okD 60 (e a)) (hb : okD 60 (e b)) : opNe (e a) (e b) = some (.bool (!decide (a = b))) := by
  unfold opNe
  rw [if_pos ⟨ha.sh, hb.sh⟩, h.dec]
theorem opIn_l (a : D) (ds : List D) : opIn a (.list ds) = if flatD a = true ∧ ds.all flatD = true then some (.bool (ds.any fun z => PyData.eqv z a)) else
      if SeqAt.shaped a = true ∧ SeqAt.shaped (.list ds) = true then some (.bool (ds.any fun z => PyData.eqv z a)) else none := by cases a <;> rfl
theorem opIn_t (a : D) (ds : List D) : opIn a (.tuple ds) = if flatD a = true ∧ ds.all flatD = true then some (.bool (ds.any fun z => PyData.eqv z a)) else none := by cases a <;> rfl
theorem any_E {α : Type} [DecidableEq α] {e : α → D} (h : EqE e) (a : α) (l : List α) : ((l.map e).any fun z => PyData.eqv z (e a)) = decide (a ∈ l) := by
  rw [List.any_map, Bool.eq_iff_iff, List.any_eq_true, decide_eq_true_eq]
  constructor
  · rintro ⟨b, hb, hc⟩
    rwa [← (h b a).mp hc]
  · intro ha
    exact ⟨a, ha, (h a a).mpr rfl⟩
theorem x_in_l {α : Type} [DecidableEq α] {e : α → D} (h : EqE e) {a : α} {l : List α} (ha : okD 60 (e a)) (hl : ∀ b ∈ l, okD 60 (e b)) : opIn (e a) (.list (l.map e)) = some (.bool (decide (a ∈ l))) := by
  rw [opIn_l, any_E h]
  split
  · rfl
  · rw [if_pos ⟨ha.sh, (okD_lm hl).sh⟩]
theorem x_in_t {α : Type} [DecidableEq α] {e : α → D} (h : EqE e) {a : α} {l : List α} (hf : ∀ b, flatD (e b) = true) : opIn (e a) (.tuple (l.map e)) = some (.bool (decide (a ∈ l))) := by
  rw [opIn_t, any_E h, if_pos ⟨hf a, by rw [List.all_map, List.all_eq_true]; exact fun b _ => hf b⟩]
theorem x_notin_l {α : Type} [DecidableEq α] {e : α → D} (h : EqE e) {a : α} {l : List α} (ha : okD 60 (e a)) (hl : ∀ b ∈ l, okD 60 (e b)) : opNotIn (e a) (.list (l.map e)) = some (.bool (!decide (a ∈ l))) := by
  unfold opNotIn
  rw [x_in_l h ha hl]
theorem x_notin_t {α : Type} [DecidableEq α] {e : α → D} (h : EqE e) {a : α} {l : List α} (hf : ∀ b, flatD (e b) = true) : opNotIn (e a) (.tuple (l.map e)) = some (.bool (!decide (a ∈ l))) := by
  unfold opNotIn
  rw [x_in_t h hf]
theorem flat_N (k : Nat) : flatD (encN k) = true := rfl
theorem flat_T (l : List Nat) : flatD (T l) = true := rfl
/-! ### all, any, sum over a list -/
theorem x_all_f {α : Type} {p : α → Bool} {l : List α} : fAll [.list (l.map fun a => .bool (p a))] = some (.bool (l.all p)) := by
  have := x_all (bs := l.map p)
  rw [List.map_map, List.all_map] at this
  exact this
theorem x_any_f {α : Type} {p : α → Bool} {l : List α} : fAny [.list (l.map fun a => .bool (p a))] = some (.bool (l.any p)) := by
  have := x_any (bs := l.map p)
  rw [List.map_map, List.any_map] at this
  exact this
theorem x_sum_f {α : Type} {f : α → Int} {l : List α} : fSum [.list (l.map fun a => .int (f a))] = some (.int (l.map f).sum) := by
  have := x_sum (bs := l.map f)
  rw [List.map_map] at this
  exact this
theorem sum_cast {α : Type} (f : α → Nat) (l : List α) : (l.map fun a => (f a : Int)).sum = ((l.map f).sum : Nat) := by
  induction l with
  | nil => rfl
  | cons a r ih => simp [ih]
theorem x_sum_n {α : Type} {f : α → Nat} {l : List α} : fSum [.list (l.map fun a => encN (f a))] = some (encN (l.map f).sum) := by
  have := x_sum_f (f := fun a => (f a : Int)) (l := l)
  rw [sum_cast] at this
  exact this
/-! ### sorted -/
theorem sortOk_E {α : Type} {e : α → D} {l : List α} (al : ∀ a ∈ l, ∀ b ∈ l, PySem.W.alike (e a) (e b) = true) (ks : PySem.W.Sortable (l.map e)) (dp : ∀ a ∈ l, (e a).depth ≤ 8) : sortOk (l.map e) := by
  refine ⟨fun d hd d' hd' => ?_, ks, fun d hd => ?_⟩
  · obtain ⟨a, ha, rfl⟩ := List.mem_map.mp hd
    obtain ⟨b, hb, rfl⟩ := List.mem_map.mp hd'
    exact al a ha b hb
  · obtain ⟨a, ha, rfl⟩ := List.mem_map.mp hd
    exact dp a ha
theorem sort_E {α : Type} {e : α → D} {l : List α} {r : α → α → Bool} (hr : ∀ a ∈ l, ∀ b ∈ l, r a b = PySem.W.dataLe false id (e a) (e b)) : (l.map e).mergeSort (PySem.W.dataLe false id) = (l.mergeSort r).map e :=
  (PySem.W.sort_maps (r := r) (s := PySem.W.dataLe false id) e hr).symm
theorem x_sort_E {α : Type} {e : α → D} {l : List α} {r : α → α → Bool} (h : sortOk (l.map e)) (hr : ∀ a ∈ l, ∀ b ∈ l, r a b = PySem.W.dataLe false id (e a) (e b)) : fSort [.list (l.map e)] = some ((l.mergeSort r).map e) := by
  rw [x_sort_l h, sort_E hr]
theorem x_sort_Et {α : Type} {e : α → D} {l : List α} {r : α → α → Bool} (h : sortOk (l.map e)) (hr : ∀ a ∈ l, ∀ b ∈ l, r a b = PySem.W.dataLe false id (e a) (e b)) : fSort [.tuple (l.map e)] = some ((l.mergeSort r).map e) := by
  rw [x_sort_t h, sort_E hr]
def leN (a b : Nat) : Bool := decide (a ≤ b)
theorem le_N (a b : Nat) : leN a b = PySem.W.dataLe false id (encN a) (encN b) := by
  have := congrFun (congrFun (PySem.W.dataLe_int (fun z : Int => z)) (a : Int)) (b : Int)
  show _ = PySem.W.dataLe false (fun b : Int => PyData.int b) (a : Int) (b : Int)
  rw [this]
  unfold leN
  rw [Bool.eq_iff_iff]
  simp
theorem sortOk_N (l : List Nat) : sortOk (l.map encN) := sortOk_E (fun _ _ _ _ => by simp [encN, PySem.W.alike]) (PySem.W.Sortable.others fun _ => ⟨nofun, nofun⟩) fun _ _ => by simp [encN, PyData.depth]
theorem x_sort_N {l : List Nat} : fSort [.list (l.map encN)] = some ((l.mergeSort leN).map encN) := x_sort_E (sortOk_N l) fun a _ b _ => le_N a b
theorem x_sort_Nt {l : List Nat} : fSort [.tuple (l.map encN)] = some ((l.mergeSort leN).map encN) := x_sort_Et (sortOk_N l) fun a _ b _ => le_N a b
theorem lt_C (a b : Nat) : ([a] : List Nat) < [b] ↔ a < b := by
  constructor
  · intro h
    cases h with
    | rel h => exact h
    | cons h => cases h
  · intro h
    exact .rel h
theorem le_C (a b : Nat) : leN a b = PySem.W.dataLe false id (T [a]) (T [b]) := by
  show _ = !PySem.W.dataLt (T [b]) (T [a])
  unfold T
  rw [PySem.W.dataLt_str]
  unfold leN
  show decide (a ≤ b) = !decide (([b] : List Nat) < [a])
  rw [Bool.eq_iff_iff]
  simp [lt_C]
theorem sortOk_C (l : List Nat) : sortOk (l.map fun c => T [c]) := sortOk_E (fun _ _ _ _ => by simp [T, PySem.W.alike]) (PySem.W.Sortable.others fun _ => ⟨nofun, nofun⟩) fun _ _ => by simp [T, PyData.depth]
theorem x_sort_C {l : List Nat} : fSort [.list (l.map fun c => T [c])] = some ((l.mergeSort leN).map fun c => T [c]) := x_sort_E (sortOk_C l) fun a _ b _ => le_C a b
theorem leN_trans (a b c : Nat) : leN a b = true → leN b c = true → leN a c = true := by unfold leN; simp; omega
theorem leN_total (a b : Nat) : (leN a b || leN b a) = true := by unfold leN; simp; omega
theorem sortN_perm (l : List Nat) : (l.mergeSort leN).Perm l := List.mergeSort_perm l leN
theorem sortN_rise (l : List Nat) : (l.mergeSort leN).Pairwise (· ≤ ·) := (List.pairwise_mergeSort (le := leN) leN_trans leN_total l).imp fun h => by simpa [leN] using h
theorem rise_uniqN : ∀ {a b : List Nat}, a.Pairwise (· ≤ ·) → b.Pairwise (· ≤ ·) → a.Perm b → a = b := fun {a b} ha hb h => h.eq_of_pairwise (le := (· ≤ ·)) (fun _ _ _ _ h1 h2 => Nat.le_antisymm h1 h2) ha hb
theorem sortN_self {l : List Nat} (h : l.Pairwise (· ≤ ·)) : l.mergeSort leN = l := rise_uniqN (sortN_rise l) h (sortN_perm l)
/-! ### ranges -/
theorem rng_N (k : Nat) : rngL 0 k = (List.range k).map encN := by
  unfold rngL
  refine List.map_congr_left fun i _ => ?_
  show PyData.int _ = PyData.int _
  congr 1
  omega
theorem rng_N2 (a k : Nat) : rngL (a : Int) k = (List.range' a k).map encN := by
  unfold rngL
  rw [List.range'_eq_map_range, List.map_map]
  refine List.map_congr_left fun i _ => ?_
  show PyData.int _ = PyData.int _
  congr 1
/-- one sign and the rest -/
theorem eqv_C (a b : Nat) : PyData.eqv (T [a]) (T [b]) = decide (a = b) := eqE_C.dec a b
theorem x_eq_C {a b : Nat} (ha : a < 0x110000) (hb : b < 0x110000) : opEq (T [a]) (T [b]) = some (.bool (decide (a = b))) := x_eq_E eqE_C (okD_T (by simpa [okT] using ha)) (okD_T (by simpa [okT] using hb))
theorem x_ne_C {a b : Nat} (ha : a < 0x110000) (hb : b < 0x110000) : opNe (T [a]) (T [b]) = some (.bool (!decide (a = b))) := x_ne_E eqE_C (okD_T (by simpa [okT] using ha)) (okD_T (by simpa [okT] using hb))
theorem join_C {l : List Nat} (h : l.length ≤ 16777216) : mJoin (T []) (.list (l.map fun c => T [c])) = some (T l) := by
  have e : (l.map fun c => T [c]) = (l.map fun c => [c]).map T := by rw [List.map_map]; rfl
  have f : (l.map fun c : Nat => [c]).flatten = l := by induction l with
    | nil => rfl
    | cons a r ih => simp [ih (by simp at h; omega)]
  rw [e, x_join_l (by rw [sum_flat, f]; exact h), f]
end G
namespace G
open PySem PySem.Spec PyProof.Rows L2
/-- a loop that looks for the first one -/
theorem sat_find {α : Type} {N B C : Env → Nat → Prop} {R : D → Nat → Prop} {n : Nat} (enc : α → D) (p : α → Bool) (r : α → D) {tg : D → Env → Option Env} {body : MS} (J : Env → Prop) : ∀ (xs : List α) {ρ : Env}, J ρ →
    (∀ a ∈ xs, ∀ ρ, J ρ → ∃ ρ1, tg (enc a) ρ = some ρ1 ∧ (p a = true → body ρ1 n = .rt (r a) n) ∧ (p a = false → ∃ ρ2, body ρ1 n = .nx ρ2 n ∧ J ρ2)) →
    (∀ a, xs.find? p = some a → R (r a) n) → (xs.find? p = none → ∀ ρ, J ρ → N ρ n) → (forL tg body (xs.map enc) ρ n).Sat N R B C
  | [], ρ, h0, _, _, hm => .nx (hm rfl _ h0)
  | a :: l, ρ, h0, hs, hh, hm => by
    obtain ⟨ρ1, e1, h1, h2⟩ := hs a List.mem_cons_self ρ h0
    show (match tg (enc a) ρ with | none => Out.bad | some ρ1 => _ : Out).Sat N R B C
    rw [e1]
    show (match body ρ1 n with | .nx ρ2 n2 => forL tg body (l.map enc) ρ2 n2 | .ct ρ2 n2 => forL tg body (l.map enc) ρ2 n2 | .bk ρ2 n2 => .nx ρ2 n2 | o => o : Out).Sat N R B C
    cases q : p a with
    | true =>
      rw [h1 q]
      exact .rt (hh a (by rw [List.find?_cons_of_pos q]))
    | false =>
      obtain ⟨ρ2, e2, j2⟩ := h2 q
      rw [e2]
      exact sat_find enc p r J l j2 (fun b hb => hs b (List.mem_cons_of_mem _ hb)) (fun b hb => hh b (by rw [List.find?_cons_of_neg (by simp [q])]; exact hb)) (fun hb => hm (by rw [List.find?_cons_of_neg (by simp [q])]; exact hb))
end G
namespace G
open PySem PySem.Spec PyProof.Rows L2
theorem cutL_init {α : Type} (l : List α) : cutL l none (some (-1)) = l.dropLast := by
  rcases List.eq_nil_or_concat l with rfl | ⟨i, x, rfl⟩
  · rfl
  · rw [List.concat_eq_append, cutL_init1, List.dropLast_concat]
theorem cutL_tail {α : Type} (l : List α) : cutL l (some 1) none = l.tail := by
  have := cutL_drop l 1
  rw [show ((1 : Nat) : Int) = 1 from rfl] at this
  rw [this, List.drop_one]
theorem zip_N : ∀ (a b : List Nat), zipD (a.map encN) (b.map encN) = (a.zip b).map fun p => .tuple [encN p.1, encN p.2]
  | [], _ => by simp [zipD]
  | _ :: _, [] => by simp [zipD]
  | x :: a, y :: b => by
    rw [List.map_cons, List.map_cons, List.zip_cons_cons, List.map_cons, ← zip_N a b]
    rfl
theorem ones_flat (f : Nat → Nat) : ∀ l : List Nat, (l.map fun c => [f c]).flatten = l.map f
  | [] => rfl
  | a :: r => by rw [List.map_cons, List.flatten_cons, ones_flat f r]; rfl
theorem all_map {α : Type} (f : α → D) : ∀ {ds : List D} {l : List α}, (∀ d ∈ ds, d ∈ l.map f) → ∃ l' : List α, ds = l'.map f ∧ ∀ a ∈ l', a ∈ l
  | [], _, _ => ⟨[], rfl, by simp⟩
  | d :: ds, l, h => by
    obtain ⟨l', e, h'⟩ := all_map f (ds := ds) (l := l) fun x hx => h x (List.mem_cons_of_mem _ hx)
    obtain ⟨a, ha, rfl⟩ := List.mem_map.mp (h d List.mem_cons_self)
    refine ⟨a :: l', by rw [e]; rfl, fun b hb => ?_⟩
    rcases List.mem_cons.mp hb with q | q
    · rw [q]; exact ha
    · exact h' b q
/-- a comprehension whose test draws -/
theorem lc_fdraw {tg : D → G.Env → Option G.Env} {tt : M Bool} {te : M D} {ρ : G.Env} (c : Nat) (Q : D → Prop) : ∀ (ds : List D) (n : Nat),
    (∀ d ∈ ds, ∀ m, m ≤ n + ds.length * c → ∃ ρ1 b m', tg d ρ = some ρ1 ∧ tt ρ1 m = .ok b m' ∧ m' ≤ m + c ∧ (b = true → ∃ y, te ρ1 m' = .ok y m' ∧ Q y)) →
    ∃ ys n', lcL tg tt te ρ ds n = .ok ys n' ∧ n' ≤ n + ds.length * c ∧ ys.length ≤ ds.length ∧ ∀ y ∈ ys, Q y
  | [], n, _ => ⟨[], n, rfl, by simp, by simp, by simp⟩
  | d :: ds, n, h => by
    have e0 : (d :: ds).length * c = ds.length * c + c := by rw [List.length_cons, Nat.succ_mul]
    obtain ⟨ρ1, b, m', e1, e2, h1, h2⟩ := h d List.mem_cons_self n (by omega)
    obtain ⟨ys, n', e3, h3, h4, h5⟩ := lc_fdraw c Q ds m' fun b hb m hm => h b (List.mem_cons_of_mem _ hb) m (by rw [e0]; omega)
    cases b with
    | false =>
      refine ⟨ys, n', ?_, by rw [e0]; omega, by rw [List.length_cons]; omega, h5⟩
      show (match tg d ρ with | none => Res.bad | some ρ1 => _ : Res (List D)) = _
      rw [e1]
      show (match tt ρ1 n with | .ok true n1 => _ | .ok false n1 => _ | _ => Res.bad : Res (List D)) = _
      rw [e2]
      exact e3
    | true =>
      obtain ⟨y, ey, hy⟩ := h2 rfl
      refine ⟨y :: ys, n', ?_, by rw [e0]; omega, by rw [List.length_cons, List.length_cons]; omega, fun z hz => ?_⟩
      · show (match tg d ρ with | none => Res.bad | some ρ1 => _ : Res (List D)) = _
        rw [e1]
        show (match tt ρ1 n with | .ok true n1 => _ | .ok false n1 => _ | _ => Res.bad : Res (List D)) = _
        rw [e2]
        show (match te ρ1 m' with | .ok y n2 => _ | _ => Res.bad : Res (List D)) = _
        rw [ey]
        show (lcL tg tt te ρ ds m').bind _ = _
        rw [e3]
        rfl
      · rcases List.mem_cons.mp hz with q | q
        · rw [q]; exact hy
        · exact h5 _ q
end G
namespace G
open PySem PySem.Spec PyProof.Rows L2
theorem any_X {α : Type} {e : α → D} (h : EqE e) (a : α) (l : List α) : ((l.map e).any fun z => PyData.eqv z (e a)) = true ↔ a ∈ l := by
  rw [List.any_map, List.any_eq_true]
  constructor
  · rintro ⟨b, hb, hc⟩
    rwa [← (h b a).mp hc]
  · intro ha
    exact ⟨a, ha, (h a a).mpr rfl⟩
theorem x_in_x {α : Type} {e : α → D} (h : EqE e) {a : α} {l : List α} (ha : okD 60 (e a)) (hl : ∀ b ∈ l, okD 60 (e b)) : ∃ k, opIn (e a) (.list (l.map e)) = some (.bool k) ∧ (k = true ↔ a ∈ l) := by
  refine ⟨_, ?_, any_X h a l⟩
  rw [opIn_l]
  split
  · rfl
  · rw [if_pos ⟨ha.sh, (okD_lm hl).sh⟩]
theorem x_notin_x {α : Type} {e : α → D} (h : EqE e) {a : α} {l : List α} (ha : okD 60 (e a)) (hl : ∀ b ∈ l, okD 60 (e b)) : ∃ k, opNotIn (e a) (.list (l.map e)) = some (.bool k) ∧ (k = true ↔ a ∉ l) := by
  obtain ⟨k, e1, e2⟩ := x_in_x h ha hl
  refine ⟨!k, by unfold opNotIn; rw [e1], ?_⟩
  cases k <;> simp at e2 ⊢ <;> exact e2
end G
namespace G
open PySem
@[simp] theorem sz1 : 1 ≤ sizeLine := by rw [sizeLine_eq]; omega
@[simp] theorem sz2 : 2 ≤ sizeLine := by rw [sizeLine_eq]; omega
@[simp] theorem sz3 : 3 ≤ sizeLine := by rw [sizeLine_eq]; omega
@[simp] theorem sz4 : 4 ≤ sizeLine := by rw [sizeLine_eq]; omega
@[simp] theorem sz5 : 5 ≤ sizeLine := by rw [sizeLine_eq]; omega
@[simp] theorem sz6 : 6 ≤ sizeLine := by rw [sizeLine_eq]; omega
@[simp] theorem sz7 : 7 ≤ sizeLine := by rw [sizeLine_eq]; omega
@[simp] theorem sz8 : 8 ≤ sizeLine := by rw [sizeLine_eq]; omega
@[simp] theorem sz9 : 9 ≤ sizeLine := by rw [sizeLine_eq]; omega
@[simp] theorem sz10 : 10 ≤ sizeLine := by rw [sizeLine_eq]; omega
@[simp] theorem sz11 : 11 ≤ sizeLine := by rw [sizeLine_eq]; omega
@[simp] theorem sz12 : 12 ≤ sizeLine := by rw [sizeLine_eq]; omega
@[simp] theorem szl0 : 0 < sizeLine := by rw [sizeLine_eq]; omega
@[simp] theorem szl1 : 1 < sizeLine := by rw [sizeLine_eq]; omega
@[simp] theorem szl2 : 2 < sizeLine := by rw [sizeLine_eq]; omega
@[simp] theorem szl3 : 3 < sizeLine := by rw [sizeLine_eq]; omega
@[simp] theorem szl4 : 4 < sizeLine := by rw [sizeLine_eq]; omega
@[simp] theorem szl5 : 5 < sizeLine := by rw [sizeLine_eq]; omega
@[simp] theorem szl6 : 6 < sizeLine := by rw [sizeLine_eq]; omega
@[simp] theorem szl7 : 7 < sizeLine := by rw [sizeLine_eq]; omega
@[simp] theorem szl8 : 8 < sizeLine := by rw [sizeLine_eq]; omega
@[simp] theorem szl9 : 9 < sizeLine := by rw [sizeLine_eq]; omega
@[simp] theorem szl10 : 10 < sizeLine := by rw [sizeLine_eq]; omega
@[simp] theorem szl11 : 11 < sizeLine := by rw [sizeLine_eq]; omega
@[simp] theorem szl12 : 12 < sizeLine := by rw [sizeLine_eq]; omega
end G
namespace G
open PySem PySem.Spec PyProof.Rows L2
theorem x_mul_ok {i j : Int} (h : mulOk i j = true) : opMul (.int i) (.int j) = some (.int (i * j)) := by rw [x_mul, if_pos h]
end G

/-! list(text) -/
namespace G
open PySem PySem.Spec PyProof.Rows ZB
section
variable {prog : Program} {w : World} {A : Around} {E : Value → Shared → Prop} {s : Shared}
theorem hint_str {x : Str} {t : Tok} {Q : Bool → Shared → Prop} (h : Q false s) : wpAny (model prog w) A (Builtin.List.listLengthHint (.str x t)) Q E s := by
  have hT : s.TypeIs (.str x t) "str" := PySem.typeIs_str s x t
  unfold Builtin.List.listLengthHint
  refine wpAny_bind (wpAny_specialOf hT PySem.F.slot_str_len.lookup ?_)
  generalize hid : ("str.__len__" : String) = id0
  wp_delta
  rw [show splitId id0 = some ("str", "__len__") from by subst hid; decide +kernel]
  subst hid
  refine wpAny_bind (wpAny_isInstance (T := "str") (b := true) hT (by rw [isSubtype_type]; kernel_rfl) ?_)
  refine wpAny_ite_split (fun hab => absurd hab (by decide)) (fun _ => ?_)
  refine wpAny_ite_split (fun _ => ?_) (fun hab => absurd (by decide +kernel) hab)
  refine wpAny_bind (wpAny_typeOf hT ?_)
  exact wpAny_pure h
theorem extend_str {R : Result → Shared → Prop} (hh : A.handled = none) (x : Str) (t : Tok) (S : Addr) (res : Value) (c₀ : Nat) (hS : s.heap.get? S = some { cls := .type "list", data := .seq #[] c₀ })
    (hR : ∀ h' tk acc' c', (∀ b o, b ≠ S → s.heap.get? b = some o → h'.get? b = some o) → h'.get? S = some { cls := .type "list", dict := none, data := .seq acc' c', slots := #[] } →
      ItemsOf (SignAt x) acc' x.cps.size → R (.ok (.ret res)) { s with heap := h', toks := tk }) (hn : x.cps.size ≤ sizeLine) :
    wpAny (model prog w) A.in1 (Builtin.List.listExtendWith (.ref S) (.str x t) res)
      (fun fin s' => match fin with | .done f => R (.ok f) s' | .again c' => c'.quiet = true ∧ codeAny (model prog w) A c' R s') (fun e s' => R (.error e) s') s := by
  have hSI : S ≠ s.heap.objs.size := Nat.ne_of_lt (Heap.lt_size hS)
  have hSf : S ∉ [s.heap.objs.size] := fun hm => hSI (List.mem_singleton.mp hm)
  unfold Builtin.List.listExtendWith
  refine wpAny_bind (wpAny_typeOf (T := "str") (v := .str x t) (PySem.typeIs_str s x t) ?_)
  have h1 : Builtin.List.listSameRef (.ref S) (.str x t) = false := rfl
  have h2 : (Value.type "str" == Value.type "list") = false := by decide
  have h3 : (Value.type "str" == Value.type "tuple") = false := by decide
  simp only [h1, h2, h3, Bool.or_false, Bool.false_eq_true, if_false]
  refine wpAny_bind (wpAny_pyIter_str fun o St W0 hst => ?_)
  refine wpAny_bind (wpAny_holding (hint_str ?_))
  rw [if_neg (by first | decide | decide +kernel)]
  have W := W0 A.in1 hh
  refine wpAny_pure ⟨plainId_quiet PySem.F.plain_extend_loop _, codeAny_extend_loopS W.toS hn _ hSf _ x.cps.size 0 _ _ _ rfl (Nat.zero_le _) hst (Heap.get?_push_of_some _ hS) (ItemsOf.nil _) fun s' acc' c' hm hS' hacc => ?_⟩
  rw [Moved.eq_with hm]
  refine hR s'.heap s'.toks acc' c' (fun b ob hb e => hm.heap b ob (fun hmem => ?_) (Heap.get?_push_of_some _ e)) hS' hacc
  rcases List.mem_cons.mp hmem with e' | hmem
  · exact hb e'
  · exact absurd (Heap.lt_size e) (by rw [List.mem_singleton.mp hmem]; exact Nat.lt_irrefl _)
theorem list_init_str {R : Result → Shared → Prop} (hh : A.handled = none) (x : Str) (t : Tok) (S : Addr) (hS : s.heap.get? S = some { cls := .type "list", data := .seq #[] })
    (hR : ∀ h' tk acc' c', (∀ b o, b ≠ S → s.heap.get? b = some o → h'.get? b = some o) → h'.get? S = some { cls := .type "list", dict := none, data := .seq acc' c', slots := #[] } →
      ItemsOf (SignAt x) acc' x.cps.size → R (.ok (.ret .none)) { s with heap := h', toks := tk }) (hn : x.cps.size ≤ sizeLine) :
    wpAny (model prog w) A.in1 (Builtin.«list.__init__» ⟨[.ref S, .str x t], []⟩)
      (fun fin s' => match fin with | .done f => R (.ok f) s' | .again c' => c'.quiet = true ∧ codeAny (model prog w) A c' R s') (fun e s' => R (.error e) s') s := by
  show wpAny _ _ (do let old ← Builtin.List.listItems (.ref S); Builtin.List.listUpdate (.ref S) (fun _ => #[]); letGo old.toList.reverse; Builtin.List.listExtendWith (.ref S) (.str x t) .none) _ _ s
  refine wpAny_bind ?_
  unfold Builtin.List.listItems
  refine wpAny_bind (wpAny_seqItems hS rfl (wpAny_pure ?_))
  show wpAny _ _ (updateSeq S (fun _ => #[]) >>= fun _ => letGo (#[] : Array Value).toList.reverse >>= fun _ => Builtin.List.listExtendWith (.ref S) (.str x t) .none) _ _ s
  refine wpAny_bind (wpAny_updateSeq hS rfl ?_)
  have hS₂ := Heap.get?_update_self (Obj.mapSeq (fun _ => (#[] : Array Value))) hS rfl
  have oth : ∀ b o, b ≠ S → s.heap.get? b = some o → (s.heap.update S (Obj.mapSeq (fun _ => (#[] : Array Value)))).get? b = some o :=
    fun b o hb e => (Heap.get?_update_other _ _ (Ne.symm hb)).trans e
  refine wpAny_bind (wpAny_letGo ?_)
  refine extend_str hh x t S .none _ hS₂ (fun h' tk acc' c' hk hS' hacc => ?_) hn
  exact hR h' tk acc' c' (fun b o hb e => hk b o hb (oth b o hb e)) hS' hacc
theorem call_list_str {x : Str} {t : Tok} {Q : Value → Shared → Prop} (hh : A.handled = none) (hn : x.cps.size ≤ sizeLine)
    (hQ : ∀ h' tk acc' c', (∀ b o, s.heap.get? b = some o → h'.get? b = some o) →
      h'.get? s.heap.objs.size = some { cls := .type "list", dict := none, data := .seq acc' c', slots := #[] } → ItemsOf (SignAt x) acc' x.cps.size → Q (.ref s.heap.objs.size) { s with heap := h', toks := tk }) :
    wpAny (model prog w) A (call (.type "list") [.str x t]) Q E s := by
  refine callType_codes (Q₁ := fun obj s₁ => obj = .ref s.heap.objs.size ∧ s₁ = { s with heap := s.heap.push { cls := .type "list", data := .seq #[] } }) PySem.F.called_list (PySem.F.typeCall_list_1 _) PySem.F.entry_list_init
    (code_list_new _ ⟨rfl, rfl⟩) fun obj s₁ h₁ => ?_
  obtain ⟨rfl, rfl⟩ := h₁
  have hS : (s.heap.push { cls := .type "list", data := .seq #[] }).get? s.heap.objs.size = some { cls := .type "list", data := .seq #[] } := Heap.get?_push_size _ rfl
  refine ⟨⟨_, hS, rfl⟩, PySem.F.args_list_init_2 _ _, list_init_str (A := A.in1) hh x t _ hS (fun h' tk acc' c' hk hS' hacc => ?_) hn⟩
  exact ⟨rfl, hQ h' tk acc' c' (fun b o e => hk b o (Nat.ne_of_lt (Heap.lt_size e)) (Heap.get?_push_of_some _ e)) hS' hacc⟩
end
end G
namespace G
open PySem PySem.Spec PyProof.Rows L2
def rListS : List V → Hp → VK → Prop := fun xs H Q => ∃ x : Str, xs = [.str x] ∧ x.cps.size ≤ sizeLine ∧ ∀ l, H l = none → Q (.ref l) (upd H l (.lst (x.cps.toList.map fun c => V.str ⟨#[c]⟩)))
theorem cr_listS {X : Cx} (hc : X.calm = true) : CallR X (.type "list") rListS := by
  intro pins s σ H xs us Q I r h
  obtain ⟨x, rfl, hz, q⟩ := h
  obtain ⟨u, rfl, t, rfl⟩ := vals1 r
  refine call_list_str (I.ok.hd hc) hz fun h' tk acc' c' kp e it => ?_
  have hv : Vals (x.cps.toList.map fun c => V.str ⟨#[c]⟩) acc'.toList := by
    refine vals_of_idx _ _ (by simp [it.1]) fun j u hj => ?_
    have hj' : acc'[j]? = some u := by rw [← Array.getElem?_toList]; exact hj
    obtain ⟨c, tk2, hc2, rfl⟩ := it.2 j u hj'
    have hc3 : x.cps.toList[j]? = some c := by rw [Array.getElem?_toList]; exact hc2
    exact ⟨V.str ⟨#[c]⟩, by rw [List.getElem?_map, hc3]; rfl, tk2, rfl⟩
  exact ⟨.ref s.heap.objs.size, _, I.laid (t' := tk) kp (Nat.le_refl _) (show ObjOk X.prog X.w _ h' _ (.lst _) from ⟨by simpa using hz, acc'.toList, c', hv, by simpa using e⟩), rfl, q _ (I.hok.fresh (Nat.le_refl _))⟩
def fListA : List D → Option (List D)
  | [.list ds] => some ds
  | [.tuple ds] => some ds
  | [.str x] => if x.length ≤ sizeLine then some (x.cps.toList.map fun c => T [c]) else none
  | _ => none
theorem cr_listA {X : Cx} (hc : X.calm = true) : CallR X (.type "list") (fun xs H Q => (∃ p ys, xs = [.ref p] ∧ (SqL X.K H p ys ∨ SqT X.K H p ys) ∧ ∀ l, H l = none → Q (.ref l) (upd H l (.lst ys))) ∨ rListS xs H Q) := CallR.or call_list_of (cr_listS hc)
theorem repAll_C {K : PySem.W.Frag} {H : Hp} : ∀ cs : List Nat, RepAll K H (cs.map fun c => V.str ⟨#[c]⟩) (cs.map fun c => T [c])
  | [] => .nil
  | c :: cs => .cons (.str _) (repAll_C cs)
theorem o_listA {K : PySem.W.Frag} : OpNF K (fun xs H Q => (∃ p ys, xs = [.ref p] ∧ (SqL K H p ys ∨ SqT K H p ys) ∧ ∀ l, H l = none → Q (.ref l) (upd H l (.lst ys))) ∨ rListS xs H Q) fListA := by
  intro B H xs as ds' Q all r e q
  cases r with
  | nil => cases e
  | @cons v vs a as r1 r2 =>
    cases r2 with
    | nil =>
      cases r1 with
      | @lst p xs ds h1 h2 => cases e; exact .inl ⟨p, xs, rfl, .inl (.inl (.inl (hid_sub h1))), fun l hl => q l xs _ (same_upd hl) hl upd_same (Rep.monoAll (hid_fresh hl) _ _ h2)⟩
      | @tup p xs ds h1 h2 => cases e; exact .inl ⟨p, xs, rfl, .inr (sqT_mono (fun _ _ => hid_sub) h1.sq), fun l hl => q l xs _ (same_upd hl) hl upd_same (Rep.monoAll (hid_fresh hl) _ _ h2)⟩
      | str x =>
        have e' : (if x.length ≤ sizeLine then some (x.cps.toList.map fun c => T [c]) else none) = some ds' := e
        split at e'
        · rename_i hz
          cases e'
          exact .inr ⟨x, rfl, hz, fun l hl => q l _ _ (same_upd hl) hl upd_same (repAll_C _)⟩
        · cases e'
      | _ => cases e
    | cons _ _ => unfold fListA at e; cases r1 <;> cases e
@[simp] theorem x_lstA_l {ds : List D} : fListA [.list ds] = some ds := rfl
@[simp] theorem x_lstA_t {ds : List D} : fListA [.tuple ds] = some ds := rfl
@[simp] theorem x_lstA_T {l : List Nat} : fListA [T l] = if l.length ≤ sizeLine then some (l.map fun c => T [c]) else none := by
  show (if (⟨l.toArray⟩ : Str).length ≤ sizeLine then some (l.map fun c => T [c]) else none) = _
  rw [T_len]
end G

/-! sorted(text) -/
namespace G
open PySem PySem.Spec PySem.Calls PyProof.Rows L2 PySem.W
section
variable {prog : Program} {w : World} {A : Around} {E : Value → Shared → Prop} {s : Shared}
theorem collectStr {x : Str} {t : Tok} {R : List Value → Shared → Prop} (hh : A.handled = none) (hn : x.cps.size ≤ sizeLine)
    (q : ∀ h' tk (us : List Value), (∀ b o, s.heap.get? b = some o → h'.get? b = some o) → s.heap.objs.size ≤ h'.objs.size → ItemsOf (SignAt x) us.toArray x.cps.size → R us { s with heap := h', toks := tk }) : wpAny (model prog w) A (collect (.str x t)) R E s := by
  unfold collect
  refine wpAny_bind (wpAny_runValue (codeAny_builtin PySem.F.entry_proto_collect ?_))
  rw [Around.under_plainId PySem.F.plain_proto_collect _]
  show wpAny _ A.in1 (newList [] >>= fun l => again (.builtin "list.__iadd__" ⟨[l, .str x t], []⟩)) _ _ s
  refine wpAny_bind (wpAny_newObj_type ?_)
  refine wpAny_pure ⟨plainId_quiet PySem.F.plain_list_iadd _, codeAny_builtin PySem.F.entry_list_iadd ?_⟩
  rw [Around.under_plainId PySem.F.plain_list_iadd _]
  have hS₁ : (s.heap.push { cls := .type "list", data := .seq ([] : List Value).toArray }).get? s.heap.objs.size = some { cls := .type "list", data := .seq ([] : List Value).toArray } := Heap.get?_push_size _ rfl
  show wpAny _ A.in1 (Builtin.List.listExtendWith (.ref s.heap.objs.size) (.str x t) (.ref s.heap.objs.size)) _ _ _
  refine extend_str (A := A) (s := { s with heap := s.heap.push { cls := .type "list", data := .seq ([] : List Value).toArray } })
    (R := fun r s' => match r with
      | Except.ok (Flow.ret v) => wpAny (model prog w) A (match v with
          | Value.ref a => do
            let ob ← load a
            match ob.data with
              | Data.seq xs epoch => pure xs.toList
              | x => unsupported "internal:collect"
          | x => unsupported "internal:collect") R E s'
      | Except.ok a => False
      | Except.error e => E e s') hh x t s.heap.objs.size _ 0 hS₁ (fun h' tk acc' c' hk hS' hacc => ?_) hn
  show wpAny _ A (load s.heap.objs.size >>= _) _ _ _
  refine wpAny_bind (wpAny_load hS' ?_)
  exact wpAny_pure (q h' tk acc'.toList (fun b o e => hk b o (Nat.ne_of_lt (Heap.lt_size e)) (Heap.get?_push_of_some _ e)) (Nat.le_of_lt (Heap.lt_size hS')) (by simpa using hacc))
theorem sortedStr {x : Str} {t : Tok} {Q : Value → Shared → Prop} (hh : A.handled = none) (hn : x.cps.size ≤ sizeLine) (hu : A.units + 64 < cLine)
    (q : ∀ h' tk p (us out : List Value) (c : Nat), (∀ b o, s.heap.get? b = some o → h'.get? b = some o) → s.heap.objs.size ≤ p → h'.get? p = some (seqObj "list" out.toArray c) → out.length = x.cps.size →
      EachIs (fun v (d : D) => ∃ z tk, d = .str z ∧ v = .str z tk) out ((x.cps.toList.map fun c => T [c]).mergeSort (dataLe false id)) → Q (.ref p) { s with heap := h', toks := tk }) : wpAny (model prog w) A (call (.builtin "sorted") [.str x t]) Q E s := by
  refine Calls.call_function_entry kind_sorted plain_sorted entry_sorted (args_sorted1 _) ?_
  unfold Builtin.«sorted»
  refine wpAny_bind (m := checkCount "sorted" 1 1 _) (wpAny_pure ?_)
  refine wpAny_bind (collectStr (A := A.in1) hh hn fun h1 tk vs k1 hz it => ?_)
  have hvl : vs.length = x.cps.size := by have := it.1; simpa using this
  refine wpAny_bind (wpAny_newList ?_ (by rw [hvl]; exact hn))
  have hoL : (h1.push (seqObj "list" vs.toArray 0)).get? h1.objs.size = some (seqObj "list" vs.toArray 0) := Heap.get?_push_size _ rfl
  have each : EachIs (fun v (d : D) => ∃ z tk, d = .str z ∧ v = .str z tk) vs (x.cps.toList.map fun c => T [c]) := by
    have gen : ∀ (vs : List Value) (cs : List Nat), vs.length = cs.length → (∀ (j : Nat) (v : Value), vs[j]? = some v → ∃ c tk, cs[j]? = some c ∧ v = .str ⟨#[c]⟩ tk) → EachIs (fun v (d : D) => ∃ z tk, d = .str z ∧ v = .str z tk) vs (cs.map fun c => T [c]) := by
      intro vs
      induction vs with
      | nil => intro cs hl _; cases cs with
        | nil => exact .nil
        | cons _ _ => simp at hl
      | cons v vs ih => intro cs hl h; cases cs with
        | nil => simp at hl
        | cons c cs =>
          obtain ⟨c', tk, e, rfl⟩ := h 0 v rfl
          have e' : c = c' := by simpa using e
          subst e'
          exact .cons ⟨_, tk, rfl, rfl⟩ (ih cs (by simpa using hl) fun j w hj => by have := h (j + 1) w (by simpa using hj); simpa using this)
    refine gen vs _ (by rw [hvl, Array.length_toList]) fun j v hj => ?_
    obtain ⟨c, tk, h1, h2⟩ := it.2 j v (by simpa using hj)
    exact ⟨c, tk, by rw [Array.getElem?_toList]; exact h1, h2⟩
  obtain ⟨bs, hbs⟩ : ∃ bs : List D, bs = x.cps.toList.map fun c => T [c] := ⟨_, rfl⟩
  rw [← hbs] at each
  have hal : AllAlike (bs.map id) := by
    rw [List.map_id, hbs]
    exact AllAlike.of fun _ _ => by simp [T, alike]
  have hk : Sortable bs := by
    rw [hbs]
    exact Sortable.others fun _ => ⟨nofun, nofun⟩
  have er : ∀ h : Heap, EachIs (fun v b => ∃ as, Reads h v b as) vs bs := fun h => each.mono fun v d ⟨z, tk, e1, e2⟩ => ⟨[], by rw [e1, e2]; exact .str z tk⟩
  have hdep : ∀ d ∈ bs, A.in1.in1.units + d.depth < cLine := by
    intro d hd
    rw [hbs] at hd
    obtain ⟨c, _, rfl⟩ := List.mem_map.mp hd
    have : (T [c]).depth = 0 := depth_T [c]
    rw [this]
    show A.units + 1 + 1 + 0 < cLine
    omega
  have S := SortsAt.data (prog := prog) (w := w) (A := A.in1.in1) (s := { s with heap := sortingHeap (h1.push (seqObj "list" vs.toArray 0)) h1.objs.size vs, toks := tk }) (er _) (by rw [List.map_id] at hal; exact hal) hk hdep
  refine wpAny_bind (wpAny_holding (wpAny_call_entry slot_list_sort ⟨_, hoL, rfl⟩ entry_list_sort (list_sort_vals (s := { s with heap := h1.push (seqObj "list" vs.toArray 0), toks := tk }) hoL S (by rw [hvl]; exact hn) ⟨_, rfl, ?_⟩) (args_list_sort _)))
  have z := sortVals_data (enc := id) (R := fun v (d : D) => ∃ z tk, d = .str z ∧ v = .str z tk) (h' := sortingHeap (h1.push (seqObj "list" vs.toArray 0)) h1.objs.size vs) false each (er _) hal
  rw [List.map_id] at z
  have hms : bs.mergeSort (dataLe false id) = (x.cps.toList.map fun c => T [c]).mergeSort (dataLe false id) := by rw [hbs]
  obtain ⟨c, hc⟩ := sortedHeap_at (vs := vs) (out := (sortVals (dataKind (sortingHeap (h1.push (seqObj "list" vs.toArray 0)) h1.objs.size vs) bs) false vs vs).toArray) hoL
  refine wpAny_pure ⟨_, rfl, q _ tk h1.objs.size vs _ c (fun b u e => ?_) hz hc (by rw [sortVals_length false rfl, hvl]) (by rw [← hms]; exact z)⟩
  have q := k1 b u e
  have hlt := Heap.lt_size q
  rw [sortedHeap_old (Nat.ne_of_lt hlt) (by rw [size_push']; exact Nat.lt_succ_of_lt hlt)]
  exact Heap.get?_push_of_some _ q
end
end G
namespace G
open PySem PySem.Spec PyProof.Rows L2 PySem.W
def rSortS : List V → Hp → VK → Prop := fun xs H Q => ∃ x : Str, xs = [.str x] ∧ x.cps.size ≤ sizeLine ∧ ∀ ys p, EachIs (fun v (d : D) => ∃ z, d = .str z ∧ v = V.str z) ys ((x.cps.toList.map fun c => T [c]).mergeSort (dataLe false id)) → H p = none → Q (.ref p) (upd H p (.lst ys))
theorem each_valsS : ∀ {us : List Value} {ds : List D}, EachIs (fun v (d : D) => ∃ z tk, d = .str z ∧ v = .str z tk) us ds → ∃ xs, Vals xs us ∧ EachIs (fun v (d : D) => ∃ z, d = .str z ∧ v = V.str z) xs ds
  | _, _, .nil => ⟨[], .nil, .nil⟩
  | _, _, .cons ⟨z, tk, h1, h2⟩ t => by
    obtain ⟨xs, q1, q2⟩ := each_valsS t
    exact ⟨.str z :: xs, .cons ⟨tk, h2⟩ q1, .cons ⟨z, h1, rfl⟩ q2⟩
theorem cr_sortS {X : Cx} (hc : X.calm = true) (hu : X.A.units + 64 < cLine) : CallR X (.builtin "sorted") rSortS := by
  intro pins s σ H xs us Q I r h
  obtain ⟨x, rfl, hz, q⟩ := h
  obtain ⟨u, rfl, t, rfl⟩ := vals1 r
  refine sortedStr (I.ok.hd hc) hz hu fun h' tk p us out c kp hp e ho eo => ?_
  obtain ⟨ys, v1, v2⟩ := each_valsS eo
  exact ⟨.ref p, _, I.laid (t' := tk) kp hp (show ObjOk X.prog X.w _ h' _ (.lst ys) from ⟨by rw [v1.length, ho]; exact hz, out, c, v1, e⟩), rfl, q _ _ v2 (I.hok.fresh hp)⟩
theorem cr_sortA {X : Cx} (hc : X.calm = true) (hu : X.A.units + 64 < cLine) : CallR X (.builtin "sorted") (fun xs H Q => rSortD X.K xs H Q ∨ rSortS xs H Q) := CallR.or (cr_sortD hu) (cr_sortS hc hu)
noncomputable def fSortA : List D → Option (List D)
  | [.str x] => if x.length ≤ sizeLine then some ((x.cps.toList.map fun c => T [c]).mergeSort (dataLe false id)) else none
  | l => fSort l
theorem repS {K : PySem.W.Frag} {H : Hp} : ∀ {ys : List V} {ds : List D}, EachIs (fun v (d : D) => ∃ z, d = .str z ∧ v = V.str z) ys ds → RepAll K H ys ds
  | _, _, .nil => .nil
  | _, _, .cons ⟨z, h1, h2⟩ t => by rw [h1, h2]; exact .cons (.str z) (repS t)
theorem o_sortA {K : PySem.W.Frag} : OpNF K (fun xs H Q => rSortD K xs H Q ∨ rSortS xs H Q) fSortA := by
  intro B H xs as ds' Q all r e q
  by_cases hs : ∃ x, as = [.str x]
  · obtain ⟨x, rfl⟩ := hs
    have e' : (if x.length ≤ sizeLine then some ((x.cps.toList.map fun c => T [c]).mergeSort (dataLe false id)) else none) = some ds' := e
    split at e'
    · rename_i hz
      cases e'
      cases r with
      | cons r1 r2 =>
        cases r2
        cases r1
        exact .inr ⟨x, rfl, hz, fun ys p hy hl => q p ys _ (same_upd hl) hl upd_same (repS hy)⟩
    · cases e'
  · have e' : fSort as = some ds' := by
      rw [← e]
      unfold fSortA
      split
      · rename_i x; exact (hs ⟨x, rfl⟩).elim
      · rfl
    exact .inl (o_sort _ _ _ _ _ _ all r e' q)
@[simp] theorem x_sortA_l {ds : List D} : fSortA [.list ds] = fSort [.list ds] := rfl
@[simp] theorem x_sortA_t {ds : List D} : fSortA [.tuple ds] = fSort [.tuple ds] := rfl
@[simp] theorem x_sortA_T {l : List Nat} (h : l.length ≤ 16777216) : fSortA [T l] = some ((l.mergeSort leN).map fun c => T [c]) := by
  show (if (⟨l.toArray⟩ : Str).length ≤ sizeLine then some ((l.map fun c => T [c]).mergeSort (dataLe false id)) else none) = _
  rw [T_len, if_pos (size_ok h), sort_E (r := leN) fun a _ b _ => le_C a b]
end G

/-! text * int -/
namespace G
open PySem PySem.Spec PyProof.Rows L2
def rMulS : V → V → Hp → VK → Prop := fun x y H Q => ∃ (z : Str) (k : Int), x = .str z ∧ y = .int k ∧ -1000 ≤ k ∧ k ≤ 1000 ∧ z.length ≤ 1000 ∧ Q (.str ⟨((List.replicate k.toNat z.cps.toList).flatten).toArray⟩) H
theorem fold_rep (a : Array Nat) : ∀ n : Nat, (List.replicate n a).foldl (· ++ ·) #[] = ((List.replicate n a.toList).flatten).toArray := by
  have key : ∀ (n : Nat) (b : Array Nat), (List.replicate n a).foldl (· ++ ·) b = b ++ ((List.replicate n a.toList).flatten).toArray := by
    intro n
    induction n with
    | zero => intro b; simp
    | succ n ih =>
      intro b
      rw [List.replicate_succ, List.foldl_cons, ih, List.replicate_succ, List.flatten_cons]
      apply Array.toList_inj.mp
      simp
  intro n
  rw [key]
  simp
theorem op_mulS {X : Cx} : OpR X (binaryOp .Mult) rMulS := by
  intro pins s σ H x y v u Q I rx ry h
  obtain ⟨z, k, rfl, rfl, h1, h2, h3, q⟩ := h
  obtain ⟨t, rfl⟩ := rx
  obtain ⟨t2, rfl⟩ := ry
  have hk : z.length * k.toNat ≤ 1000000 := Nat.le_trans (Nat.mul_le_mul h3 (show k.toNat ≤ 1000 by omega)) (by omega)
  have hsz : sizeLine = 16777216 := sizeLine_eq
  refine PySem.P.mul_str (by rw [decide_eq_false (by omega), decide_eq_false (by omega)]; rfl) (fun a b => ?_) (fun a b => ?_) ?_
  · have : (1000 : Int) ≤ (2 ^ 63 - 1) / k := Int.le_ediv_of_mul_le (by omega) (by omega)
    omega
  · unfold Builtin.Str.tooLong
    simp
    omega
  · by_cases a : k < 1
    · rw [if_pos a]
      refine ⟨by decide, .str _, H, I.tok _, ⟨_, rfl⟩, ?_⟩
      have e : (⟨((List.replicate k.toNat z.cps.toList).flatten).toArray⟩ : Str) = Str.empty := by
        rw [show k.toNat = 0 by omega]; rfl
      rw [← e]; exact q
    · rw [if_neg a]
      by_cases b : (k == 1 || z.length == 0) = true
      · rw [if_pos b]
        refine ⟨.str z, H, I, ⟨_, rfl⟩, ?_⟩
        have e : (⟨((List.replicate k.toNat z.cps.toList).flatten).toArray⟩ : Str) = z := by
          simp only [Bool.or_eq_true, beq_iff_eq] at b
          rcases b with b | b
          · subst b; simp
          · have hz : z.cps = #[] := Array.eq_empty_of_size_eq_zero b
            obtain ⟨c⟩ := z
            simp only at hz
            subst hz
            simp
        rw [e] at q
        exact q
      · rw [if_neg b]
        refine ⟨?_, .str _, H, I.tok _, ⟨_, rfl⟩, ?_⟩
        · rw [fold_rep, T_len]
          have : ((List.replicate k.toNat z.cps.toList).flatten).length = k.toNat * z.length := by
            rw [List.length_flatten, List.map_replicate, List.sum_replicate_nat]
            rfl
          rw [this, Nat.mul_comm]
          omega
        · rw [fold_rep]; exact q
noncomputable def opMulA : D → D → Option D
  | .str z, .int k => if -1000 ≤ k ∧ k ≤ 1000 ∧ z.length ≤ 1000 then some (.str ⟨((List.replicate k.toNat z.cps.toList).flatten).toArray⟩) else none
  | a, b => opMul a b
def rMulA (K : PySem.W.Frag) : R2 := fun x y H Q => rMul K x y H Q ∨ rMulS x y H Q
theorem or_mulA {X : Cx} : OpR X (binaryOp .Mult) (rMulA X.K) := OpR.or or_mul op_mulS
theorem o_mulA {K : PySem.W.Frag} : Op2 K (rMulA K) opMulA := by
  intro B H x y a b d Q all ra rb e q
  by_cases hs : ∃ z k, a = .str z ∧ b = .int k
  · obtain ⟨z, k, rfl, rfl⟩ := hs
    have e' : (if -1000 ≤ k ∧ k ≤ 1000 ∧ z.length ≤ 1000 then some (.str ⟨((List.replicate k.toNat z.cps.toList).flatten).toArray⟩) else none) = some d := e
    split at e'
    · rename_i hz
      cases e'
      cases ra
      cases rb
      exact .inr ⟨z, k, rfl, rfl, hz.1, hz.2.1, hz.2.2, q _ H (Same.refl H) (.str _)⟩
    · cases e'
  · have e' : opMul a b = some d := by
      rw [← e]
      unfold opMulA
      split
      · rename_i z k; exact (hs ⟨z, k, rfl, rfl⟩).elim
      · rfl
    exact .inl (o_mul B H x y a b d Q all ra rb e' q)
@[simp] theorem x_mulA_i {i : Int} {b : D} : opMulA (.int i) b = opMul (.int i) b := rfl
@[simp] theorem x_mulA_l {ds : List D} {b : D} : opMulA (.list ds) b = opMul (.list ds) b := rfl
@[simp] theorem x_mulA_t {ds : List D} {b : D} : opMulA (.tuple ds) b = opMul (.tuple ds) b := rfl
theorem x_mulA_T {l : List Nat} {k : Int} (h0 : -1000 ≤ k) (h1 : k ≤ 1000) (h2 : l.length ≤ 1000) : opMulA (T l) (.int k) = some (T (List.replicate k.toNat l).flatten) := by
  show (if -1000 ≤ k ∧ k ≤ 1000 ∧ (⟨l.toArray⟩ : Str).length ≤ 1000 then some (PyData.str ⟨((List.replicate k.toNat l).flatten).toArray⟩) else none) = _
  rw [T_len, if_pos ⟨h0, h1, h2⟩]
  rfl
end G
namespace G
open PySem PySem.Spec PyProof.Rows L2
theorem add_T {a b : List Nat} (h : a.length + b.length ≤ 16777216) : opAdd (T a) (T b) = some (T (a ++ b)) := by rw [x_add_T, if_pos (size_ok h)]
theorem add_t {xs ys : List D} (h : xs.length + ys.length ≤ 16777216) : opAdd (.tuple xs) (.tuple ys) = some (.tuple (xs ++ ys)) := by rw [x_add_tup, if_pos (size_ok h)]
theorem add_l {xs ys : List D} (h : xs.length + ys.length ≤ 16777216) : opAdd (.list xs) (.list ys) = some (.list (xs ++ ys)) := by rw [x_add_lst, if_pos (size_ok h)]
end G

/-! any of ints -/
namespace G
open PySem PySem.Spec PyProof.Rows L2
theorem truth_ints {prog : Program} {w : World} {A : Around} {ns : List Int} {its : List Value} (rv : Vals (ns.map V.int) its) :
    TruthOf prog w A (fun i v => its.toArray[i]? = some v) (fun i => (ns.getD i 0) != 0) := fun i v s Q E hv hq => by
  have hv' : its[i]? = some v := by simpa using hv
  obtain ⟨x, hx, r⟩ := vals_back1 rv hv'
  rw [List.getElem?_map] at hx
  obtain ⟨k, hk, rfl⟩ := Option.map_eq_some_iff.mp hx
  obtain ⟨t, rfl⟩ := r
  have hg : ns.getD i 0 = k := by rw [List.getD_eq_getElem?_getD, hk] <;> rfl
  have hq' : Q ((ns.getD i 0) != 0) s := hq
  rw [hg] at hq'
  exact PySem.P.truthy_int hq'
theorem any_rangeI : ∀ ns : List Int, (List.range ns.length).any (fun i => (ns.getD i 0) != 0) = ns.any fun k => k != 0
  | [] => rfl
  | b :: bs => by
    rw [List.length_cons, List.range_succ_eq_map, List.any_cons, List.any_map, List.any_cons, ← any_rangeI bs]
    all_goals rfl
def rAnyI (K : PySem.W.Frag) : List V → Hp → VK → Prop := fun vs H Q => ∃ (a : Addr) (ns : List Int), vs = [V.ref a] ∧ SqL K H a (ns.map V.int) ∧ Q (.bl (ns.any fun k => k != 0)) H
theorem cr_anyI {X : Cx} (hc : X.calm = true) : CallR X (.builtin "any") (rAnyI X.K) := by
  intro pins s σ H vs us Q I r h
  obtain ⟨a, ns, rfl, hs, q⟩ := h
  obtain ⟨its, rv, hl, _⟩ := I.list hs
  rw [Vals.ref1 r]
  refine call_any_walk (iter_any hl.isList fun s₂ e2 st hne => ?_)
  subst e2
  refine ⟨_, _, _, _, _, _, _, rfl, Walks.list (A := X.A.in1) (I.ok.hd hc) _ a hne its.toArray, st, truth_ints rv, fun h' tk hk => ?_⟩
  refine ⟨.bl _, H, I.kept fun b o eo => hk b o (fun hmem => ?_) (Heap.get?_push_of_some _ eo), ?_, q⟩
  · rcases List.mem_cons.mp hmem with e1 | hmem
    · exact absurd (e1 ▸ Heap.lt_size eo) (Nat.lt_irrefl _)
    · cases hmem
  · show Value.bool _ = Value.bool _
    have := rv.length
    rw [List.length_map] at this
    rw [← any_rangeI, this, List.size_toArray]
def fAnyA : List D → Option D
  | [.list ds] => match boolsOf ds with
    | some bs => some (.bool (bs.any id))
    | none => (intsD ds).map fun ns => .bool (ns.any fun k => k != 0)
  | _ => none
theorem o_anyA {K : PySem.W.Frag} : OpN K (fun xs H Q => rAny K xs H Q ∨ rAnyI K xs H Q) fAnyA := by
  intro B H xs as d Q all r e q
  cases r with
  | nil => cases e
  | @cons v vs a as r1 r2 =>
    cases r2 with
    | nil =>
      cases r1 with
      | @lst p xs ds h1 h2 =>
        cases z : boolsOf ds with
        | none =>
          cases y : intsD ds with
          | none => simp [fAnyA, z, y] at e
          | some ns =>
            simp [fAnyA, z, y] at e
            subst e
            rw [rep_ints h2 y] at h1
            exact .inr ⟨p, ns, rfl, .inl (.inl (hid_sub h1)), q _ H (Same.refl H) (.bl _)⟩
        | some bs =>
          simp [fAnyA, z] at e
          subst e
          rw [boolsOf_eq z] at h2
          rw [h2.bools] at h1
          exact .inl ⟨p, bs, rfl, .inl (.inl (hid_sub h1)), q _ H (Same.refl H) (.bl _)⟩
      | _ => cases e
    | cons _ _ => unfold fAnyA at e; cases r1 <;> cases e
theorem cr_anyA {X : Cx} (hc : X.calm = true) : CallR X (.builtin "any") (fun xs H Q => rAny X.K xs H Q ∨ rAnyI X.K xs H Q) := CallR.or (cr_any hc) (cr_anyI hc)
@[simp] theorem x_anyA {bs : List Bool} : fAnyA [.list (bs.map PyData.bool)] = some (.bool (bs.any id)) := by simp [fAnyA, boolsOf_map]
theorem x_anyA_f {α : Type} {p : α → Bool} {l : List α} : fAnyA [.list (l.map fun a => .bool (p a))] = some (.bool (l.any p)) := by
  have := x_anyA (bs := l.map p)
  rw [List.map_map, List.any_map] at this
  exact this
theorem x_anyA_n {α : Type} {f : α → Nat} {l : List α} : fAnyA [.list (l.map fun a => encN (f a))] = some (.bool (l.any fun a => decide (f a ≠ 0))) := by
  cases l with
  | nil => rfl
  | cons a r =>
    have hb : boolsOf ((a :: r).map fun a => encN (f a)) = none := rfl
    have hi : intsD ((a :: r).map fun a => encN (f a)) = some ((a :: r).map fun a => (f a : Int)) := by
      have := intsD_map ((a :: r).map fun a => (f a : Int))
      rw [List.map_map] at this
      exact this
    have e : fAnyA [.list ((a :: r).map fun a => encN (f a))] = match boolsOf ((a :: r).map fun a => encN (f a)) with
      | some bs => some (.bool (bs.any id))
      | none => (intsD ((a :: r).map fun a => encN (f a))).map fun ns => .bool (ns.any fun k => k != 0) := rfl
    rw [e, hb, hi]
    simp only [Option.map_some, List.any_map]
    congr 3
    funext b
    show ((f b : Int) != 0) = decide (f b ≠ 0)
    rw [Bool.eq_iff_iff]
    simp
    try omega
theorem zipD_map {α β : Type} (f : α → D) (g : β → D) : ∀ (a : List α) (b : List β), zipD (a.map f) (b.map g) = (a.zip b).map fun p => .tuple [f p.1, g p.2]
  | [], _ => by simp [zipD]
  | _ :: _, [] => by simp [zipD]
  | x :: a, y :: b => by
    rw [List.map_cons, List.map_cons, List.zip_cons_cons, List.map_cons, ← zipD_map f g a b]
    rfl
@[simp] theorem x_zip_ll {xs ys : List D} : fZip [.list xs, .list ys] = some (zipD xs ys) := rfl
@[simp] theorem x_zip_lt {xs ys : List D} : fZip [.list xs, .tuple ys] = some (zipD xs ys) := rfl
@[simp] theorem x_zip_tl {xs ys : List D} : fZip [.tuple xs, .list ys] = some (zipD xs ys) := rfl
end G

/-! isinstance(x, T) -/
namespace G
open PySem PySem.Spec PyProof.Rows L2
def kindD : D → String
  | .none => "NoneType"
  | .bool _ => "bool"
  | .int _ => "int"
  | .str _ => "str"
  | .list _ => "list"
  | .tuple _ => "tuple"
  | .dict _ => "dict"
def isStr : D → Bool | .str _ => true | _ => false
def isInt : D → Bool | .int _ => true | .bool _ => true | _ => false
def isBool : D → Bool | .bool _ => true | _ => false
def isTup : D → Bool | .tuple _ => true | _ => false
def isLst : D → Bool | .list _ => true | _ => false
theorem kb_str_NoneType : kitB "NoneType" "str" = some false := by decide +kernel
theorem kb_str_bool : kitB "bool" "str" = some false := by decide +kernel
theorem kb_str_int : kitB "int" "str" = some false := by decide +kernel
theorem kb_str_str : kitB "str" "str" = some true := by decide +kernel
theorem kb_str_list : kitB "list" "str" = some false := by decide +kernel
theorem kb_str_tuple : kitB "tuple" "str" = some false := by decide +kernel
theorem kb_str_dict : kitB "dict" "str" = some false := by decide +kernel
theorem kb_int_NoneType : kitB "NoneType" "int" = some false := by decide +kernel
theorem kb_int_bool : kitB "bool" "int" = some true := by decide +kernel
theorem kb_int_int : kitB "int" "int" = some true := by decide +kernel
theorem kb_int_str : kitB "str" "int" = some false := by decide +kernel
theorem kb_int_list : kitB "list" "int" = some false := by decide +kernel
theorem kb_int_tuple : kitB "tuple" "int" = some false := by decide +kernel
theorem kb_int_dict : kitB "dict" "int" = some false := by decide +kernel
theorem kb_bool_NoneType : kitB "NoneType" "bool" = some false := by decide +kernel
theorem kb_bool_bool : kitB "bool" "bool" = some true := by decide +kernel
theorem kb_bool_int : kitB "int" "bool" = some false := by decide +kernel
theorem kb_bool_str : kitB "str" "bool" = some false := by decide +kernel
theorem kb_bool_list : kitB "list" "bool" = some false := by decide +kernel
theorem kb_bool_tuple : kitB "tuple" "bool" = some false := by decide +kernel
theorem kb_bool_dict : kitB "dict" "bool" = some false := by decide +kernel
theorem kb_tuple_NoneType : kitB "NoneType" "tuple" = some false := by decide +kernel
theorem kb_tuple_bool : kitB "bool" "tuple" = some false := by decide +kernel
theorem kb_tuple_int : kitB "int" "tuple" = some false := by decide +kernel
theorem kb_tuple_str : kitB "str" "tuple" = some false := by decide +kernel
theorem kb_tuple_list : kitB "list" "tuple" = some false := by decide +kernel
theorem kb_tuple_tuple : kitB "tuple" "tuple" = some true := by decide +kernel
theorem kb_tuple_dict : kitB "dict" "tuple" = some false := by decide +kernel
theorem kb_list_NoneType : kitB "NoneType" "list" = some false := by decide +kernel
theorem kb_list_bool : kitB "bool" "list" = some false := by decide +kernel
theorem kb_list_int : kitB "int" "list" = some false := by decide +kernel
theorem kb_list_str : kitB "str" "list" = some false := by decide +kernel
theorem kb_list_list : kitB "list" "list" = some true := by decide +kernel
theorem kb_list_tuple : kitB "tuple" "list" = some false := by decide +kernel
theorem kb_list_dict : kitB "dict" "list" = some false := by decide +kernel
theorem kd_str : ∀ d : D, kitB (kindD d) "str" = some (isStr d)
  | .none => kb_str_NoneType
  | .bool _ => kb_str_bool
  | .int _ => kb_str_int
  | .str _ => kb_str_str
  | .list _ => kb_str_list
  | .tuple _ => kb_str_tuple
  | .dict _ => kb_str_dict
theorem kd_int : ∀ d : D, kitB (kindD d) "int" = some (isInt d)
  | .none => kb_int_NoneType
  | .bool _ => kb_int_bool
  | .int _ => kb_int_int
  | .str _ => kb_int_str
  | .list _ => kb_int_list
  | .tuple _ => kb_int_tuple
  | .dict _ => kb_int_dict
theorem kd_bool : ∀ d : D, kitB (kindD d) "bool" = some (isBool d)
  | .none => kb_bool_NoneType
  | .bool _ => kb_bool_bool
  | .int _ => kb_bool_int
  | .str _ => kb_bool_str
  | .list _ => kb_bool_list
  | .tuple _ => kb_bool_tuple
  | .dict _ => kb_bool_dict
theorem kd_tuple : ∀ d : D, kitB (kindD d) "tuple" = some (isTup d)
  | .none => kb_tuple_NoneType
  | .bool _ => kb_tuple_bool
  | .int _ => kb_tuple_int
  | .str _ => kb_tuple_str
  | .list _ => kb_tuple_list
  | .tuple _ => kb_tuple_tuple
  | .dict _ => kb_tuple_dict
theorem kd_list : ∀ d : D, kitB (kindD d) "list" = some (isLst d)
  | .none => kb_list_NoneType
  | .bool _ => kb_list_bool
  | .int _ => kb_list_int
  | .str _ => kb_list_str
  | .list _ => kb_list_list
  | .tuple _ => kb_list_tuple
  | .dict _ => kb_list_dict
theorem rep_ty {K : PySem.W.Frag} {B : List Addr} {H : Hp} {v : V} {d : D} (r : Rep K (hid B H) v d) : TyX K H v (.type (kindD d)) := by
  cases r with
  | non => exact .base .non
  | bl b => exact .base (.bl b)
  | int i => exact .base (.int i)
  | str x => exact .base (.str x)
  | lst h1 h2 => exact .base (.lst (hid_some h1).2)
  | tup h1 h2 =>
    rcases h1 with ⟨o, h, _⟩ | ⟨o, us, n, h, hc, _⟩
    · exact .fTuple (hid_some h).2
    · exact .kTuple h hc
section
variable {X : Cx} {ca : String → Addr} {W : WX} {e : Expr} {g : M D}
theorem ev_isi {n : String} {nm : Str} {f : D → Bool} {p p2 pos : Pos} (hf : ∀ d, kitB (kindD d) n = some (f d)) (hg : Gl X "isinstance") (hm : X.mg "isinstance" = none) (hg2 : Gl X nm) (hm2 : X.mg nm = none) (hv2 : bootBuiltins nm = some (.type n)) (he : PE X e (tG X.K ca W g))
    (h1 : starEach [e, .Name nm p2] X.env = (false, eval e X.env) :: starEach [.Name nm p2] X.env := by rfl) (h2 : starEach [.Name nm p2] X.env = (false, eval (.Name nm p2) X.env) :: starEach [] X.env := by rfl)
    (hpl : (backTo pos (starEach [.Name nm p2] X.env)).any (·.1) = false := by rfl) (hn : nm ≠ "__name__" := by decide) (hd : (nm == ("__debug__" : Str)) = false := by decide) (hv : bootBuiltins "isinstance" = some (.builtin "isinstance") := by decide +kernel) :
    PE X (.Call (.Name "isinstance" p) [e, .Name nm p2] [] pos) (tG X.K ca W (c1 (fun d => some (.bool (f d))) g)) :=
  PE.weak (pe_callB call_isi hg hm hv (pa_cons he (pa_cons (pe_bltn (v := .ty n) hg2 hm2 hv2 rfl hn hd) pa_nil h2) h1) (by decide) (by decide) h1 hpl) fun σ H Q ⟨c, ρ, k, S, h⟩ =>
    ⟨c, ρ, k, S, (Res.post_bind h).mono (fun d n1 h1 v H1 g1 r1 => ⟨v, .ty n, .type (kindD d), .type n, f d, rfl, .ty n, rep_ty r1, kit_ty (hf d), h1 (.bl (f d)) H1 g1 (.bl (f d))⟩) (fun e m h => h)⟩
end
@[simp] theorem t_isStr {x : Str} : isStr (.str x) = true := rfl
@[simp] theorem t_isStrT {l : List Nat} : isStr (T l) = true := rfl
@[simp] theorem t_isTup {l : List D} : isTup (.tuple l) = true := rfl
@[simp] theorem t_isInt {i : Int} : isInt (.int i) = true := rfl
@[simp] theorem t_isBool {b : Bool} : isBool (.bool b) = true := rfl
end G

/-! x < y over tuples -/
namespace G
open PySem PySem.Spec PyProof.Rows L2
def rLtD (K : PySem.W.Frag) : R2 := fun x y H Q => ∃ d e, Dp K H x d ∧ Dp K H y e ∧ PySem.W.alike d e = true ∧ d ≠ .none ∧ d.depth ≤ 8 ∧ Q (.bl (PySem.W.dataLt d e)) H
theorem op_ltD {X : Cx} (hu : X.A.units + 64 < cLine) : OpR X (compareOp .Lt) (rLtD X.K) := by
  intro pins s σ H x y v u Q I rx ry h
  obtain ⟨d, e, hd, he, ha, hn, hdp, q⟩ := h
  obtain ⟨as, r1⟩ := Dp.reads I d x v hd rx
  obtain ⟨bs, r2⟩ := Dp.reads I e y u he ry
  exact PySem.W.lt_data r1 r2 ha hn (Nat.lt_of_le_of_lt (Nat.add_le_add_left (Nat.le_trans (Nat.min_le_left _ _) hdp) _) (by omega)) ⟨.bl _, H, I, rfl, q⟩
noncomputable def opLtA : D → D → Option D
  | .tuple xs, .tuple ys => if PySem.W.alike (.tuple xs) (.tuple ys) = true ∧ (PyData.tuple xs).depth ≤ 8 then some (.bool (PySem.W.dataLt (.tuple xs) (.tuple ys))) else none
  | a, b => opLt a b
abbrev rLt0 : R2 := rCmp (fun i j => decide (i < j)) fun x y => decide (x.cps.toList < y.cps.toList)
theorem or_ltA {X : Cx} (hu : X.A.units + 64 < cLine) : OpR X (compareOp .Lt) (fun x y H Q => rLtD X.K x y H Q ∨ rLt0 x y H Q) := OpR.or (op_ltD hu) or_lt
theorem o_ltA {K : PySem.W.Frag} : Op2 K (fun x y H Q => rLtD K x y H Q ∨ rLt0 x y H Q) opLtA := by
  intro B H x y a b d Q all ra rb e q
  by_cases hs : ∃ xs ys, a = .tuple xs ∧ b = .tuple ys
  · obtain ⟨xs, ys, rfl, rfl⟩ := hs
    have e' : (if PySem.W.alike (.tuple xs) (.tuple ys) = true ∧ (PyData.tuple xs).depth ≤ 8 then some (PyData.bool (PySem.W.dataLt (.tuple xs) (.tuple ys))) else none) = some d := e
    split at e'
    · rename_i hz
      cases e'
      exact .inl ⟨_, _, Rep.dp (fun _ _ => hid_sub) _ _ ra, Rep.dp (fun _ _ => hid_sub) _ _ rb, hz.1, nofun, hz.2, q _ H (Same.refl H) (.bl _)⟩
    · cases e'
  · have e' : opLt a b = some d := by
      rw [← e]
      unfold opLtA
      split
      · rename_i xs ys; exact (hs ⟨xs, ys, rfl, rfl⟩).elim
      · rfl
    exact .inr (o_lt B H x y a b d Q all ra rb e' q)
theorem x_ltA {xs ys : List D} (ha : PySem.W.alike (.tuple xs) (.tuple ys) = true) (hd : (PyData.tuple xs).depth ≤ 8) : opLtA (.tuple xs) (.tuple ys) = some (.bool (PySem.W.dataLt (.tuple xs) (.tuple ys))) := by
  show (if PySem.W.alike (.tuple xs) (.tuple ys) = true ∧ (PyData.tuple xs).depth ≤ 8 then _ else _) = _
  rw [if_pos ⟨ha, hd⟩]
end G

/-! module constants that are tuples of texts -/
namespace G
open PySem PySem.Spec PyProof.Rows L2
theorem const_tup {K : PySem.W.Frag} {a : Addr} {us : Array Value} {n : Nat} {sl : Array (Option Value)} {ss : List Str} (h : K.lookup a = some ⟨.type "tuple", none, .seq us n, sl⟩) (hs : us.size ≤ sizeLine) (hv : Vals (ss.map V.str) us.toList) (H : Hp) :
    Rep K H (.ref a) (.tuple (ss.map PyData.str)) := by
  refine .tup (.inr ⟨_, us, n, h, rfl, rfl, rfl, hs, hv⟩) ?_
  have : ∀ ss : List Str, RepAll K H (ss.map V.str) (ss.map PyData.str) := by
    intro ss
    induction ss with
    | nil => exact .nil
    | cons s r ih => exact .cons (.str s) ih
  exact this ss
theorem vals_s0 : Vals (([] : List Str).map V.str) [] := .nil
theorem vals_s1 {s : Str} {ss : List Str} {t : Tok} {us : List Value} (h : Vals (ss.map V.str) us) : Vals ((s :: ss).map V.str) (.str s t :: us) := .cons ⟨t, rfl⟩ h
end G

/-! tuple(range(k)), list(range(k)) -/
namespace G
open PySem PySem.Spec PyProof.Rows L2
section
variable {X : Cx} {ca : String → Addr} {W : WX} {e : Expr} {g : M D}
def tTupRgP (te : L2.St → Hp → (Int → Int → Hp → Prop) → Prop) : TE := fun σ H Q => te σ H fun a b H1 => RgOk a b ∧ ∀ (q : Addr) (o : Obj), o.dict = none → H1 q = none → Q (.ref q) (upd H1 q (.frz o (.tup (rgV a b))))
theorem pe_tupRgP {te : L2.St → Hp → (Int → Int → Hp → Prop) → Prop} {p pos : Pos} (hc : X.calm = true) (hg : Gl X "tuple") (hm : X.mg "tuple" = none) (he : PRg X e te) (na : starEach [e] X.env = (false, eval e X.env) :: starEach [] X.env := by rfl) : PE X (.Call (.Name "tuple" p) [e] [] pos) (tTupRgP te) := by
  refine ⟨fun pins s σ H Q I h => ?_⟩
  refine Call_ (ld_blt I hg hm boot_tuple (PyProof.Rows.callWith_type1 (args_cons (thn (he pins s σ H _ I h) fun x s1 ⟨r, a, b, t, u, v, H1, ex, hr, I1, ok, q⟩ => args_nil ?_) na) na))
  subst ex
  obtain ⟨b1, b2, b3, b4, b5⟩ := ok
  refine call_tuple_range (n := (b - a).toNat) (I1.ok.hd hc) hr (small_one b1 b2 b3 b4) (rangeSize_nat a b) b5 fun h' tk acc hk hi => ?_
  have I2 : Inv X pins σ H1 { s1 with heap := h', toks := tk } := I1.kept hk
  have ea : acc = acc.toList.toArray := by simp
  rw [ea]
  exact ⟨.ref h'.objs.size, _, I2.laid (t' := tk) (fun c o e => Heap.get?_push_of_some _ e) (Nat.le_refl _) (plain_ok (by rw [rgV_length, sizeLine_eq]; omega) (vals_rg hi)), rfl, q _ _ rfl (I2.hok.fresh (Nat.le_refl _))⟩
theorem rg_rep {K : PySem.W.Frag} {H : Hp} (k : Nat) : RepAll K H (rgV 0 (k : Int)) (rngL 0 k) := by
  unfold rgV rngL
  have e : ((k : Int) - 0).toNat = k := by omega
  rw [e]
  generalize List.range k = l
  induction l with
  | nil => exact .nil
  | cons a r ih => exact .cons (.int _) ih
noncomputable def fTupRg : D → Option D
  | .int k => @ite _ (0 ≤ k ∧ k ≤ 1000000) (Classical.propDecidable _) (some (.tuple (rngL 0 k.toNat))) none
  | _ => none
noncomputable def fLstRg : D → Option (List D)
  | .int k => @ite _ (0 ≤ k ∧ k ≤ 1000000) (Classical.propDecidable _) (some (rngL 0 k.toNat)) none
  | _ => none
noncomputable def cLstRg (g : M D) : M (List D) := fun ρ n => (g ρ n).bind fun d n1 => Res.lift (fLstRg d) n1
@[simp] theorem e_cLstRg {ρ : G.Env} {n : Nat} : cLstRg g ρ n = (g ρ n).bind fun d n1 => Res.lift (fLstRg d) n1 := rfl
theorem ev_tupRg {p p2 pos pos2 : Pos} (hc : X.calm = true) (hg : Gl X "tuple") (hm : X.mg "tuple" = none) (hg2 : Gl X "range") (hm2 : X.mg "range" = none) (he : PE X e (tG X.K ca W g)) (na : starEach [e] X.env = (false, eval e X.env) :: starEach [] X.env := by rfl)
    (nb : starEach [(.Call (.Name "range" p2) [e] [] pos2 : Expr)] X.env = (false, eval (.Call (.Name "range" p2) [e] [] pos2) X.env) :: starEach [] X.env := by rfl) : PE X (.Call (.Name "tuple" p) [.Call (.Name "range" p2) [e] [] pos2] [] pos) (tG X.K ca W (c1 fTupRg g)) :=
  PE.weak (pe_tupRgP hc hg hm (prg_1 hg2 hm2 he na) nb) fun σ H Q ⟨c, ρ, k, S, h⟩ =>
    ⟨c, ρ, k, S, (Res.post_bind h).mono (fun d n1 h1 v H1 g1 r1 => by
      cases r1 with
      | int j =>
        have h2 : (Res.lift (@ite _ (0 ≤ j ∧ j ≤ 1000000) (Classical.propDecidable _) (some (PyData.tuple (rngL 0 j.toNat))) none) n1).Post _ _ := h1
        by_cases hz : 0 ≤ j ∧ j ≤ 1000000
        · rw [if_pos hz] at h2
          obtain ⟨i, rfl⟩ := Int.eq_ofNat_of_zero_le hz.1
          refine ⟨(i : Int), rfl, RgOk.of_le (by omega) (by omega) (by omega) (by omega), fun q o ho hq => ?_⟩
          have S1 := S.ext g1
          exact h2 (.ref q) _ (g1.trans (S1.pure (same_upd hq))) (new_tup ho S1.all hq (rg_rep i))
        · rw [if_neg hz] at h2
          exact h2.elim
      | _ => exact h1.elim) (fun e m h => h)⟩
theorem ef_lstRg {p p2 pos pos2 : Pos} (hc : X.calm = true) (hg : Gl X "list") (hm : X.mg "list" = none) (hg2 : Gl X "range") (hm2 : X.mg "range" = none) (he : PE X e (tG X.K ca W g)) (na : starEach [e] X.env = (false, eval e X.env) :: starEach [] X.env := by rfl)
    (nb : starEach [(.Call (.Name "range" p2) [e] [] pos2 : Expr)] X.env = (false, eval (.Call (.Name "range" p2) [e] [] pos2) X.env) :: starEach [] X.env := by rfl) : PE X (.Call (.Name "list" p) [.Call (.Name "range" p2) [e] [] pos2] [] pos) (tGF X.K ca W (cLstRg g)) :=
  PE.weak (pe_listRg hc hg hm (prg_1 hg2 hm2 he na) nb) fun σ H Q ⟨c, ρ, k, S, h⟩ =>
    ⟨c, ρ, k, S, (Res.post_bind h).mono (fun d n1 h1 v H1 g1 r1 => by
      cases r1 with
      | int j =>
        have h2 : (Res.lift (@ite _ (0 ≤ j ∧ j ≤ 1000000) (Classical.propDecidable _) (some (rngL 0 j.toNat)) none) n1).Post _ _ := h1
        by_cases hz : 0 ≤ j ∧ j ≤ 1000000
        · rw [if_pos hz] at h2
          obtain ⟨i, rfl⟩ := Int.eq_ofNat_of_zero_le hz.1
          refine ⟨(i : Int), rfl, RgOk.of_le (by omega) (by omega) (by omega) (by omega), fun q hq => ?_⟩
          have S1 := S.ext g1
          exact h2 q _ _ (g1.trans (S1.pure (same_upd hq))) (fresh_back g1 S.tB' S1.all hq) upd_same (rg_rep i)
        · rw [if_neg hz] at h2
          exact h2.elim
      | _ => exact h1.elim) (fun e m h => h)⟩
end
theorem x_tupRg {k : Nat} (h : k ≤ 1000000) : fTupRg (.int (k : Int)) = some (.tuple ((List.range k).map encN)) := by
  show (@ite _ (0 ≤ (k : Int) ∧ (k : Int) ≤ 1000000) (Classical.propDecidable _) (some (PyData.tuple (rngL 0 (k : Int).toNat))) none) = _
  rw [if_pos ⟨by omega, by omega⟩, Int.toNat_natCast, rng_N]
theorem x_lstRg {k : Nat} (h : k ≤ 1000000) : fLstRg (.int (k : Int)) = some ((List.range k).map encN) := by
  show (@ite _ (0 ≤ (k : Int) ∧ (k : Int) ≤ 1000000) (Classical.propDecidable _) (some (rngL 0 (k : Int).toNat)) none) = _
  rw [if_pos ⟨by omega, by omega⟩, Int.toNat_natCast, rng_N]
end G

/-! x in t, t a tuple of data of any depth -/
namespace G
open PySem PySem.Spec PyProof.Rows L2
def rInT (K : PySem.W.Frag) (neg : Bool) : R2 := fun x y H Q => ∃ d ds, Dp K H x d ∧ Dp K H y (.tuple ds) ∧ SeqAt.shaped d = true ∧ SeqAt.shaped (.tuple ds) = true ∧ Q (.bl (if neg then !(ds.any fun z => PyData.eqv z d) else ds.any fun z => PyData.eqv z d)) H
theorem op_inT {X : Cx} (hu : X.A.units + 65 < cLine) : OpR X (compareOp .In) (rInT X.K false) := by
  intro pins s σ H x y v u Q I rx ry h
  obtain ⟨d, ds, hd, he, sd, se, q⟩ := h
  obtain ⟨as, r1⟩ := Dp.reads I d x v hd rx
  obtain ⟨bs, r2⟩ := Dp.reads I (.tuple ds) y u he ry
  exact SeqAt.in_tuple_reads r2 r1 (by have := SeqAt.canLay_of_shaped se; simpa [PyData.canLay0] using this) (SeqAt.canLay_of_shaped sd) (Nat.lt_of_le_of_lt (Nat.add_le_add_left (Nat.le_trans (Nat.min_le_right _ _) (SeqAt.depth_of_shaped sd)) _) (by omega)) ⟨.bl _, H, I, rfl, q⟩
theorem op_notInT {X : Cx} (hu : X.A.units + 65 < cLine) : OpR X (compareOp .NotIn) (rInT X.K true) := by
  intro pins s σ H x y v u Q I rx ry h
  obtain ⟨d, ds, hd, he, sd, se, q⟩ := h
  obtain ⟨as, r1⟩ := Dp.reads I d x v hd rx
  obtain ⟨bs, r2⟩ := Dp.reads I (.tuple ds) y u he ry
  exact SeqAt.notIn_tuple_reads r2 r1 (by have := SeqAt.canLay_of_shaped se; simpa [PyData.canLay0] using this) (SeqAt.canLay_of_shaped sd) (Nat.lt_of_le_of_lt (Nat.add_le_add_left (Nat.le_trans (Nat.min_le_right _ _) (SeqAt.depth_of_shaped sd)) _) (by omega)) ⟨.bl _, H, I, rfl, q⟩
/-- over a tuple; over all else as opIn -/
def opInA : D → D → Option D
  | a, .tuple ds => if SeqAt.shaped a = true ∧ SeqAt.shaped (.tuple ds) = true then some (.bool (ds.any fun z => PyData.eqv z a)) else none
  | a, b => opIn a b
def opNotInA : D → D → Option D
  | a, .tuple ds => if SeqAt.shaped a = true ∧ SeqAt.shaped (.tuple ds) = true then some (.bool (!ds.any fun z => PyData.eqv z a)) else none
  | a, b => opNotIn a b
theorem or_inA {X : Cx} {k : Nat} (hr : Room k X.A) : OpR X (compareOp .In) (fun x y H Q => rInA X.K false x y H Q ∨ rInT X.K false x y H Q) := OpR.or (or_in hr) (op_inT (by have := hr.un; omega))
theorem or_notInA {X : Cx} {k : Nat} (hr : Room k X.A) : OpR X (compareOp .NotIn) (fun x y H Q => rInA X.K true x y H Q ∨ rInT X.K true x y H Q) := OpR.or (or_notIn hr) (op_notInT (by have := hr.un; omega))
theorem o_inA {K : PySem.W.Frag} : Op2 K (fun x y H Q => rInA K false x y H Q ∨ rInT K false x y H Q) opInA := by
  intro B H x y a b d Q all ra rb e q
  by_cases hs : ∃ ds, b = .tuple ds
  · obtain ⟨ds, rfl⟩ := hs
    have e' : (if SeqAt.shaped a = true ∧ SeqAt.shaped (.tuple ds) = true then some (PyData.bool (ds.any fun z => PyData.eqv z a)) else none) = some d := e
    split at e'
    · rename_i hz
      cases e'
      exact .inr ⟨a, ds, Rep.dp (fun _ _ => hid_sub) _ _ ra, Rep.dp (fun _ _ => hid_sub) _ _ rb, hz.1, hz.2, q _ H (Same.refl H) (.bl _)⟩
    · cases e'
  · have e' : opIn a b = some d := by
      rw [← e]
      unfold opInA
      split
      · rename_i ds; exact (hs ⟨ds, rfl⟩).elim
      · rfl
    exact .inl (o_in B H x y a b d Q all ra rb e' q)
theorem o_notInA {K : PySem.W.Frag} : Op2 K (fun x y H Q => rInA K true x y H Q ∨ rInT K true x y H Q) opNotInA := by
  intro B H x y a b d Q all ra rb e q
  by_cases hs : ∃ ds, b = .tuple ds
  · obtain ⟨ds, rfl⟩ := hs
    have e' : (if SeqAt.shaped a = true ∧ SeqAt.shaped (.tuple ds) = true then some (PyData.bool (!ds.any fun z => PyData.eqv z a)) else none) = some d := e
    split at e'
    · rename_i hz
      cases e'
      exact .inr ⟨a, ds, Rep.dp (fun _ _ => hid_sub) _ _ ra, Rep.dp (fun _ _ => hid_sub) _ _ rb, hz.1, hz.2, q _ H (Same.refl H) (.bl _)⟩
    · cases e'
  · have e' : opNotIn a b = some d := by
      rw [← e]
      unfold opNotInA
      split
      · rename_i ds; exact (hs ⟨ds, rfl⟩).elim
      · rfl
    exact .inl (o_notIn B H x y a b d Q all ra rb e' q)
theorem x_inA_t {α : Type} {e : α → D} (h : EqE e) {a : α} {l : List α} (ha : okD 60 (e a)) (hl : ∀ b ∈ l, okD 59 (e b)) : ∃ k, opInA (e a) (.tuple (l.map e)) = some (.bool k) ∧ opNotInA (e a) (.tuple (l.map e)) = some (.bool !k) ∧ (k = true ↔ a ∈ l) := by
  refine ⟨_, ?_, ?_, any_X h a l⟩
  · show (if SeqAt.shaped (e a) = true ∧ SeqAt.shaped (.tuple (l.map e)) = true then some (PyData.bool _) else none) = _
    rw [if_pos ⟨ha.sh, (okD_tm hl).sh⟩]
  · show (if SeqAt.shaped (e a) = true ∧ SeqAt.shaped (.tuple (l.map e)) = true then some (PyData.bool _) else none) = _
    rw [if_pos ⟨ha.sh, (okD_tm hl).sh⟩]
end G

/-! x[i], x[j] = e, x an own list -/
namespace G
open PySem PySem.Spec PyProof.Rows L2
def putK (i : Nat) (gi : M D) (d : D) (k : MS) : MS := fun ρ n => match ρ[i]? with
  | some (some (.own xs)) => ofR (gi ρ n) ρ fun z n2 => match z with
    | .int q => match ixN xs.length q with
      | some j => k (ρ.set i (some (.own (xs.set j d)))) n2
      | none => .bad
    | _ => .bad
  | _ => .bad
def sPut2 (i : Nat) (g1 g2 gv : M D) : MS := fun ρ n => ofR (gv ρ n) ρ fun z n1 => match z with
  | .tuple [a, b] => putK i g1 a (putK i g2 b sNx) ρ n1
  | _ => .bad
section
variable {X : Cx} {ca : String → Addr} {W : WX} {e : Expr} {pos : Pos} {gv : M D}
theorem put_step {c : Fm} {σ : L2.St} {H : Hp} {ρ : G.Env} {n i : Nat} {w : V} {d : D} {gi : M D} {k : MS} {E : Ends} {Q : L2.St → Hp → Prop} (S : SR X.K c σ H ρ n) (r : Rep X.K (hid c.B H) w d) (h : OPost X.K ca W c H (putK i gi d k ρ n) E)
    (hk : ∀ H3 ρ3 n3, SR X.K c σ H3 ρ3 n3 → Sees c.B H c.B H3 → OPost X.K ca W c H (k ρ3 n3) E → Q σ H3) :
    gSub (tVar i) (tG X.K ca W gi) rSetL w σ H Q := by
  unfold putK at h
  split at h
  · rename_i xs q
    obtain ⟨v, hσ, a, vs, rfl, ha, h0, hl, hr⟩ := S.slot i _ q
    refine ⟨_, hσ, c, ρ, n, S, (post_ofR S h).mono (fun z n2 h2 zv H2 g2 r2 => ?_) (fun e m h => h)⟩
    have S2 := S.ext g2
    have hl2 : H2 a = some (.lst vs) := g2.ext a _ hl fun z => S.old _ S.tB (z ▸ h0)
    split at h2
    · rename_i kq
      split at h2
      · rename_i j hj
        cases r2
        have hr2 := Rep.monoAll (g2.sees S.tB') _ _ hr
        refine ⟨a, vs, kq, j, rfl, rfl, hl2, by rw [hr.length]; exact hj, ?_⟩
        have se : ∀ b o, hid c.B H2 b = some o → hid c.B (upd H2 a (.lst (vs.set j w))) b = some o := fun b o z => by
          obtain ⟨z1, z2⟩ := hid_some z
          have ne : b ≠ a := fun z => z1 (by rw [z]; exact ha)
          exact hid_of z1 (by rw [upd_ne ne]; exact z2)
        obtain ⟨S3, s3⟩ := S2.put (l' := .own (xs.set j d)) (o := .lst (vs.set j w)) q rfl rfl hσ ha h0 ⟨a, _, rfl, ha, h0, upd_same, RepAll.set (Rep.mono se _ _ (Rep.mono (g2.sees S.tB') _ _ r)) j (Rep.monoAll se _ _ hr2)⟩
        exact hk _ _ _ S3 ((g2.sees S.tB').trans s3) h2
      · exact h2.elim
    · exact h2.elim
  · exact h.elim
theorem es_put2 {i kt : Nat} {x : Str} {p1 p2 t1 t2 tpos : Pos} {g1 g2 : M D} {ie1 ie2 : Expr} (hc : X.calm = true) (he : PE X e (tG X.K ca W gv)) (h1 : PE X ie1 (tG X.K ca W g1)) (h2 : PE X ie2 (tG X.K ca W g2)) (hN : X.N[i]? = some x := by rfl) (hv : Vis X.env.scope x := by first | exact Or.inl rfl | exact Or.inr (Or.inl rfl) | exact Or.inr (Or.inr rfl)) (hd : (x == ("__debug__" : Str)) = false := by decide)
    (hcd : (x == ("__classdict__" : Str)) = false := by decide)
    (hs : swapsWithSole [.Tuple [.Subscript (.Name x p1) ie1 t1, .Subscript (.Name x p2) ie2 t2] kt tpos] e pos.line X.env = pure false := by rfl) (hw : swappedStores [.Tuple [.Subscript (.Name x p1) ie1 t1, .Subscript (.Name x p2) ie2 t2] kt tpos] e X.env = pure none := by rfl)
    (ha : (assignEach [.Tuple [.Subscript (.Name x p1) ie1 t1, .Subscript (.Name x p2) ie2 t2] kt tpos] X.env).map (·.2) = [assign (.Tuple [.Subscript (.Name x p1) ie1 t1, .Subscript (.Name x p2) ie2 t2] kt tpos) X.env] := by rfl)
    (hn : (assignEach [.Subscript (.Name x p1) ie1 t1, .Subscript (.Name x p2) ie2 t2] X.env).length = 2 := by rfl) (hst : (assignEach [.Subscript (.Name x p1) ie1 t1, .Subscript (.Name x p2) ie2 t2] X.env).findIdx? (·.1) = none := by rfl)
    (ha1 : ∀ v, assign (.Subscript (.Name x p1) ie1 t1) X.env v = (do
      let ov ← holding [v] (eval (.Name x p1) X.env)
      let iv ← holding [v, ov] (eval ie1 X.env)
      standAt t1
      holding [v, ov, iv] (setItem ov iv v)
      release [v, ov, iv] []) := by intro _; rfl)
    (ha2 : ∀ v, assign (.Subscript (.Name x p2) ie2 t2) X.env v = (do
      let ov ← holding [v] (eval (.Name x p2) X.env)
      let iv ← holding [v, ov] (eval ie2 X.env)
      standAt t2
      holding [v, ov, iv] (setItem ov iv v)
      release [v, ov, iv] []) := by intro _; rfl)
    (he1 : assignEach [.Subscript (.Name x p1) ie1 t1, .Subscript (.Name x p2) ie2 t2] X.env = (false, assign (.Subscript (.Name x p1) ie1 t1) X.env) :: assignEach [.Subscript (.Name x p2) ie2 t2] X.env := by rfl)
    (he2 : assignEach [.Subscript (.Name x p2) ie2 t2] X.env = (false, assign (.Subscript (.Name x p2) ie2 t2) X.env) :: assignEach [] X.env := by rfl) :
    PS X (.Assign [.Tuple [.Subscript (.Name x p1) ie1 t1, .Subscript (.Name x p2) ie2 t2] kt tpos] e pos) (tS X.K ca W (sPut2 i g1 g2 gv)) :=
  PS.weak (ps_asg he (pg_seq hc (pgs_cons (pg_sub (pe_var hN hv hd hcd) h1 set_list ha1) (pgs_cons (pg_sub (pe_var hN hv hd hcd) h2 set_list ha2) pgs_nil)) hn hst) hs hw ha) fun E σ H ⟨c, ρ, n, S, h⟩ => ⟨c, ρ, n, S, (post_ofR S h).mono (fun z n1 hz w H1 gg r1 => by
    have S1 := S.ext gg
    have hz' := hz.at (gg.sees S.tB')
    cases r1 with
    | @tup a xs ds hp hr =>
      cases hr with
      | nil => exact hz'.elim
      | @cons va vs da ds ra r2 =>
        cases r2 with
        | nil => exact hz'.elim
        | @cons vb vs db ds rb r3 =>
          cases r3 with
          | cons _ _ => exact hz'.elim
          | nil =>
            refine .inl ⟨a, [va, vb], rfl, sqT_mono (fun _ _ => hid_sub) hp.sq, rfl, va, [vb], rfl, put_step S1 ra hz' fun H3 ρ3 n3 S3 s3 h3 => ⟨vb, [], rfl, put_step S3 (Rep.mono s3 _ _ rb) (h3.at s3) fun H4 ρ4 n4 S4 s4 h4 => ⟨rfl, h4 σ H4 c.B S4 s4⟩⟩⟩
    | _ => exact hz'.elim) (fun e m h => h)⟩
end
@[simp] theorem e_putK {i : Nat} {gi : M D} {d : D} {k : MS} {ρ : G.Env} {n : Nat} : putK i gi d k ρ n = match ρ[i]? with
  | some (some (.own xs)) => ofR (gi ρ n) ρ fun z n2 => match z with
    | .int q => match ixN xs.length q with
      | some j => k (ρ.set i (some (.own (xs.set j d)))) n2
      | none => .bad
    | _ => .bad
  | _ => .bad := rfl
@[simp] theorem e_sPut2 {i : Nat} {g1 g2 gv : M D} {ρ : G.Env} {n : Nat} : sPut2 i g1 g2 gv ρ n = ofR (gv ρ n) ρ fun z n1 => match z with
  | .tuple [a, b] => putK i g1 a (putK i g2 b sNx) ρ n1
  | _ => .bad := rfl
end G

/-! x is True, x is not True, x a truth -/
namespace G
open PySem PySem.Spec PyProof.Rows L2
theorem op_isB {X : Cx} : OpR X (compareOp .Is) (fun x y H Q => ∃ i j, x = .bl i ∧ y = .bl j ∧ Q (.bl (decide (i = j))) H) := by
  intro pins s σ H x y v u Q I rx ry h
  obtain ⟨m, n, rfl, rfl, q⟩ := h
  cases rx
  cases ry
  by_cases e : m = n
  · subst e
    exact wpAny_is_self rfl ⟨.bl true, H, I, rfl, by simpa using q⟩
  · exact wpAny_is_other rfl (fun z => e (Value.bool.inj z)) ⟨.bl false, H, I, rfl, by simpa [e] using q⟩
theorem op_isNotB {X : Cx} : OpR X (compareOp .IsNot) (fun x y H Q => ∃ i j, x = .bl i ∧ y = .bl j ∧ Q (.bl (!decide (i = j))) H) := by
  intro pins s σ H x y v u Q I rx ry h
  obtain ⟨m, n, rfl, rfl, q⟩ := h
  cases rx
  cases ry
  by_cases e : m = n
  · subst e
    exact wpAny_isNot_self rfl ⟨.bl false, H, I, rfl, by simpa using q⟩
  · exact wpAny_isNot_other rfl (fun z => e (Value.bool.inj z)) ⟨.bl true, H, I, rfl, by simpa [e] using q⟩
def opIsB : D → D → Option D
  | .bool i, .bool j => some (.bool (decide (i = j)))
  | _, _ => none
def opIsNotB : D → D → Option D
  | .bool i, .bool j => some (.bool (!decide (i = j)))
  | _, _ => none
section
variable {K : PySem.W.Frag}
theorem o_isB : Op2 K (fun x y H Q => ∃ i j, x = .bl i ∧ y = .bl j ∧ Q (.bl (decide (i = j))) H) opIsB := by
  intro B H x y a b d Q all ra rb e q
  cases a <;> cases b <;> first | (cases e; done) | skip
  cases e
  cases ra
  cases rb
  exact ⟨_, _, rfl, rfl, q _ H (Same.refl H) (.bl _)⟩
theorem o_isNotB : Op2 K (fun x y H Q => ∃ i j, x = .bl i ∧ y = .bl j ∧ Q (.bl (!decide (i = j))) H) opIsNotB := by
  intro B H x y a b d Q all ra rb e q
  cases a <;> cases b <;> first | (cases e; done) | skip
  cases e
  cases ra
  cases rb
  exact ⟨_, _, rfl, rfl, q _ H (Same.refl H) (.bl _)⟩
end
@[simp] theorem x_isB {i j : Bool} : opIsB (.bool i) (.bool j) = some (.bool (decide (i = j))) := rfl
@[simp] theorem x_isNotB {i j : Bool} : opIsNotB (.bool i) (.bool j) = some (.bool (!decide (i = j))) := rfl
end G

/-! t.index(k): a tuple of whole numbers -/
namespace G
open PySem PySem.Spec PyProof.Rows L2
def tMT (K : PySem.W.Frag) (r : V → List V → Hp → VK → Prop) (to te : TE) : TE := fun σ H Q => to σ H fun x H1 => (∃ p xs, x = .ref p ∧ PlT K H1 p xs) ∧ te σ H1 fun y H2 => r x [y] H2 Q
section
variable {X : Cx} {ca : String → Addr} {W : WX} {e o : Expr} {to te : TE}
theorem pe_mT {id : String} {name : Str} {apos pos : Pos} {r : V → List V → Hp → VK → Prop} (slot : Slot "tuple" name id) (ty : typeOf (.builtin id) = pure (.type "method_descriptor")) (rule : MtR X id r) (ho : PE X o to) (he : PE X e te)
    (hs : starEach [e] X.env = [(false, eval e X.env)] := by rfl) (hbase : attributeBase o name X.env (eval o X.env) = eval o X.env := by rfl) (hline : (apos.endLine == pos.line) = true := by rfl) :
    PE X (.Call (.Attribute o name apos) [e] [] pos) (tMT X.K r to te) := by
  refine ⟨fun pins s σ H Q I h => ?_⟩
  refine PySem.Call_method1 hbase hs hline (thn (ho.run pins s σ H _ I h) fun v s1 ⟨x, H1, I1, r1, q1⟩ => ?_)
  obtain ⟨⟨p, xs, rfl, hp⟩, q1⟩ := q1
  have r1' := r1
  cases r1
  obtain ⟨ob, us, n, h1, h2, h3, h4, h5, h6⟩ := plT_at I1 hp
  refine ⟨"tuple", _, PySem.F.plainAttrs_tuple, slot, ty, ⟨ob, h1, h2⟩, (fun a e => by cases e; exact ⟨ob, h1, h3⟩), Calls.callWith_builtin rfl (Calls.evalArgs_plain (Calls.spliced_cons ?_))⟩
  exact thn (he.run pins s1 σ H1 _ I1 q1) fun u s2 ⟨y, H2, I2, r2, q2⟩ => Calls.spliced_nil (rule pins s2 σ H2 _ [y] _ [u] Q I2 r1' (.cons r2 .nil) q2)
theorem vals_ints : ∀ {ns : List Int} {us : List Value}, Vals (ns.map V.int) us → IntsAre us ns
  | [], _, h => by cases h; exact .nil
  | i :: ns, _, h => by
    cases h with
    | cons a b =>
      obtain ⟨t, rfl⟩ := a
      exact .cons _ t (vals_ints b)
theorem mt_tix : MtR X "tuple.index" (fun x xs H Q => ∃ p, ∃ ns : List Int, ∃ k, x = .ref p ∧ xs = [.int k] ∧ SqT X.K H p (ns.map V.int) ∧ k ∈ ns ∧ Q (.int (ns.idxOf k : Nat)) H) := by
  intro pins s σ H x xs v us Q I rx rs h
  obtain ⟨p, ns, k, rfl, rfl, hq, hk, q⟩ := h
  cases rx
  obtain ⟨u, rfl, t, rfl⟩ := vals1 rs
  obtain ⟨its, r, pl, hz⟩ := I.tuple hq
  exact PySem.SeqAt.tuple_index_ints pl (vals_ints r) hk ⟨.int _, H, I.tok _, ⟨_, rfl⟩, q⟩
end
def cTIx (go ge : M D) : M D := fun ρ n => (go ρ n).bind fun a n1 => match a with
  | .tuple ds => (ge ρ n1).bind fun b n2 => match intsOf ds, b with
    | some ns, .int k => if k ∈ ns then .ok (.int (ns.idxOf k : Nat)) n2 else .bad
    | _, _ => .bad
  | _ => .bad
theorem repAll_ints {K : PySem.W.Frag} {H : Hp} : ∀ {ns : List Int} {xs : List V}, RepAll K H xs (ns.map PyData.int) → xs = ns.map V.int
  | [], _, h => by cases h; rfl
  | i :: ns, _, h => by
    cases h with
    | cons a b => cases a; rw [repAll_ints b]; rfl
section
variable {X : Cx} {ca : String → Addr} {W : WX} {e : Expr} {pos : Pos}
theorem ev_tix {o : Expr} {go ge : M D} {apos : Pos} (ho : PE X o (tG X.K ca W go)) (he : PE X e (tG X.K ca W ge))
    (hs : starEach [e] X.env = [(false, eval e X.env)] := by rfl) (hbase : attributeBase o "index" X.env (eval o X.env) = eval o X.env := by rfl) (hline : (apos.endLine == pos.line) = true := by rfl) :
    PE X (.Call (.Attribute o "index" apos) [e] [] pos) (tG X.K ca W (cTIx go ge)) :=
  PE.weak (pe_mT PySem.F.slot_tuple_index PySem.F.type_tuple_index mt_tix ho he hs hbase hline) fun σ H Q ⟨c, ρ, n, S, h⟩ => by
    refine ⟨c, ρ, n, S, (Res.post_bind h).mono (fun a n1 h1 x H1 g1 r1 => ?_) (fun e m h => h)⟩
    have S1 := S.ext g1
    split at h1
    · rename_i ds
      cases r1 with
      | @tup p xs ds k1 k2 =>
        refine ⟨⟨p, xs, rfl, plT_mono (fun _ _ => hid_sub) k1⟩, c, ρ, n1, S1, (Res.post_bind h1).mono (fun b n2 h2 y H2 g2 r2 => ?_) (fun e m h => exK.at h g1)⟩
        have S2 := S1.ext g2
        split at h2
        · rename_i ns k q
          cases r2
          split at h2
          · rename_i hk
            rw [intsOf_eq q] at k2
            have ex := repAll_ints k2
            subst ex
            have k1' := plT_mono (g2.sees S1.tB') k1
            refine ⟨p, ns, k, rfl, rfl, (plT_mono (fun _ _ => hid_sub) k1').sq, hk, ?_⟩
            exact h2 _ H2 (g1.trans g2) (.int _)
          · exact h2.elim
        · exact h2.elim
    · exact h1.elim
end
section
variable {ρ : G.Env} {n : Nat} {ga gb : M D}
theorem intsOf_N : ∀ ns : List Nat, intsOf (ns.map encN) = some (ns.map fun k : Nat => (k : Int))
  | [] => rfl
  | k :: r => by
    show (intsOf (r.map encN)).map ((k : Int) :: ·) = _
    rw [intsOf_N r]
    rfl
theorem idx_N (k : Nat) : ∀ ns : List Nat, (ns.map fun k : Nat => (k : Int)).idxOf (k : Int) = ns.idxOf k
  | [] => rfl
  | a :: r => by
    rw [List.map_cons, List.idxOf_cons, List.idxOf_cons, idx_N k r]
    by_cases h : a = k
    · rw [h]; simp
    · have h2 : ¬ (a : Int) = (k : Int) := by omega
      rw [beq_eq_false_iff_ne.mpr h, beq_eq_false_iff_ne.mpr h2]
theorem e_cTIx {ns : List Nat} {k n1 n2 : Nat} (h1 : ga ρ n = .ok (.tuple (ns.map encN)) n1) (h2 : gb ρ n1 = .ok (encN k) n2) (hk : k ∈ ns) : cTIx ga gb ρ n = .ok (encN (ns.idxOf k)) n2 := by
  have e1 : cTIx ga gb ρ n = ((gb ρ n1).bind fun b n2 => match intsOf (ns.map encN), b with
    | some ns, .int k => if k ∈ ns then .ok (.int (ns.idxOf k : Nat)) n2 else .bad
    | _, _ => .bad) := by
    unfold cTIx
    rw [h1]
    rfl
  rw [e1, h2, intsOf_N]
  show (if (k : Int) ∈ ns.map (fun k : Nat => (k : Int)) then Res.ok (PyData.int ((ns.map fun k : Nat => (k : Int)).idxOf (k : Int) : Nat)) n2 else .bad) = _
  rw [if_pos (List.mem_map.mpr ⟨k, hk, rfl⟩), idx_N]
  rfl
end
end G

/-! x > y over tuples; a list lent that may be data by now -/
namespace G
open PySem PySem.Spec PyProof.Rows L2
def rGtD (K : PySem.W.Frag) : R2 := fun x y H Q => ∃ d e, Dp K H x d ∧ Dp K H y e ∧ PySem.W.alike d e = true ∧ d ≠ .none ∧ d.depth ≤ 8 ∧ Q (.bl (PySem.W.dataLt e d)) H
theorem op_gtD {X : Cx} (hu : X.A.units + 64 < cLine) : OpR X (compareOp .Gt) (rGtD X.K) := by
  intro pins s σ H x y v u Q I rx ry h
  obtain ⟨d, e, hd, he, ha, hn, hdp, q⟩ := h
  obtain ⟨as, r1⟩ := Dp.reads I d x v hd rx
  obtain ⟨bs, r2⟩ := Dp.reads I e y u he ry
  exact PySem.W.gt_data r1 r2 ha hn (Nat.lt_of_le_of_lt (Nat.add_le_add_left (Nat.le_trans (Nat.min_le_left _ _) hdp) _) (by omega)) ⟨.bl _, H, I, rfl, q⟩
noncomputable def opGtA : D → D → Option D
  | .tuple xs, .tuple ys => if PySem.W.alike (.tuple xs) (.tuple ys) = true ∧ (PyData.tuple xs).depth ≤ 8 then some (.bool (PySem.W.dataLt (.tuple ys) (.tuple xs))) else none
  | a, b => opGt a b
abbrev rGt0 : R2 := rCmp (fun i j => decide (j < i)) fun x y => decide (y.cps.toList < x.cps.toList)
theorem or_gtA {X : Cx} (hu : X.A.units + 64 < cLine) : OpR X (compareOp .Gt) (fun x y H Q => rGtD X.K x y H Q ∨ rGt0 x y H Q) := OpR.or (op_gtD hu) or_gt
theorem o_gtA {K : PySem.W.Frag} : Op2 K (fun x y H Q => rGtD K x y H Q ∨ rGt0 x y H Q) opGtA := by
  intro B H x y a b d Q all ra rb e q
  by_cases hs : ∃ xs ys, a = .tuple xs ∧ b = .tuple ys
  · obtain ⟨xs, ys, rfl, rfl⟩ := hs
    have e' : (if PySem.W.alike (.tuple xs) (.tuple ys) = true ∧ (PyData.tuple xs).depth ≤ 8 then some (PyData.bool (PySem.W.dataLt (.tuple ys) (.tuple xs))) else none) = some d := e
    split at e'
    · rename_i hz
      cases e'
      exact .inl ⟨_, _, Rep.dp (fun _ _ => hid_sub) _ _ ra, Rep.dp (fun _ _ => hid_sub) _ _ rb, hz.1, nofun, hz.2, q _ H (Same.refl H) (.bl _)⟩
    · cases e'
  · have e' : opGt a b = some d := by
      rw [← e]
      unfold opGtA
      split
      · rename_i xs ys; exact (hs ⟨xs, ys, rfl, rfl⟩).elim
      · rfl
    exact .inr (o_gt B H x y a b d Q all ra rb e' q)
theorem x_gtA {xs ys : List D} (ha : PySem.W.alike (.tuple xs) (.tuple ys) = true) (hd : (PyData.tuple xs).depth ≤ 8) : opGtA (.tuple xs) (.tuple ys) = some (.bool (PySem.W.dataLt (.tuple ys) (.tuple xs))) := by
  show (if PySem.W.alike (.tuple xs) (.tuple ys) = true ∧ (PyData.tuple xs).depth ≤ 8 then _ else _) = _
  rw [if_pos ⟨ha, hd⟩]
/-! ### a slot that is own or data -/
def borD {α : Type} (i : Nat) (g : M α) (k : α → Bool) : M α := fun ρ n => match ρ[i]? with
  | some (some (.d _)) => g ρ n
  | _ => bor i g k ρ n
def borrowD (i : Nat) (g : M D) : M D := borD i g noList
def borrowFD (i : Nat) (g : M (List D)) : M (List D) := borD i g noListA
def borrowTD (i : Nat) (g : M Bool) : M Bool := borD i g fun _ => true
section
variable {X : Cx} {ca : String → Addr} {W : WX} {e : Expr} {g : M D} {gf : M (List D)}
theorem ev_borrowD (i : Nat) (he : PE X e (tG X.K ca W g)) : PE X e (tG X.K ca W (borrowD i g)) :=
  PE.weak he fun σ H Q ⟨c, ρ, n, S, h⟩ => by
    unfold borrowD borD at h
    split at h
    · exact ⟨c, ρ, n, S, h⟩
    obtain ⟨xs, hi, h⟩ := bor_post h
    obtain ⟨a, vs, ha, h0, hl, S', se⟩ := S.lend hi
    refine ⟨_, _, n, S', h.mono (fun d n1 ⟨hk, h1⟩ v H1 g1 r1 => h1 v H1 g1 ?_) (fun e m h => h)⟩
    have hl1 : H1 a = some (.lst vs) := g1.ext a _ hl fun z => S.old _ S.tB (z ▸ h0)
    exact Rep.noList (tupSees_hid hl1 fun b nb hb z => hb (mem_lend.mpr ⟨z, nb⟩)) _ _ hk r1
theorem et_borrowD (i : Nat) {g : M Bool} (he : PT X e (tGT X.K ca W g)) : PT X e (tGT X.K ca W (borrowTD i g)) :=
  PT.weak he fun σ H Q ⟨c, ρ, n, S, h⟩ => by
    unfold borrowTD borD at h
    split at h
    · exact ⟨c, ρ, n, S, h⟩
    obtain ⟨xs, hi, h⟩ := bor_post h
    obtain ⟨a, vs, ha, h0, hl, S', se⟩ := S.lend hi
    exact ⟨_, _, n, S', h.mono (fun d n1 ⟨hk, h1⟩ H1 g1 => h1 H1 g1) (fun e m h => h)⟩
theorem ef_borrowD (i : Nat) (he : PE X e (tGF X.K ca W gf)) : PE X e (tGF X.K ca W (borrowFD i gf)) :=
  PE.weak he fun σ H Q ⟨c, ρ, n, S, h⟩ => by
    unfold borrowFD borD at h
    split at h
    · exact ⟨c, ρ, n, S, h⟩
    obtain ⟨xs, hi, h⟩ := bor_post h
    obtain ⟨a, vs, ha, h0, hl, S', se⟩ := S.lend hi
    refine ⟨_, _, n, S', h.mono (fun d n1 ⟨hk, h1⟩ p ws H1 g1 hp hw r1 => h1 p ws H1 g1 hp hw ?_) (fun e m h => h)⟩
    have hl1 : H1 a = some (.lst vs) := g1.ext a _ hl fun z => S.old _ S.tB (z ▸ h0)
    refine Rep.noListA (tupSees_hid hl1 fun b nb hb z => ?_) _ _ hk r1
    rcases List.mem_cons.mp z with z | z
    · exact hb (List.mem_cons.mpr (.inl z))
    · exact hb (List.mem_cons_of_mem _ (mem_lend.mpr ⟨z, nb⟩))
end
@[simp] theorem e_borD {α : Type} {gx : M α} {kk : α → Bool} {ρ : G.Env} {n i : Nat} : borD i gx kk ρ n = match ρ[i]? with
  | some (some (.d _)) => gx ρ n
  | _ => bor i gx kk ρ n := rfl
@[simp] theorem e_borrowD {ga : M D} {ρ : G.Env} {n i : Nat} : borrowD i ga ρ n = borD i ga noList ρ n := rfl
@[simp] theorem e_borrowFD {fa : M (List D)} {ρ : G.Env} {n i : Nat} : borrowFD i fa ρ n = borD i fa noListA ρ n := rfl
@[simp] theorem e_borrowTD {ba : M Bool} {ρ : G.Env} {n i : Nat} : borrowTD i ba ρ n = borD i ba (fun _ => true) ρ n := rfl
end G

/-! dicts: in, [..], put, walked; of tuples as keys -/
namespace G
open PySem PySem.Spec PyProof.Rows L2
/-! ### data seen through lists and tuples alone -/
def DatSees (H H' : Hp) : Prop := ∀ a, (∀ xs, H a = some (.lst xs) → H' a = some (.lst xs)) ∧ (∀ o xs, H a = some (.frz o (.tup xs)) → H' a = some (.frz o (.tup xs)))
section
variable {K : PySem.W.Frag} {H H' : Hp}
mutual
theorem Rep.dat (e : DatSees H H') : ∀ (d : D) (v : V), Rep K H v d → Rep K H' v d
  | .none, _, h => by cases h; exact .non
  | .bool b, _, h => by cases h; exact .bl b
  | .int i, _, h => by cases h; exact .int i
  | .str x, _, h => by cases h; exact .str x
  | .list ds, _, h => by
    cases h with
    | lst h1 h2 => exact .lst ((e _).1 _ h1) (Rep.datAll e ds _ h2)
  | .tuple ds, _, h => by
    cases h with
    | tup h1 h2 =>
      refine .tup ?_ (Rep.datAll e ds _ h2)
      rcases h1 with ⟨o, z1, z2⟩ | h1
      · exact .inl ⟨o, (e _).2 _ _ z1, z2⟩
      · exact .inr h1
  | .dict _, _, h => by cases h
theorem Rep.datAll (e : DatSees H H') : ∀ (ds : List D) (vs : List V), RepAll K H vs ds → RepAll K H' vs ds
  | [], _, h => by cases h; exact .nil
  | d :: ds, _, h => by
    cases h with
    | cons h1 h2 => exact .cons (Rep.dat e d _ h1) (Rep.datAll e ds _ h2)
end
end
/-! ### meanings -/
def dicOf : Option (Option L) → Option (List (Key × D))
  | some (some (.dic kvs)) => some kvs
  | some (some (.frk kvs)) => some kvs
  | _ => none
def cKAt (i : Nat) (ge : M D) : M D := fun ρ n => match dicOf ρ[i]? with
  | some kvs => (ge ρ n).bind fun k n1 => Res.lift ((keyD k).bind (lookD kvs)) n1
  | none => .bad
def cKIn (b : Bool) (i : Nat) (ge : M D) : M D := fun ρ n => match dicOf ρ[i]? with
  | some kvs => (ge ρ n).bind fun k n1 => Res.lift ((keyD k).map fun k => .bool ((lookD kvs k).isSome == b)) n1
  | none => .bad
noncomputable def sDPut (i : Nat) (gk gv : M D) : MS := fun ρ n => match ρ[i]? with
  | some (some (.dic kvs)) => ofR (gv ρ n) ρ fun d n1 => ofR (gk ρ n1) ρ fun z n2 => match keyD z with
    | some k => if kvs.length < sizeLine then .nx (ρ.set i (some (.dic (putD kvs k d)))) n2 else .bad
    | none => .bad
  | _ => .bad
def cNewK : M (List (Key × D)) := fun _ n => .ok [] n
def lockE (i : Nat) (g : M D) : M D := fun ρ n => match ρ[i]? with
  | some (some (.dic kvs)) => match g (ρ.set i (some (.frk kvs))) n with
    | .ok d n1 => .ok d n1
    | _ => .bad
  | _ => .bad
def keyTo : Key → D
  | .inl i => .int i
  | .inr x => .str x
def gKeys (i : Nat) : M (List D) := fun ρ n => match ρ[i]? with
  | some (some (.frk kvs)) => .ok (kvs.map fun kv => keyTo kv.1) n
  | _ => .bad
theorem valV_rep {K : PySem.W.Frag} {H : Hp} {ws : List (Key × V)} {kvs : List (Key × D)} {k : Key} (r : RepK K H ws kvs) : (valV ws k).isSome = (lookD kvs k).isSome := by
  rcases RepK.look (k := k) r with ⟨z1, z2⟩ | ⟨v1, d1, z1, z2, _⟩ <;> rw [z1, z2] <;> rfl
section
variable {K : PySem.W.Frag} {c : Fm} {σ : L2.St} {H : Hp} {ρ : G.Env} {n i : Nat}
/-- the dict in a slot, own or locked, behind any steps -/
theorem SR.dicAt (S : SR K c σ H ρ n) {kvs : List (Key × D)} (e : dicOf ρ[i]? = some kvs) : ∃ a ws, σ[i]? = some (some (.ref a)) ∧ RepK K (hid c.B H) ws kvs ∧ ∀ (n' : Nat) (H' : Hp), Gx c.t H n' H' → Rd H' a (.dK ws) := by
  unfold dicOf at e
  split at e
  · rename_i q
    cases e
    obtain ⟨v, hσ, a, ws, rfl, ha, h0, hH, hk, hr⟩ := S.slot i _ q
    exact ⟨a, ws, hσ, RepK.of hk hr, fun n' H' g => .inl (g.ext a _ hH fun z => S.old _ S.tB (z ▸ h0))⟩
  · rename_i q
    cases e
    obtain ⟨v, hσ, a, o, ws, rfl, hH, hk, hr⟩ := S.slot i _ q
    obtain ⟨z1, z2⟩ := hid_some hH
    exact ⟨a, ws, hσ, RepK.of hk hr, fun n' H' g => .inr ⟨o, g.ext a _ z2 fun z => z1 (z ▸ S.tB')⟩⟩
  · cases e
end
section
variable {X : Cx} {ca : String → Addr} {W : WX} {e f : Expr} {ge gf g : M D} {gl : M (List L)} {pos p1 p2 cpos apos : Pos} {i : Nat} {x : Str}
/-- d[k] -/
theorem ev_kat (hu : X.A.units + 64 < cLine) (he : PE X e (tG X.K ca W ge)) (hs : NoSl e := by intro _ _; rfl) (hN : X.N[i]? = some x := by rfl) (hv : Vis X.env.scope x := by first | exact Or.inl rfl | exact Or.inr (Or.inl rfl) | exact Or.inr (Or.inr rfl)) (hd : (x == ("__debug__" : Str)) = false := by decide)
    (hcd : (x == ("__classdict__" : Str)) = false := by decide) : PE X (.Subscript (.Name x p1) e pos) (tG X.K ca W (cKAt i ge)) :=
  PE.weak (pe_dget (by omega) (pe_var hN hv hd hcd) he hs) fun σ H Q ⟨c, ρ, n, S, h⟩ => by
    unfold cKAt at h
    split at h
    · rename_i kvs q
      obtain ⟨a, ws, hσ, rk, rd⟩ := S.dicAt q
      refine ⟨_, hσ, c, ρ, n, S, (Res.post_bind h).mono (fun d n1 h1 y H1 g1 r1 => ?_) (fun e m h => h)⟩
      obtain ⟨d', e', h3⟩ := Res.post_lift h1
      cases ek : keyD d with
      | none => rw [ek] at e'; cases e'
      | some k =>
        rw [ek] at e'
        have e2 : lookD kvs k = some d' := e'
        have ey := key_rep r1 ek
        subst ey
        rcases RepK.look (k := k) rk with ⟨z1, z2⟩ | ⟨v1, d1, z1, z2, z3⟩
        · rw [z2] at e2; cases e2
        · rw [z2] at e2
          cases e2
          exact ⟨a, v1, rfl, .inl ⟨ws, k, rd _ _ g1, rfl, z1.symm⟩, h3 _ H1 g1 (Rep.mono (g1.sees S.tB') _ _ z3)⟩
    · exact h.elim
theorem isS_t {α : Type} (o : Option α) : (o.isSome == true) = o.isSome := by cases o <;> rfl
theorem isS_f {α : Type} (o : Option α) : (o.isSome == false) = !o.isSome := by cases o <;> rfl
theorem din_conv {b : Bool} {σ : L2.St} {H : Hp} {Q : VK} (h : tG X.K ca W (cKIn b i ge) σ H Q) : tG X.K ca W ge σ H fun y H1 => tVar i σ H1 fun x H2 => ∃ a o, x = .ref a ∧ DGet H2 a y o ∧ Q (.bl (o.isSome == b)) H2 := by
  obtain ⟨c, ρ, n, S, h⟩ := h
  unfold cKIn at h
  split at h
  · rename_i kvs q
    obtain ⟨a, ws, hσ, rk, rd⟩ := S.dicAt q
    refine ⟨c, ρ, n, S, (Res.post_bind h).mono (fun d n1 h1 y H1 g1 r1 => ?_) (fun e m h => h)⟩
    obtain ⟨d', e', h3⟩ := Res.post_lift h1
    cases ek : keyD d with
    | none => rw [ek] at e'; cases e'
    | some k =>
      rw [ek] at e'
      cases e'
      have ey := key_rep r1 ek
      subst ey
      refine ⟨_, hσ, a, valV ws k, rfl, .inl ⟨ws, k, rd _ _ g1, rfl, rfl⟩, ?_⟩
      rw [valV_rep rk]
      exact h3 _ H1 g1 (.bl _)
  · exact h.elim
section
variable (hu : X.A.units + 64 < cLine) (he : PE X e (tG X.K ca W ge)) (hN : X.N[i]? = some x := by rfl) (hv : Vis X.env.scope x := by first | exact Or.inl rfl | exact Or.inr (Or.inl rfl) | exact Or.inr (Or.inr rfl)) (hd : (x == ("__debug__" : Str)) = false := by decide)
    (hcd : (x == ("__classdict__" : Str)) = false := by decide)
include hu he hN hv hd hcd
theorem ev_din : PE X (.Compare e [.In] [.Name x p1] pos) (tG X.K ca W (cKIn true i ge)) :=
  PE.weak (pe_cmp (pc_din (by omega) he (pe_var hN hv hd hcd))) fun σ H Q h => by
    have := din_conv h
    simp only [isS_t] at this
    exact this
theorem ev_dnin : PE X (.Compare e [.NotIn] [.Name x p1] pos) (tG X.K ca W (cKIn false i ge)) :=
  PE.weak (pe_cmp (pc_dnotin (by omega) he (pe_var hN hv hd hcd))) fun σ H Q h => by
    have := din_conv h
    simp only [isS_f] at this
    exact this
theorem et_din : PT X (.Compare e [.In] [.Name x p1] pos) (tGT X.K ca W (cB (cKIn true i ge))) :=
  PT.weak (pt_cmp (pc_din (by omega) he (pe_var hN hv hd hcd))) fun σ H Q h => by
    have := din_conv (tG_cB h)
    simp only [isS_t] at this
    exact this
theorem et_dnin : PT X (.Compare e [.NotIn] [.Name x p1] pos) (tGT X.K ca W (cB (cKIn false i ge))) :=
  PT.weak (pt_cmp (pc_dnotin (by omega) he (pe_var hN hv hd hcd))) fun σ H Q h => by
    have := din_conv (tG_cB h)
    simp only [isS_f] at this
    exact this
end
/-- {} -/
theorem ed_new : PE X (.Dict [] [] pos) (tGD X.K ca W cNewK) :=
  PE.weak pe_dnewK fun σ H Q ⟨c, ρ, n, S, h⟩ => fun p hp => h p [] _ (S.pure (same_upd hp)) hp upd_same .nil
/-- d[k] = v -/
theorem es_dput {v : Expr} {gv : M D} {tpos : Pos} (hu : X.A.units + 64 < cLine) (hval : PE X v (tG X.K ca W gv)) (he : PE X e (tG X.K ca W ge)) (hN : X.N[i]? = some x := by rfl) (hv : Vis X.env.scope x := by first | exact Or.inl rfl | exact Or.inr (Or.inl rfl) | exact Or.inr (Or.inr rfl)) (hd : (x == ("__debug__" : Str)) = false := by decide)
    (hcd : (x == ("__classdict__" : Str)) = false := by decide) (hs : swapsWith v (some (.Subscript (.Name x p1) e tpos)) pos.line X.env = pure false := by rfl) :
    PS X (.Assign [.Subscript (.Name x p1) e tpos] v pos) (tS X.K ca W (sDPut i ge gv)) :=
  PS.weak (ps_dput (by omega) (pe_var hN hv hd hcd) he hval hs) fun E σ H ⟨c, ρ, n, S, h⟩ => by
    unfold sDPut at h
    split at h
    · rename_i kvs q
      refine ⟨c, ρ, n, S, (post_ofR S h).mono (fun d n1 h1 w H1 g1 r1 => ?_) (fun e m h => h)⟩
      have S1 := S.ext g1
      obtain ⟨v0, hσ, a, ws, rfl, ha, h0, hH, hk, hr⟩ := S1.slot i _ q
      refine ⟨_, hσ, c, ρ, n1, S1, (post_ofR S1 (h1.at (g1.sees S.tB'))).mono (fun z n2 h2 y H2 g2 r2 => ?_) (fun e m h => h)⟩
      have S2 := S1.ext g2
      split at h2
      · rename_i k ek
        split at h2
        · rename_i hz
          have ey := key_rep r2 ek
          subst ey
          have hH2 : H2 a = some (.dK ws) := g2.ext a _ hH fun z => S.old _ S.tB (z ▸ h0)
          have rk := RepK.of hk hr
          have hl : ws.length = kvs.length := by have := congrArg List.length rk.keys; simpa using this
          refine ⟨a, _, rfl, DPut.k hH2 (by rw [hl]; exact hz), ?_⟩
          have se : ∀ b o, hid c.B H2 b = some o → hid c.B (upd H2 a (.dK (L2.putK ws k w))) b = some o := fun b o z => by
            obtain ⟨z1, z2⟩ := hid_some z
            have ne : b ≠ a := fun z => z1 (by rw [z]; exact ha)
            exact hid_of z1 (by rw [upd_ne ne]; exact z2)
          have rk2 : RepK X.K (hid c.B (upd H2 a (.dK (L2.putK ws k w)))) (L2.putK ws k w) (putD kvs k d) :=
            RepK.put (PySem.W.EachIs.mono (fun p q h => ⟨h.1, Rep.mono (fun b o z => se b o (g2.sees S.tB' b o z)) _ _ h.2⟩) rk) (Rep.mono (fun b o z => se b o (g2.sees S.tB' b o z)) _ _ r1)
          obtain ⟨S3, s3⟩ := S2.put (l' := .dic (putD kvs k d)) (o := .dK (L2.putK ws k w)) q rfl rfl hσ ha h0 ⟨a, _, rfl, ha, h0, upd_same, rk2.keys, rk2.vals⟩
          exact h2 σ _ c.B S3 ((g2.sees S.tB').trans s3)
        · exact h2.elim
      · exact h2.elim
    · exact h.elim
theorem it_keys {K : PySem.W.Frag} {B : List Addr} {H : Hp} {a : Addr} {o : Obj} {ws : List (Key × V)} {kvs : List (Key × D)} (h : hid B H a = some (.frz o (.dK ws))) (e : ws.map (·.1) = kvs.map (·.1)) : ItOk K B H (Itk a o ws) (kvs.map fun kv => keyTo kv.1) := fun j B' H' se all => by
  have h' : H' a = some (.frz o (.dK ws)) := hid_sub (se _ _ h)
  have hl : ws.length = kvs.length := by have := congrArg List.length e; simpa using this
  rw [List.length_map]
  refine ⟨fun hi => ⟨h', by omega⟩, fun hi => ⟨h', by omega⟩, fun d x H2 hd y => ?_⟩
  obtain ⟨rfl, k, v, hk, rfl⟩ := y
  refine ⟨Same.refl _, ?_⟩
  have h1 : (ws.map (·.1))[j]? = some k := by rw [List.getElem?_map, hk]; rfl
  rw [e, List.getElem?_map] at h1
  rw [List.getElem?_map] at hd
  cases q : kvs[j]? with
  | none => rw [q] at h1; cases h1
  | some kv =>
    rw [q] at h1 hd
    cases h1
    cases hd
    obtain ⟨k, d⟩ := kv
    cases k with
    | inl i => exact .int i
    | inr x => exact .str x
theorem ig_keys {tg : Expr} (hN : X.N[i]? = some x := by rfl) (hv : Vis X.env.scope x := by first | exact Or.inl rfl | exact Or.inr (Or.inl rfl) | exact Or.inr (Or.inr rfl)) (hd : (x == ("__debug__" : Str)) = false := by decide)
    (hcd : (x == ("__classdict__" : Str)) = false := by decide) : PI X tg (.Name x p1) (iG X.K ca W (gKeys i)) := ⟨fun pins s σ H R I ⟨c, ρ, n, S, h⟩ => by
  refine (pi_keys (pe_var hN hv hd hcd)).run pins s σ H R I ?_
  unfold gKeys at h
  split at h
  · rename_i kvs q
    obtain ⟨v, hσ, a, o, ws, rfl, hH, hk, hr⟩ := S.slot i _ q
    exact ⟨_, hσ, a, o, rfl, .inl ⟨ws, (hid_some hH).2, h _ H S.gx (it_keys hH hk)⟩⟩
  · exact h.elim⟩
/-- a dict locked for an expression's time -/
theorem ev_lock (i : Nat) (he : PE X e (tG X.K ca W g)) : PE X e (tG X.K ca W (lockE i g)) :=
  PE.weak (pe_lock he) fun σ H Q ⟨c, ρ, n, S, h⟩ => by
    unfold lockE at h
    split at h
    · rename_i kvs q
      obtain ⟨v, hσ, a, ws, rfl, ha, h0, hH, hk, hr⟩ := S.slot i _ q
      have nt : a ≠ c.t := fun z => S.old _ S.tB (z ▸ h0)
      have hlt : i < ρ.length := (List.getElem?_eq_some_iff.mp q).1
      refine ⟨a, .dK ws, hH, trivial, fun od => ?_⟩
      have se : Sees c.B H (lend c.B a) (upd H a (.frz od (.dK ws))) := fun b o z => by
        obtain ⟨z1, z2⟩ := hid_some z
        have ne : b ≠ a := fun z => z1 (by rw [z]; exact ha)
        exact hid_of (fun z => z1 (mem_lend.mp z).1) (by rw [upd_ne ne]; exact z2)
      have S' : SR X.K (c.at (lend c.B a)) σ (upd H a (.frz od (.dK ws))) (ρ.set i (some (.frk kvs))) n := by
        refine ⟨by simp [S.len], fun b hb => mem_lend.mpr ⟨S.sub b hb, fun z => S.old b hb (z ▸ h0)⟩, S.tB, S.old, fun b hb => ?_, fun b u h ne => ?_, by show upd H a _ c.t = _; rw [upd_ne nt.symm]; exact S.town, fun j l e => ?_, fun j k l1 l2 b hjk e1 e2 o1 o2 s1 s2 => ?_⟩
        · obtain ⟨z1, z2⟩ := mem_lend.mp hb
          rw [upd_ne z2]
          exact S.all b z1
        · rw [upd_ne (fun z => by rw [z] at h; rw [show (c.at (lend c.B a)).H0 = c.H0 from rfl, h0] at h; cases h)]
          exact S.keep b u h ne
        · by_cases hj : i = j
          · subst hj
            rw [List.getElem?_set_self hlt] at e
            cases e
            exact ⟨_, hσ, a, od, ws, rfl, hid_of (fun z => (mem_lend.mp z).2 rfl) upd_same, hk, Rep.monoAll se _ _ hr⟩
          · rw [List.getElem?_set_ne hj] at e
            obtain ⟨v, q1, q2⟩ := S.slot j l e
            refine ⟨v, q1, ?_⟩
            have ne : ∀ b, isOwn l = true → v = .ref b → b ≠ a := fun b o z z2 => by
              subst z2
              exact S.dist j i l _ b (Ne.symm hj) e q o rfl (by rw [q1, z]) hσ
            cases l with
            | ob o => exact RO.go (B' := lend c.B a) (· = a) (fun b hb h0 nb => ⟨mem_lend.mpr ⟨hb, nb⟩, fun o q => by rw [upd_ne nb]; exact q⟩) (fun b e => ne b rfl e) se (show RO X.K c H v o from q2)
            | d x => exact Rep.mono se _ _ q2
            | own ys =>
              obtain ⟨b, ws, z, z2, z3, z4, z5⟩ := q2
              exact ⟨b, ws, z, mem_lend.mpr ⟨z2, ne b rfl z⟩, z3, by rw [upd_ne (ne b rfl z)]; exact z4, Rep.monoAll se _ _ z5⟩
            | dic ys =>
              obtain ⟨b, ws, z, z2, z3, z4, z6, z5⟩ := q2
              exact ⟨b, ws, z, mem_lend.mpr ⟨z2, ne b rfl z⟩, z3, by rw [upd_ne (ne b rfl z)]; exact z4, z6, Rep.monoAll se _ _ z5⟩
            | dit ys =>
              obtain ⟨b, ws, z, z2, z3, z4, z6, z5⟩ := q2
              exact ⟨b, ws, z, mem_lend.mpr ⟨z2, ne b rfl z⟩, z3, by rw [upd_ne (ne b rfl z)]; exact z4, z6, Rep.monoAll se _ _ z5⟩
            | frk ys =>
              obtain ⟨b, o, ws, z, z2, z3, z4⟩ := q2
              exact ⟨b, o, ws, z, se _ _ z2, z3, Rep.monoAll se _ _ z4⟩
            | town => exact q2
            | scr ns =>
              obtain ⟨b, z1, z2⟩ := q2
              exact ⟨b, z1, sqL_mono se z2⟩
        · have aux : ∀ (j : Nat) (l1 : L), (ρ.set i (some (.frk kvs)))[j]? = some (some l1) → isOwn l1 = true → ρ[j]? = some (some l1) := fun j l1 e o => by
            by_cases hj : i = j
            · subst hj; rw [List.getElem?_set_self hlt] at e; cases e; cases o
            · rw [List.getElem?_set_ne hj] at e; exact e
          exact S.dist j k l1 l2 b hjk (aux _ _ e1 o1) (aux _ _ e2 o2) o1 o2 s1 s2
      refine ⟨_, _, n, S', ?_⟩
      cases hg : g (ρ.set i (some (.frk kvs))) n with
      | bad => rw [hg] at h; exact h.elim
      | ex e m => rw [hg] at h; exact h.elim
      | ok d n1 =>
        rw [hg] at h
        intro v H1 g1 r1
        have hH1 : H1 a = some (.frz od (.dK ws)) := g1.ext a _ upd_same nt
        refine ⟨hH1, h v _ ⟨fun b o hb ne => ?_, by rw [upd_ne nt.symm]; exact g1.town⟩ (Rep.dat (fun b => ⟨fun xs z => ?_, fun o xs z => ?_⟩) _ _ r1)⟩
        · by_cases e : b = a
          · subst e
            rw [hH] at hb
            cases hb
            exact upd_same
          · rw [upd_ne e]
            exact g1.ext b o (by rw [upd_ne e]; exact hb) ne
        · obtain ⟨z1, z2⟩ := hid_some z
          have ne : b ≠ a := fun z => by rw [z, hH1] at z2; cases z2
          exact hid_of (fun z => z1 (mem_lend.mpr ⟨z, ne⟩)) (by rw [upd_ne ne]; exact z2)
        · obtain ⟨z1, z2⟩ := hid_some z
          have ne : b ≠ a := fun z => by rw [z, hH1] at z2; cases z2
          exact hid_of (fun z => z1 (mem_lend.mpr ⟨z, ne⟩)) (by rw [upd_ne ne]; exact z2)
    · exact h.elim
end
section
variable {ρ : G.Env} {n i : Nat} {ge gv g : M D} {b : Bool}
@[simp] theorem dicOf_dic {kvs : List (Key × D)} : dicOf (some (some (.dic kvs))) = some kvs := rfl
@[simp] theorem dicOf_frk {kvs : List (Key × D)} : dicOf (some (some (.frk kvs))) = some kvs := rfl
@[simp] theorem e_cKAt : cKAt i ge ρ n = match dicOf ρ[i]? with
  | some kvs => (ge ρ n).bind fun k n1 => Res.lift ((keyD k).bind (lookD kvs)) n1
  | none => .bad := rfl
@[simp] theorem e_cKIn : cKIn b i ge ρ n = match dicOf ρ[i]? with
  | some kvs => (ge ρ n).bind fun k n1 => Res.lift ((keyD k).map fun k => .bool ((lookD kvs k).isSome == b)) n1
  | none => .bad := rfl
@[simp] theorem e_sDPut : sDPut i ge gv ρ n = match ρ[i]? with
  | some (some (.dic kvs)) => ofR (gv ρ n) ρ fun d n1 => ofR (ge ρ n1) ρ fun z n2 => match keyD z with
    | some k => if kvs.length < sizeLine then .nx (ρ.set i (some (.dic (putD kvs k d)))) n2 else .bad
    | none => .bad
  | _ => .bad := rfl
@[simp] theorem e_cNewK : cNewK ρ n = .ok [] n := rfl
@[simp] theorem e_lockE : lockE i g ρ n = match ρ[i]? with
  | some (some (.dic kvs)) => match g (ρ.set i (some (.frk kvs))) n with
    | .ok d n1 => .ok d n1
    | _ => .bad
  | _ => .bad := rfl
@[simp] theorem e_gKeys : gKeys i ρ n = match ρ[i]? with
  | some (some (.frk kvs)) => .ok (kvs.map fun kv => keyTo kv.1) n
  | _ => .bad := rfl
end
end G

/-! dicts with tuples of ints and texts as keys -/
namespace G
open PySem PySem.Spec PyProof.Rows L2
def keysD : List D → Option (List Key)
  | [] => some []
  | d :: r => (keyD d).bind fun k => (keysD r).map (k :: ·)
def putT (kvs : List (List Key × D)) (k : List Key) (v : D) : List (List Key × D) :=
  if (kvs.any fun kv => decide (kv.1 = k)) = true then kvs.map (fun kv => if kv.1 = k then (kv.1, v) else kv) else kvs ++ [(k, v)]
section
variable {K : PySem.W.Frag} {H : Hp}
abbrev RepT (K : PySem.W.Frag) (H : Hp) : List (List Key × V) → List (List Key × D) → Prop := PySem.W.EachIs fun p q => p.1 = q.1 ∧ Rep K H p.2 q.2
theorem RepT.keys : ∀ {ws : List (List Key × V)} {kvs : List (List Key × D)}, RepT K H ws kvs → ws.map (·.1) = kvs.map (·.1)
  | _, _, .nil => rfl
  | _, _, .cons h t => by rw [List.map_cons, List.map_cons, h.1, RepT.keys t]
theorem RepT.vals : ∀ {ws : List (List Key × V)} {kvs : List (List Key × D)}, RepT K H ws kvs → RepAll K H (ws.map (·.2)) (kvs.map (·.2))
  | _, _, .nil => .nil
  | _, _, .cons h t => .cons h.2 (RepT.vals t)
theorem RepT.of : ∀ {ws : List (List Key × V)} {kvs : List (List Key × D)}, ws.map (·.1) = kvs.map (·.1) → RepAll K H (ws.map (·.2)) (kvs.map (·.2)) → RepT K H ws kvs
  | [], [], _, _ => .nil
  | [], _ :: _, e, _ => by cases e
  | _ :: _, [], e, _ => by cases e
  | p :: ws, q :: kvs, e, r => by
    rw [List.map_cons, List.map_cons] at e r
    cases r with
    | cons r1 r2 => exact .cons ⟨(List.cons.inj e).1, r1⟩ (RepT.of (List.cons.inj e).2 r2)
theorem RepT.any {k : List Key} : ∀ {ws : List (List Key × V)} {kvs : List (List Key × D)}, RepT K H ws kvs → (ws.any fun kv => decide (kv.1 = k)) = (kvs.any fun kv => decide (kv.1 = k))
  | _, _, .nil => rfl
  | _, _, .cons h t => by rw [List.any_cons, List.any_cons, h.1, RepT.any t]
theorem RepT.repl {k : List Key} {v : V} {d : D} (r : Rep K H v d) : ∀ {ws : List (List Key × V)} {kvs : List (List Key × D)}, RepT K H ws kvs →
    RepT K H (ws.map fun kv => if kv.1 = k then (kv.1, v) else kv) (kvs.map fun kv => if kv.1 = k then (kv.1, d) else kv)
  | _, _, .nil => .nil
  | _, _, .cons (a := p) (b := q) h t => by
    rw [List.map_cons, List.map_cons]
    refine .cons ?_ (RepT.repl r t)
    by_cases e : q.1 = k
    · rw [if_pos e, if_pos (h.1.trans e)]
      exact ⟨h.1, r⟩
    · rw [if_neg e, if_neg (by rw [h.1]; exact e)]
      exact h
theorem RepT.app : ∀ {ws ws' : List (List Key × V)} {kvs kvs' : List (List Key × D)}, RepT K H ws kvs → RepT K H ws' kvs' → RepT K H (ws ++ ws') (kvs ++ kvs')
  | _, _, _, _, .nil, h => h
  | _, _, _, _, .cons h t, h' => .cons h (RepT.app t h')
theorem RepT.put {k : List Key} {v : V} {d : D} {ws : List (List Key × V)} {kvs : List (List Key × D)} (h : RepT K H ws kvs) (r : Rep K H v d) : RepT K H (L2.putK ws k v) (putT kvs k d) := by
  unfold L2.putK putT
  rw [RepT.any h]
  split
  · exact RepT.repl r h
  · exact RepT.app h (.cons ⟨rfl, r⟩ .nil)
theorem keys_rep : ∀ {ds : List D} {vs : List V} {ks : List Key}, RepAll K H vs ds → keysD ds = some ks → vs = ks.map kV
  | [], _, _, r, e => by cases r; cases e; rfl
  | d :: ds, _, _, r, e => by
    cases r with
    | cons r1 r2 =>
      unfold keysD at e
      cases hk : keyD d with
      | none => rw [hk] at e; cases e
      | some k =>
        rw [hk, Option.bind_some] at e
        cases hr : keysD ds with
        | none => rw [hr] at e; cases e
        | some more =>
          rw [hr] at e
          cases e
          rw [keys_rep r2 hr, key_rep r1 hk]
          rfl
end
def cNewT : M (List (List Key × D)) := fun _ n => .ok [] n
def sDit (i : Nat) (g : M (List (List Key × D))) : MS := fun ρ n => ofR (g ρ n) ρ fun kvs n1 => if i < ρ.length then .nx (ρ.set i (some (.dit kvs))) n1 else .bad
noncomputable def cTIn (i : Nat) (gl : M (List L)) : M D := fun ρ n => match ρ[i]? with
  | some (some (.dit kvs)) => (gl ρ n).bind fun ls n1 => (asDs ls n1).bind fun ds n2 => if ds.length ≤ sizeLine then Res.lift ((keysD ds).map fun k => .bool (kvs.any fun kv => decide (kv.1 = k))) n2 else .bad
  | _ => .bad
noncomputable def sTPut (i : Nat) (gl : M (List L)) (gv : M D) : MS := fun ρ n => match ρ[i]? with
  | some (some (.dit kvs)) => ofR (gv ρ n) ρ fun d n1 => ofR (gl ρ n1) ρ fun ls n2 => match (dsOf ls).bind fun ds => if ds.length ≤ sizeLine then keysD ds else none with
    | some k => if kvs.length < sizeLine then .nx (ρ.set i (some (.dit (putT kvs k d)))) n2 else .bad
    | none => .bad
  | _ => .bad
section
variable {K : PySem.W.Frag} {ca : String → Addr} {W : WX}
def tGDT (K : PySem.W.Frag) (ca : String → Addr) (W : WX) (g : M (List (List Key × D))) : TE := fun σ H Q => ∃ c ρ n, SR K c σ H ρ n ∧
  (g ρ n).Post (fun kvs n' => ∀ a ws H', Gx c.t H n' H' → H a = none → H' a = some (.dT ws) → RepT K (hid (a :: c.B) H') ws kvs → Q (.ref a) H') (exK ca W c σ H)
theorem dit_post {i : Nat} {c : Fm} {σ : L2.St} {H H1 : Hp} {ρ : G.Env} {n n1 : Nat} {kvs : List (List Key × D)} {E : Ends} {a : Addr} {ws : List (List Key × V)} (S : SR K c σ H ρ n)
    (h1 : OPost K ca W c H (if i < ρ.length then .nx (ρ.set i (some (.dit kvs))) n1 else .bad) E) (g1 : Gx c.t H n1 H1) (hn : H a = none) (hv : H1 a = some (.dT ws)) (r1 : RepT K (hid (a :: c.B) H1) ws kvs) : E.nx (σ.set i (some (.ref a))) H1 := by
  split at h1
  · rename_i hlt
    obtain ⟨S1, se⟩ := S.adopt g1 hn (by rw [hv]; simp)
    have h0 : c.H0 a = none := by
      cases q : c.H0 a with
      | none => rfl
      | some o =>
        have z : a ≠ c.t := fun z => by rw [z, S.town] at hn; cases hn
        rw [S.keep a o q z] at hn
        cases hn
    exact h1 _ H1 (a :: c.B) (S1.set_ix hlt ⟨a, ws, rfl, List.mem_cons_self, h0, hv, r1.keys, r1.vals⟩ fun _ j l' b hj ej oj sj z => by
      cases z
      obtain ⟨v, q1, q2⟩ := S.slot j l' ej
      rw [sj] at q1
      cases q1
      cases l' with
      | own xs => obtain ⟨b, _, z, _, _, z4, _⟩ := q2; cases z; rw [hn] at z4; cases z4
      | dic xs => obtain ⟨b, _, z, _, _, z4, _⟩ := q2; cases z; rw [hn] at z4; cases z4
      | dit xs => obtain ⟨b, _, z, _, _, z4, _⟩ := q2; cases z; rw [hn] at z4; cases z4
      | ob o => exact (RO.nn (show RO K c H (.ref a) o from q2) hn).elim
      | _ => cases oj) se
  · exact h1.elim
end
section
variable {X : Cx} {ca : String → Addr} {W : WX} {e f : Expr} {es : List Expr} {gl : M (List L)} {gd : M (List (List Key × D))} {pos p1 tpos : Pos} {i x1 : Nat} {x : Str}
theorem es_dit {pos' : Pos} (hN : X.N.Nodup) (hi : X.N[i]? = some x) (hx : Loc X.env.scope x) (he : PE X e (tGDT X.K ca W gd)) (hs : swapsWith e (some (.Name x pos')) pos.line X.env = pure false := by rfl) (hf : X.fn x = true ∨ X.env.scope.names.lookup x = some .local := by first | exact .inl rfl | exact .inr rfl | assumption) :
    PS X (.Assign [.Name x pos'] e pos) (tS X.K ca W (sDit i gd)) :=
  PS.weak (ps_set hN hi hx he hs hf) fun E σ H ⟨c, ρ, n, S, h⟩ => ⟨c, ρ, n, S, (post_ofR S h).mono (fun ds n1 h1 a vs H1 g1 hn hv r1 => dit_post S h1 g1 hn hv r1) (fun e m h => h)⟩
theorem et_new : PE X (.Dict [] [] pos) (tGDT X.K ca W cNewT) :=
  PE.weak pe_dnewT fun σ H Q ⟨c, ρ, n, S, h⟩ => fun p hp => h p [] _ (S.pure (same_upd hp)) hp upd_same .nil
theorem tin_conv {σ : L2.St} {H : Hp} {Q : VK} (h : tG X.K ca W (cTIn i gl) σ H Q) : tTup (tGA X.K ca W gl) σ H fun y H1 => tVar i σ H1 fun x H2 => ∃ a o, x = .ref a ∧ DGet H2 a y o ∧ Q (.bl o.isSome) H2 := by
  obtain ⟨c, ρ, n, S, h⟩ := h
  unfold cTIn at h
  split at h
  · rename_i kvs q
    obtain ⟨v, hσ, a, ws, rfl, ha, h0, hH, hk, hr⟩ := S.slot i _ q
    have rk := RepT.of hk hr
    refine ⟨c, ρ, n, S, (Res.post_bind h).mono (fun ls n1 h1 vs H1 g1 r1 => ?_) (fun e m h => h)⟩
    obtain ⟨ds, e, h2⟩ := Res.post_lift (Res.post_bind h1)
    have r2 := r1.ds e
    split at h2
    · rename_i hz
      obtain ⟨d', e', h3⟩ := Res.post_lift h2
      cases ek : keysD ds with
      | none => rw [ek] at e'; cases e'
      | some k =>
        rw [ek] at e'
        cases e'
        have ey := keys_rep r2 ek
        subst ey
        refine ⟨by rw [r2.length]; exact hz, fun p hp => ?_⟩
        have hH1 : H1 a = some (.dT ws) := g1.ext a _ hH fun z => S.old _ S.tB (z ▸ h0)
        have ne : a ≠ p := fun z => by rw [z, hp] at hH1; cases hH1
        refine ⟨_, hσ, a, valV ws k, rfl, DGet.t (by rw [upd_ne ne]; exact hH1) upd_same, ?_⟩
        rw [← valV_any, RepT.any rk]
        exact h3 _ _ (g1.trans ((S.ext g1).pure (same_upd hp))) (.bl _)
    · exact h2.elim
  · exact h.elim
section
variable (hu : X.A.units + 64 < cLine) (he : PA X es (tGA X.K ca W gl)) (hN : X.N[i]? = some x := by rfl) (hv : Vis X.env.scope x := by first | exact Or.inl rfl | exact Or.inr (Or.inl rfl) | exact Or.inr (Or.inr rfl)) (hd : (x == ("__debug__" : Str)) = false := by decide)
    (hcd : (x == ("__classdict__" : Str)) = false := by decide)
include hu he hN hv hd hcd
theorem ev_tin : PE X (.Compare (.Tuple es x1 tpos) [.In] [.Name x p1] pos) (tG X.K ca W (cTIn i gl)) :=
  PE.weak (pe_cmp (pc_din (by omega) (pe_tup he) (pe_var hN hv hd hcd))) fun σ H Q h => tin_conv h
theorem et_tin : PT X (.Compare (.Tuple es x1 tpos) [.In] [.Name x p1] pos) (tGT X.K ca W (cB (cTIn i gl))) :=
  PT.weak (pt_cmp (pc_din (by omega) (pe_tup he) (pe_var hN hv hd hcd))) fun σ H Q h => tin_conv (tG_cB h)
end
/-- d[(..)] = v -/
theorem es_tput {v : Expr} {gv : M D} {tp2 : Pos} (hu : X.A.units + 64 < cLine) (hval : PE X v (tG X.K ca W gv)) (he : PA X es (tGA X.K ca W gl)) (hN : X.N[i]? = some x := by rfl) (hv : Vis X.env.scope x := by first | exact Or.inl rfl | exact Or.inr (Or.inl rfl) | exact Or.inr (Or.inr rfl)) (hd : (x == ("__debug__" : Str)) = false := by decide)
    (hcd : (x == ("__classdict__" : Str)) = false := by decide) (hs : swapsWith v (some (.Subscript (.Name x p1) (.Tuple es x1 tpos) tp2)) pos.line X.env = pure false := by rfl) :
    PS X (.Assign [.Subscript (.Name x p1) (.Tuple es x1 tpos) tp2] v pos) (tS X.K ca W (sTPut i gl gv)) :=
  PS.weak (ps_dput (by omega) (pe_var hN hv hd hcd) (pe_tup he) hval hs) fun E σ H ⟨c, ρ, n, S, h⟩ => by
    unfold sTPut at h
    split at h
    · rename_i kvs q
      refine ⟨c, ρ, n, S, (post_ofR S h).mono (fun d n1 h1 w H1 g1 r1 => ?_) (fun e m h => h)⟩
      have S1 := S.ext g1
      obtain ⟨v0, hσ, a, ws, rfl, ha, h0, hH, hk, hr⟩ := S1.slot i _ q
      refine ⟨_, hσ, c, ρ, n1, S1, (post_ofR S1 (h1.at (g1.sees S.tB'))).mono (fun ls n2 h2 vs H2 g2 r2 => ?_) (fun e m h => h)⟩
      have S2 := S1.ext g2
      split at h2
      · rename_i k ek
        split at h2
        · rename_i hz
          cases hds : dsOf ls with
          | none => rw [hds] at ek; cases ek
          | some ds =>
            rw [hds, Option.bind_some] at ek
            have r3 := r2.ds hds
            split at ek
            · rename_i hz2
              have ey := keys_rep r3 ek
              subst ey
              refine ⟨by rw [r3.length]; exact hz2, fun p hp => ?_⟩
              have hH2 : H2 a = some (.dT ws) := g2.ext a _ hH fun z => S.old _ S.tB (z ▸ h0)
              have ne : a ≠ p := fun z => by rw [z, hp] at hH2; cases hH2
              have g3 : Gx c.t H2 n2 (upd H2 p (.tup (k.map kV))) := S2.pure (same_upd hp)
              have S3 := S2.ext g3
              have hH3 : (upd H2 p (.tup (k.map kV))) a = some (.dT ws) := by rw [upd_ne ne]; exact hH2
              have rk := RepT.of hk hr
              have hl : ws.length = kvs.length := by have := congrArg List.length rk.keys; simpa using this
              generalize hH3d : upd H2 p (.tup (k.map kV)) = H3 at g3 S3 hH3
              have hp3 : H3 p = some (.tup (k.map kV)) := by rw [← hH3d]; exact upd_same
              refine ⟨a, _, rfl, DPut.t hH3 hp3 (by rw [hl]; exact hz), ?_⟩
              have se : ∀ b o, hid c.B H3 b = some o → hid c.B (upd H3 a (.dT (L2.putK ws k w))) b = some o := fun b o z => by
                obtain ⟨z1, z2⟩ := hid_some z
                have ne : b ≠ a := fun z => z1 (by rw [z]; exact ha)
                exact hid_of z1 (by rw [upd_ne ne]; exact z2)
              have se2 : ∀ b o, hid c.B H1 b = some o → hid c.B (upd H3 a (.dT (L2.putK ws k w))) b = some o := fun b o z => se b o (g3.sees S.tB' b o (g2.sees S.tB' b o z))
              have rk2 : RepT X.K (hid c.B (upd H3 a (.dT (L2.putK ws k w)))) (L2.putK ws k w) (putT kvs k d) :=
                RepT.put (PySem.W.EachIs.mono (fun p q h => ⟨h.1, Rep.mono se2 _ _ h.2⟩) rk) (Rep.mono se2 _ _ r1)
              obtain ⟨S4, s4⟩ := S3.put (l' := .dit (putT kvs k d)) (o := .dT (L2.putK ws k w)) q rfl rfl hσ ha h0 ⟨a, _, rfl, ha, h0, upd_same, rk2.keys, rk2.vals⟩
              exact h2 σ _ c.B S4 ((g2.sees S.tB').trans ((g3.sees S.tB').trans s4))
            · cases ek
        · exact h2.elim
      · exact h2.elim
    · exact h.elim
end
section
variable {ρ : G.Env} {n i : Nat} {gl : M (List L)} {gv : M D} {gd : M (List (List Key × D))}
@[simp] theorem e_sDit : sDit i gd ρ n = ofR (gd ρ n) ρ fun kvs n1 => if i < ρ.length then .nx (ρ.set i (some (.dit kvs))) n1 else .bad := rfl
@[simp] theorem e_cNewT : cNewT ρ n = .ok [] n := rfl
@[simp] theorem e_cTIn : cTIn i gl ρ n = match ρ[i]? with
  | some (some (.dit kvs)) => (gl ρ n).bind fun ls n1 => (asDs ls n1).bind fun ds n2 => if ds.length ≤ sizeLine then Res.lift ((keysD ds).map fun k => .bool (kvs.any fun kv => decide (kv.1 = k))) n2 else .bad
  | _ => .bad := rfl
@[simp] theorem e_sTPut : sTPut i gl gv ρ n = match ρ[i]? with
  | some (some (.dit kvs)) => ofR (gv ρ n) ρ fun d n1 => ofR (gl ρ n1) ρ fun ls n2 => match (dsOf ls).bind fun ds => if ds.length ≤ sizeLine then keysD ds else none with
    | some k => if kvs.length < sizeLine then .nx (ρ.set i (some (.dit (putT kvs k d)))) n2 else .bad
    | none => .bad
  | _ => .bad := rfl
@[simp] theorem keysD_nil : keysD [] = some [] := rfl
@[simp] theorem keysD_cons {d : D} {r : List D} : keysD (d :: r) = (keyD d).bind fun k => (keysD r).map (k :: ·) := rfl
end
end G

/-! x.lower(); dict(x).get(k, d) -/
namespace G
open PySem PySem.Spec PyProof.Rows L2
def mLower : D → Option D
  | .str a => if a.length ≤ 5592405 then some (.str (PySem.Txt.lower a)) else none
  | _ => none
theorem om_lower {K : PySem.W.Frag} : OpM0 K (fun x xs H Q => ∃ a, x = .str a ∧ xs = [] ∧ a.length ≤ 5592405 ∧ Q (.str (PySem.Txt.lower a)) H) mLower := by
  intro B H z d Q all e q
  unfold mLower at e
  simp only at e
  split at e
  · cases e; exact ⟨z, rfl, rfl, by assumption, q _ H (Same.refl H) (.str _)⟩
  · cases e
def lo1N (c : Nat) : Nat := PyProof.Rows.lo1 c
theorem x_lower_T {l : List Nat} (h : l.all (· < 128) = true) (hl : l.length ≤ 5592405) : mLower (T l) = some (T (l.map PyProof.Rows.lo1)) := by
  unfold mLower T
  simp only
  have e : (⟨l.toArray⟩ : Str).length = l.length := by show l.toArray.size = _; simp
  rw [if_pos (by rw [e]; exact hl)]
  have := SX.lower_S (a := l) h
  exact congrArg (fun z => some (PyData.str z)) this
/-- dict(x).get(k, d) -/
def cDGetT (g : M (List (Key × D))) (ge gf : M D) : M D := fun ρ n => (g ρ n).bind fun kvs n1 => (ge ρ n1).bind fun k n2 => (gf ρ n2).bind fun d n3 => Res.lift ((keyD k).map fun k => (lookD kvs k).getD d) n3
section
variable {X : Cx} {ca : String → Addr} {W : WX} {o e f : Expr} {ge gf : M D} {g : M (List (Key × D))} {cpos apos : Pos}
theorem ev_dgetT (hu : X.A.units + 64 < cLine) (ho : PE X o (tGD X.K ca W g)) (he : PE X e (tG X.K ca W ge)) (hf : PE X f (tG X.K ca W gf)) (m : M2 X o "get" apos e f cpos := by exact ⟨rfl, rfl, rfl, rfl⟩) :
    PE X (.Call (.Attribute o "get" apos) [e, f] [] cpos) (tG X.K ca W (cDGetT g ge gf)) :=
  PE.weak (pe_dget2 (by omega) ho he hf m) fun σ H Q ⟨c, ρ, n, S, h⟩ => by
    refine ⟨c, ρ, n, S, (Res.post_bind h).mono (fun kvs n1 h1 a ws H1 g1 hn hv r1 => ?_) (fun e m h => h)⟩
    have S1 := S.ext g1
    have na : a ≠ c.t := fun z => by rw [z, S.town] at hn; cases hn
    refine ⟨a, rfl, .inl ⟨ws, .inl hv⟩, c, ρ, n1, S1, (Res.post_bind h1).mono (fun d n2 h2 y H2 g2 r2 => ?_) (fun e m h => exK.at h g1)⟩
    have S2 := S1.ext g2
    refine ⟨c, ρ, n2, S2, (Res.post_bind h2).mono (fun z n3 h3 w H3 g3 r3 => ?_) (fun e m h => exK.at h (g1.trans g2))⟩
    obtain ⟨d', e', h4⟩ := Res.post_lift h3
    cases ek : keyD d with
    | none => rw [ek] at e'; cases e'
    | some k =>
      rw [ek] at e'
      cases e'
      have ey := key_rep r2 ek
      subst ey
      have hH3 : H3 a = some (.dK ws) := (g2.trans g3).ext a _ hv na
      refine ⟨valV ws k, DGet.k hH3, ?_⟩
      refine h4 _ H3 ((g1.trans g2).trans g3) ?_
      show Rep X.K (hid c.B H3) ((valV ws k).getD w) ((lookD kvs k).getD z)
      rcases RepK.look (k := k) r1 with ⟨z1, z2⟩ | ⟨v1, d1, z1, z2, z3⟩
      · rw [z1, z2]; exact r3
      · rw [z1, z2]
        exact Rep.mono ((g2.trans g3).sees S.tB') _ _ (Rep.mono hid_cons _ _ z3)
end
@[simp] theorem e_cDGetT {ρ : G.Env} {n : Nat} {ge gf : M D} {g : M (List (Key × D))} : cDGetT g ge gf ρ n = (g ρ n).bind fun kvs n1 => (ge ρ n1).bind fun k n2 => (gf ρ n2).bind fun d n3 => Res.lift ((keyD k).map fun k => (lookD kvs k).getD d) n3 := rfl
end G

/-! raise X(); try: .. except X: .. -/
namespace G
open PySem PySem.Spec PyProof.Rows L2
abbrev veB : List Value := [.type "ValueError", .type "Exception", .type "BaseException", .type "object"]
/-- an own class of exceptions below ValueError -/
structure ExcAt (K : PySem.W.Frag) (mg : Str → Option Value) (x : Str) (C : Addr) : Prop where
  g : mg x = some (.ref C)
  q : PySem.W.excIn K C veB "ValueError.__new__" = true
  k : PySem.W.keepIn K (.ref C) = true
  s : PySem.W.subIn K (.ref C) (.type "BaseException") = some true
  t : PySem.W.typeIn K (.ref C) = some (.type "type")
  m : PySem.W.exmOne K (.ref C) (.ref C) = some true
theorem pmk_own0 {X : Cx} {C : Addr} {bmB : List Value} {B newId initId : String} {x : Str} {p pos : Pos} (F : ExcBaseFacts B newId initId bmB) (q : PySem.W.excIn X.K C bmB newId = true) (gC : X.mg x = some (.ref C)) (kC : PySem.W.keepIn X.K (.ref C) = true) (r : Raises X (.ref C)) (hg : Gl X x)
    (hdb : (x == ("__debug__" : Str)) = false := by decide) :
    PMk X (.Call (.Name x p) [] [] pos) (fun σ H Q => Q (.ref C) none H) := by
  intro pins s σ H Q I h
  refine wpAny_Call_Name_kw (ld_glob I hg gC ?_ hdb)
  refine PySem.W.callWith_K0 I.kIn kC ?_
  show wpAny _ _ (call (.ref C) []) _ _ _
  obtain ⟨bm, N, nm, qn, bs, hdct, sn, sub, ab, col, dd, k0, k1, k2, k3, k5, mN, hC, hN, hni, T⟩ := exc_obj I.kIn q
  refine wpAny_call_exc_subT F T hC hN hni (fun h' e hm => ?_) (by show 0 ≤ sizeLine; exact Nat.zero_le _)
  exact mk_of I hm r h (I.hok.gone hm.new)
def sRaise (c : String) : MS := fun ρ n => .ex c ρ n
def noEx : Out → Out
  | .ex _ _ _ => .bad
  | o => o
def sTry (c : String) (f h : MS) : MS := fun ρ n => match f ρ n with
  | .ex e ρ1 n1 => if e = c then noEx (h ρ1 n1) else .bad
  | o => o
section
variable {X : Cx} {ca : String → Addr} {W : WX}
theorem es_raise {x : Str} {e : String} {p p2 pos : Pos} (hc : X.calm = true) (tk : Takes X W) (E : ExcAt X.K X.mg x (ca e)) (hg : Gl X x) (hdb : (x == ("__debug__" : Str)) = false := by decide) :
    PS X (.Raise (some (.Call (.Name x p) [] [] p2)) none pos) (tS X.K ca W (sRaise e)) :=
  PS.weak (ps_raise hc tk (pmk_own0 PySem.F.excBase_ValueError E.q E.g E.k (raises_own E.s E.t) hg hdb)) fun D σ H ⟨c, ρ, n, S, h⟩ => h σ H c.B S Sees.refl
theorem es_try {x : Str} {e : String} {np pos pos' : Pos} {body suite : List Stmt} {b₀ : Stmt} {f h : MS} (tk : Takes X W) (E : ExcAt X.K X.mg x (ca e)) (hg : Gl X x)
    (hb : ∀ (W' : WX) (pn : List (Addr × Obj)) (xe : Value → Shared → Prop), Takes (X.tr pn xe) W' → PassesOwn (model X.prog X.w) X.A X.env xe → PSs (X.tr pn xe) body (tS X.K ca W' f))
    (hsu : ∀ (a : Addr) (oe : Obj) (pn : List (Addr × Obj)), PSs (X.suite a ((a, oe) :: pn)) (b₀ :: suite) (tS X.K ca (fun _ _ _ _ => False) h))
    (hs : X.stack = X.env :: X.outer := by rfl) (hf : X.env.frame = some X.env.locals := by rfl) (hdb : (x == ("__debug__" : Str)) = false := by decide) :
    PS X (.Try body [.ExceptHandler (some (.Name x np)) none (b₀ :: suite) pos'] [] [] pos) (tS X.K ca W (sTry e f h)) :=
  PS.weak (ps_try_only (c := .ref (ca e)) (tb := fun W' => tS X.K ca W' f) (ts := fun _ _ _ => tS X.K ca (fun _ _ _ _ => False) h) hs hf ⟨hg, hdb, .inl E.g⟩ tk hb fun a oe _ _ pn _ _ => hsu a oe pn) fun D σ H ⟨c, ρ, n, S, hh⟩ => by
    refine ⟨c, ρ, n, S, ?_⟩
    unfold sTry at hh
    cases q : f ρ n with
    | ex e1 ρ1 n1 =>
      rw [q] at hh
      simp only at hh
      split at hh
      · rename_i he
        subst he
        refine fun σ' H' B' S' se => ⟨true, E.m, fun _ a ha => ⟨c.at B', ρ1, n1, S', ?_⟩, fun z => by cases z⟩
        cases q2 : h ρ1 n1 with
        | ex e2 ρ2 n2 => rw [q2] at hh; exact hh.elim
        | nx ρ2 n2 => rw [q2] at hh; exact OPost.at hh se
        | rt d n2 => rw [q2] at hh; exact OPost.at hh se
        | bk ρ2 n2 => rw [q2] at hh; exact OPost.at hh se
        | ct ρ2 n2 => rw [q2] at hh; exact OPost.at hh se
        | bad => rw [q2] at hh; exact hh.elim
      · exact hh.elim
    | nx ρ2 n2 => rw [q] at hh; exact hh
    | rt d n2 => rw [q] at hh; exact hh
    | bk ρ2 n2 => rw [q] at hh; exact hh
    | ct ρ2 n2 => rw [q] at hh; exact hh
    | bad => rw [q] at hh; exact hh
end
@[simp] theorem e_sRaise {c : String} {ρ : G.Env} {n : Nat} : sRaise c ρ n = .ex c ρ n := rfl
theorem e_sTry {c : String} {f h : MS} {ρ : G.Env} {n : Nat} : sTry c f h ρ n = match f ρ n with
  | .ex e ρ1 n1 => if e = c then noEx (h ρ1 n1) else .bad
  | o => o := rfl
end G

/-! [..] * k as a new list -/
namespace G
open PySem PySem.Spec PyProof.Rows L2
def fMulL : D → D → Option (List D)
  | .list ds, .int k => if 0 ≤ k ∧ k ≤ 1000 ∧ ds.length ≤ 1000 then some (List.replicate k.toNat ds).flatten else none
  | _, _ => none
def cMulF (ga gb : M D) : M (List D) := fun ρ n => (ga ρ n).bind fun a n1 => (gb ρ n1).bind fun b n2 => Res.lift (fMulL a b) n2
section
variable {X : Cx} {ca : String → Addr} {W : WX} {a b : Expr} {ga gb : M D} {pos : Pos}
theorem ef_mulL (ha : PE X a (tG X.K ca W ga)) (hb : PE X b (tG X.K ca W gb)) : PE X (.BinOp a .Mult b pos) (tGF X.K ca W (cMulF ga gb)) :=
  PE.weak (pe_op op_rep ha hb) fun σ H Q ⟨c, ρ, n, S, h⟩ => by
    refine ⟨c, ρ, n, S, (Res.post_bind h).mono (fun d n1 h1 x H1 g1 r1 => ?_) (fun e m h => h)⟩
    have S1 := S.ext g1
    refine ⟨c, ρ, n1, S1, (Res.post_bind h1).mono (fun d2 n2 h2 y H2 g2 r2 => ?_) (fun e m h => exK.at h g1)⟩
    obtain ⟨ds, e, h3⟩ := Res.post_lift h2
    have S2 := S1.ext g2
    cases r1 with
    | @lst l xs es k1 k2 =>
      cases r2 with
      | int k =>
        unfold fMulL at e
        simp only at e
        split at e
        · rename_i hz
          cases e
          obtain ⟨z1, z2, z3⟩ := hz
          obtain ⟨y1, y2⟩ := hid_some k1
          have nt : l ≠ c.t := fun z => y1 (z ▸ S.tB')
          refine ⟨l, k, xs, rfl, rfl, g2.ext l _ y2 nt, by omega, by omega, ?_, fun p hp => ?_⟩
          · have h1 : xs.length * k.toNat ≤ 1000 * 1000 := Nat.mul_le_mul (by rw [k2.length]; exact z3) (by omega)
            rw [sizeLine_eq]
            omega
          · refine h3 p _ _ ((g1.trans g2).trans (S2.pure (same_upd hp))) (fresh_back (g1.trans g2) S.tB' S2.all hp) upd_same ?_
            exact RepAll.rep (Rep.monoAll (hid_fresh hp) _ _ (Rep.monoAll (g2.sees S.tB') _ _ k2)) _
        · cases e
      | _ => cases e
    | _ => cases e
end
@[simp] theorem e_cMulF {ga gb : M D} {ρ : G.Env} {n : Nat} : cMulF ga gb ρ n = (ga ρ n).bind fun a n1 => (gb ρ n1).bind fun b n2 => Res.lift (fMulL a b) n2 := rfl
@[simp] theorem x_mulL {ds : List D} {k : Int} : fMulL (.list ds) (.int k) = if 0 ≤ k ∧ k ≤ 1000 ∧ ds.length ≤ 1000 then some (List.replicate k.toNat ds).flatten else none := rfl
end G

/-! zip over two texts, too -/
namespace G
open PySem PySem.Spec PyProof.Rows L2
/-- two texts at once, the signs in new pairs -/
def ItZS (x y : Str) : It :=
  ⟨fun i _ => i < x.cps.size ∧ i < y.cps.size,
    fun i H v H' => ∃ (T : Addr) (c d : Nat) (o : Obj), v = .ref T ∧ o.dict = none ∧ H T = none ∧ H' = upd H T (.frz o (.tup [.str ⟨#[c]⟩, .str ⟨#[d]⟩])) ∧ x.cps[i]? = some c ∧ y.cps[i]? = some d,
    fun i _ => x.cps.size ≤ i ∨ y.cps.size ≤ i⟩
theorem strIt_ob {h : Heap} {it : Addr} {ty : String} {x : Str} {t : Tok} {i : Nat} (z : h.IsStrIter it ty x t i) : ∃ o, h.get? it = some o ∧ ∀ v, o.data ≠ .cell v := by
  obtain ⟨o, ho, hc, hd⟩ := z
  exact ⟨o, ho, fun v q => by rw [hd] at q; cases q⟩
theorem strIt_at {h h' : Heap} {it : Addr} {ty : String} {x : Str} {t : Tok} {i : Nat} (z : h.IsStrIter it ty x t i) (e : ∀ o, h.get? it = some o → h'.get? it = some o) : h'.IsStrIter it ty x t i := by
  obtain ⟨o, ho, r⟩ := z
  exact ⟨o, e o ho, r⟩
theorem turn_zs {P : Program} {w : World} {K : PySem.W.Frag} {elts : List Expr} {kk : Nat} {tpos : Pos} {x y : Str} {tx ty : Tok} {z TI TO i1 i2 : Addr} (D : Apart z TI TO i1 i2) :
    Turn P w K (.Tuple elts kk tpos) (ItZS x y) [z, TI, TO, i1, i2] z (fun i h => IsZip h z TI TO .none ∧ IsPair h TI (.ref i1) (.ref i2) ∧ (∃ a b, IsPair h TO a b) ∧ h.IsStrIter i1 (strIterType x) x tx i ∧ h.IsStrIter i2 (strIterType y) y ty i ∧ i ≤ x.cps.size ∧ i ≤ y.cps.size) where
  mem := by simp
  obj := fun i h st c hc => by
    obtain ⟨hz, hTI, ⟨a, b, hTO⟩, h1, h2, _, _⟩ := st
    have e' : c = z ∨ c = TI ∨ c = TO ∨ c = i1 ∨ c = i2 := by simpa using hc
    rcases e' with q | q | q | q | q
    · rw [q]; exact ⟨_, hz, fun v q => nomatch q⟩
    · rw [q]; exact ⟨_, hTI, fun v q => nomatch q⟩
    · rw [q]; exact ⟨_, hTO, fun v q => nomatch q⟩
    · rw [q]; exact strIt_ob h1
    · rw [q]; exact strIt_ob h2
  keep := fun i h h' st k => by
    obtain ⟨hz, hTI, ⟨a, b, hTO⟩, h1, h2, n1, n2⟩ := st
    exact ⟨k z (by simp) _ hz, k TI (by simp) _ hTI, ⟨a, b, k TO (by simp) _ hTO⟩, strIt_at h1 fun o q => k i1 (by simp) o q, strIt_at h2 fun o q => k i2 (by simp) o q, n1, n2⟩
  item := by
    intro X hP hw hK hc i pins s σ H E I hf st hg
    subst hP hw hK
    obtain ⟨hz, hTI, ⟨x0, y0, hTO⟩, h1, h2, n1, n2⟩ := st
    obtain ⟨g1, g2⟩ := hg
    have hzl : z < s.heap.objs.size := Heap.lt_size hz
    have S : ZipSep2 z TI TO i1 i2 [i1] [i2] := {
      TIz := D.h1, TOz := D.h2, TITO := D.h3, TIi1 := D.h4, mem1 := by simp
      zf1 := by simp [D.h6], Tf1 := by simp [D.h8]
      TIi2 := D.h5, mem2 := by simp
      zf2 := by simp [D.h7], Tf2 := by simp [D.h9]
      sep1_2 := by simp [D.h10], sep2_1 := by simp [Ne.symm D.h10] }
    refine wpAny_pyNext_zipD2_item S (Draws.text (by simp [I.ok.hd hc]) i1 x tx) (Draws.text (by simp [I.ok.hd hc]) i2 y ty) hz hTI hTO h1 h2 g1 g2 fun y1 y2 h' tk e1 e2 z' TO' s1 s2 hT hsz hk => ?_
    obtain ⟨c, u, q1, rfl⟩ := e1
    obtain ⟨d, u2, q2, rfl⟩ := e2
    refine ⟨_, rfl, wpAny_letOwnedTupleGo_zip (s := { s with heap := h', toks := tk }) z' fun h'' z'' sb => ?_⟩
    have hT2 : h''.get? s.heap.objs.size = some { cls := .type "tuple", data := .seq #[.str ⟨#[c]⟩ u, .str ⟨#[d]⟩ u2] } := (sb.2 _ (Nat.ne_of_gt hzl)).trans hT
    have new : ObjOk X.prog X.w (upd H s.heap.objs.size (.frz (plainO #[.str ⟨#[c]⟩ u, .str ⟨#[d]⟩ u2]) (.tup [.str ⟨#[c]⟩, .str ⟨#[d]⟩]))) h'' s.heap.objs.size (.frz (plainO #[.str ⟨#[c]⟩ u, .str ⟨#[d]⟩ u2]) (.tup [.str ⟨#[c]⟩, .str ⟨#[d]⟩])) :=
      ⟨hT2, by show 2 ≤ sizeLine; decide, [.str ⟨#[c]⟩ u, .str ⟨#[d]⟩ u2], .cons ⟨_, rfl⟩ (.cons ⟨_, rfl⟩ .nil), ⟨_, hT2, rfl, _, rfl⟩⟩
    have I1 : Inv X pins σ (upd H s.heap.objs.size (.frz (plainO #[.str ⟨#[c]⟩ u, .str ⟨#[d]⟩ u2]) (.tup [.str ⟨#[c]⟩, .str ⟨#[d]⟩]))) { s with heap := h'', toks := tk } :=
      I.turnedNew (t' := tk) (ch := [z, TI, TO, i1, i2]) (fun c o hb q => (sb.2 c (fun q' => hb (by simp [q']))).trans (hk c o (fun q' => hb (by simp [q'])) (fun q' => hb (by simp [q'])) (fun q' => hb (by simp [q'])) (fun q' => hb (by simp [q'])) q)) hf (Nat.le_refl _) new
    refine ⟨.ref s.heap.objs.size, _, I1, rfl, ⟨_, c, d, _, rfl, rfl, I.hok.fresh (Nat.le_refl _), rfl, q1, q2⟩, ⟨z'', ?_, ⟨.str ⟨#[c]⟩ u, .str ⟨#[d]⟩ u2, ?_⟩, ?_, ?_, g1, g2⟩, fun c hcm => ?_⟩
    · exact (sb.2 _ D.h1).trans (hk _ _ D.h1 D.h3 D.h4 D.h5 hTI)
    · exact (sb.2 _ D.h2).trans TO'
    · exact strIt_at s1 fun o q => (sb.2 _ (Ne.symm D.h6)).trans q
    · exact strIt_at s2 fun o q => (sb.2 _ (Ne.symm D.h7)).trans q
    · have hlt : c < s.heap.objs.size := by
        have e' : c = z ∨ c = TI ∨ c = TO ∨ c = i1 ∨ c = i2 := by simpa using hcm
        rcases e' with q | q | q | q | q
        · rw [q]; exact hzl
        · rw [q]; exact Heap.lt_size hTI
        · rw [q]; exact Heap.lt_size hTO
        · rw [q]; obtain ⟨_, e1, _⟩ := strIt_ob h1; exact Heap.lt_size e1
        · rw [q]; obtain ⟨_, e2, _⟩ := strIt_ob h2; exact Heap.lt_size e2
      rw [upd_ne (Nat.ne_of_lt hlt)]
      exact (hf c hcm).1
  done := by
    intro X hP hw hK hc i pins s σ H E I hf st hg
    subst hP hw hK
    obtain ⟨hz, hTI, ⟨x0, y0, hTO⟩, h1, h2, n1, n2⟩ := st
    have hend : x.cps.size ≤ i ∨ y.cps.size ≤ i := hg
    have S : ZipSep2 z TI TO i1 i2 [i1] [i2] := {
      TIz := D.h1, TOz := D.h2, TITO := D.h3, TIi1 := D.h4, mem1 := by simp
      zf1 := by simp [D.h6], Tf1 := by simp [D.h8]
      TIi2 := D.h5, mem2 := by simp
      zf2 := by simp [D.h7], Tf2 := by simp [D.h9]
      sep1_2 := by simp [D.h10], sep2_1 := by simp [Ne.symm D.h10] }
    refine wpAny_pyNext_zipD2_end S (Draws.text (by simp [I.ok.hd hc]) i1 x tx) (Draws.text (by simp [I.ok.hd hc]) i2 y ty) hz hTI hTO h1 h2 n1 n2 (by omega) fun h' tk hk => ⟨rfl, I.turnedL (t' := tk) (ch := [z, TI, TO, i1, i2]) (fun c o hb q =>
      hk c o (fun q' => hb (by simp [q'])) (fun q' => hb (by simp [q'])) (fun q' => hb (by simp [q'])) (fun q' => hb (by simp [q'])) q) hf⟩
  self := fun A i s Q E st h => wpAny_pyIter_zip st.1 h
def iZpA (K : PySem.W.Frag) (ta : TA) : TI := fun σ H R => ta σ H fun vs H1 => (∃ (t1 t2 : Bool) (a b : Addr) (xs ys : List V), vs = [.ref a, .ref b] ∧ SqB K t1 H1 a xs ∧ SqB K t2 H1 b ys ∧ R (ItZ K t1 t2 a b 0) H1) ∨
  ∃ x y : Str, vs = [.str x, .str y] ∧ R (ItZS x y) H1
def strsD (x : Str) : List D := x.cps.toList.map fun c => T [c]
def fZipA : List D → Option (List D)
  | [.str a, .str b] => some (zipD (strsD a) (strsD b))
  | ds => fZip ds
def gZipA (g : M (List L)) : M (List D) := gRng fZipA g
theorem strsD_get {x : Str} {i : Nat} {d : D} (h : (strsD x)[i]? = some d) : ∃ c, x.cps[i]? = some c ∧ d = T [c] := by
  unfold strsD at h
  rw [List.getElem?_map] at h
  rw [← Array.getElem?_toList]
  cases q : x.cps.toList[i]? with
  | none => rw [q] at h; cases h
  | some c => rw [q] at h; cases h; exact ⟨c, rfl, rfl⟩
theorem it_zs {K : PySem.W.Frag} {B : List Addr} {H : Hp} {x y : Str} : ItOk K B H (ItZS x y) (zipD (strsD x) (strsD y)) := fun i B' H' se all => by
  have l1 : (strsD x).length = x.cps.size := by simp [strsD]
  have l2 : (strsD y).length = y.cps.size := by simp [strsD]
  rw [zip_len]
  refine ⟨fun hi => ⟨by omega, by omega⟩, fun hi => ?_, fun d v H2 hd yy => ?_⟩
  · show x.cps.size ≤ i ∨ y.cps.size ≤ i
    omega
  · obtain ⟨T', c, d', o, rfl, ho, hT, rfl, y1, y2⟩ := yy
    obtain ⟨d1, d2, e1, e2, rfl⟩ := zip_get _ _ i d hd
    obtain ⟨c1, f1, rfl⟩ := strsD_get e1
    obtain ⟨c2, f2, rfl⟩ := strsD_get e2
    rw [y1] at f1
    rw [y2] at f2
    cases f1
    cases f2
    exact ⟨same_upd hT, new_tup ho all hT (.cons (.str _) (.cons (.str _) .nil))⟩
section
variable {X : Cx} {ca : String → Addr} {W : WX}
theorem pi_zpA {e e2 : Expr} {ta : TA} {p pos tpos : Pos} {elts : List Expr} {kk : Nat} (hg : Gl X "zip") (hm : X.mg "zip" = none) (ha : PA X [e, e2] ta)
    (hs : starEach [e, e2] X.env = (false, eval e X.env) :: starEach [e2] X.env := by rfl) (hpl : (backTo pos (starEach [e2] X.env)).any (·.1) = false := by rfl) :
    PI X (.Tuple elts kk tpos) (.Call (.Name "zip" p) [e, e2] [] pos) (iZpA X.K ta) := by
  refine ⟨fun pins s σ H R I h => ?_⟩
  refine Call_ (ld_blt I hg hm boot_zip (PyProof.Rows.callWith_type1 (thn (ha.run pos pins s σ H _ I h) fun us s1 ⟨vs, H1, I1, r1, q1⟩ => ?_) hs hpl))
  rcases q1 with ⟨t1, t2, a, b, xs, ys, ex, hq, hq2, q⟩ | ⟨x, y, ex, q⟩
  · subst ex
    cases r1 with
    | cons r rr =>
      cases rr with
      | cons r' rr =>
        cases rr
        cases r
        cases r'
        obtain ⟨its, rv, p1, hz⟩ := sqB_at I1 hq
        obtain ⟨its2, rv2, p2, hz2⟩ := sqB_at I1 hq2
        have la := sqAt_lt p1
        have lb := sqAt_lt p2
        refine zip_begins2 (begins t1 a its.toArray) (begins t2 b its2.toArray) p1 p2 fun h' zz zT zO g1 g2 hsz hk => wpAny_pyIter_zip zz ?_
        have I2 : Inv X pins σ H1 { s1 with heap := h' } := I1.kept (t' := s1.toks) hk
        have ne : ∀ i j : Nat, i ≠ j → s1.heap.objs.size + i ≠ s1.heap.objs.size + j := fun i j h e => h (Nat.add_left_cancel e)
        have D : Apart (s1.heap.objs.size + 4) (s1.heap.objs.size + 2) (s1.heap.objs.size + 3) s1.heap.objs.size (s1.heap.objs.size + 1) :=
          ⟨ne 2 4 (by decide), ne 3 4 (by decide), ne 2 3 (by decide), ne 2 0 (by decide), ne 2 1 (by decide), ne 4 0 (by decide), ne 4 1 (by decide), ne 3 0 (by decide), ne 3 1 (by decide), ne 0 1 (by decide)⟩
        have lt : ∀ c i : Nat, c < s1.heap.objs.size → c < s1.heap.objs.size + i := fun c i h => Nat.lt_of_lt_of_le h (Nat.le_add_right _ _)
        refine ⟨s1.heap.objs.size + 4, [s1.heap.objs.size + 4, s1.heap.objs.size + 2, s1.heap.objs.size + 3, s1.heap.objs.size, s1.heap.objs.size + 1], _, _, H1, rfl, I2,
          turn_zp t1 t2 0 D ⟨lt _ 4 la, lt _ 2 la, lt _ 3 la, la, lt _ 1 la⟩ ⟨lt _ 4 lb, lt _ 2 lb, lt _ 3 lb, lb, lt _ 1 lb⟩, ⟨zz, zT, ⟨_, _, zO⟩, itAt_new g1, itAt_new g2⟩, fun c hc => ?_, q⟩
        have hle : s1.heap.objs.size ≤ c := by
          have e' : c = s1.heap.objs.size + 4 ∨ c = s1.heap.objs.size + 2 ∨ c = s1.heap.objs.size + 3 ∨ c = s1.heap.objs.size ∨ c = s1.heap.objs.size + 1 := by simpa using hc
          rcases e' with z | z | z | z | z
          · rw [z]; exact Nat.le_add_right _ _
          · rw [z]; exact Nat.le_add_right _ _
          · rw [z]; exact Nat.le_add_right _ _
          · rw [z]; exact Nat.le_refl _
          · rw [z]; exact Nat.le_add_right _ _
        exact I1.fpOk hle (I1.hok.fresh hle)
  · subst ex
    cases r1 with
    | cons r rr =>
      cases rr with
      | cons r' rr =>
        cases rr
        obtain ⟨tx, rfl⟩ := r
        obtain ⟨ty, rfl⟩ := r'
        refine zip_begins2 (begins_text x tx) (begins_text y ty) trivial trivial fun h' zz zT zO g1 g2 hsz hk => wpAny_pyIter_zip zz ?_
        have I2 : Inv X pins σ H1 { s1 with heap := h' } := I1.kept (t' := s1.toks) hk
        have ne : ∀ i j : Nat, i ≠ j → s1.heap.objs.size + i ≠ s1.heap.objs.size + j := fun i j h e => h (Nat.add_left_cancel e)
        have D : Apart (s1.heap.objs.size + 4) (s1.heap.objs.size + 2) (s1.heap.objs.size + 3) s1.heap.objs.size (s1.heap.objs.size + 1) :=
          ⟨ne 2 4 (by decide), ne 3 4 (by decide), ne 2 3 (by decide), ne 2 0 (by decide), ne 2 1 (by decide), ne 4 0 (by decide), ne 4 1 (by decide), ne 3 0 (by decide), ne 3 1 (by decide), ne 0 1 (by decide)⟩
        refine ⟨s1.heap.objs.size + 4, [s1.heap.objs.size + 4, s1.heap.objs.size + 2, s1.heap.objs.size + 3, s1.heap.objs.size, s1.heap.objs.size + 1], _, _, H1, rfl, I2,
          turn_zs D, ⟨zz, zT, ⟨_, _, zO⟩, ⟨_, g1, rfl, rfl⟩, ⟨_, g2, rfl, rfl⟩, Nat.zero_le _, Nat.zero_le _⟩, fun c hc => ?_, q⟩
        have hle : s1.heap.objs.size ≤ c := by
          have e' : c = s1.heap.objs.size + 4 ∨ c = s1.heap.objs.size + 2 ∨ c = s1.heap.objs.size + 3 ∨ c = s1.heap.objs.size ∨ c = s1.heap.objs.size + 1 := by simpa using hc
          rcases e' with z | z | z | z | z
          · rw [z]; exact Nat.le_add_right _ _
          · rw [z]; exact Nat.le_add_right _ _
          · rw [z]; exact Nat.le_add_right _ _
          · rw [z]; exact Nat.le_refl _
          · rw [z]; exact Nat.le_add_right _ _
        exact I1.fpOk hle (I1.hok.fresh hle)
theorem ig_zipA {e e2 : Expr} {ga : M (List L)} {p pos tpos : Pos} {elts : List Expr} {kk : Nat} (hg : Gl X "zip") (hm : X.mg "zip" = none) (ha : PA X [e, e2] (tGA X.K ca W ga))
    (hs : starEach [e, e2] X.env = (false, eval e X.env) :: starEach [e2] X.env := by rfl) (hpl : (backTo pos (starEach [e2] X.env)).any (·.1) = false := by rfl) :
    PI X (.Tuple elts kk tpos) (.Call (.Name "zip" p) [e, e2] [] pos) (iG X.K ca W (gZipA ga)) :=
  ⟨fun pins s σ H R I ⟨c, ρ, n, S, h⟩ => by
    refine (pi_zpA hg hm ha hs hpl).run pins s σ H R I ⟨c, ρ, n, S, (Res.post_bind h).mono (fun ls n1 h1 vs H1 g1 r1 => ?_) (fun e m h => h)⟩
    obtain ⟨ds, e, h2⟩ := Res.post_lift (Res.post_bind h1)
    obtain ⟨is, e2, h3⟩ := Res.post_lift h2
    have r2 := r1.ds e
    by_cases hc : ∃ a b : Str, ds = [.str a, .str b]
    · obtain ⟨a, b, rfl⟩ := hc
      cases e2
      cases r2 with
      | cons k1 r3 =>
        cases r3 with
        | cons k2 r4 =>
          cases r4
          cases k1
          cases k2
          exact .inr ⟨a, b, rfl, h3 _ H1 g1 it_zs⟩
    · have e3 : fZip ds = some is := by
        rw [← e2]
        unfold fZipA
        split
        · rename_i a b; exact (hc ⟨a, b, rfl⟩).elim
        · rfl
      refine .inl ?_
      unfold fZip at e3
      split at e3
      · rename_i d1 d2
        cases r2 with
        | cons k1 r3 =>
          cases r3 with
          | cons k2 r4 =>
            cases r4
            cases q1 : rowD d1 with
            | none => rw [q1] at e3; cases e3
            | some xs =>
              rw [q1, Option.bind_some] at e3
              cases q2 : rowD d2 with
              | none => rw [q2] at e3; cases e3
              | some ys =>
                rw [q2] at e3
                cases e3
                obtain ⟨t1, a, vs1, rfl, w1, w2⟩ := rowD_rep k1 q1
                obtain ⟨t2, b, vs2, rfl, w3, w4⟩ := rowD_rep k2 q2
                exact ⟨t1, t2, a, b, vs1, vs2, rfl, sqB_mono (fun _ _ => hid_sub) w1, sqB_mono (fun _ _ => hid_sub) w3, h3 _ H1 g1 (it_zp w1 w2 w3 w4)⟩
      · cases e3⟩
end
@[simp] theorem e_gZipA {gl : M (List L)} {ρ : G.Env} {n : Nat} : gZipA gl ρ n = (gl ρ n).bind fun ls n1 => (asDs ls n1).bind fun ds n2 => Res.lift (fZipA ds) n2 := rfl
@[simp] theorem x_zipA_tt {xs ys : List D} : fZipA [.tuple xs, .tuple ys] = some (zipD xs ys) := rfl
@[simp] theorem x_zipA_ll {xs ys : List D} : fZipA [.list xs, .list ys] = some (zipD xs ys) := rfl
@[simp] theorem x_zipA_lt {xs ys : List D} : fZipA [.list xs, .tuple ys] = some (zipD xs ys) := rfl
@[simp] theorem x_zipA_tl {xs ys : List D} : fZipA [.tuple xs, .list ys] = some (zipD xs ys) := rfl
@[simp] theorem x_zipA_TT {a b : List Nat} : fZipA [T a, T b] = some (zipD (a.map fun c => T [c]) (b.map fun c => T [c])) := rfl
end G

/-! an exception out of a comprehension's element (a call) -/
namespace G
open PySem PySem.Spec PyProof.Rows L2
theorem tracedZ_sub {h base base' : Heap} {e : Addr} {Z : Obj → Prop} {fl : Value} (x : HandSPX.TracedZ h base e Z fl) (sub : ∀ b, base.get? b = none → base'.get? b = none) : HandSPX.TracedZ h base' e Z fl := by
  obtain ⟨oe, vs, T, oT, ts, he, hc, hd, h1, hnT, r⟩ := x
  exact ⟨oe, vs, T, oT, ts, he, hc, hd, h1, sub _ hnT, r⟩
theorem tracedZ_same {h h' base : Heap} {e L : Addr} {Z : Obj → Prop} {fl : Value} {m : Str → Option Value} (x : HandSPX.TracedZ h base e Z fl) (hn : h.Ns L m) (hs : Heap.SameBut L h h') : HandSPX.TracedZ h' base e Z fl := by
  obtain ⟨oe, vs, T, oT, ts, he, hc, hd, h1, hnT, hTe, hT, hdT, h3⟩ := x
  obtain ⟨oL, es, ep, hoL, hdL, _⟩ := hn
  have neE : e ≠ L := fun q => by
    rw [q, hoL] at he
    have z := Option.some.inj he
    rw [← z, hdL] at hd
    cases hd
  have neT : T ≠ L := fun q => by
    rw [q, hoL] at hT
    have z := Option.some.inj hT
    rw [← z, hdL] at hdT
    cases hdT
  exact ⟨oe, vs, T, oT, ts, (hs.2 e neE).trans he, hc, hd, h1, hnT, hTe, (hs.2 T neT).trans hT, hdT, h3⟩
abbrev _root_.L2.Cx.blkX (X : Cx) (s : Shared) (H : Hp) (scope : Scope) (cenv : PySem.Env) (fp : List Addr) (xe : Value → Shared → Prop) : Cx := (X.blk s H scope cenv fp).wish xe
section
variable {X : Cx} {W : WX}
/-- a call's exception goes out of the block -/
theorem comp_raise {pins pn9 : List (Addr × Obj)} {σ σ9 : L2.St} {H3 H9 : Hp} {s3 s9 s' : Shared} {scope : Scope} {ce : PySem.Env} {fp : List Addr} {e : Value} {E : XK}
    (tk : Takes X W) (hs : X.stack = X.env :: X.outer) (hf : X.env.frame = some X.env.locals) (I3 : Inv X pins σ H3 s3) (hC : ce.locals = s3.heap.objs.size) (hcf : ce.frame = X.env.frame) (f3 : ∀ b ∈ fp, FpOk X pins H3 b)
    (I9 : Inv (X.blk s3 H3 scope ce fp) pn9 σ9 H9 s9) (hW : ∀ cls d H', E cls d H' → W cls d σ H') (c : L2.CX X.prog X.w X.stack H9 s9 E e s') :
    notedBy (model X.prog X.w) X.A ce (CompFails (model X.prog X.w) X.A X.xe ce) e s' := by
  obtain ⟨a, B, H', cls, d, rfl, fl, hok, ub, na, os, ag, hE⟩ := c
  have hfr : X.A.frames = some (X.env :: X.outer) := by rw [I3.ok.frames, hs]
  -- the block's names
  have hC9 : H9 ce.locals = none := I9.free
  obtain ⟨m, hn9, _⟩ := I9.loc
  have hn9 : s9.heap.Ns ce.locals m := hn9
  have fC := I3.fpOk (b := ce.locals) (Nat.le_of_eq hC.symm) hC9
  have hCst : ce.locals ∉ frs X.stack := fun z => by
    rcases List.mem_cons.mp (I3.stkSub _ z) with z | z
    · exact fC.2.1 z
    · exact fC.2.2.1 z
  have st : B.StaysIn s'.heap := fl.1
  obtain ⟨oC, esC, epC, hoC, hdC, rC⟩ := id hn9
  have hBC : B.get? ce.locals = some oC := ub.keep _ _ hoC hC9 hCst
  have hn' : s'.heap.Ns ce.locals m := ⟨oC, esC, epC, st _ _ hBC, hdC, rC⟩
  have hC' : H' ce.locals = none := ub.free _ _ hoC hC9
  -- the ground without them
  obtain ⟨B', b1, b2⟩ := restrict B fun b => decide (b ≠ ce.locals)
  have bC : B'.get? ce.locals = none := b2 _ (by simp)
  have bO : ∀ b, b ≠ ce.locals → B'.get? b = B.get? b := fun b hb => b1 b (by simpa using hb)
  have bS : ∀ b o, B'.get? b = some o → b ≠ ce.locals ∧ B.get? b = some o := fun b o h => by
    have ne : b ≠ ce.locals := fun z => by rw [z, bC] at h; cases h
    exact ⟨ne, by rw [← bO b ne]; exact h⟩
  have bN : ∀ b, B.get? b = none → B'.get? b = none := fun b h => by
    by_cases z : b = ce.locals
    · rw [z]; exact bC
    · rw [bO b z]; exact h
  have fl' : HandSPX.FlyingZ B' X.stack a (Zc cls d) s'.heap := by
    obtain ⟨q1, q2, q3, q4⟩ := fl
    refine ⟨fun b o h => q1 b o (bS b o h).2, bN _ q2, ?_, tracedZ_sub q4 bN⟩
    exact funFrames_none q3 fun L hL => by
      have := (q3.mem hL).1
      exact bN _ this
  rw [hs] at fl'
  show wpAny _ _ (noteFrame (.ref a) ce) _ _ s'
  rw [noteFrame_env _ hcf]
  refine HandSPX.looks_onZ Zc.steady hfr hf fl' fun h1 hh1 up1 => ?_
  have hn1 : h1.Ns ce.locals m := hn'.upToSlots up1
  refine ⟨m, hn1, fun h2 m2 hn2 hs2 => ?_⟩
  have hh2 : HandSPX.HeldZ B' (X.env :: X.outer) a (Zc cls d) X.env.locals h2 := by
    obtain ⟨q1, q2, q3, q4⟩ := hh1
    exact ⟨fun b o h => (hs2.2 b (bS b o h).1).trans (q1 b o h), q2, Heap.FunFrames.sameBut hs2 hn2 q3, tracedZ_same q4 hn1 hs2⟩
  obtain ⟨oe, vs, Tr, oT, ts, he, hz, hd, hv1, _⟩ := id hh2.2.2.2
  unfold PySem.passOn
  refine wpAny_bind (wpAny_field he hd hv1 ?_)
  rw [if_neg (show ¬ ((Value.ref Tr == Value.none) = true) from by simp)]
  rw [hcf.trans hf]
  refine wpAny_bind (HandSPX.setFlight_onZ hh2 fun h3 hh3 up3 => ?_)
  refine wpAny_throw ?_
  -- in the def's own air
  obtain ⟨G, g1, g2⟩ := restrict s'.heap fun b => (B'.get? b).isSome || decide (b ∈ frs X.stack)
  have gB : ∀ b o, B'.get? b = some o → G.get? b = some o := fun b o h => by
    rw [g1 b (by simp [h])]
    exact st b o (bS b o h).2
  have gF : ∀ b, b ∈ frs X.stack → G.get? b = s'.heap.get? b := fun b hb => g1 b (by simp [hb])
  have og : ∀ b o, G.get? b = some o → s'.heap.get? b = some o ∧ ((B'.get? b).isSome = true ∨ b ∈ frs X.stack) := fun b o h => by
    cases q : ((B'.get? b).isSome || decide (b ∈ frs X.stack)) with
    | false => rw [g2 b q] at h; cases h
    | true =>
      rw [g1 b q] at h
      exact ⟨h, by simpa [Bool.or_eq_true] using q⟩
  have below : ∀ b o, s3.heap.get? b = some o → b ≠ ce.locals := fun b o h z => by
    have := Heap.lt_size h
    rw [z, hC] at this
    exact Nat.lt_irrefl _ this
  have u9 : Un (frs X.stack) fp H3 H9 s3.heap s9.heap := I9.base
  refine tk _ _ ⟨a, B', { s3 with heap := G, gens := s'.gens, drawn := s'.drawn, toks := s'.toks }, pins, σ, H', cls, d, rfl, ?_, fun b o h hb => ?_, fun b o h hnf => ?_, .inr (.inr (hs ▸ hh3)), na, ?_, ag, hW _ _ _ hE⟩
  · refine I3.call (ch := fp) ⟨fun b o h n hb hx => ?_, fun b o h n hb hx => ?_, fun b o h n hx => ?_, fun b o h hx => ?_, fun b xs q => ub.tups b xs (u9.tups b xs q), fun b o u q => ub.frzs b o u (u9.frzs b o u q), fun b ps q => ?_⟩ (fun b u q => ?_) ag fun b hb => ⟨(f3 b hb).2.2.2.1, (f3 b hb).2.1, (f3 b hb).2.2.2.2.1, (f3 b hb).2.2.2.2.2⟩
    · have h9 := u9.keep b o h n hb hx
      have n9 := u9.free b o h n hx
      exact gB b o (by rw [bO b (below b o h)]; exact ub.keep b o h9 n9 hb)
    · obtain ⟨sl, h9⟩ := u9.slot b o h n hb hx
      obtain ⟨sl2, q⟩ := ub.slot b _ h9 hb
      exact ⟨sl2, by rw [gF b hb]; exact q⟩
    · obtain ⟨sl, h9⟩ := u9.any h n hx
      exact ub.free b _ h9 (u9.free b o h n hx)
    · obtain ⟨o', h9⟩ := u9.there b o h hx
      by_cases hb : b ∈ frs X.stack
      · obtain ⟨sl, q⟩ := ub.slot b o' h9 hb
        exact ⟨_, by rw [gF b hb]; exact q⟩
      · obtain ⟨o2, q⟩ := ub.there b o' h9 hb
        exact ⟨o2, gB b o2 (by rw [bO b (below b o h)]; exact q)⟩
    · obtain ⟨m1, q1⟩ := u9.tbls b ps q
      obtain ⟨m2, q2⟩ := ub.tbls b _ q1
      exact ⟨m1 ++ m2, by rw [q2, Array.append_assoc]⟩
    · refine (hok b u q).stay (fun c v hc r => gB c v ?_) (fun _ r => r) fun _ _ r => r
      have ne : c ≠ ce.locals := fun z => by
        rcases hc with hc | hc
        · rw [← hc, z, hC'] at q; cases q
        · rw [z, hC'] at hc; cases hc
      rw [bO c ne]
      exact r
  · obtain ⟨e', hh⟩ := og b o h
    rcases hh with hh | hh
    · obtain ⟨o', q⟩ := Option.isSome_iff_exists.mp hh
      have z := st b o' (bS b o' q).2
      rw [e'] at z; cases z
      exact q
    · exact absurd hh hb
  · obtain ⟨e', hh⟩ := og b o h
    have ne : b ≠ ce.locals := fun z => by
      rcases hh with hh | hh
      · rw [z, bC] at hh; cases hh
      · rw [z] at hh; exact hCst hh
    obtain ⟨sl1, q1⟩ := up1 b o e' hnf
    have q2 := (hs2.2 b ne).trans q1
    obtain ⟨sl3, q3⟩ := up3 b _ q2 hnf
    exact ⟨sl3, q3⟩
  · have := I9.os
    rw [os]
    exact this.trans rfl
end
end G

/-! [f(..) for .. in ..], f may raise -/
namespace G
open PySem PySem.Spec PyProof.Rows L2
section
variable {X : Cx} {W : WX}
/-- the element's reading, with what it may let out -/
def tLcE (W : WX) (wi : TI) (g : TG) (tt : TT) (te : WX → TE) (vs : List Nat) : TE := fun σ H Q => tLc wi g tt (te fun cls d _ H' => W cls d σ H') vs σ H Q
theorem pe_lcE {elt tg iter : Expr} {ifs : List Expr} {scope : Scope} {own : List (Str × Nat)} {pos : Pos} {wi : TI} {g : TG} {tt : TT} {te : WX → TE} (hc : X.calm = true) (tk : Takes X W) (hst : X.stack = X.env :: X.outer) (hfr : X.env.frame = some X.env.locals) (hN : X.N.Nodup) (hi : PI X tg iter wi) (ok : BlkOk X.N X.env.scope scope own)
    (hg : ∀ (s : Shared) (H : Hp) (C : Addr) (cl : List (Str × Addr)) (fp : List Addr), PG (X.blk s H scope (compEnvC scope cl C X.env) fp) tg g) (ht : ∀ (s : Shared) (H : Hp) (C : Addr) (cl : List (Str × Addr)) (fp : List Addr), PTs (X.blk s H scope (compEnvC scope cl C X.env) fp) ifs tt)
    (he : ∀ (s : Shared) (H : Hp) (C : Addr) (cl : List (Str × Addr)) (fp : List Addr) (xe : Value → Shared → Prop) (W' : WX), (∀ σ : L2.St, PassesAt (L2.CX X.prog X.w) (X.blkX s H scope (compEnvC scope cl C X.env) fp xe) σ (WE W' σ)) → PE (X.blkX s H scope (compEnvC scope cl C X.env) fp xe) elt (te W')) (hs : ∀ x, foldedSetIterable iter X.env x = pure x := by intro _; rfl) :
    PE X (.ListComp elt [⟨tg, iter, ifs, 0⟩] scope pos) (tLcE W wi g tt te (own.map (·.2))) := by
  refine ⟨fun pins s σ H Q I h => ?_⟩
  rw [eval_ListComp]
  have h : tLc wi g tt (te fun cls d _ H' => W cls d σ H') (own.map (·.2)) σ H Q := h
  have hfree : ∀ y ∈ scope.names, y.2 = .free → ∃ c, X.env.cells.lookup y.1 = some c := fun y hy e => by
    rcases ok.free y hy e with k | k
    · exact I.ok.has _ (.inl k)
    · exact I.ok.has _ (.inr k)
  refine comprehension_at (use := none) rfl hs (closure_ok hfree) ok.kind (fun y hy e => by rw [ok.uniq y hy, e])
    (thn (hi.run pins s σ H _ I h) fun xv s1 hx => thn hx fun itv s2 h2 => ?_)
  obtain ⟨it, fp, tn, J, H2, e, I2, T, st2, f2, q⟩ := h2
  subst e
  refine wpAny_newObj_type (newEnv_comp ?_) (by show 0 ≤ sizeLine; decide)
  generalize hD : s2.heap.objs.size = D
  have hDn : H2 D = none := I2.hok.fresh (Nat.le_of_eq hD)
  obtain ⟨Wi, ⟨m0, w0⟩, turn⟩ := q D hDn
  -- the new list
  generalize hs3 : ({ s2 with heap := s2.heap.push { cls := .type "list", data := .seq ([] : List Value).toArray } } : Shared) = s3
  have I3 : Inv X pins σ (upd H2 D (.lst [])) s3 := by
    rw [← hs3]
    refine I2.laid (t' := s2.toks) (fun b o e => Heap.get?_push_of_some _ e) (Nat.le_of_eq hD) ⟨Nat.zero_le _, [], 0, .nil, ?_⟩
    rw [← hD]
    exact Heap.get?_push_size _ rfl
  have h3 : s3.heap = s2.heap.push { cls := .type "list", data := .seq ([] : List Value).toArray } := by rw [← hs3]
  have sz : ∀ b ∈ fp, b < s2.heap.objs.size := fun b hb => by
    obtain ⟨o, e, _⟩ := T.obj _ _ st2 b hb
    exact Heap.lt_size e
  have f3 : ∀ b ∈ fp, FpOk X pins (upd H2 D (.lst [])) b ∧ b < s3.heap.objs.size := fun b hb => by
    have hlt := sz b hb
    refine ⟨⟨?_, (f2 b hb).2⟩, by rw [h3, Heap.size_push]; exact Nat.lt_succ_of_lt hlt⟩
    rw [upd_ne (by rw [← hD]; exact Nat.ne_of_lt hlt)]
    exact (f2 b hb).1
  have st3 : tn 0 s3.heap := T.keep _ _ _ st2 fun b _ o e => by rw [h3]; exact Heap.get?_push_of_some _ e
  have I4 := block_start I3 ok hN f3
  have pg := hg s3 (upd H2 D (.lst [])) s3.heap.objs.size (cellsFrom (s3.heap.objs.size + 1) scope.names (cloFrom X.env.cells scope.names [])) fp
  have pt := ht s3 (upd H2 D (.lst [])) s3.heap.objs.size (cellsFrom (s3.heap.objs.size + 1) scope.names (cloFrom X.env.cells scope.names [])) fp
  have pe := he s3 (upd H2 D (.lst [])) s3.heap.objs.size (cellsFrom (s3.heap.objs.size + 1) scope.names (cloFrom X.env.cells scope.names [])) fp
  show codeAny _ _ (.compStart (.ListComp elt [⟨tg, iter, ifs, 0⟩] scope pos) 0 (.ref it) (.ref D) (compEnvC scope (cellsFrom (s3.heap.objs.size + 1) scope.names (cloFrom X.env.cells scope.names [])) s3.heap.objs.size X.env)) (compEnds (model X.prog X.w) X.A X.xe none (EP X pins σ Q) (.ref D) (compEnvC scope (cellsFrom (s3.heap.objs.size + 1) scope.names (cloFrom X.env.cells scope.names [])) s3.heap.objs.size X.env)) { s3 with heap := pushCells (s3.heap.push { cls := .type "dict", data := .dict #[] }) scope.names }
  have nfp : ∀ b ∈ fp, (upd H2 D (.lst [])) b = none := fun b hb => (f3 b hb).1.1
  generalize hce : compEnvC scope (cellsFrom (s3.heap.objs.size + 1) scope.names (cloFrom X.env.cells scope.names [])) s3.heap.objs.size X.env = ce at I4 pg pt pe ⊢
  have cL : ce.locals = s3.heap.objs.size := by subst hce; rfl
  have cF : ce.frame = X.env.frame := by subst hce; rfl
  generalize hH3 : upd H2 D (.lst []) = H3 at I3 I4 pg pt pe w0 nfp f3
  generalize hs4 : ({ s3 with heap := pushCells (s3.heap.push { cls := .type "dict", data := .dict #[] }) scope.names } : Shared) = s4 at I4 ⊢
  have st4 : tn 0 s4.heap := T.keep _ _ _ st3 fun b _ o e => by rw [← hs4]; exact pushCells_keeps _ _ _ _ (Heap.get?_push_of_some _ e)
  have stat : ∀ {σ' : L2.St} {H' : Hp} {s' : Shared}, Inv (X.blk s3 H3 scope ce fp) [] σ' H' s' → (∀ b ∈ fp, H' b = none) → ∀ b ∈ fp, FpOk (X.blk s3 H3 scope ce fp) [] H' b := fun {σ' H' s'} I' hn b hb =>
    ⟨hn b hb, (I'.ok.exf b hb).1, I'.ok.exfs b hb, .inl hb, fun x c e => (I'.ok.exf b hb).2 x c e, fun p hp => absurd (show p ∈ ([] : List (Addr × Obj)) ++ [] from hp) (by simp)⟩
  -- what a call in the element may let out
  have pe' := pe (fun e s' => notedBy (model X.prog X.w) X.A ce (CompFails (model X.prog X.w) X.A X.xe ce) e s') (fun cls d _ H' => W cls d σ H') (fun σ' pins' H' s' e s'' I' c =>
    comp_raise tk hst hfr I3 cL cF (fun b hb => (f3 b hb).1) I'.unwish (fun _ _ _ h => h) c)
  have loop : codeAny (model X.prog X.w) X.A (.compLoop (.ListComp elt [⟨tg, iter, ifs, 0⟩] scope pos) 0 (.ref it) (.ref D) ce) (compEnds (model X.prog X.w) X.A X.xe none (EP X pins σ Q) (.ref D) ce) s4 := by
    refine compLoop_any (fun n s' => ∃ i H', Inv (X.blk s3 H3 scope ce fp) [] (wipe σ (own.map (·.2))) H' s' ∧ tn i s'.heap ∧ (∀ b ∈ fp, H' b = none) ∧ Wi i n H') ?_ m0 ⟨0, H3, I4, st4, nfp, w0⟩
    rintro n s5 ⟨i, H5, I5, st5, n5, w5⟩
    rcases turn i n H5 w5 with ⟨stop, qq⟩ | ⟨go, Nx, hNx, step⟩
    · have td := T.done (X.blk s3 H3 scope ce fp) rfl rfl rfl hc i [] s5 _ H5 (fun _ _ => False) I5 (stat I5 n5) st5 stop
      refine thnF td fun r s6 ⟨hr, I6⟩ => ?_
      subst hr
      -- back in the def's context
      have I7 : Inv X pins σ H5 s6 := I3.call' (ch := fp) I6.os I6.base I6.hok I6.bare fun b hb => ⟨(f3 b hb).1.2.2.2.1, (f3 b hb).1.2.1, (f3 b hb).1.2.2.2.2.1, (f3 b hb).1.2.2.2.2.2⟩
      have nC : H5 s3.heap.objs.size = none := by
        have z : H5 ce.locals = none := I6.free
        rw [cL] at z
        exact z
      obtain ⟨m, hn, _⟩ := I6.loc
      have hn : s6.heap.Ns ce.locals m := hn
      obtain ⟨f0, f1, f2, f3', f4, f5⟩ := I3.fpOk (Nat.le_refl _) nC
      refine ⟨m, hn, fun h'' sb => ?_⟩
      rw [cL] at sb
      exact ⟨.ref D, H5, I7.turned (t' := s6.toks) (fun b o hb e => (sb.2 b hb).trans e) f0 f1 f3' f4 f5, rfl, qq⟩
    · have ti := T.item (X.blk s3 H3 scope ce fp) rfl rfl rfl hc i [] s5 _ H5 (fun _ _ => False) I5 (stat I5 n5) st5 go
      refine thnF ti fun r s6 ⟨u, hr, h6⟩ => ?_
      subst hr
      refine thnF h6 fun _ s7 ⟨x, H7, I7, r7, y7, st7, n7⟩ => ?_
      have I7' := I7.pinned (stat I7 n7) (T.obj _ _ st7)
      refine thnF (pg.run _ s7 _ H7 x u _ I7' r7 (step x H7 y7)) fun _ s8 ⟨σ8, H8, I8, hw8, q8⟩ => ?_
      refine thnF (pt.run _ s8 σ8 H8 _ I8 q8) fun b s9 ⟨H9, I9, q9⟩ => ?_
      -- the turn's end
      have fin : ∀ {s' : Shared} {H' : Hp}, Inv (X.blk s3 H3 scope ce fp) ([] ++ pinsAt fp s7.heap) σ8 H' s' → Nx H' → ∃ m, m < n ∧ ∃ i H', Inv (X.blk s3 H3 scope ce fp) [] (wipe σ (own.map (·.2))) H' s' ∧ tn i s'.heap ∧ (∀ b ∈ fp, H' b = none) ∧ Wi i m H' := fun {s' H'} I' nx => by
        obtain ⟨m', hm, w'⟩ := hNx H' nx
        have pin' : ∀ b ∈ fp, ∀ o, s7.heap.get? b = some o → s'.heap.get? b = some o ∧ H' b = none := fun b hb o e =>
          let z := I'.pin (b, o) (List.mem_append_right _ (List.mem_append_right _ (mem_pinsAt hb e)))
          ⟨z.1, z.2.1⟩
        have hl : (wipe σ (own.map (·.2))).length = σ8.length := by rw [← hw8, wipe_length]
        refine ⟨m', hm, i + 1, H', (I'.unpinned (pins := [])).weak hl (fun j v e => ?_), T.keep _ _ _ st7 fun b hb o e => (pin' b hb o e).1, fun b hb => ?_, w'⟩
        · rw [← hw8] at e
          exact (wipe_some e).1
        · obtain ⟨o, e, _⟩ := T.obj _ _ st7 b hb
          exact (pin' b hb o e).2
      cases b with
      | false =>
        simp only [Bool.false_eq_true, if_false] at q9 ⊢
        exact fin I9 q9
      | true =>
        simp only [if_true] at q9 ⊢
        refine wpAny_mono (pe'.run _ s9 σ8 H9 _ (I9.wish _) q9) (fun z s10 ⟨yv, H10, I10, r10, acc, hD10, hz10, nx⟩ => ?_) fun e s' q => q
        exact app_ok (X := X.blk s3 H3 scope ce fp) I10.unwish hD10 hz10 r10 fun s11 I11 => fin I11 nx
  exact codeAny_compStart_list loop (T.self X.A 0 _ _ _ st4 loop)
end
/-! ### the pure side -/
def lcLE (tg : D → Env → Option Env) (tt : M Bool) (te : M D) (ρ : Env) : List D → Nat → Res (List D)
  | [], n => .ok [] n
  | d :: ds, n => match tg d ρ with
    | none => .bad
    | some ρ1 => match tt ρ1 n with
      | .ok true n1 => (match te ρ1 n1 with
        | .ok y n2 => (lcLE tg tt te ρ ds n2).bind fun r n3 => .ok (y :: r) n3
        | .ex c n2 => .ex c n2
        | _ => .bad)
      | .ok false n1 => lcLE tg tt te ρ ds n1
      | _ => .bad
def cLcE (vs : List Nat) (tg : D → Env → Option Env) (gi : M (List D)) (tt : M Bool) (te : M D) : M (List D) := fun ρ n => (gi ρ n).bind fun ds n1 =>
  if ds.length < sizeLine then lcLE tg tt te (wipeE ρ vs) ds n1 else .bad
theorem lc_readE {K : PySem.W.Frag} {ca : String → Addr} {W : WX} {gi : M (List D)} {gR : TG} {tgf : D → Env → Option Env} {ws vs : List Nat} {tt : M Bool} {te : M D} {σ : L2.St} {H : Hp} {Q : VK} (ht : TgOk K gR tgf ws) (hw : ∀ i ∈ ws, i ∈ vs)
    (h : tGF K ca W (cLcE vs tgf gi tt te) σ H Q) : tLcE W (iG K ca W gi) gR (tGT K ca W0 tt) (fun W' => tG K ca W' te) vs σ H Q := by
  obtain ⟨c, ρ, n, S, h⟩ := h
  refine ⟨c, ρ, n, S, (Res.post_bind h).mono (fun ds n1 h1 J H1 g1 it => ?_) (fun e m h => h)⟩
  intro A hA
  have S1 := S.ext g1
  split at h1
  · rename_i hsz
    have hA0 : H A = none := fresh_back g1 S.tB' S1.all hA
    refine ⟨fun i m H2 => ∃ n' acc us, i ≤ ds.length ∧ m = ds.length - i ∧ Gx c.t H1 n' H2 ∧ H2 A = some (.lst us) ∧ RepAll K (hid (A :: c.B) H2) us acc ∧ acc.length ≤ i ∧
      (lcLE tgf tt te (wipeE ρ vs) (ds.drop i) n').Post (fun r n2 => ∀ us' H3, Gx c.t H1 n2 H3 → H3 A = some (.lst us') → RepAll K (hid (A :: c.B) H3) us' (acc ++ r) → Q (.ref A) H3) (fun e m => ∀ H3, Gx c.t H1 m H3 → W (.ref (ca e)) none σ H3), ⟨ds.length, n1, [], [], Nat.zero_le _, by simp, S1.pure (same_upd hA), upd_same, .nil, Nat.le_refl _, ?_⟩, ?_⟩
    · exact h1.mono (fun r n2 q us' H3 g3 h3 r3 => q A us' H3 (g1.trans g3) hA0 h3 r3) fun e m h H3 g3 => h H3 (g1.trans g3)
    rintro i m H2 ⟨n2, acc, us, hi, rfl, g2, hA2, rA, hacc, post⟩
    have se : Sees c.B H1 (A :: c.B) H2 := fun b o q => by
      obtain ⟨q1, q2⟩ := hid_some (g2.sees S.tB' b o q)
      refine hid_of (fun z => ?_) q2
      rcases List.mem_cons.mp z with z | z
      · have q' := (hid_some q).2
        rw [z, hA] at q'; cases q'
      · exact q1 z
    have S2 : SR K (c.at (A :: c.B)) σ H2 ρ n2 := S1.move g2 (fun b hb => List.mem_cons_of_mem _ hb) (fun b hb => by
      rcases List.mem_cons.mp hb with z | z
      · rw [z, hA2]; simp
      · exact (S1.ext g2).all b z) se
    obtain ⟨k1, k2, k3⟩ := it i (A :: c.B) H2 se S2.all
    by_cases hlt : i < ds.length
    · obtain ⟨d, hd, ed⟩ := drop_at hlt
      rw [ed] at post
      refine .inr ⟨k1 hlt, fun H2 => ∃ n' acc us, Gx c.t H1 n' H2 ∧ H2 A = some (.lst us) ∧ RepAll K (hid (A :: c.B) H2) us acc ∧ acc.length ≤ i + 1 ∧
        (lcLE tgf tt te (wipeE ρ vs) (ds.drop (i + 1)) n').Post (fun r n2 => ∀ us' H3, Gx c.t H1 n2 H3 → H3 A = some (.lst us') → RepAll K (hid (A :: c.B) H3) us' (acc ++ r) → Q (.ref A) H3) (fun e m => ∀ H3, Gx c.t H1 m H3 → W (.ref (ca e)) none σ H3),
        fun H' ⟨n', acc, us, q1, q2, q3, q4, q5⟩ => ⟨ds.length - (i + 1), by omega, n', acc, us, hlt, rfl, q1, q2, q3, q4, q5⟩, fun x H3 y => ?_⟩
      obtain ⟨sm, rx⟩ := k3 d x H3 hd y
      have g3 := S2.pure sm
      have S3 := (S2.ext g3).wipe vs
      unfold lcLE at post
      cases q : tgf d (wipeE ρ vs) with
      | none => rw [q] at post; exact post.elim
      | some ρ3 =>
        simp only [q] at post
        refine ht (c.at (A :: c.B)) (L2.wipe σ vs) H3 (wipeE ρ vs) n2 x d ρ3 _ S3 rx q fun σ4 S4 w4 => ⟨(w4 vs hw).trans (wipe_idem σ vs), c.at (A :: c.B), ρ3, n2, S4, ?_⟩
        cases q4 : tt ρ3 n2 with
        | bad => simp only [q4] at post; exact post.elim
        | ex e m =>
          simp only [q4] at post
          exact post.elim
        | ok k n4 =>
          rw [q4] at post
          refine fun H4 g4 => ?_
          have S5 := S4.ext g4
          have g24 : Gx c.t H2 n4 H4 := g3.trans g4
          have hA4 : H4 A = some (.lst us) := g24.ext A _ hA2 fun z => by
            have := S1.all c.t S.tB'
            rw [← z, hA] at this
            exact this rfl
          have rA4 := Rep.monoAll (g24.sees S2.tB') _ _ rA
          cases k with
          | false =>
            simp only [Bool.false_eq_true, if_false] at post ⊢
            exact ⟨n4, acc, us, g2.trans g24, hA4, rA4, by omega, post⟩
          | true =>
            simp only [if_true] at post ⊢
            refine ⟨c.at (A :: c.B), ρ3, n4, S5, ?_⟩
            cases q5 : te ρ3 n4 with
            | bad => rw [q5] at post; exact post.elim
            | ex e m =>
              rw [q5] at post
              exact fun H5 g5 => post H5 ((g2.trans g24).trans g5)
            | ok y n5 =>
              rw [q5] at post
              refine fun yv H5 g5 r5 => ⟨us, g5.ext A _ hA4 (fun z => by
                have := S1.all c.t S.tB'
                rw [← z, hA] at this
                exact this rfl), by rw [rA.length]; omega, n5, acc ++ [y], us ++ [yv], ⟨fun b o q ne => ?_, ?_⟩, upd_same, ?_, by simp; omega, ?_⟩
              · rw [upd_ne (fun z => by rw [z, hA] at q; cases q)]
                exact ((g2.trans g24).trans g5).ext b o q ne
              · rw [upd_ne (fun z => by
                  have := S1.all c.t S.tB'
                  rw [z, hA] at this
                  exact this rfl)]
                exact g5.town
              · have se5 : ∀ b o, hid (A :: c.B) H5 b = some o → hid (A :: c.B) (upd H5 A (.lst (us ++ [yv]))) b = some o := fun b o z => by
                  obtain ⟨z1, z2⟩ := hid_some z
                  have ne : b ≠ A := fun z => z1 (by rw [z]; exact List.mem_cons_self)
                  exact hid_of z1 (by rw [upd_ne ne]; exact z2)
                exact (Rep.monoAll se5 _ _ (Rep.monoAll (g5.sees S2.tB') _ _ rA4)).append (.cons (Rep.mono se5 _ _ r5) .nil)
              · exact (Res.post_bind post).mono (fun r n6 q us' H6 g6 h6 r6 => q us' H6 g6 h6 (by rw [List.append_assoc] at r6; exact r6)) fun _ _ h => h
    · have e : i = ds.length := by omega
      subst e
      rw [List.drop_length] at post
      exact .inl ⟨k2 (Nat.le_refl _), post us H2 g2 hA2 (by rw [List.append_nil]; exact rA)⟩
  · exact h1.elim
section
variable {X : Cx} {ca : String → Addr} {W : WX}
theorem ef_lcE {elt tg iter : Expr} {ifs : List Expr} {scope : Scope} {own : List (Str × Nat)} {pos : Pos} {gi : M (List D)} {gR : TG} {tgf : D → Env → Option Env} {ws : List Nat} {tt : M Bool} {te : M D} (hc : X.calm = true) (tk : Takes X W) (hN : X.N.Nodup) (hi : PI X tg iter (iG X.K ca W gi)) (ok : BlkOk X.N X.env.scope scope own)
    (hg : ∀ (s : Shared) (H : Hp) (C : Addr) (cl : List (Str × Addr)) (fp : List Addr), PG (X.blk s H scope (compEnvC scope cl C X.env) fp) tg gR) (hok : TgOk X.K gR tgf ws) (hw : ∀ i ∈ ws, i ∈ own.map (·.2))
    (ht : ∀ (s : Shared) (H : Hp) (C : Addr) (cl : List (Str × Addr)) (fp : List Addr), PTs (X.blk s H scope (compEnvC scope cl C X.env) fp) ifs (tGT X.K ca W0 tt))
    (he : ∀ (s : Shared) (H : Hp) (C : Addr) (cl : List (Str × Addr)) (fp : List Addr) (xe : Value → Shared → Prop) (W' : WX), (∀ σ : L2.St, PassesAt (L2.CX X.prog X.w) (X.blkX s H scope (compEnvC scope cl C X.env) fp xe) σ (WE W' σ)) → PE (X.blkX s H scope (compEnvC scope cl C X.env) fp xe) elt (tG X.K ca W' te))
    (hst : X.stack = X.env :: X.outer := by rfl) (hfr : X.env.frame = some X.env.locals := by rfl) (hs : ∀ x, foldedSetIterable iter X.env x = pure x := by intro _; rfl) :
    PE X (.ListComp elt [⟨tg, iter, ifs, 0⟩] scope pos) (tGF X.K ca W (cLcE (own.map (·.2)) tgf gi tt te)) :=
  PE.weak (pe_lcE hc tk hst hfr hN hi ok hg ht he hs) fun _ _ _ h => lc_readE hok hw h
theorem ev_callP {e : Expr} {es : List Expr} {pos p : Pos} {x : Str} {k : Nat} {f : Addr} {fd : FuncData} {ps : List Str} {F : Fn} {gs : M (List L)} (tk : ∀ σ : L2.St, PassesAt (L2.CX X.prog X.w) X σ (WE W σ)) (Fk : FnOk X.prog X.w X.K X.mg X.base (L2.CX X.prog X.w) k f fd ps (spG X.K ca ps.length F)) (hr : Room k X.A) (hg : Gl X x) (hm : X.mg x = some (.ref f)) (hk : PySem.W.keepIn X.K (.ref f) = true) (hb : Binds X.K fd ps [])
    (ha : PA X (e :: es) (tGA X.K ca W gs)) {m : Nat} (hm2 : ps.length = m := by rfl) (hdb : (x == ("__debug__" : Str)) = false := by decide) (he : starEach (e :: es) X.env = (false, eval e X.env) :: starEach es X.env := by rfl) (hpl : (backTo pos (starEach es X.env)).any (·.1) = false := by rfl) :
    PE X (.Call (.Name x p) (e :: es) [] pos) (tG X.K ca W (cCall m F gs)) :=
  PE.weak (pe_callS Fk hr hg hm hk hb tk ha hdb he hpl) fun σ H Q ⟨c, ρ, n, S, h⟩ => by
    refine ⟨c, ρ, n, S, (Res.post_bind h).mono (fun ls n1 h1 vs H1 g1 r1 => ?_) (fun e m h => h)⟩
    subst hm2
    have S1 := S.ext g1
    split at h1
    · rename_i hz
      exact ⟨r1.length.trans hz, c, ls, n1, S.sub, S.tB, S1.all, S1.town, r1, h1.mono (fun d n' h v H' g r => h v H' (g1.trans g) r) (fun e m h H' g => h H' (g1.trans g))⟩
    · exact h1.elim
end
theorem e_cLcE {vs : List Nat} {tg : D → Env → Option Env} {fa : M (List D)} {ba : M Bool} {ga : M D} {ρ : Env} {n : Nat} : cLcE vs tg fa ba ga ρ n = (fa ρ n).bind fun ds n1 =>
  if ds.length < sizeLine then lcLE tg ba ga (wipeE ρ vs) ds n1 else .bad := rfl
end G

/-! a + b as a new list -/
namespace G
open PySem PySem.Spec PyProof.Rows L2
def fAddL : D → D → Option (List D)
  | .list ds, .list es => if ds.length + es.length ≤ sizeLine then some (ds ++ es) else none
  | _, _ => none
def cAddF (ga gb : M D) : M (List D) := fun ρ n => (ga ρ n).bind fun a n1 => (gb ρ n1).bind fun b n2 => Res.lift (fAddL a b) n2
section
variable {X : Cx} {ca : String → Addr} {W : WX} {a b : Expr} {ga gb : M D} {pos : Pos}
theorem ef_addL (ha : PE X a (tG X.K ca W ga)) (hb : PE X b (tG X.K ca W gb)) : PE X (.BinOp a .Add b pos) (tGF X.K ca W (cAddF ga gb)) :=
  PE.weak (pe_op op_cat ha hb) fun σ H Q ⟨c, ρ, n, S, h⟩ => by
    refine ⟨c, ρ, n, S, (Res.post_bind h).mono (fun d n1 h1 x H1 g1 r1 => ?_) (fun e m h => h)⟩
    have S1 := S.ext g1
    refine ⟨c, ρ, n1, S1, (Res.post_bind h1).mono (fun d2 n2 h2 y H2 g2 r2 => ?_) (fun e m h => exK.at h g1)⟩
    obtain ⟨ds, e, h3⟩ := Res.post_lift h2
    have S2 := S1.ext g2
    cases r1 with
    | @lst l xs es k1 k2 =>
      cases r2 with
      | @lst l2 xs2 es2 k3 k4 =>
        unfold fAddL at e
        simp only at e
        split at e
        · rename_i hz
          cases e
          obtain ⟨y1, y2⟩ := hid_some k1
          have nt : l ≠ c.t := fun z => y1 (z ▸ S.tB')
          refine ⟨l, l2, xs, xs2, rfl, rfl, g2.ext l _ y2 nt, hid_sub k3, by rw [k2.length, k4.length]; exact hz, fun p hp => ?_⟩
          refine h3 p _ _ ((g1.trans g2).trans (S2.pure (same_upd hp))) (fresh_back (g1.trans g2) S.tB' S2.all hp) upd_same ?_
          exact (Rep.monoAll (hid_fresh hp) _ _ (Rep.monoAll (g2.sees S.tB') _ _ k2)).append (Rep.monoAll (hid_fresh hp) _ _ k4)
        · cases e
      | _ => cases e
    | _ => cases e
end
@[simp] theorem e_cAddF {ga gb : M D} {ρ : G.Env} {n : Nat} : cAddF ga gb ρ n = (ga ρ n).bind fun a n1 => (gb ρ n1).bind fun b n2 => Res.lift (fAddL a b) n2 := rfl
@[simp] theorem x_addLF {ds es : List D} : fAddL (.list ds) (.list es) = if ds.length + es.length ≤ sizeLine then some (ds ++ es) else none := rfl
end G

/-! {k: v, ..} -/
namespace G
open PySem PySem.Spec PyProof.Rows L2
def cPairs : List (M D × M D) → M (List (Key × D))
  | [] => fun _ n => .ok [] n
  | p :: r => fun ρ n => (p.1 ρ n).bind fun k n1 => (p.2 ρ n1).bind fun d n2 => (Res.lift (keyD k) n2).bind fun k n3 => (cPairs r ρ n3).bind fun kvs n4 => .ok ((k, d) :: kvs) n4
def cDisp (ps : List (M D × M D)) : M (List (Key × D)) := fun ρ n => (cPairs ps ρ n).bind fun kvs n1 => if kvs.length ≤ 15 then .ok (mergeD [] kvs) n1 else .bad
section
variable {X : Cx} {ca : String → Addr} {W : WX}
theorem pairs_read : ∀ (ps : List (M D × M D)) {c : Fm} {σ : L2.St} {H : Hp} {ρ : Env} {n : Nat} {R : List (V × V) → Hp → Prop}, SR X.K c σ H ρ n →
    (cPairs ps ρ n).Post (fun kvs n' => ∀ ws H', Gx c.t H n' H' → RepK X.K (hid c.B H') ws kvs → R (ws.map fun kv => (kV kv.1, kv.2)) H') (exK ca W c σ H) →
    tPairs (ps.map fun p => (tG X.K ca W p.1, tG X.K ca W p.2)) σ H R
  | [], c, σ, H, ρ, n, R, S, h => h [] H S.gx .nil
  | p :: r, c, σ, H, ρ, n, R, S, h => by
    refine ⟨c, ρ, n, S, (Res.post_bind h).mono (fun k n1 h1 x H1 g1 r1 => ?_) (fun e m h => h)⟩
    have S1 := S.ext g1
    refine ⟨c, ρ, n1, S1, (Res.post_bind h1).mono (fun d n2 h2 y H2 g2 r2 => ?_) (fun e m h => exK.at h g1)⟩
    have S2 := S1.ext g2
    obtain ⟨kk, ek, h3⟩ := Res.post_lift (Res.post_bind h2)
    have ex := key_rep (Rep.mono (g2.sees S.tB') _ _ r1) ek
    subst ex
    refine pairs_read r S2 ((Res.post_bind h3).mono (fun kvs n4 h4 ws H3 g3 r3 => ?_) (fun e m h => exK.at (exK.at h g1) g2))
    exact h4 ((kk, y) :: ws) H3 ((g1.trans g2).trans g3) (.cons ⟨rfl, Rep.mono (g3.sees S.tB') _ _ r2⟩ r3)
theorem ed_disp {ps : List (M D × M D)} {pos : Pos} {keys : List (Option Expr)} {values : List Expr} (h : PPs X pos keys values (ps.map fun p => (tG X.K ca W p.1, tG X.K ca W p.2))) (hall : keys.all (·.isSome) = true := by rfl) (hl : keys.length = values.length := by rfl) (h0 : keys ≠ [] := by simp)
    (h15 : keys.length ≤ 15 := by decide) : PE X (.Dict keys values pos) (tGD X.K ca W (cDisp ps)) :=
  PE.weak (pe_disp h hall hl h0 h15) fun σ H Q ⟨c, ρ, n, S, h⟩ => fun p hp => by
    have g0 : Gx c.t H n (upd H p (.dK [])) := S.pure (same_upd hp)
    obtain ⟨S', se⟩ := S.adopt g0 hp (by rw [upd_same]; simp)
    have nt : p ≠ c.t := fun z => by rw [z, S.town] at hp; cases hp
    refine pairs_read ps S' ((Res.post_bind h).mono (fun kvs n1 h1 ws H2 g2 r2 => ?_) (fun e m h => exK.at h g0))
    split at h1
    · rename_i hz
      have e2 : H2 p = some (.dK []) := g2.ext p _ upd_same nt
      have hlen : ws.length = kvs.length := by have := congrArg List.length r2.keys; simpa using this
      refine ⟨e2, ws, rfl, by rw [hlen]; exact hz, ?_⟩
      have g3 : Gx c.t H n1 (upd H2 p (.dK (mergeK [] ws))) := ⟨fun b o hb ne => by
        have nb : b ≠ p := fun z => by rw [z, hp] at hb; cases hb
        rw [upd_ne nb]
        exact g2.ext b o (by rw [upd_ne nb]; exact hb) ne, by rw [upd_ne nt.symm]; exact g2.town⟩
      refine h1 p _ _ g3 hp upd_same ?_
      have se3 : ∀ b o, hid (p :: c.B) H2 b = some o → hid (p :: c.B) (upd H2 p (.dK (mergeK [] ws))) b = some o := fun b o z => by
        obtain ⟨z1, z2⟩ := hid_some z
        have ne : b ≠ p := fun z => z1 (by rw [z]; exact List.mem_cons_self)
        exact hid_of z1 (by rw [upd_ne ne]; exact z2)
      exact RepK.merge (PySem.W.EachIs.mono (fun p q h => ⟨h.1, Rep.mono se3 _ _ h.2⟩) r2) .nil
    · exact h1.elim
end
theorem e_cDisp {ps : List (M D × M D)} {ρ : Env} {n : Nat} : cDisp ps ρ n = (cPairs ps ρ n).bind fun kvs n1 => if kvs.length ≤ 15 then .ok (mergeD [] kvs) n1 else .bad := rfl
@[simp] theorem e_cPairs0 {ρ : Env} {n : Nat} : cPairs [] ρ n = .ok [] n := rfl
@[simp] theorem e_cPairs1 {p : M D × M D} {r : List (M D × M D)} {ρ : Env} {n : Nat} : cPairs (p :: r) ρ n = (p.1 ρ n).bind fun k n1 => (p.2 ρ n1).bind fun d n2 => (Res.lift (keyD k) n2).bind fun k n3 => (cPairs r ρ n3).bind fun kvs n4 => .ok ((k, d) :: kvs) n4 := rfl
end G

/-! "..".join(xs) != t.replace("..", "..") -/
namespace G
open PySem PySem.Spec PyProof.Rows L2 PySem.StrLaws
/-- an expression behind which a token is out -/
def PE1 (X : Cx) (e : Expr) (t : TE) : Prop := ∀ (pins : List (Addr × Obj)) (s : Shared) (σ : L2.St) (H : Hp) (Q : VK), Inv X pins σ H s → t σ H Q →
  wpAny (model X.prog X.w) X.A (eval e X.env) (fun v s1 => 1 ≤ s1.toks ∧ EP X pins σ Q v s1) X.xe s
theorem PE1.weak {X : Cx} {e : Expr} {t t' : TE} (h : PE1 X e t) (w : ∀ σ H Q, t' σ H Q → t σ H Q) : PE1 X e t' := fun pins s σ H Q I q => h pins s σ H Q I (w _ _ _ q)
theorem PET.weak {X : Cx} {e : Expr} {t t' : TE} (h : PET X e t) (w : ∀ σ H Q, t' σ H Q → t σ H Q) : PET X e t' := fun pins s σ H Q h0 I q => h pins s σ H Q h0 I (w _ _ _ q)
section
variable {X : Cx} {a b e o : Expr} {ta tb te to : TE} {pos apos c0 c1 : Pos} {j k : Nat} {y z : Str}
theorem pe1_m1c {id : String} {name : Str} {r : V → List V → Hp → VK → Prop} (slot : Slot "str" name id) (ty : typeOf (.builtin id) = pure (.type "method_descriptor")) (rule : MtR X id r) (he : PE X e te)
    (hs : starEach [e] X.env = [(false, eval e X.env)] := by rfl) (hbase : attributeBase (.Constant (.str y) j c0) name X.env (eval (.Constant (.str y) j c0) X.env) = eval (.Constant (.str y) j c0) X.env := by rfl) (hline : (apos.endLine == pos.line) = true := by rfl) :
    PE1 X (.Call (.Attribute (.Constant (.str y) j c0) name apos) [e] [] pos) (tM1 r (tC (.str y)) te) := by
  intro pins s σ H Q I h
  refine PySem.Call_method1 hbase hs hline (Calls.Constant_str ?_)
  obtain ⟨_, q1⟩ := h
  refine ⟨"str", _, PySem.F.plainAttrs_str, slot, ty, typeIs_str _ _ _, (fun _ e => nomatch e), ?_⟩
  refine wpAny_mono (PySem.wpAny_toks (Calls.callWith_builtin rfl (Calls.evalArgs_plain (Calls.spliced_cons
    (thn (he.run pins { s with toks := s.toks + 1 } σ H _ (I.tok _) q1) fun u s2 ⟨x, H2, I2, r2, q2⟩ => Calls.spliced_nil (rule pins s2 σ H2 (.str y) [x] (.str y s.toks) [u] Q I2 ⟨_, rfl⟩ (.cons r2 .nil) q2)))))) (fun v s3 q => ⟨?_, q.2⟩) fun _ _ z => z.2
  have := q.1
  exact Nat.le_trans (Nat.le_add_left 1 s.toks) this
theorem pt_cmp1T {op : CmpOp} {r : R2} (ho : OpR X (compareOp op) r) (ha : PE1 X a ta) (hb : PET X b tb) (hm : behindInMarks op b = false) : PT X (.Compare a [op] [b] pos) (tTest (tOp r ta tb)) := by
  refine ⟨fun pins s σ H Q I h => ?_⟩
  refine wpAny_isTrue_Compare1 (thn (ha pins s σ H _ I h) fun v s1 ⟨hk, x, H1, I1, r1, q1⟩ => thn (hb pins s1 σ H1 _ hk I1 q1) fun u s2 ⟨y, H2, I2, r2, q2⟩ =>
    thn (ho pins s2 σ H2 x y v u _ I2 r1 r2 q2) fun c s3 ⟨z, H3, I3, r3, k, e, q3⟩ => ?_) hm
  subst e
  cases r3
  exact wpAny_truthy_bool ⟨H3, I3, q3⟩
end
def mRepl (y z : Str) : D → Option D
  | .str x => if x.length + (x.length + 1) * z.length ≤ 16777216 then some (.str (PySem.Txt.replace x y z)) else none
  | _ => none
section
variable {X : Cx} {ca : String → Addr} {W : WX} {e o : Expr} {go ge : M D} {y u v : Str} {j j1 j2 : Nat} {p c0 c1 c2 apos bpos pos1 pos2 pos : Pos}
theorem et_jr0 (hu : X.A.units + 64 < cLine) (he : PE X e (tG X.K ca W ge)) (ho : PE X o (tG X.K ca W go)) (hyz : (u == v) = false := by decide)
    (hs : starEach [e] X.env = [(false, eval e X.env)] := by rfl) (hbase : attributeBase (.Constant (.str y) j c0) "join" X.env (eval (.Constant (.str y) j c0) X.env) = eval (.Constant (.str y) j c0) X.env := by rfl) (hline : (apos.endLine == pos1.line) = true := by rfl)
    (hst : starEach [.Constant (.str u) j1 c1, .Constant (.str v) j2 c2] X.env = [(false, eval (.Constant (.str u) j1 c1) X.env), (false, eval (.Constant (.str v) j2 c2) X.env)] := by rfl)
    (hbase2 : attributeBase o "replace" X.env (eval o X.env) = eval o X.env := by rfl) (hline2 : (bpos.endLine == pos2.line) = true := by rfl) :
    PT X (.Compare (.Call (.Attribute (.Constant (.str y) j c0) "join" apos) [e] [] pos1) [.NotEq] [.Call (.Attribute o "replace" bpos) [.Constant (.str u) j1 c1, .Constant (.str v) j2 c2] [] pos2] pos)
      (tGT X.K ca W (cB (G.c2 opNe (cM1 mJoin (cC (.str y)) ge) (G.c1 (mRepl u v) go)))) := by
  have ha : PE1 X (.Call (.Attribute (.Constant (.str y) j c0) "join" apos) [e] [] pos1) (tG X.K ca W (cM1 mJoin (cC (.str y)) ge)) :=
    (pe1_m1c PySem.F.slot_str_join PySem.F.type_str_join mt_join he hs hbase hline).weak fun σ H Q ⟨c, ρ, n, S, h⟩ => by
      have h' : ((ge ρ n).bind fun b n2 => Res.lift (mJoin (.str y) b) n2).Post _ _ := h
      refine ⟨⟨y, rfl⟩, c, ρ, n, S, (Res.post_bind h').mono (fun b n2 h2 y' H2 g2 r2 => ?_) (fun e m h => h)⟩
      obtain ⟨d, ed, h3⟩ := Res.post_lift h2
      have S2 := S.ext g2
      exact om_join c.B H2 y y' b d Q S2.all r2 ed fun v H3 s3 r3 => h3 v H3 (g2.trans (S2.pure s3)) r3
  have hb : PET X (.Call (.Attribute o "replace" bpos) [.Constant (.str u) j1 c1, .Constant (.str v) j2 c2] [] pos2) (tG X.K ca W (G.c1 (mRepl u v) go)) :=
    (PET.weak (CwR.pet_replC ho hyz hst hbase2 hline2) fun σ H Q ⟨c, ρ, n, S, h⟩ => by
      refine ⟨c, ρ, n, S, (Res.post_bind h).mono (fun a n1 h1 x H1 g1 r1 => ?_) (fun e m h => h)⟩
      obtain ⟨d, ed, h3⟩ := Res.post_lift h1
      have S1 := S.ext g1
      cases r1 with
      | str w =>
        unfold mRepl at ed
        simp only at ed
        split at ed
        · rename_i hz
          cases ed
          exact ⟨w, rfl, hz, h3 _ H1 (g1.trans (S1.pure (Same.refl H1))) (.str _)⟩
        · cases ed
      | _ => cases ed)
  exact PT.weak (pt_cmp1T (op_neD hu) ha hb rfl) fun σ H Q h => by
    obtain ⟨c, ρ, n, S, h⟩ := tG_cB h
    exact tG_c2 o_ne ⟨c, ρ, n, S, h⟩
theorem et_jr {l lu lv : List Nat} (hu : X.A.units + 64 < cLine) (he : PE X e (tG X.K ca W ge)) (ho : PE X o (tG X.K ca W go)) (hy : y = ⟨l.toArray⟩ := by decide +kernel) (h1 : u = ⟨lu.toArray⟩ := by decide +kernel) (h2 : v = ⟨lv.toArray⟩ := by decide +kernel) (hyz : (u == v) = false := by decide)
    (hs : starEach [e] X.env = [(false, eval e X.env)] := by rfl) (hbase : attributeBase (.Constant (.str y) j c0) "join" X.env (eval (.Constant (.str y) j c0) X.env) = eval (.Constant (.str y) j c0) X.env := by rfl) (hline : (apos.endLine == pos1.line) = true := by rfl)
    (hst : starEach [.Constant (.str u) j1 c1, .Constant (.str v) j2 c2] X.env = [(false, eval (.Constant (.str u) j1 c1) X.env), (false, eval (.Constant (.str v) j2 c2) X.env)] := by rfl)
    (hbase2 : attributeBase o "replace" X.env (eval o X.env) = eval o X.env := by rfl) (hline2 : (bpos.endLine == pos2.line) = true := by rfl) :
    PT X (.Compare (.Call (.Attribute (.Constant (.str y) j c0) "join" apos) [e] [] pos1) [.NotEq] [.Call (.Attribute o "replace" bpos) [.Constant (.str u) j1 c1, .Constant (.str v) j2 c2] [] pos2] pos)
      (tGT X.K ca W (cB (G.c2 opNe (cM1 mJoin (cC (T l)) ge) (G.c1 (mRepl ⟨lu.toArray⟩ ⟨lv.toArray⟩) go)))) := by
  subst hy; subst h1; subst h2
  exact et_jr0 hu he ho hyz hs hbase hline hst hbase2 hline2
end
/-! what it is -/
theorem repl_C (c : Nat) : ∀ l : List Nat, replL [c] [] l = l.filter fun x => !decide (x = c)
  | [] => replL_nil
  | a :: r => by
    by_cases h : a = c
    · rw [replL_hit (by simp) (by simp [h]), List.filter_cons_of_neg (by simp [h])]
      exact repl_C c r
    · rw [replL_miss (by simp [h]), List.filter_cons_of_pos (by simp [h]), repl_C c r]
theorem x_repl {c : Nat} {l : List Nat} (h : l.length ≤ 1000000) : mRepl ⟨[c].toArray⟩ ⟨([] : List Nat).toArray⟩ (T l) = some (T (l.filter fun x => !decide (x = c))) := by
  show (if (⟨l.toArray⟩ : Str).length + ((⟨l.toArray⟩ : Str).length + 1) * (⟨#[]⟩ : Str).length ≤ 16777216 then some (PyData.str (PySem.Txt.replace ⟨l.toArray⟩ ⟨#[c]⟩ ⟨#[]⟩)) else none) = _
  have e1 : (⟨#[]⟩ : Str).length = 0 := rfl
  have e2 : (⟨l.toArray⟩ : Str).length = l.length := T_len l
  rw [e1, e2, if_pos (by omega)]
  have := replace_list (x := ⟨l.toArray⟩) (y := ⟨#[c]⟩) (z := ⟨#[]⟩) (by show 1 ≤ 1; omega)
  rw [show (⟨#[c]⟩ : Str).cps.toList = [c] from rfl, show (⟨#[]⟩ : Str).cps.toList = [] from rfl, show (⟨l.toArray⟩ : Str).cps.toList = l from rfl, repl_C] at this
  rw [← this]
  rfl
end G

/-! f(.., 16).replace("..", "..") as a value: the call lets out a token -/
namespace G
open PySem PySem.Spec PyProof.Rows L2 PySem.StrLaws
def PA1 (X : Cx) (es : List Expr) (t : TA) : Prop := ∀ (pos : Pos) (pins : List (Addr × Obj)) (s : Shared) (σ : L2.St) (H : Hp) (Q : List V → Hp → Prop), Inv X pins σ H s → t σ H Q →
  wpAny (model X.prog X.w) X.A (spliced (backTo pos (starEach es X.env))) (fun us s1 => 1 ≤ s1.toks ∧ AP X pins σ Q us s1) X.xe s
theorem PA1.weak {X : Cx} {es : List Expr} {t t' : TA} (h : PA1 X es t) (w : ∀ σ H Q, t' σ H Q → t σ H Q) : PA1 X es t' := fun pos pins s σ H Q I q => h pos pins s σ H Q I (w _ _ _ q)
section
variable {X : Cx} {ca : String → Addr} {W : WX} {e o : Expr} {es : List Expr} {go ga : M D} {te : TE} {t : TA} {y z u v : Str} {j j1 j2 : Nat} {p c0 c1 c2 apos bpos pos1 pos2 pos : Pos}
theorem pe1_int {i : Int} : PE1 X (.Constant (.int i) j pos) (tC (.int i)) := fun _ s _ H _ I h => wpAny_Constant_int ⟨Nat.le_add_left 1 s.toks, .int i, H, I.tok _, ⟨_, rfl⟩, h⟩
theorem ev1_int {i : Int} : PE1 X (.Constant (.int i) j pos) (tG X.K ca W (cC (.int i))) := pe1_int.weak fun σ H Q ⟨c, ρ, n, S, h⟩ => h _ H S.gx (.int i)
theorem pa1_cons (ha : PE1 X e te) (hr : PA X es t) (hs : starEach (e :: es) X.env = (false, eval e X.env) :: starEach es X.env := by rfl) : PA1 X (e :: es) (tCons te t) := by
  intro pos pins s σ H Q I h
  rw [hs]
  show wpAny _ _ (spliced ((false, eval e X.env) :: backTo pos (starEach es X.env))) _ _ s
  refine Calls.spliced_cons (thn (ha pins s σ H _ I h) fun u s1 ⟨k1, x, H1, I1, r1, q1⟩ => ?_)
  exact wpAny_mono (PySem.wpAny_toks (hr.run pos pins s1 σ H1 _ I1 q1)) (fun us s2 ⟨k2, xs, H2, I2, r2, q2⟩ => ⟨Nat.le_trans k1 k2, x :: xs, H2, I2, .cons r1 r2, q2⟩) fun _ _ z => z.2
theorem pa1_later (ha : PE X e te) (hr : PA1 X es t) (hs : starEach (e :: es) X.env = (false, eval e X.env) :: starEach es X.env := by rfl) : PA1 X (e :: es) (tCons te t) := by
  intro pos pins s σ H Q I h
  rw [hs]
  show wpAny _ _ (spliced ((false, eval e X.env) :: backTo pos (starEach es X.env))) _ _ s
  refine Calls.spliced_cons (thn (ha.run pins s σ H _ I h) fun u s1 ⟨x, H1, I1, r1, q1⟩ => ?_)
  exact thn (hr pos pins s1 σ H1 _ I1 q1) fun us s2 ⟨k2, xs, H2, I2, r2, q2⟩ => ⟨k2, x :: xs, H2, I2, .cons r1 r2, q2⟩
theorem ea1_cons {gs : M (List L)} (ha : PE1 X e (tG X.K ca W ga)) (hr : PA X es (tGA X.K ca W gs)) (hs : starEach (e :: es) X.env = (false, eval e X.env) :: starEach es X.env := by rfl) : PA1 X (e :: es) (tGA X.K ca W (aCons ga gs)) :=
  PA1.weak (pa1_cons ha hr hs) fun _ _ _ ⟨c, ρ, n, S, h⟩ => by
    refine ⟨c, ρ, n, S, (Res.post_bind h).mono (fun x n1 h1 v H1 g1 r1 => ?_) (fun e m h => h)⟩
    refine ⟨c, ρ, n1, S.ext g1, (Res.post_bind h1).mono (fun ls n2 h2 vs H2 g2 r2 => h2 _ H2 (g1.trans g2) (.cons ⟨rfl, ?_⟩ r2)) (fun e m h => exK.at h g1)⟩
    exact Rep.mono (g2.sees S.tB') _ _ r1
theorem ea1_var (i : Nat) {x : Str} {gs : M (List L)} (hr : PA1 X es (tGA X.K ca W gs)) (hN : X.N[i]? = some x := by rfl) (hv : Vis X.env.scope x := by first | exact Or.inl rfl | exact Or.inr (Or.inl rfl) | exact Or.inr (Or.inr rfl)) (hd : (x == ("__debug__" : Str)) = false := by decide)
    (hcd : (x == ("__classdict__" : Str)) = false := by decide) (hs : starEach (.Name x pos :: es) X.env = (false, eval (.Name x pos) X.env) :: starEach es X.env := by rfl) : PA1 X (.Name x pos :: es) (tGA X.K ca W (aVar i gs)) :=
  PA1.weak (pa1_later (pe_var hN hv hd hcd) hr hs) fun σ H Q ⟨c, ρ, n, S, h⟩ => by
    have key : ∀ l : L, isOwn l = false → ρ[i]? = some (some l) → ((gs ρ n).bind fun b n2 => .ok (l :: b) n2).Post (fun ls n' => ∀ vs H', Gx c.t H n' H' → RAs X.K c H' vs ls → Q vs H') (exK ca W c σ H) →
        tCons (tVar i) (tGA X.K ca W gs) σ H Q := fun l ho q h => by
      obtain ⟨v, h1, h2⟩ := S.slot i l q
      refine ⟨v, h1, c, ρ, n, S, (Res.post_bind h).mono (fun ls n2 h3 vs H2 g2 r2 => h3 _ H2 g2 (.cons ⟨ho, RL.ext S g2 h2⟩ r2)) (fun e m h => h)⟩
    unfold aVar at h
    split at h
    · exact key _ rfl (by assumption) h
    · exact key _ rfl (by assumption) h
    · exact key _ rfl (by assumption) h
    · exact h.elim
variable {CX : CXT} {k : Nat} {f : Addr} {fd : FuncData} {ps : List Str} {sp : Sp} {E : L2.St → XK} {x : Str}
theorem pe1_callS (F : FnOk X.prog X.w X.K X.mg X.base CX k f fd ps sp) (hr : Room k X.A) (hg : Gl X x) (hm : X.mg x = some (.ref f)) (hk : PySem.W.keepIn X.K (.ref f) = true) (hb : Binds X.K fd ps []) (hx : ∀ σ, PassesAt CX X σ (E σ))
    (ha : PA1 X (e :: es) t) (hdb : (x == ("__debug__" : Str)) = false := by decide) (he : starEach (e :: es) X.env = (false, eval e X.env) :: starEach es X.env := by rfl) (hpl : (backTo pos (starEach es X.env)).any (·.1) = false := by rfl) :
    PE1 X (.Call (.Name x p) (e :: es) [] pos) (tCallS sp E t) := by
  intro pins s σ H Q I h
  refine wpAny_Call_Name_kw (ld_glob I hg hm ?_ hdb)
  refine PySem.W.callWith_K (h₀ := X.base) I.ok.mod.kin hk (thn (ha pos pins s σ H _ I h) fun us s1 ⟨k1, vs, H1, I1, r, q⟩ => ⟨I1.kIn, ?_⟩) he hpl
  exact wpAny_mono (PySem.wpAny_toks (run_fnS F hr hb (hx σ) I1 r q)) (fun u s2 ⟨k2, q2⟩ => ⟨Nat.le_trans k1 k2, q2⟩) fun _ _ z => z.2
theorem ev1_call {F : Fn} {gs : M (List L)} (tk : Takes X W) (Fk : FnOk X.prog X.w X.K X.mg X.base (L2.CX X.prog X.w) k f fd ps (spG X.K ca ps.length F)) (hr : Room k X.A) (hg : Gl X x) (hm : X.mg x = some (.ref f)) (hk : PySem.W.keepIn X.K (.ref f) = true) (hb : Binds X.K fd ps [])
    (ha : PA1 X (e :: es) (tGA X.K ca W gs)) {m : Nat} (hm2 : ps.length = m := by rfl) (hdb : (x == ("__debug__" : Str)) = false := by decide) (he : starEach (e :: es) X.env = (false, eval e X.env) :: starEach es X.env := by rfl) (hpl : (backTo pos (starEach es X.env)).any (·.1) = false := by rfl) :
    PE1 X (.Call (.Name x p) (e :: es) [] pos) (tG X.K ca W (cCall m F gs)) :=
  PE1.weak (pe1_callS Fk hr hg hm hk hb (fun σ => passAt tk σ) ha hdb he hpl) fun σ H Q ⟨c, ρ, n, S, h⟩ => by
    refine ⟨c, ρ, n, S, (Res.post_bind h).mono (fun ls n1 h1 vs H1 g1 r1 => ?_) (fun e m h => h)⟩
    subst hm2
    have S1 := S.ext g1
    split at h1
    · rename_i hz
      exact ⟨r1.length.trans hz, c, ls, n1, S.sub, S.tB, S1.all, S1.town, r1, h1.mono (fun d n' h v H' g r => h v H' (g1.trans g) r) (fun e m h H' g => h H' (g1.trans g))⟩
    · exact h1.elim
theorem pe_replC1 (ho : PE1 X o te) (hyz : (y == z) = false := by decide)
    (hst : starEach [.Constant (.str y) j c0, .Constant (.str z) j2 c1] X.env = [(false, eval (.Constant (.str y) j c0) X.env), (false, eval (.Constant (.str z) j2 c1) X.env)] := by rfl)
    (hbase : attributeBase o "replace" X.env (eval o X.env) = eval o X.env := by rfl) (hline : (apos.endLine == pos.line) = true := by rfl) :
    PE X (.Call (.Attribute o "replace" apos) [.Constant (.str y) j c0, .Constant (.str z) j2 c1] [] pos) (CwR.tReplC te y z) := by
  refine ⟨fun pins s σ H Q I h => ?_⟩
  refine PySem.Call_method2 hbase hst hline (thn (ho pins s σ H _ I h) (fun v s1 q => ?_))
  obtain ⟨hk, v', H1, I1, r1, x, e1, hb, q⟩ := q
  subst e1
  obtain ⟨tx, e2⟩ := r1
  subst e2
  refine ⟨"str", _, PySem.F.plainAttrs_str, PySem.F.slot_str_replace, PySem.F.type_str_replace, typeIs_str _ _ _, (fun _ e => nomatch e), Calls.callWith_builtin rfl (Calls.evalArgs_plain (Calls.spliced_cons ?_))⟩
  refine Calls.Constant_str (Calls.spliced_cons (Calls.Constant_str (Calls.spliced_nil ?_)))
  exact PySem.SC.replace (by show s1.toks ≠ 0; omega) (by show s1.toks + 1 ≠ 0; omega) (by show s1.toks ≠ s1.toks + 1; omega) hyz hb fun t' k => ⟨.str (Txt.replace x y z), H1, I1.tok k, ⟨t', rfl⟩, q⟩
theorem ev_repl1 {lu lv : List Nat} (ho : PE1 X o (tG X.K ca W go)) (h1 : u = ⟨lu.toArray⟩ := by decide +kernel) (h2 : v = ⟨lv.toArray⟩ := by decide +kernel) (hyz : (u == v) = false := by decide)
    (hst : starEach [.Constant (.str u) j1 c1, .Constant (.str v) j2 c2] X.env = [(false, eval (.Constant (.str u) j1 c1) X.env), (false, eval (.Constant (.str v) j2 c2) X.env)] := by rfl)
    (hbase2 : attributeBase o "replace" X.env (eval o X.env) = eval o X.env := by rfl) (hline2 : (bpos.endLine == pos2.line) = true := by rfl) :
    PE X (.Call (.Attribute o "replace" bpos) [.Constant (.str u) j1 c1, .Constant (.str v) j2 c2] [] pos2) (tG X.K ca W (G.c1 (mRepl ⟨lu.toArray⟩ ⟨lv.toArray⟩) go)) := by
  subst h1; subst h2
  refine PE.weak (pe_replC1 ho hyz hst hbase2 hline2) fun σ H Q ⟨c, ρ, n, S, h⟩ => ?_
  refine ⟨c, ρ, n, S, (Res.post_bind h).mono (fun a n1 h1 x H1 g1 r1 => ?_) (fun e m h => h)⟩
  obtain ⟨d, ed, h3⟩ := Res.post_lift h1
  have S1 := S.ext g1
  cases r1 with
  | str w =>
    unfold mRepl at ed
    simp only at ed
    split at ed
    · rename_i hz
      cases ed
      exact ⟨w, rfl, hz, h3 _ H1 (g1.trans (S1.pure (Same.refl H1))) (.str _)⟩
    · cases ed
  | _ => cases ed
end
/-! x >= y over lists -/
def rGeD (K : PySem.W.Frag) : R2 := fun x y H Q => ∃ d e, Dp K H x d ∧ Dp K H y e ∧ PySem.W.alike d e = true ∧ d ≠ .none ∧ d.depth ≤ 8 ∧ Q (.bl (!PySem.W.dataLt d e)) H
theorem op_geD {X : Cx} (hu : X.A.units + 64 < cLine) : OpR X (compareOp .GtE) (rGeD X.K) := by
  intro pins s σ H x y v u Q I rx ry h
  obtain ⟨d, e, hd, he, ha, hn, hdp, q⟩ := h
  obtain ⟨as, r1⟩ := Dp.reads I d x v hd rx
  obtain ⟨bs, r2⟩ := Dp.reads I e y u he ry
  exact PySem.W.ge_data r1 r2 ha hn (Nat.lt_of_le_of_lt (Nat.add_le_add_left (Nat.le_trans (Nat.min_le_left _ _) hdp) _) (by omega)) ⟨.bl _, H, I, rfl, q⟩
noncomputable def opGeA : D → D → Option D
  | .list xs, .list ys => if PySem.W.alike (.list xs) (.list ys) = true ∧ (PyData.list xs).depth ≤ 8 then some (.bool (!PySem.W.dataLt (.list xs) (.list ys))) else none
  | a, b => opGe a b
abbrev rGe0 : R2 := rCmp (fun i j => decide (j ≤ i)) fun x y => !decide (x.cps.toList < y.cps.toList)
theorem or_geA {X : Cx} (hu : X.A.units + 64 < cLine) : OpR X (compareOp .GtE) (fun x y H Q => rGeD X.K x y H Q ∨ rGe0 x y H Q) := OpR.or (op_geD hu) or_ge
theorem o_geA {K : PySem.W.Frag} : Op2 K (fun x y H Q => rGeD K x y H Q ∨ rGe0 x y H Q) opGeA := by
  intro B H x y a b d Q all ra rb e q
  by_cases hs : ∃ xs ys, a = .list xs ∧ b = .list ys
  · obtain ⟨xs, ys, rfl, rfl⟩ := hs
    have e' : (if PySem.W.alike (.list xs) (.list ys) = true ∧ (PyData.list xs).depth ≤ 8 then some (PyData.bool (!PySem.W.dataLt (.list xs) (.list ys))) else none) = some d := e
    split at e'
    · rename_i hz
      cases e'
      exact .inl ⟨_, _, Rep.dp (fun _ _ => hid_sub) _ _ ra, Rep.dp (fun _ _ => hid_sub) _ _ rb, hz.1, nofun, hz.2, q _ H (Same.refl H) (.bl _)⟩
    · cases e'
  · have e' : opGe a b = some d := by
      rw [← e]
      unfold opGeA
      split
      · rename_i xs ys; exact (hs ⟨xs, ys, rfl, rfl⟩).elim
      · rfl
    exact .inr (o_ge B H x y a b d Q all ra rb e' q)
theorem x_geA {xs ys : List D} (ha : PySem.W.alike (.list xs) (.list ys) = true) (hd : (PyData.list xs).depth ≤ 8) : opGeA (.list xs) (.list ys) = some (.bool (!PySem.W.dataLt (.list xs) (.list ys))) := by
  show (if PySem.W.alike (.list xs) (.list ys) = true ∧ (PyData.list xs).depth ≤ 8 then _ else _) = _
  rw [if_pos ⟨ha, hd⟩]
end G

/-! a dict whose keys are None and ints: {}, d[k] = v, k not in d -/
namespace G
open PySem PySem.Spec PyProof.Rows L2
def keyO : D → Option (Option Int)
  | .none => some none
  | .int i => some (some i)
  | _ => none
def oV : Option Int → V
  | none => .non
  | some i => .int i
def ksPut (ks : List (Option Int)) (k : Option Int) : List (Option Int) := if k ∈ ks then ks else ks ++ [k]
theorem keyO_rep {K : PySem.W.Frag} {H : Hp} {v : V} {d : D} {k : Option Int} (r : Rep K H v d) (e : keyO d = some k) : v = oV k := by
  cases r with
  | non => cases e; rfl
  | int i => cases e; rfl
  | _ => cases e
theorem oV_is {P : Program} {w : World} {k : Option Int} {u : Value} (r : RelV (oV k) u) : (inKind P w).is k u = true := by
  cases k with
  | none =>
    have e : u = Value.none := r
    subst e
    rfl
  | some i =>
    obtain ⟨t, e⟩ : ∃ t, u = Value.int i t := r
    subst e
    exact keyIs_int i t
theorem stored_keys {vs : List (Option Int × Value)} {k : Option Int} {v : Value} : (PySem.stored vs k v).map (·.1) = ksPut (vs.map (·.1)) k := by
  unfold PySem.stored ksPut
  have e : (vs.any fun kv => decide (kv.1 = k)) = decide (k ∈ vs.map (·.1)) := by
    induction vs with
    | nil => simp
    | cons p vs ih =>
      rw [List.any_cons, ih]
      by_cases q : p.1 = k
      · simp [q]
      · simp [q, Ne.symm q]
  rw [e]
  by_cases q : k ∈ vs.map (·.1)
  · rw [if_pos q, if_pos (decide_eq_true q)]
    rw [List.map_map]
    refine List.map_congr_left fun p _ => ?_
    show (if p.1 = k then (p.1, v) else p).1 = p.1
    split <;> rfl
  · rw [if_neg q, if_neg (by rw [decide_eq_false q]; exact Bool.false_ne_true)]
    simp
theorem valueAt_mem {vs : List (Option Int × Value)} {k : Option Int} : (PySem.valueAt vs k).isSome = decide (k ∈ vs.map (·.1)) := by
  unfold PySem.valueAt
  rw [Option.isSome_map]
  induction vs with
  | nil => simp
  | cons p vs ih =>
    rw [List.find?_cons]
    by_cases q : p.1 = k
    · simp [q]
    · rw [decide_eq_false q]
      simp only [ih]
      simp [Ne.symm q]
theorem NDict.at {a : Addr} {ks : List (Option Int)} {h1 h2 : Heap} (x : NDict a ks h1) (k : ∀ o, h1.get? a = some o → h2.get? a = some o) : NDict a ks h2 := by
  obtain ⟨h0, hd, P, w, vs, dd, e⟩ := x
  exact ⟨h0, hd, P, w, vs, dd.at k, e⟩
theorem NDict.okOf {P : Program} {w : World} {H : Hp} {a : Addr} {ks : List (Option Int)} {h : Heap} (x : NDict a ks h) : ObjOk P w H h a (.ext (NDict a ks)) :=
  ⟨x, (let ⟨_, _, _, _, _, ⟨o, _, _, e, _⟩, _⟩ := x; ⟨o, e⟩), fun _ _ p k => p.at k⟩
def tNicNew : TE := fun _ H Q => ∀ p, H p = none → Q (.ref p) (upd H p (.ext (NDict p [])))
def sNPutT (td ty tv : TE) : TS := fun D σ H => tv σ H fun v H1 => td σ H1 fun x H2 => ty σ H2 fun y H3 => ∃ a ks k, x = .ref a ∧ H3 a = some (.ext (NDict a ks)) ∧ y = oV k ∧ ks.length < sizeLine ∧ D.nx σ (upd H3 a (.ext (NDict a (ksPut ks k))))
def tNNotIn (ty td : TE) : TE := fun σ H Q => ty σ H fun y H1 => td σ H1 fun x H2 => ∃ a ks k, x = .ref a ∧ H2 a = some (.ext (NDict a ks)) ∧ y = oV k ∧ Q (.bl (!decide (k ∈ ks))) H2
theorem ksPut_len (ks : List (Option Int)) (k : Option Int) : (ksPut ks k).length ≤ ks.length + 1 := by
  unfold ksPut
  split <;> simp
section
variable {X : Cx} {o i e value : Expr} {pos pos' tpos : Pos} {td ty tv : TE}
theorem pe_nicNew : PE X (.Dict [] [] pos) tNicNew := ⟨fun pins s σ H Q I h =>
  wpAny_Dict_empty ⟨.ref s.heap.objs.size, _, I.laid (a := s.heap.objs.size) (o := .ext (NDict s.heap.objs.size [])) (t' := s.toks) (fun _ _ q => Heap.get?_push_of_some _ q) (Nat.le_refl _)
    (NDict.okOf ⟨Nat.zero_le _, beq_eq_false_iff_ne.mpr (Ne.symm (Nat.ne_of_lt I.big)), X.prog, X.w, [], Heap.DictOf.new s.heap, rfl⟩), rfl, h _ (I.hok.fresh (Nat.le_refl _))⟩⟩
theorem ps_nput (ho : PE X o td) (hi : PE X i ty) (hv : PE X value tv) (hs : swapsWith value (some (.Subscript o i pos')) pos.line X.env = pure false) :
    PS X (.Assign [.Subscript o i pos'] value pos) (sNPutT td ty tv) := by
  refine ⟨fun pins s σ H D I h => ?_⟩
  refine wpAny_Assign_Subscript (thn (hv.run pins s σ H _ I h) fun r s1 ⟨v, H1, I1, rv, q1⟩ => thn (ho.run pins s1 σ H1 _ I1 q1) fun u s2 ⟨x, H2, I2, rx, q2⟩ => thn (hi.run pins s2 σ H2 _ I2 q2) fun iv s3 ⟨y, H3, I3, ry, a, ks, k, ex, eH, ek, hl, q3⟩ => ?_) hs
  subst ex ek
  obtain rfl : u = Value.ref a := rx
  have nd : NDict a ks s3.heap := (I3.hok a _ eH).1
  obtain ⟨vs, dd, hk⟩ := nd.of X.prog X.w
  have hz : vs.length ≤ sizeLine := by have := congrArg List.length hk; simp at this; omega
  refine wpAny_setItem_pairs (hsz := hz) (oV_is ry) dd fun h' dd' hs => ⟨σ, _, d_write I3 (by rw [eH]; exact True.intro) hs (let ⟨q, _, _, hq, _⟩ := dd'; ⟨q, hq⟩) (NDict.okOf ⟨?_, nd.2.1, X.prog, X.w, _, dd', by rw [stored_keys, hk]⟩), q3⟩
  have := ksPut_len ks k
  omega
theorem pc_nnin (hi : PE X i ty) (ho : PE X o td) : PC X .NotIn i o (tNNotIn ty td) := by
  refine ⟨fun pins s σ H Q I h => ?_⟩
  refine thn (hi.run pins s σ H _ I h) fun iv s1 ⟨y, H1, I1, ry, q1⟩ => thn (ho.run pins s1 σ H1 _ I1 q1) fun u s2 ⟨x, H2, I2, rx, a, ks, k, ex, eH, ek, q2⟩ => ?_
  subst ex ek
  obtain rfl : u = Value.ref a := rx
  have nd : NDict a ks s2.heap := (I2.hok a _ eH).1
  obtain ⟨vs, dd, hk⟩ := nd.of X.prog X.w
  refine wpAny_notIn_of (knd := inKind X.prog X.w) (oV_is ry) nd.2.1 dd.mapOf ?_
  rw [valueAt_mem, hk]
  exact ⟨.bl _, H2, I2.tok _, rfl, q2⟩
end
def sNic (i : Nat) : MS := fun ρ n => if i < ρ.length then .nx (ρ.set i (some (.ob (.nic [])))) n else .bad
def nicOf : Option (Option L) → Option (List (Option Int))
  | some (some (.ob (.nic ks))) => some ks
  | _ => none
theorem nicOf_some {o : Option (Option L)} {ks : List (Option Int)} (h : nicOf o = some ks) : o = some (some (.ob (.nic ks))) := by
  unfold nicOf at h
  split at h
  · cases h; rfl
  · cases h
def sNPut (i : Nat) (ge gv : M D) : MS := fun ρ n => match nicOf ρ[i]? with
  | some ks => ofR (gv ρ n) ρ fun _ n1 => ofR (ge ρ n1) ρ fun z n2 => match keyO z with
    | some k => if ks.length < sizeLine then .nx (ρ.set i (some (.ob (.nic (ksPut ks k))))) n2 else .bad
    | none => .bad
  | none => .bad
def cNNot (i : Nat) (ge : M D) : M D := fun ρ n => match nicOf ρ[i]? with
  | some ks => (ge ρ n).bind fun z n1 => Res.lift ((keyO z).map fun k => .bool (!decide (k ∈ ks))) n1
  | none => .bad
section
variable {X : Cx} {ca : String → Addr} {W : WX} {e v : Expr} {ge gv : M D} {pos p1 tp2 : Pos} {i : Nat} {x : Str}
theorem es_nic {pos' : Pos} (hN : X.N.Nodup) (hi : X.N[i]? = some x) (hx : Loc X.env.scope x) (hs : swapsWith (.Dict [] [] p1) (some (.Name x pos')) pos.line X.env = pure false := by rfl) (hf : X.fn x = true ∨ X.env.scope.names.lookup x = some .local := by first | exact .inl rfl | exact .inr rfl | assumption) :
    PS X (.Assign [.Name x pos'] (.Dict [] [] p1) pos) (tS X.K ca W (sNic i)) :=
  PS.weak (ps_set hN hi hx pe_nicNew hs hf) fun E σ H ⟨c, ρ, n, S, h⟩ => fun p hp => by
    unfold sNic at h
    split at h
    · rename_i hlt
      have g1 : Gx c.t H n (upd H p (.ext (NDict p []))) := S.pure (same_upd hp)
      obtain ⟨S1, se⟩ := S.adopt g1 hp (by rw [upd_same]; simp)
      have h0 := h0_none S hp
      exact h _ _ (p :: c.B) (S1.set_ix hlt ⟨p, rfl, List.mem_cons_self, h0, upd_same⟩ fun _ j l' b hj ej oj sj z => by
        cases z
        exact no_own S hp j l' ej oj sj) se
    · exact h.elim
theorem es_nput (hval : PE X v (tG X.K ca W gv)) (he : PE X e (tG X.K ca W ge)) (hN : X.N[i]? = some x := by rfl) (hv : Vis X.env.scope x := by first | exact Or.inl rfl | exact Or.inr (Or.inl rfl) | exact Or.inr (Or.inr rfl)) (hd : (x == ("__debug__" : Str)) = false := by decide)
    (hcd : (x == ("__classdict__" : Str)) = false := by decide) (hs : swapsWith v (some (.Subscript (.Name x p1) e tp2)) pos.line X.env = pure false := by rfl) :
    PS X (.Assign [.Subscript (.Name x p1) e tp2] v pos) (tS X.K ca W (sNPut i ge gv)) :=
  PS.weak (ps_nput (pe_var hN hv hd hcd) he hval hs) fun E σ H ⟨c, ρ, n, S, h⟩ => by
    unfold sNPut at h
    split at h
    · rename_i ks q
      have q := nicOf_some q
      refine ⟨c, ρ, n, S, (post_ofR S h).mono (fun d n1 h1 w H1 g1 r1 => ?_) (fun e m h => h)⟩
      have S1 := S.ext g1
      obtain ⟨v0, hσ, a, rfl, ha, h0, hH⟩ := S1.slot i _ q
      refine ⟨_, hσ, c, ρ, n1, S1, (post_ofR S1 (h1.at (g1.sees S.tB'))).mono (fun z n2 h2 y H2 g2 r2 => ?_) (fun e m h => h)⟩
      have S2 := S1.ext g2
      split at h2
      · rename_i k ek
        split at h2
        · rename_i hz
          have hH2 : H2 a = some (.ext (NDict a ks)) := g2.ext a _ hH fun z => S.old _ S.tB (z ▸ h0)
          refine ⟨a, ks, k, rfl, hH2, keyO_rep r2 ek, hz, ?_⟩
          obtain ⟨S4, s4⟩ := S2.put (l' := .ob (.nic (ksPut ks k))) (o := .ext (NDict a (ksPut ks k))) q rfl rfl hσ ha h0 ⟨a, rfl, ha, h0, upd_same⟩
          exact h2 σ _ c.B S4 ((g2.sees S.tB').trans s4)
        · exact h2.elim
      · exact h2.elim
    · exact h.elim
theorem nnot_conv {σ : L2.St} {H : Hp} {Q : VK} (h : tG X.K ca W (cNNot i ge) σ H Q) : tNNotIn (tG X.K ca W ge) (tVar i) σ H Q := by
  obtain ⟨c, ρ, n, S, h⟩ := h
  unfold cNNot at h
  split at h
  · rename_i ks q
    have q := nicOf_some q
    obtain ⟨v0, hσ, a, rfl, ha, h0, hH⟩ := S.slot i _ q
    refine ⟨c, ρ, n, S, (Res.post_bind h).mono (fun z n1 h1 y H1 g1 r1 => ?_) (fun e m h => h)⟩
    obtain ⟨d', e', h2⟩ := Res.post_lift h1
    cases ek : keyO z with
    | none => rw [ek] at e'; cases e'
    | some k =>
      rw [ek] at e'
      cases e'
      exact ⟨_, hσ, a, ks, k, rfl, g1.ext a _ hH fun z => S.old _ S.tB (z ▸ h0), keyO_rep r1 ek, h2 _ H1 g1 (.bl _)⟩
  · exact h.elim
theorem ev_nnot (he : PE X e (tG X.K ca W ge)) (hN : X.N[i]? = some x := by rfl) (hv : Vis X.env.scope x := by first | exact Or.inl rfl | exact Or.inr (Or.inl rfl) | exact Or.inr (Or.inr rfl)) (hd : (x == ("__debug__" : Str)) = false := by decide)
    (hcd : (x == ("__classdict__" : Str)) = false := by decide) : PE X (.Compare e [.NotIn] [.Name x p1] pos) (tG X.K ca W (cNNot i ge)) :=
  PE.weak (pe_cmp (pc_nnin he (pe_var hN hv hd hcd))) fun σ H Q h => nnot_conv h
theorem et_nnot (he : PE X e (tG X.K ca W ge)) (hN : X.N[i]? = some x := by rfl) (hv : Vis X.env.scope x := by first | exact Or.inl rfl | exact Or.inr (Or.inl rfl) | exact Or.inr (Or.inr rfl)) (hd : (x == ("__debug__" : Str)) = false := by decide)
    (hcd : (x == ("__classdict__" : Str)) = false := by decide) : PT X (.Compare e [.NotIn] [.Name x p1] pos) (tGT X.K ca W (cB (cNNot i ge))) :=
  PT.weak (pt_cmp (pc_nnin he (pe_var hN hv hd hcd))) fun σ H Q h => nnot_conv (tG_cB h)
end
section
variable {ρ : G.Env} {n i : Nat} {ge gv : M D}
@[simp] theorem e_sNic : sNic i ρ n = if i < ρ.length then .nx (ρ.set i (some (.ob (.nic [])))) n else .bad := rfl
@[simp] theorem nicOf_nic {ks : List (Option Int)} : nicOf (some (some (.ob (.nic ks)))) = some ks := rfl
@[simp] theorem keyO_none : keyO .none = some none := rfl
@[simp] theorem keyO_int {j : Int} : keyO (.int j) = some (some j) := rfl
@[simp] theorem e_sNPut : sNPut i ge gv ρ n = match nicOf ρ[i]? with
  | some ks => ofR (gv ρ n) ρ fun _ n1 => ofR (ge ρ n1) ρ fun z n2 => match keyO z with
    | some k => if ks.length < sizeLine then .nx (ρ.set i (some (.ob (.nic (ksPut ks k))))) n2 else .bad
    | none => .bad
  | none => .bad := rfl
@[simp] theorem e_cNNot : cNNot i ge ρ n = match nicOf ρ[i]? with
  | some ks => (ge ρ n).bind fun z n1 => Res.lift ((keyO z).map fun k => .bool (!decide (k ∈ ks))) n1
  | none => .bad := rfl
end
end G

/-! sorted(set(text)) -/
namespace G
open PySem PySem.Spec PySem.Calls PyProof.Rows L2 PySem.W
def keyS (e : Int × Value) : Str := match e.2 with
  | .str k _ => k
  | _ => ⟨#[]⟩
def GoodS (w : World) (e : Int × Value) : Prop := ∃ k tk, e.2 = Value.str k tk ∧ e.1 = hashStr w k
/-- the set of texts at a: S its members, n their number; its table rises and can be walked -/
def SetS (w : World) (h : Heap) (a : Addr) (S : Str → Bool) (n : Nat) : Prop :=
  ∃ o es ep t, h.get? a = some o ∧ o.ExactSet ∧ o.data = .set es ep t ∧ (∀ e ∈ es.toList, GoodS w e) ∧ (es.toList.map keyS).Nodup ∧ (∀ k, S k = true ↔ k ∈ es.toList.map keyS) ∧
    es.size < scanBound ∧ t.fits es.size = true ∧ es.size = n ∧ Ris t.place.toList ∧ (w.params.followText "set-order" = true ∨ t.led = true)
section
variable {P : Program} {w : World} {h h' : Heap} {a : Addr} {S : Str → Bool} {n : Nat}
theorem SetS.at (R : SetS w h a S n) (k : ∀ o, h.get? a = some o → h'.get? a = some o) : SetS w h' a S n := by
  obtain ⟨o, es, ep, t, ho, r⟩ := R
  exact ⟨o, es, ep, t, k o ho, r⟩
theorem SetS.congr {S' : Str → Bool} (R : SetS w h a S n) (e : ∀ k, S' k = S k) : SetS w h a S' n := by
  have q : S' = S := funext e
  rw [q]; exact R
theorem goodS_elems {l : List (Int × Value)} (g : ∀ e ∈ l, GoodS w e) : ElemsOf (strKind P w) l := fun e he => by
  obtain ⟨k, tk, h1, h2⟩ := g e he
  exact ⟨⟨k, by rw [h1]; exact strKind_is P w k tk, h2⟩, by rw [h1] <;> rfl⟩
theorem goodS_is {e : Int × Value} (g : GoodS w e) (k : Str) : (strKind P w).is k e.2 = true ↔ keyS e = k := by
  obtain ⟨k0, tk, h1, _⟩ := g
  unfold keyS
  rw [h1]
  show (Value.isStrOf k (.str k0 tk) = true) ↔ k0 = k
  simp [Value.isStrOf]
theorem goodS_mem {l : List (Int × Value)} (g : ∀ e ∈ l, GoodS w e) (k : Str) : k ∈ l.map keyS ↔ ∃ e ∈ l, (strKind P w).is k e.2 = true := by
  rw [List.mem_map]
  constructor
  · rintro ⟨e, he, q⟩
    exact ⟨e, he, (goodS_is (g e he) k).2 q⟩
  · rintro ⟨e, he, q⟩
    exact ⟨e, he, (goodS_is (g e he) k).1 q⟩
end
section
variable {P : Program} {w : World} {A : Around} {E : Value → Shared → Prop} {s : Shared} {a : Addr} {S : Str → Bool} {n : Nat}
theorem setS_add_tail {g : Bool → Sem Unit} (hg : ∀ (b : Bool) (s₁ : Shared) (Q' : Unit → Shared → Prop), Q' () s₁ → wpAny (model P w) A (g b) Q' E s₁)
    {o : Obj} {es : Array (Int × Value)} {ep : Nat} {t : SetTable} (ho : s.heap.get? a = some o) (hex : o.ExactSet) (hd : o.data = .set es ep t)
    {es1 : Array (Int × Value)} {t2 : SetTable} {S' : Str → Bool} (g1 : ∀ e ∈ es1.toList, GoodS w e) (nd1 : (es1.toList.map keyS).Nodup) (m1 : ∀ k, S' k = true ↔ k ∈ es1.toList.map keyS)
    (hb1 : es1.size < scanBound) (hf2 : t2.fits es1.size = true) (hr : Ris t2.place.toList) (hl : w.params.followText "set-order" = true ∨ t2.led = true) {wasDummy : Bool} {R : Option Bool → Shared → Prop}
    (hR : ∀ h', Heap.SameBut a s.heap h' → SetS w h' a S' es1.size → R (some true) { s with heap := h' }) :
    wpAny (model P w) A (do
        storeSet a es1 t2
        if (!wasDummy && t2.tooFull) = true then do
            g (relayAll t2 es1 (SetTable.grown es1.size)).2.2
            storeSet a (relayAll t2 es1 (SetTable.grown es1.size)).1 (relayAll t2 es1 (SetTable.grown es1.size)).2.1
            pure (some true)
          else pure (some true)) R E s := by
  refine wpAny_bind (wpAny_storeSet_of ho hd ?_ (fits_of_scanBound hb1))
  have ho1 := store_at (es' := es1) (t' := t2) ho hd
  have sb1 := Heap.SameBut.update s.heap a (Obj.putSet es1 t2)
  split
  · have pm := relayAll_perm t2 es1 (SetTable.grown es1.size)
    have hf3 := relayAll_fits t2 es1 (SetTable.grown es1.size)
    have hr3 := relayAll_ris t2 es1 (SetTable.grown es1.size)
    have hl3 := relayAll_led t2 es1 (SetTable.grown es1.size)
    generalize relayAll t2 es1 (SetTable.grown es1.size) = Z at pm hf3 hr3 hl3 ⊢
    obtain ⟨es2, t3, gave⟩ := Z
    dsimp only at pm hf3 hr3 hl3 ⊢
    have hsz : es2.size = es1.size := by rw [← Array.length_toList, pm.length_eq, Array.length_toList]
    have hb2 : es2.size < scanBound := by rw [hsz]; exact hb1
    refine wpAny_bind (hg _ _ _ ?_)
    refine wpAny_bind (wpAny_storeSet_of ho1 rfl ?_ (fits_of_scanBound hb2))
    have ho2 := store_at (es' := es2) (t' := t3) ho1 rfl
    refine wpAny_pure (hR _ (sb1.trans (Heap.SameBut.update _ a _)) ?_)
    exact ⟨_, es2, _, t3, ho2, hex, rfl, fun e he => g1 e (pm.mem_iff.mp he), (pm.map keyS).nodup_iff.mpr nd1, fun k => (m1 k).trans (pm.map keyS).mem_iff.symm, hb2, hf3, hsz, hr3,
      hl.imp id fun z => by rw [hl3]; exact z⟩
  · exact wpAny_pure (hR _ sb1 ⟨_, es1, _, t2, ho1, hex, rfl, g1, nd1, m1, hb1, hf2, rfl, hr, hl⟩)

theorem setS_add_hashed {k : Str} {tk : Tok} {Q : Bool → Shared → Prop} (R : SetS w s.heap a S n) (room : n + 1 < scanBound)
    (hQ : ∀ h', Heap.SameBut a s.heap h' → SetS w h' a (fun j => S j || decide (j = k)) (if S k = true then n else n + 1) → Q (!S k) { s with heap := h' }) :
    wpAny (model P w) A (setAddHashed a (.str k tk) ((strKind P w).hash k)) Q E s := by
  obtain ⟨o, es, ep, t, ho, hex, hd, g, nd, hm, hb, hf, hn, hr, hl⟩ := R
  have hkey : (strKind P w).is k (.str k tk) = true := strKind_is P w k tk
  have hsc : (Value.str k tk).scannable = true := rfl
  have hel : ElemsOf (strKind P w) es.toList := goodS_elems g
  unfold setAddHashed setAddHashedIn
  refine wpAny_holding (wpAny_bind (wpAny_setState_of ho hd hf ?_))
  dsimp only
  rw [byScan_of hsc hb hel]
  simp only [↓reduceIte]
  unfold setAddByScan
  refine wpAny_bind ?_
  refine wpAny_bind (wpAny_rule ?_)
  refine wpAny_bind (wpAny_setScan_of hkey ho hd hf hel ?_)
  cases hfi : List.findIdx? (fun e => (strKind P w).is k e.2) es.toList with
  | some j =>
    dsimp only
    obtain ⟨hj, pj, _⟩ := List.findIdx?_eq_some_iff_getElem.mp hfi
    have hSk : S k = true := (hm k).2 ((goodS_mem (P := P) (w := w) g k).2 ⟨es.toList[j], List.getElem_mem hj, pj⟩)
    refine wpAny_pure (wpAny_pure ?_)
    have q := hQ s.heap (Heap.SameBut.refl a s.heap) ⟨o, es, ep, t, ho, hex, hd, g, nd, fun i => by
      rw [Bool.or_eq_true, decide_eq_true_eq, ← hm i]
      exact ⟨fun z => z.elim id (fun e => e ▸ hSk), .inl⟩, hb, hf, by rw [if_pos hSk]; exact hn, hr, hl⟩
    rw [hSk] at q
    exact q
  | none =>
    dsimp only
    have hnk : k ∉ es.toList.map keyS := fun z => by
      obtain ⟨e, he, q⟩ := (goodS_mem (P := P) (w := w) g k).1 z
      have c := List.findIdx?_eq_none_iff.mp hfi e he
      rw [q] at c
      cases c
    have hSk : S k = false := by
      cases q : S k with
      | false => rfl
      | true => exact absurd ((hm k).1 q) hnk
    have hgw : ∀ (b : Bool) {s₁ : Shared} {Q' : Unit → Shared → Prop}, Q' () s₁ → wpAny (model P w) A (match b with | true => rule "set.scan.the-table-gave-way" | false => pure ()) Q' E s₁ :=
      fun b s₁ Q' q => by cases b <;> first | exact wpAny_pure q | exact wpAny_rule q
    have pm := layNew_perm t es ((strKind P w).hash k) (.str k tk)
    have hf1 := layNew_fits t es ((strKind P w).hash k) (.str k tk)
    have hr1 := layNew_ris t es ((strKind P w).hash k) (.str k tk) hr
    have hl1 := layNew_led t es ((strKind P w).hash k) (.str k tk)
    generalize layNew t es ((strKind P w).hash k) (.str k tk) = Z at pm hf1 hr1 hl1 ⊢
    obtain ⟨es1, t1, wasDummy, gave⟩ := Z
    dsimp only at pm hf1 hr1 hl1 ⊢
    rw [Array.toList_push] at pm
    have pc : es1.toList.Perm (((strKind P w).hash k, Value.str k tk) :: es.toList) := pm.trans (List.perm_append_singleton _ _)
    have pk : (es1.toList.map keyS).Perm (k :: es.toList.map keyS) := pc.map keyS
    have g1 : ∀ e ∈ es1.toList, GoodS w e := fun e he => by
      rcases List.mem_cons.mp (pc.mem_iff.mp he) with z | z
      · rw [z]; exact ⟨k, tk, rfl, rfl⟩
      · exact g e z
    have nd1 : (es1.toList.map keyS).Nodup := pk.nodup_iff.mpr (List.nodup_cons.mpr ⟨hnk, nd⟩)
    have m1 : ∀ i, (S i || decide (i = k)) = true ↔ i ∈ es1.toList.map keyS := fun i => by
      rw [Bool.or_eq_true, decide_eq_true_eq, hm i, pk.mem_iff, List.mem_cons]
      exact Or.comm
    have hsz : es1.size = n + 1 := by rw [← Array.length_toList, pc.length_eq, List.length_cons, Array.length_toList, hn]
    have hb1 : es1.size < scanBound := by rw [hsz]; exact room
    have hled : w.params.followText "set-order" = true ∨ t1.led = true := hl.imp id fun z => by rw [hl1]; exact z
    have fin : ∀ h', Heap.SameBut a s.heap h' → SetS w h' a (fun j => S j || decide (j = k)) es1.size → Q true { s with heap := h' } := fun h' sb r => by
      have q := hQ h' sb
      rw [hSk] at q
      rw [hsz] at r
      exact q r
    refine wpAny_bind (hgw _ ?_)
    split
    · refine wpAny_bind ?_
      rw [hashByValue_scannable 8 hsc]
      refine wpAny_pure ?_
      refine setS_add_tail ?_ ho hex hd g1 nd1 m1 hb1 ?_ ?_ ?_ ?_
      · intro b s₁ Q' q; cases b <;> first | exact wpAny_pure q | exact wpAny_rule q
      · first | (split <;> first | exact hf1 | exact SetTable.fits_plain_off hf1) | exact hf1
      · first | (split <;> exact hr1) | exact hr1
      · first | (split <;> exact hled) | exact hled
      · intro h' sb r; dsimp only; exact wpAny_pure (fin h' sb r)
    · refine wpAny_bind (wpAny_pure ?_)
      simp only [↓reduceIte]
      refine setS_add_tail ?_ ho hex hd g1 nd1 m1 hb1 hf1 hr1 hled ?_
      · intro b s₁ Q' q; cases b <;> first | exact wpAny_pure q | exact wpAny_rule q
      · intro h' sb r; dsimp only; exact wpAny_pure (fin h' sb r)

end
def sgS (c : Nat) : Str := ⟨#[c]⟩
theorem setS_new_at {w : World} {h : Heap} {a : Addr} {ws : List Str} (ho : h.get? a = some { cls := .type "set", dict := none, data := .set #[] 0 (.fresh 0 0 (!w.params.followText "set-order")) }) : SetS w h a (fun j => decide (j ∈ ws.take 0)) 0 :=
  ⟨_, #[], 0, _, ho, ⟨rfl, rfl, rfl⟩, rfl, (fun e he => by simp at he), (by simp), (fun k => by simp), (by decide), (by rfl), rfl, List.Pairwise.nil, by
    show _ ∨ (!w.params.followText "set-order") = true
    cases w.params.followText "set-order"
    · exact .inr rfl
    · exact .inl rfl⟩
section
variable {P : Program} {w : World} {A : Around} {R : Result → Shared → Prop} {I : Addr} {fp wr : List Addr} {n : Nat} {x : Str} {St : Nat → Heap → Prop}
theorem set_update_signs (W : Walks P w A.in1 I fp wr n (SignAt x) St) (hn : n = x.cps.size) (S : Addr) (hSf : S ∉ fp) (hb : x.cps.size + 1 < scanBound) :
    ∀ (k i : Nat) (s : Shared), n - i = k → i ≤ n → St i s.heap → (∃ c, c ≤ i ∧ SetS w s.heap S (fun j => decide (j ∈ (x.cps.toList.map sgS).take i)) c) →
      (∀ h' tk c, (∀ b o, b ∉ S :: wr → s.heap.get? b = some o → h'.get? b = some o) → c ≤ n → SetS w h' S (fun j => decide (j ∈ x.cps.toList.map sgS)) c → R (.ok (.ret .none)) { s with heap := h', toks := tk }) →
      codeAny (model P w) A (.builtin "set.update.loop" ⟨[.ref S, .ref I], []⟩) R s := by
  have hSw : S ∉ wr := fun h => hSf (W.sub _ h)
  have hwl : (x.cps.toList.map sgS).length = n := by rw [List.length_map, Array.length_toList, hn]
  intro k
  induction k with
  | zero =>
    intro i s hk' hi hst ⟨c, hc, hS⟩ hR
    have hin : i = n := by omega
    refine codeAny_builtin PyProof.Rows.F.entry_set_update_loop ?_
    rw [Around.under_plainId PyProof.Rows.F.plain_set_update_loop _]
    show wpAny _ A.in1 (pyNext (.ref I) >>= _) _ _ s
    refine wpAny_bind (W.done s _ _ (by rw [← hin]; exact hst) fun h' tk hk' => ?_)
    show wpAny _ A.in1 (ret Value.none) _ _ _
    have e : (x.cps.toList.map sgS).take i = x.cps.toList.map sgS := List.take_of_length_le (by omega)
    rw [e] at hS
    exact wpAny_pure (hR h' tk c (fun b o hb e => hk' b o (fun z => hb (List.mem_cons_of_mem _ z)) e) (by omega) (hS.at fun o e => hk' S o hSw e))
  | succ k ih =>
    intro i s hk' hi hst ⟨c, hc, hS⟩ hR
    have hlt : i < n := by omega
    refine codeAny_builtin PyProof.Rows.F.entry_set_update_loop ?_
    rw [Around.under_plainId PyProof.Rows.F.plain_set_update_loop _]
    show wpAny _ A.in1 (pyNext (.ref I) >>= _) _ _ s
    refine wpAny_bind (W.item i s _ _ hlt hst fun v h1 tk hP hst' hk1 => ?_)
    obtain ⟨z, t, hz, rfl⟩ := hP
    have hz2 : (x.cps.toList.map sgS)[i]? = some ⟨#[z]⟩ := by
      rw [List.getElem?_map, Array.getElem?_toList, hz]
      rfl
    have hS' : SetS w h1 S (fun j => decide (j ∈ (x.cps.toList.map sgS).take i)) c := hS.at fun o e => hk1 S o hSw e
    show wpAny _ A.in1 (holding [Value.str ⟨#[z]⟩ t] (setAdd S (.str ⟨#[z]⟩ t)) >>= _) _ _ _
    refine wpAny_bind (wpAny_holding ?_)
    unfold setAdd
    refine wpAny_holding ?_
    refine wpAny_bind ((strKind P w).pyHash (k := ⟨#[z]⟩) (strKind_is _ _ _ _) ?_)
    refine setS_add_hashed (s := { s with heap := h1, toks := tk + 1 }) hS' (by omega) fun h' hsb hS2 => ?_
    have hS3 : SetS w h' S (fun j => decide (j ∈ (x.cps.toList.map sgS).take (i + 1))) (if decide ((⟨#[z]⟩ : Str) ∈ (x.cps.toList.map sgS).take i) = true then c else c + 1) := hS2.congr fun j => by
      rw [List.take_add_one, hz2]
      simp [List.mem_append]
    have hc3 : (if decide ((⟨#[z]⟩ : Str) ∈ (x.cps.toList.map sgS).take i) = true then c else c + 1) ≤ i + 1 := by
      split <;> omega
    refine wpAny_pure ⟨plainId_quiet PyProof.Rows.F.plain_set_update_loop _, ih (i + 1) { s with heap := h', toks := tk + 1 } (by omega) hlt (W.frame _ h1 _ hst' fun b hb o e => ?_) ⟨_, hc3, hS3⟩ fun h'' tk2 c2 hk2 hc2 hS'' => ?_⟩
    · rw [hsb.2 b (fun h : b = S => hSf (by rw [← h]; exact hb))]; exact e
    · refine hR h'' tk2 c2 (fun b o hb e => hk2 b o hb ?_) hc2 hS''
      rw [hsb.2 b (fun h : b = S => hb (by rw [h]; exact List.mem_cons_self))]
      exact hk1 b o (fun z => hb (List.mem_cons_of_mem _ z)) e
end
section
variable {P : Program} {w : World} {A : Around} {E : Value → Shared → Prop} {s : Shared}
theorem setOfStr {x : Str} {tx : Tok} {R : Value → Shared → Prop} (hn : A.handled = none) (hz : x.cps.size + 1 < scanBound)
    (q : ∀ (g : Heap) (k m : Nat), SetS w g s.heap.objs.size (fun j => decide (j ∈ x.cps.toList.map sgS)) m → m ≤ x.cps.size → (∀ a o, s.heap.get? a = some o → g.get? a = some o) → R (.ref s.heap.objs.size) { s with heap := g, toks := k }) :
    wpAny (model P w) A (call (.type "set") [.str x tx]) R E s := by
  obtain ⟨m1, m2, hmr⟩ := F.called_set.mro
  have q1 := F.called_set.made
  have q2 := F.called_set.sub
  refine wpAny_call (codeAny_of_tree ?_)
  show wpAny _ _ (callAny (.type "set") _) _ _ _
  refine wpAny_pure ⟨Code.quiet_builtin _ (by decide +kernel), codeAny_builtin F.entry_type_call ?_⟩
  rw [Around.under_plain (weight_type_call_type "set" [.str x tx] []) rfl]
  have q3 := F.called_set.notType
  have q4 := F.called_set.canCreate
  have q5 := F.typeCall_set_1 (.str x tx)
  repeat (any_goals (first | assumption | wp_step))
  refine codeAny_mono (code_set_led1 (.str x tx) (E := E) (Q₁ := fun y s1 => y = .ref s.heap.objs.size ∧ s1 = { s with heap := s.heap.push (eSet w) }) ⟨rfl, rfl⟩) fun r s1 hr => ?_
  cases r with
  | error e => exact hr
  | ok fl =>
    cases fl with
    | ret obj =>
      obtain ⟨rfl, rfl⟩ := hr
      have p1 : (s.heap.push (eSet w)).get? s.heap.objs.size = some (eSet w) := Heap.get?_push_size _ rfl
      have p2 : Shared.TypeIs { s with heap := s.heap.push (eSet w) } (.ref s.heap.objs.size) "set" := ⟨_, p1, rfl⟩
      have p3 := F.called_set.init.lookup
      have p4 := F.called_set.init.bind (.ref s.heap.objs.size)
      repeat (any_goals (first | assumption | wp_step))
      refine codeAny_mono (codeAny_call_builtin (R := wants (fun r s2 => r = .none ∧ ∃ g k m, s2 = { s with heap := g, toks := k } ∧ SetS w g s.heap.objs.size (fun j => decide (j ∈ x.cps.toList.map sgS)) m ∧ m ≤ x.cps.size ∧
          (∀ a o, s.heap.get? a = some o → g.get? a = some o)) E) F.called_set.init.plain F.entry_set_init (check_set_init_1 p2 ?_)) fun r2 s2 hr2 => ?_
      · have y1 := PySem.F.sub_str_set
        have y2 := PySem.F.sub_str_frozenset
        have y3 : (Value.type "str" == Value.type "dict") = false := by decide
        unfold Builtin.«set.__init__»
        unfold noKeywords
        unfold Builtin.Frozenset.updateFrom
        generalize hPI : pyIter = PI
        wp_walk
        subst hPI
        refine wpAny_pyIter_str fun o St hW hst => ?_
        refine wpAny_bind (wpAny_runValue ?_)
        have z2 : A.in1.in1.in1.handled = none := by simp [hn]
        have z3 : (s.heap.push (eSet w)).objs.size = s.heap.objs.size + 1 := Heap.size_push ..
        have z5 : s.heap.objs.size ∉ [(s.heap.push (eSet w)).objs.size] := by
          rw [z3]
          intro hm
          exact absurd (List.mem_singleton.mp hm) (Nat.ne_of_lt (Nat.lt_succ_self _))
        refine set_update_signs (hW _ z2) rfl s.heap.objs.size z5 hz (x.cps.size - 0) 0 _ (by omega) (Nat.zero_le _) hst ?a1 ?a2
        case a1 =>
          refine ⟨0, Nat.le_refl 0, setS_new_at (w := w) (ws := x.cps.toList.map sgS) ?_⟩
          exact Heap.get?_push_of_some _ p1
        case a2 =>
          intro g k2 m hk hm' hS
          show wpAny _ _ _ _ _ _
          refine wpAny_pure ?_
          show wpAny _ _ (ret Value.none) _ _ _
          refine wpAny_pure ⟨rfl, g, k2, m, rfl, hS, hm', fun a o e => ?_⟩
          have l0 : a < s.heap.objs.size := Heap.lt_size e
          refine hk a o ?_ (Heap.get?_push_of_some _ (Heap.get?_push_of_some _ e))
          intro hx
          rcases List.mem_cons.mp hx with e | e
          · exact absurd e (Nat.ne_of_lt l0)
          · have e9 := List.mem_singleton.mp e
            rw [z3] at e9
            exact absurd e9 (Nat.ne_of_lt (Nat.lt_succ_of_lt l0))
      · cases r2 with
        | error e => exact hr2
        | ok fl2 =>
          cases fl2 with
          | ret r =>
            obtain ⟨rfl, g, k, m, rfl, hS, hm, hk⟩ := hr2
            repeat (any_goals (first | assumption | wp_step))
            exact q _ _ _ hS hm hk
          | _ => exact hr2.elim
    | _ => exact hr.elim
theorem sorted_setS {a : Addr} {ws : List Nat} {n : Nat} {Q : Value → Shared → Prop} (R : SetS w s.heap a (fun j => decide (j ∈ ws.map sgS)) n) (hh : A.handled = none) (hn0 : n ≤ sizeLine) (hu : A.units + 64 < cLine)
    (q : ∀ s' p (out : List Value) (c : Nat) (cs : List Nat), (∀ b o, s.heap.get? b = some o → s'.heap.get? b = some o) → s'.gens = s.gens → s'.os = s.os → s.heap.objs.size ≤ p →
      s'.heap.get? p = some (seqObj "list" out.toArray c) → out.length ≤ sizeLine → cs.Nodup → (∀ k, k ∈ cs ↔ k ∈ ws) →
      EachIs (fun v (d : D) => ∃ z tk, d = .str z ∧ v = .str z tk) out ((cs.map fun c => T [c]).mergeSort (dataLe false id)) → Q (.ref p) s') :
    wpAny (model P w) A (call (.builtin "sorted") [.ref a]) Q E s := by
  obtain ⟨o, es, ep, t, ho, hex, hd, g, nd, hm, hb, hf, hn, hr, hl⟩ := R
  refine Calls.call_function_entry kind_sorted plain_sorted entry_sorted (args_sorted1 _) ?_
  unfold Builtin.«sorted»
  refine wpAny_bind (m := checkCount "sorted" 1 1 _) (wpAny_pure ?_)
  refine wpAny_bind (collect_set (A := A.in1) hh ⟨o, ho, hex.1, hd⟩ hf hb hr hl fun s1 vs k1 hz g1 o1 pm => ?_)
  have hvl : vs.length = n := by rw [pm.length_eq, List.length_map, Array.length_toList]; exact hn
  -- the signs told
  obtain ⟨cs, hcs1, hcs2⟩ : ∃ cs : List Nat, (es.toList.map keyS).Perm (cs.map sgS) ∧ EachIs (fun v (d : D) => ∃ z tk, d = .str z ∧ v = .str z tk) vs (cs.map fun c => T [c]) := by
    have gen : ∀ vs : List Value, (∀ v ∈ vs, ∃ c tk, v = .str (sgS c) tk) → ∃ cs : List Nat, vs.map (fun v => keyS (0, v)) = cs.map sgS ∧ EachIs (fun v (d : D) => ∃ z tk, d = .str z ∧ v = .str z tk) vs (cs.map fun c => T [c]) := by
      intro vs
      induction vs with
      | nil => intro _; exact ⟨[], rfl, .nil⟩
      | cons v vs ih =>
        intro h
        obtain ⟨cs, e1, e2⟩ := ih fun u hu => h u (List.mem_cons_of_mem _ hu)
        obtain ⟨c, tk, rfl⟩ := h v List.mem_cons_self
        exact ⟨c :: cs, by rw [List.map_cons, e1]; rfl, .cons ⟨_, tk, rfl, rfl⟩ e2⟩
    obtain ⟨cs, e1, e2⟩ := gen vs fun v hv => by
      obtain ⟨e, he, q⟩ := List.mem_map.mp (pm.mem_iff.mp hv)
      obtain ⟨k, tk, h1, _⟩ := g e he
      have hk : keyS e = k := by unfold keyS; rw [h1]
      have hmem := (hm k).mpr (List.mem_map.mpr ⟨e, he, hk⟩)
      rw [decide_eq_true_eq] at hmem
      obtain ⟨c, _, rfl⟩ := List.mem_map.mp hmem
      exact ⟨c, tk, by rw [← q]; exact h1⟩
    refine ⟨cs, ?_, e2⟩
    rw [← e1]
    have q := (pm.map (fun v => keyS (0, v))).symm
    rw [List.map_map] at q
    exact q
  have sg_inj : ∀ a b : Nat, sgS a = sgS b → a = b := fun a b e => by
    have : (#[a] : Array Nat) = #[b] := congrArg Str.cps e
    simpa using this
  have hnd : cs.Nodup := by
    have h := hcs1.nodup_iff.mp nd
    unfold List.Nodup at h ⊢
    rw [List.pairwise_map] at h
    exact h.imp fun h e => h (by rw [e])
  have hmem : ∀ k, k ∈ cs ↔ k ∈ ws := fun k => by
    have h1 := hm (sgS k)
    rw [decide_eq_true_eq, hcs1.mem_iff] at h1
    constructor
    · intro hk
      obtain ⟨c, hc, e⟩ := List.mem_map.mp (h1.mpr (List.mem_map.mpr ⟨k, hk, rfl⟩))
      rwa [sg_inj _ _ e] at hc
    · intro hk
      obtain ⟨c, hc, e⟩ := List.mem_map.mp (h1.mp (List.mem_map.mpr ⟨k, hk, rfl⟩))
      rwa [sg_inj _ _ e] at hc
  refine wpAny_bind (wpAny_newList ?_ (by rw [hvl]; exact hn0))
  have hoL : (s1.heap.push (seqObj "list" vs.toArray 0)).get? s1.heap.objs.size = some (seqObj "list" vs.toArray 0) := Heap.get?_push_size _ rfl
  obtain ⟨bs, hbs⟩ : ∃ bs : List D, bs = cs.map fun c => T [c] := ⟨_, rfl⟩
  have each := hcs2
  rw [← hbs] at each
  have hal : AllAlike (bs.map id) := by
    rw [List.map_id, hbs]
    exact AllAlike.of fun _ _ => by simp [T, alike]
  have hk : Sortable bs := by
    rw [hbs]
    exact Sortable.others fun _ => ⟨nofun, nofun⟩
  have er : ∀ h : Heap, EachIs (fun v b => ∃ as, Reads h v b as) vs bs := fun h => each.mono fun v d ⟨z, tk, e1, e2⟩ => ⟨[], by rw [e1, e2]; exact .str z tk⟩
  have hdep : ∀ d ∈ bs, A.in1.in1.units + d.depth < cLine := by
    intro d hd
    rw [hbs] at hd
    obtain ⟨c, _, rfl⟩ := List.mem_map.mp hd
    have : (T [c]).depth = 0 := depth_T [c]
    rw [this]
    show A.units + 1 + 1 + 0 < cLine
    omega
  have S := SortsAt.data (prog := P) (w := w) (A := A.in1.in1) (s := { s1 with heap := sortingHeap (s1.heap.push (seqObj "list" vs.toArray 0)) s1.heap.objs.size vs }) (er _) (by rw [List.map_id] at hal; exact hal) hk hdep
  refine wpAny_bind (wpAny_holding (wpAny_call_entry slot_list_sort ⟨_, hoL, rfl⟩ entry_list_sort (list_sort_vals (s := { s1 with heap := s1.heap.push (seqObj "list" vs.toArray 0) }) hoL S (by rw [hvl]; exact hn0) ⟨_, rfl, ?_⟩) (args_list_sort _)))
  have z := sortVals_data (enc := id) (R := fun v (d : D) => ∃ z tk, d = .str z ∧ v = .str z tk) (h' := sortingHeap (s1.heap.push (seqObj "list" vs.toArray 0)) s1.heap.objs.size vs) false each (er _) hal
  rw [List.map_id] at z
  have hms : bs.mergeSort (dataLe false id) = (cs.map fun c => T [c]).mergeSort (dataLe false id) := by rw [hbs]
  obtain ⟨c, hc⟩ := sortedHeap_at (vs := vs) (out := (sortVals (dataKind (sortingHeap (s1.heap.push (seqObj "list" vs.toArray 0)) s1.heap.objs.size vs) bs) false vs vs).toArray) hoL
  refine wpAny_pure ⟨_, rfl, q _ s1.heap.objs.size _ c cs (fun b u e => ?_) g1 o1 hz hc (by rw [sortVals_length false rfl, hvl]; exact hn0) hnd hmem (by rw [← hms]; exact z)⟩
  have q := k1 b u e
  have hlt := Heap.lt_size q
  show (sortedHeap _ _ _ _).get? b = some u
  rw [sortedHeap_old (Nat.ne_of_lt hlt) (by rw [size_push']; exact Nat.lt_succ_of_lt hlt)]
  exact Heap.get?_push_of_some _ q
end
/-! rising signs, each once -/
def insC (x : Nat) : List Nat → List Nat
  | [] => [x]
  | y :: r => if x < y then x :: y :: r else if x = y then y :: r else y :: insC x r
def upC (ns : List Nat) : List Nat := ns.foldr insC []
theorem mem_insC (x k : Nat) : ∀ l, k ∈ insC x l ↔ k = x ∨ k ∈ l
  | [] => by simp [insC]
  | y :: r => by
    unfold insC
    split
    · simp
    · split
      · rename_i h; subst h; simp
      · rw [List.mem_cons, mem_insC x k r, List.mem_cons]
        constructor
        · rintro (h | h | h)
          · exact .inr (.inl h)
          · exact .inl h
          · exact .inr (.inr h)
        · rintro (h | h | h)
          · exact .inr (.inl h)
          · exact .inl h
          · exact .inr (.inr h)
theorem rise_insC (x : Nat) : ∀ l : List Nat, l.Pairwise (· < ·) → (insC x l).Pairwise (· < ·)
  | [], _ => List.pairwise_singleton _ _
  | y :: r, h => by
    obtain ⟨h1, h2⟩ := List.pairwise_cons.mp h
    unfold insC
    split
    · rename_i hx
      refine List.pairwise_cons.mpr ⟨fun k hk => ?_, h⟩
      rcases List.mem_cons.mp hk with e | e
      · rw [e]; exact hx
      · have := h1 k e; omega
    · split
      · exact h
      · refine List.pairwise_cons.mpr ⟨fun k hk => ?_, rise_insC x r h2⟩
        rcases (mem_insC x k r).mp hk with e | e
        · omega
        · exact h1 k e
theorem mem_upC (k : Nat) : ∀ ns, k ∈ upC ns ↔ k ∈ ns
  | [] => Iff.rfl
  | x :: r => by
    show k ∈ insC x (upC r) ↔ _
    rw [mem_insC, mem_upC k r, List.mem_cons]
theorem rise_upC : ∀ ns, (upC ns).Pairwise (· < ·)
  | [] => List.Pairwise.nil
  | x :: r => rise_insC x _ (rise_upC r)
theorem sort_upC {cs ws : List Nat} (hn : cs.Nodup) (hm : ∀ k, k ∈ cs ↔ k ∈ ws) : cs.mergeSort leN = upC ws := by
  have h2 : (upC ws).Nodup := (rise_upC ws).imp fun h => by omega
  refine rise_uniqN (sortN_rise cs) ((rise_upC ws).imp fun h => by omega) ?_
  refine (sortN_perm cs).trans ((List.perm_ext_iff_of_nodup hn h2).mpr fun k => ?_)
  rw [hm, mem_upC]
/-! as rules -/
def SetSO (w : World) (a : Addr) (ws : List Nat) (n : Nat) : HO := .ext fun h => SetS w h a (fun j => decide (j ∈ ws.map sgS)) n
theorem setSO_new {w : World} {P : Program} {H : Hp} {h : Heap} {a : Addr} {ws : List Nat} {n : Nat} (R : SetS w h a (fun j => decide (j ∈ ws.map sgS)) n) : ObjOk P w H h a (SetSO w a ws n) := by
  have ⟨o, _, _, _, ho, _⟩ := R
  exact ⟨R, ⟨o, ho⟩, fun h1 h2 p k => SetS.at p k⟩
theorem setSO_get {X : Cx} {pins : List (Addr × Obj)} {σ : L2.St} {H : Hp} {s : Shared} {a : Addr} {ws : List Nat} {n : Nat} (I : Inv X pins σ H s) (ha : H a = some (SetSO X.w a ws n)) : SetS X.w s.heap a (fun j => decide (j ∈ ws.map sgS)) n := (I.hok a _ ha).1
def rSetC (w : World) : List V → Hp → VK → Prop := fun vs H Q => ∃ l : List Nat, vs = [.str ⟨l.toArray⟩] ∧ l.length ≤ 1000 ∧
  ∀ p c, H p = none → c ≤ l.length → Q (.ref p) (upd H p (SetSO w p l c))
theorem cr_setC {X : Cx} (hc : X.calm = true) : CallR X (.type "set") (rSetC X.w) := by
  intro pins s σ H vs us Q I r h
  obtain ⟨l, rfl, h1, q⟩ := h
  obtain ⟨u, rfl, t, rfl⟩ := vals1 r
  have hsz : (⟨l.toArray⟩ : Str).cps.size = l.length := by simp
  refine setOfStr (I.ok.hd hc) (by rw [hsz]; unfold scanBound; omega) fun g k m R hm hk => ?_
  have R' : SetS X.w g s.heap.objs.size (fun j => decide (j ∈ l.map sgS)) m := by simpa using R
  exact ⟨.ref s.heap.objs.size, upd H s.heap.objs.size (SetSO X.w s.heap.objs.size l m), I.laid (t' := k) hk (Nat.le_refl _) (setSO_new R'), rfl, q _ m (I.hok.fresh (Nat.le_refl _)) (by rw [hsz] at hm; exact hm)⟩
def rSortedC (w : World) : List V → Hp → VK → Prop := fun vs H Q => ∃ (a : Addr) (l : List Nat) (n : Nat), vs = [V.ref a] ∧ H a = some (SetSO w a l n) ∧ n ≤ 1000 ∧
  ∀ ys p, EachIs (fun v (d : D) => ∃ z, d = .str z ∧ v = V.str z) ys ((upC l).map fun c => T [c]) → H p = none → Q (.ref p) (upd H p (.lst ys))
theorem cr_sortedC {X : Cx} (hc : X.calm = true) (hu : X.A.units + 64 < cLine) : CallR X (.builtin "sorted") (rSortedC X.w) := by
  intro pins s σ H vs us Q I r h
  obtain ⟨a, l, n, rfl, ha, hn, q⟩ := h
  rw [Vals.ref1 r]
  refine sorted_setS (setSO_get I ha) (I.ok.hd hc) (size_ok (by omega)) hu fun s' p out c cs k g1 o1 hp e ho hnd hm eo => ?_
  have es : (cs.map fun c => T [c]).mergeSort (dataLe false id) = (upC l).map fun c => T [c] := by
    have e1 : (cs.map fun c => T [c]).mergeSort (dataLe false id) = (cs.mergeSort leN).map fun c => T [c] := sort_E fun a _ b _ => le_C a b
    rw [e1, sort_upC hnd hm]
  rw [es] at eo
  obtain ⟨ys, v1, v2⟩ := each_valsS eo
  have hlen : ys.length ≤ sizeLine := by rw [v1.length]; exact ho
  have hnn : H p = none := I.hok.fresh hp
  have J : Inv X pins σ (upd H p (.lst ys)) { s with heap := s'.heap, gens := s'.gens, drawn := s'.drawn, toks := s'.toks } :=
    I.call (ch := []) (Un.laid k hp hnn) (I.hok.laid k hp ⟨hlen, out, c, v1, e⟩) (by rw [g1]; exact I.bare) (fun _ z => nomatch z)
  have e9 : s' = { s with heap := s'.heap, gens := s'.gens, drawn := s'.drawn, toks := s'.toks } := by
    cases s'
    cases s
    cases o1
    rfl
  rw [e9]
  exact ⟨.ref p, _, J, rfl, q ys p v2 hnn⟩
def fUpS : D → Option (List D)
  | .str x => if x.cps.toList.length ≤ 1000 then some ((upC x.cps.toList).map fun c => T [c]) else none
  | _ => none
@[simp] theorem x_upS {l : List Nat} : fUpS (T l) = if l.length ≤ 1000 then some ((upC l).map fun c => T [c]) else none := by
  rfl
def cUpS (g : M D) : M (List D) := fun ρ n => (g ρ n).bind fun d n1 => Res.lift (fUpS d) n1
@[simp] theorem e_cUpS {g : M D} {ρ : G.Env} {n : Nat} : cUpS g ρ n = (g ρ n).bind fun d n1 => Res.lift (fUpS d) n1 := rfl
section
variable {X : Cx} {ca : String → Addr} {W : WX} {e : Expr} {g : M D} {p1 p2 q1 q2 : Pos}
theorem ef_upS (hc : X.calm = true) (hu : X.A.units + 64 < cLine) (hg : Gl X "sorted") (hm : X.mg "sorted" = none) (hg2 : Gl X "set") (hm2 : X.mg "set" = none) (he : PE X e (tG X.K ca W g))
    (h1 : starEach [e] X.env = (false, eval e X.env) :: starEach [] X.env := by rfl) (h2 : (backTo q2 (starEach [] X.env)).any (·.1) = false := by rfl)
    (h3 : starEach [.Call (.Name "set" p2) [e] [] q2] X.env = (false, eval (.Call (.Name "set" p2) [e] [] q2) X.env) :: starEach [] X.env := by rfl) (h4 : (backTo q1 (starEach [] X.env)).any (·.1) = false := by rfl) :
    PE X (.Call (.Name "sorted" p1) [.Call (.Name "set" p2) [e] [] q2] [] q1) (tGF X.K ca W (cUpS g)) :=
  PE.weak (pe_callB (cr_sortedC hc hu) hg hm (by rfl) (pa_cons (pe_callTy (cr_setC hc) hg2 hm2 (by rfl) (pa_cons he pa_nil h1) (by decide) (by decide) h1 h2) pa_nil h3) (by decide) (by decide) h3 h4) fun σ H Q ⟨c, ρ, n, S, h⟩ => by
    refine ⟨c, ρ, n, S, (Res.post_bind h).mono (fun d n1 h1 v H1 g1 r1 => ?_) (fun e m h => h)⟩
    have S1 := S.ext g1
    obtain ⟨ds, e2, h2⟩ := Res.post_lift h1
    cases r1 with
    | str x =>
      unfold fUpS at e2
      simp only at e2
      split at e2
      · rename_i hz
        cases e2
        have ex : x = ⟨x.cps.toList.toArray⟩ := by simp
        refine ⟨x.cps.toList, by rw [← ex], hz, fun p m hp hm => ⟨p, _, m, rfl, upd_same, by omega, fun ys l eo hl => ?_⟩⟩
        have hlp : l ≠ p := fun q => by rw [q, upd_same] at hl; cases hl
        have hl1 : H1 l = none := by rw [upd_ne hlp] at hl; exact hl
        exact h2 l _ _ (g1.trans (S1.pure ((same_upd hp).trans (same_upd hl)))) (fresh_back g1 S.tB' S1.all hl1) upd_same (repS eo)
      · cases e2
    | _ => cases e2
end
end G


namespace W
open PySem PySem.Spec PyProof.Rows L2 G
def topS (i : Nat) : Stmt := PySem.Challenge.pw_eyecuts_k36_whole_columns.main.body.getD i (.Pass ⟨0, 0, 0, 0⟩)
abbrev s_kinds_of : Stmt := topS 5
abbrev nm_kinds_of : List Str := ["kinds", "text", "table", "sign"]
theorem sc_kinds_of : FnScope nm_kinds_of ["kinds", "text"] (defScope s_kinds_of) := ⟨rfl, rfl, rfl, by decide +kernel, rfl, by decide +kernel, by decide +kernel⟩
abbrev s_is_in : Stmt := topS 6
abbrev nm_is_in : List Str := ["item", "kind"]
theorem sc_is_in : FnScope nm_is_in ["item", "kind"] (defScope s_is_in) := ⟨rfl, rfl, rfl, by decide +kernel, rfl, by decide +kernel, by decide +kernel⟩
abbrev s_places_on : Stmt := topS 7
abbrev nm_places_on : List Str := ["row", "items", "place", "found", "item", "after", "at"]
theorem sc_places_on : FnScope nm_places_on ["row", "items", "place"] (defScope s_places_on) := ⟨rfl, rfl, rfl, by decide +kernel, rfl, by decide +kernel, by decide +kernel⟩
abbrev s_leads_on : Stmt := topS 8
abbrev nm_leads_on : List Str := ["row", "items", "place"]
theorem sc_leads_on : FnScope nm_leads_on ["row", "items", "place"] (defScope s_leads_on) := ⟨rfl, rfl, rfl, by decide +kernel, rfl, by decide +kernel, by decide +kernel⟩
abbrev s_leads_back : Stmt := topS 9
abbrev nm_leads_back : List Str := ["row", "items", "place"]
theorem sc_leads_back : FnScope nm_leads_back ["row", "items", "place"] (defScope s_leads_back) := ⟨rfl, rfl, rfl, by decide +kernel, rfl, by decide +kernel, by decide +kernel⟩
abbrev s_rule_at : Stmt := topS 11
abbrev nm_rule_at : List Str := ["row", "rules", "place", "number", "left", "is_cut", "right"]
theorem sc_rule_at : FnScope nm_rule_at ["row", "rules", "place"] (defScope s_rule_at) := ⟨rfl, rfl, rfl, by decide +kernel, rfl, by decide +kernel, by decide +kernel⟩
abbrev s_is_cut_at : Stmt := topS 12
abbrev nm_is_cut_at : List Str := ["row", "rules", "place", "number"]
theorem sc_is_cut_at : FnScope nm_is_cut_at ["row", "rules", "place"] (defScope s_is_cut_at) := ⟨rfl, rfl, rfl, by decide +kernel, rfl, by decide +kernel, by decide +kernel⟩
abbrev s_cuts : Stmt := topS 13
abbrev nm_cuts : List Str := ["kinds", "rules", "text", "row", "place"]
theorem sc_cuts : FnScope nm_cuts ["kinds", "rules", "text"] (defScope s_cuts) := ⟨rfl, rfl, rfl, by decide +kernel, rfl, by decide +kernel, by decide +kernel⟩
abbrev s_pieces : Stmt := topS 14
abbrev nm_pieces : List Str := ["kinds", "rules", "text", "found", "one", "two"]
theorem sc_pieces : FnScope nm_pieces ["kinds", "rules", "text"] (defScope s_pieces) := ⟨rfl, rfl, rfl, by decide +kernel, rfl, by decide +kernel, by decide +kernel⟩
abbrev s_piece_width : Stmt := topS 16
abbrev nm_piece_width : List Str := ["widths", "piece", "table", "sign"]
theorem sc_piece_width : FnScope nm_piece_width ["widths", "piece"] (defScope s_piece_width) := ⟨rfl, rfl, rfl, by decide +kernel, rfl, by decide +kernel, by decide +kernel⟩
abbrev s_width : Stmt := topS 17
abbrev nm_width : List Str := ["kinds", "rules", "widths", "text", "piece"]
theorem sc_width : FnScope nm_width ["kinds", "rules", "widths", "text"] (defScope s_width) := ⟨rfl, rfl, rfl, by decide +kernel, rfl, by decide +kernel, by decide +kernel⟩
abbrev s_at_column : Stmt := topS 18
abbrev nm_at_column : List Str := ["kinds", "rules", "widths", "text", "column", "wide", "place", "piece"]
theorem sc_at_column : FnScope nm_at_column ["kinds", "rules", "widths", "text", "column"] (defScope s_at_column) := ⟨rfl, rfl, rfl, by decide +kernel, rfl, by decide +kernel, by decide +kernel⟩
abbrev s_column_of : Stmt := topS 19
abbrev nm_column_of : List Str := ["kinds", "rules", "widths", "text", "place", "ends", "parts", "one", "two", "part"]
theorem sc_column_of : FnScope nm_column_of ["kinds", "rules", "widths", "text", "place"] (defScope s_column_of) := ⟨rfl, rfl, rfl, by decide +kernel, rfl, by decide +kernel, by decide +kernel⟩
abbrev s_law_draw : Stmt := topS 21
abbrev nm_law_draw : List Str := ["_law_script", "_law_town", "_law_many", "_law_k", "_law_cell", "_law_number", "_law_more"]
theorem sc_law_draw : FnScope nm_law_draw ["_law_script", "_law_town", "_law_many"] (defScope s_law_draw) := ⟨rfl, rfl, rfl, by decide +kernel, rfl, by decide +kernel, by decide +kernel⟩
abbrev s_law_pick : Stmt := topS 22
abbrev nm_law_pick : List Str := ["_law_script", "_law_town", "_law_some"]
theorem sc_law_pick : FnScope nm_law_pick ["_law_script", "_law_town", "_law_some"] (defScope s_law_pick) := ⟨rfl, rfl, rfl, by decide +kernel, rfl, by decide +kernel, by decide +kernel⟩
abbrev s_law_kinds : Stmt := topS 24
abbrev nm_law_kinds : List Str := ["_law_script", "_law_town", "_law_got", "_law_sign"]
theorem sc_law_kinds : FnScope nm_law_kinds ["_law_script", "_law_town"] (defScope s_law_kinds) := ⟨rfl, rfl, rfl, by decide +kernel, rfl, by decide +kernel, by decide +kernel⟩
abbrev s_law_items : Stmt := topS 25
abbrev nm_law_items : List Str := ["_law_script", "_law_town", "_law_got", "_law_k", "_law_some", "_law_kind"]
theorem sc_law_items : FnScope nm_law_items ["_law_script", "_law_town"] (defScope s_law_items) := ⟨rfl, rfl, rfl, by decide +kernel, rfl, by decide +kernel, by decide +kernel⟩
abbrev s_law_rules : Stmt := topS 26
abbrev nm_law_rules : List Str := ["_law_script", "_law_town", "_law_most", "_law_got", "_law_k", "_law_is_so"]
theorem sc_law_rules : FnScope nm_law_rules ["_law_script", "_law_town", "_law_most"] (defScope s_law_rules) := ⟨rfl, rfl, rfl, by decide +kernel, rfl, by decide +kernel, by decide +kernel⟩
abbrev s_law_signs : Stmt := topS 23
abbrev nm_law_signs : List Str := ["_law_script", "_law_town", "_law_most", "_law_some", "_law_k"]
theorem sc_law_signs : FnScope nm_law_signs ["_law_script", "_law_town", "_law_most", "_law_some"] (defScope s_law_signs) := ⟨rfl, rfl, rfl, by decide +kernel, rfl, by decide +kernel, by decide +kernel⟩
abbrev s_law_text : Stmt := topS 27
abbrev nm_law_text : List Str := ["_law_script", "_law_town", "_law_most"]
theorem sc_law_text : FnScope nm_law_text ["_law_script", "_law_town", "_law_most"] (defScope s_law_text) := ⟨rfl, rfl, rfl, by decide +kernel, rfl, by decide +kernel, by decide +kernel⟩
abbrev s_law_widths : Stmt := topS 28
abbrev nm_law_widths : List Str := ["_law_script", "_law_town", "_law_got", "_law_sign"]
theorem sc_law_widths : FnScope nm_law_widths ["_law_script", "_law_town"] (defScope s_law_widths) := ⟨rfl, rfl, rfl, by decide +kernel, rfl, by decide +kernel, by decide +kernel⟩
abbrev s_law : Stmt := topS 29
abbrev nm_law : List Str := ["_law_script", "_law_town", "_law_k", "_law_kinds_here", "_law_rules_here", "_law_widths_here", "_law_text_here", "_law_ends", "_law_every", "_law_sizes", "_law_piece", "_law_sign", "_law_columns", "_law_place", "_law_at", "_law_size", "_law_first", "_law_last", "_law_column", "_law_wide", "_law_none"]
theorem sc_law : FnScope nm_law ["_law_script"] (defScope s_law) := ⟨rfl, rfl, rfl, by decide +kernel, rfl, by decide +kernel, by decide +kernel⟩
noncomputable def g_kinds_of : MS :=
    (sSeq (sDic 2 (cDic (cVar 0)))
    (sRet (cM1 mJoin (cC (T [])) (cF (cLc [3] (tgN 3) (gItems (cVar 1)) bYes (cDGet 2 (cVar 3) (cC (T [79]))))))))
noncomputable def Fn_kinds_of : Fn := runF 4 g_kinds_of
noncomputable def g_is_in : MS :=
    (sRet (vOr (c2 opEq (c2 opIx (cVar 0) (cC (.int 0))) (cC (T []))) (c2 opIn (cVar 1) (c2 opIx (cVar 0) (cC (.int 0))))))
noncomputable def Fn_is_in : Fn := runF 2 g_is_in
noncomputable def g_places_on : MS :=
    (sSeq (sSet 3 (cF (cLst (aVar 2 aNil))))
    (sSeq (sFor (tgN 4) (gItems (cVar 1))
    (sSeq (sOwn 5 (cLst aNil))
    (sSeq (sFor (tgN 6) (gItems (cVar 3))
    (sIf (cB (c2 opEq (c2 opIx (cVar 4) (cC (.int 1))) (cC (T [42]))))
    (sSeq (sApp 5 (cVar 6))
    (sWhile (bAnd (cB (c2 opLt (cVar 6) (cBt fLen (aVar 0 aNil)))) (cTru (cCall 2 Fn_is_in (aVar 4 (aCons (c2 opIx (cVar 0) (cVar 6)) aNil)))))
    (sSeq (sSet 6 (c2 opAdd (cVar 6) (cC (.int 1))))
    (sApp 5 (cVar 6)))))
    (sIf (bAnd (cB (c2 opLt (cVar 6) (cBt fLen (aVar 0 aNil)))) (cTru (cCall 2 Fn_is_in (aVar 4 (aCons (c2 opIx (cVar 0) (cVar 6)) aNil)))))
    (sApp 5 (c2 opAdd (cVar 6) (cC (.int 1))))
    sNx)))
    (sSet 3 (cF (borrowF 5 (cUp (cVar 5))))))))
    (sRet (cVar 3))))
noncomputable def Fn_places_on : Fn := runF 7 g_places_on
noncomputable def g_leads_on : MS :=
    (sRet (c2 opNe (cCall 3 Fn_places_on (aVar 0 (aVar 1 (aVar 2 aNil)))) (cF (cLst aNil))))
noncomputable def Fn_leads_on : Fn := runF 3 g_leads_on
noncomputable def g_leads_back : MS :=
    (sRet (c2 opNe (cCall 3 Fn_places_on (aCons (c1 opRev (cSl (cVar 0) gNoPart (gPart (cVar 2)))) (aCons (c1 opRev (cVar 1)) (aCons (cC (.int 0)) aNil)))) (cF (cLst aNil))))
noncomputable def Fn_leads_back : Fn := runF 3 g_leads_back
noncomputable def g_rule_at : MS :=
    (sSeq (sFor (tgP [(tgN 3), (tgP [(tgN 4), (tgN 5), (tgN 6)])]) (gEnumerate (aVar 1 aNil))
    (sIf (bAnd (cTru (cCall 3 Fn_leads_back (aVar 0 (aVar 4 (aVar 2 aNil))))) (cTru (cCall 3 Fn_leads_on (aVar 0 (aVar 6 (aVar 2 aNil))))))
    (sRet (cVar 3))
    sNx))
    (sRet (cC .none)))
noncomputable def Fn_rule_at : Fn := runF 7 g_rule_at
noncomputable def g_is_cut_at : MS :=
    (sSeq (sIf (cB (c2 opIn (cVar 2) (cTup (aCons (cC (.int 0)) (aCons (cBt fLen (aVar 0 aNil)) aNil)))))
    (sRet (c2 opGt (cBt fLen (aVar 0 aNil)) (cC (.int 0))))
    sNx)
    (sSeq (sSet 3 (cCall 3 Fn_rule_at (aVar 0 (aVar 1 (aVar 2 aNil)))))
    (sRet (vOr (c2 opIsN (cVar 3) (cC .none)) (c2 opIx (c2 opIx (cVar 1) (cVar 3)) (cC (.int 1)))))))
noncomputable def Fn_is_cut_at : Fn := runF 4 g_is_cut_at
noncomputable def g_cuts : MS :=
    (sSeq (sSet 3 (cCall 2 Fn_kinds_of (aVar 0 (aVar 2 aNil))))
    (sRet (cBt fTuple (aCons (cF (cLc [4] (tgN 4) (gRng fRng1 (aCons (c2 opAdd (cBt fLen (aVar 2 aNil)) (cC (.int 1))) aNil)) (cTru (cCall 3 Fn_is_cut_at (aVar 3 (aVar 1 (aVar 4 aNil))))) (cVar 4))) aNil))))
noncomputable def Fn_cuts : Fn := runF 5 g_cuts
noncomputable def g_pieces : MS :=
    (sSeq (sSet 3 (cCall 3 Fn_cuts (aVar 0 (aVar 1 (aVar 2 aNil)))))
    (sRet (cBt fTuple (aCons (cF (cLc [4, 5] (tgP [(tgN 4), (tgN 5)]) (gZip (aCons (cSl (cVar 3) gNoPart (gPart (c1 opNeg (cC (.int 1))))) (aCons (cSl (cVar 3) (gPart (cC (.int 1))) gNoPart) aNil))) bYes (cSl (cVar 2) (gPart (cVar 4)) (gPart (cVar 5))))) aNil))))
noncomputable def Fn_pieces : Fn := runF 6 g_pieces
noncomputable def g_piece_width : MS :=
    (sSeq (sDic 2 (cDic (cVar 0)))
    (sRet (cBt (fBest PySem.W.maxD) (aCons (c2 opAdd (cF (cLst (aCons (cC (.int 0)) aNil))) (cF (cLc [3] (tgN 3) (gItems (cVar 1)) bYes (cDGet 2 (cVar 3) (cC (.int 1)))))) aNil))))
noncomputable def Fn_piece_width : Fn := runF 4 g_piece_width
noncomputable def g_width : MS :=
    (sRet (cBt fSum (aCons (cF (cLc [4] (tgN 4) (gItems (cCall 3 Fn_pieces (aVar 0 (aVar 1 (aVar 3 aNil))))) bYes (cCall 2 Fn_piece_width (aVar 2 (aVar 4 aNil))))) aNil)))
noncomputable def Fn_width : Fn := runF 5 g_width
noncomputable def g_at_column : MS :=
    (sSeq (sSet 5 (cC (.int 0)))
    (sSeq (sSet 6 (cC (.int 0)))
    (sSeq (sFor (tgN 7) (gItems (cCall 3 Fn_pieces (aVar 0 (aVar 1 (aVar 3 aNil)))))
    (sSeq (sSet 5 (c2 opAdd (cVar 5) (cCall 2 Fn_piece_width (aVar 2 (aVar 7 aNil)))))
    (sSeq (sIf (cB (c2 opLt (cVar 4) (cVar 5)))
    (sRet (cVar 6))
    sNx)
    (sSet 6 (c2 opAdd (cVar 6) (cBt fLen (aVar 7 aNil)))))))
    (sRet (cC .none)))))
noncomputable def Fn_at_column : Fn := runF 8 g_at_column
noncomputable def g_column_of : MS :=
    (sSeq (sIf (bNot (cB (cCh opLe opLe (cC (.int 0)) (cVar 4) (cBt fLen (aVar 3 aNil)))))
    sBad
    sNx)
    (sSeq (sSet 5 (cCall 3 Fn_cuts (aVar 0 (aVar 1 (aVar 3 aNil)))))
    (sSeq (sSet 6 (cF (cLc [7, 8] (tgP [(tgN 7), (tgN 8)]) (gZip (aCons (cSl (cVar 5) gNoPart (gPart (c1 opNeg (cC (.int 1))))) (aCons (cSl (cVar 5) (gPart (cC (.int 1))) gNoPart) aNil))) (cB (c2 opLe (cVar 8) (cVar 4))) (cSl (cVar 3) (gPart (cVar 7)) (gPart (cVar 8))))))
    (sRet (cBt fSum (aCons (cF (cLc [9] (tgN 9) (gItems (cVar 6)) bYes (cCall 2 Fn_piece_width (aVar 2 (aVar 9 aNil))))) aNil))))))
noncomputable def Fn_column_of : Fn := runF 10 g_column_of
noncomputable def g_law_draw : MS :=
    (sSeq (sTown 1)
    (sSeq (sSet 3 (cLenV 1))
    (sSeq (sSet 4 (cC (.int 0)))
    (sSeq (sIf (cScrT 0)
    (sSet 4 (cScrIx 0 (c2 opMod (cVar 3) (cLenV 0))))
    sNx)
    (sSeq (sSet 5 (c2 opMod (c2 opAdd (cVar 4) (c2 opMulA (cC (.int 104729)) (cVar 3))) (cC (.int 4294967291))))
    (sSeq (sSet 5 (c2 opMod (c2 opMulA (c2 opMod (c2 opMulA (cVar 5) (cVar 5)) (cC (.int 4294967279))) (cC (.int 48271))) (cC (.int 4294967291))))
    (sSeq (sSet 6 (c2 opMod (c2 opMulA (c2 opMod (c2 opMulA (cVar 5) (cVar 5)) (cC (.int 4294967279))) (cC (.int 69621))) (cC (.int 4294967291))))
    (sRet (c2 opMod (c2 opAdd (c2 opMulA (c2 opDiv (cVar 5) (cC (.int 64))) (cC (.int 67108864))) (c2 opDiv (cVar 6) (cC (.int 64)))) (cVar 2))))))))))
noncomputable def Fn_law_draw : Fn := runF 7 g_law_draw
noncomputable def g_law_pick : MS :=
    (sRet (c2 opIx (cVar 2) (cCall 3 Fn_law_draw (aVar 0 (aVar 1 (aCons (cBt fLen (aVar 2 aNil)) aNil))))))
noncomputable def Fn_law_pick : Fn := runF 3 g_law_pick
noncomputable def g_law_kinds : MS :=
    (sSeq (sSet 2 (cTup aNil))
    (sSeq (sFor (tgN 3) (gItems (cC (T [10, 32, 33, 39, 45, 46, 94, 97, 65, 98, 99, 120, 95, 126])))
    (sIf (cB (c2 opGt (cCall 3 Fn_law_draw (aVar 0 (aVar 1 (aCons (cC (.int 4)) aNil)))) (cC (.int 0))))
    (sSet 2 (c2 opAdd (cVar 2) (cTup (aCons (cTup (aVar 3 (aCons (cCall 3 Fn_law_pick (aVar 0 (aVar 1 (aCons (cC (T [65, 66, 67, 77, 79, 90])) aNil)))) aNil))) aNil))))
    sNx))
    (sRet (cBt fTuple (aCons (cF (cBtF fSortA (aVar 2 aNil))) aNil)))))
noncomputable def Fn_law_kinds : Fn := runF 4 g_law_kinds
noncomputable def g_law_items : MS :=
    (sSeq (sSet 2 (cTup aNil))
    (sSeq (sFor (tgN 3) (gRng fRng1 (aCons (cCall 3 Fn_law_pick (aVar 0 (aVar 1 (aCons (cF (cLst (aCons (cC (.int 0)) (aCons (cC (.int 1)) (aCons (cC (.int 1)) (aCons (cC (.int 2)) (aCons (cC (.int 3)) aNil))))))) aNil)))) aNil))
    (sSeq (sSet 4 (cM1 mJoin (cC (T [])) (cF (cLc [5] (tgN 5) (gItems (cC (T [65, 66, 67, 77, 79, 90]))) (cB (c2 opEq (cCall 3 Fn_law_draw (aVar 0 (aVar 1 (aCons (cC (.int 3)) aNil)))) (cC (.int 0)))) (cVar 5)))))
    (sSet 2 (c2 opAdd (cVar 2) (cTup (aCons (cTup (aVar 4 (aCons (cCall 3 Fn_law_pick (aVar 0 (aVar 1 (aCons (cF (cLst (aCons (cC (T [49])) (aCons (cC (T [49])) (aCons (cC (T [42])) aNil))))) aNil)))) aNil))) aNil))))))
    (sRet (cVar 2))))
noncomputable def Fn_law_items : Fn := runF 6 g_law_items
noncomputable def g_law_rules : MS :=
    (sSeq (sSet 3 (cTup aNil))
    (sSeq (sFor (tgN 4) (gRng fRng1 (aCons (cCall 3 Fn_law_draw (aVar 0 (aVar 1 (aCons (c2 opAdd (cVar 2) (cC (.int 1))) aNil)))) aNil))
    (sSeq (sSet 5 (c2 opEq (cCall 3 Fn_law_draw (aVar 0 (aVar 1 (aCons (cC (.int 2)) aNil)))) (cC (.int 0))))
    (sSet 3 (c2 opAdd (cVar 3) (cTup (aCons (cTup (aCons (cCall 2 Fn_law_items (aVar 0 (aVar 1 aNil))) (aVar 5 (aCons (cCall 2 Fn_law_items (aVar 0 (aVar 1 aNil))) aNil)))) aNil))))))
    (sRet (cVar 3))))
noncomputable def Fn_law_rules : Fn := runF 6 g_law_rules
noncomputable def g_law_signs : MS :=
    (sRet (cM1 mJoin (cC (T [])) (cF (cLc [4] (tgN 4) (gRng fRng1 (aCons (cCall 3 Fn_law_draw (aVar 0 (aVar 1 (aCons (c2 opAdd (cVar 2) (cC (.int 1))) aNil)))) aNil)) bYes (cCall 3 Fn_law_pick (aVar 0 (aVar 1 (aVar 3 aNil))))))))
noncomputable def Fn_law_signs : Fn := runF 5 g_law_signs
noncomputable def g_law_text : MS :=
    (sRet (cCall 4 Fn_law_signs (aVar 0 (aVar 1 (aVar 2 (aCons (cC (T [10, 32, 33, 39, 45, 46, 94, 97, 65, 98, 99, 120, 95, 126, 97, 65, 32, 94, 81, 90])) aNil))))))
noncomputable def Fn_law_text : Fn := runF 3 g_law_text
noncomputable def g_law_widths : MS :=
    (sSeq (sSet 2 (cTup aNil))
    (sSeq (sFor (tgN 3) (gItems (cF (cBtF fSortA (aCons (cC (T [10, 32, 33, 39, 45, 46, 94, 97, 65, 98, 99, 120, 95, 126, 81, 90])) aNil))))
    (sIf (cB (c2 opGt (cCall 3 Fn_law_draw (aVar 0 (aVar 1 (aCons (cC (.int 3)) aNil)))) (cC (.int 0))))
    (sSet 2 (c2 opAdd (cVar 2) (cTup (aCons (cTup (aVar 3 (aCons (cCall 3 Fn_law_pick (aVar 0 (aVar 1 (aCons (cF (cLst (aCons (cC (.int 0)) (aCons (cC (.int 1)) (aCons (cC (.int 1)) (aCons (cC (.int 2)) (aCons (cC (.int 2)) (aCons (cC (.int 4)) aNil)))))))) aNil)))) aNil))) aNil))))
    sNx))
    (sRet (cVar 2))))
noncomputable def Fn_law_widths : Fn := runF 4 g_law_widths
noncomputable def g_law : MS :=
    (sSeq (sFor (tgN 2) (gRng fRng1 (aCons (cC (.int 6)) aNil))
    (sSeq (sTup (tgP [(tgN 3), (tgN 4), (tgN 5)]) (cTup (aCons (cCall 2 Fn_law_kinds (aVar 0 (aVar 1 aNil))) (aCons (cCall 3 Fn_law_rules (aVar 0 (aVar 1 (aCons (cC (.int 7)) aNil)))) (aCons (cCall 2 Fn_law_widths (aVar 0 (aVar 1 aNil))) aNil)))))
    (sSeq (sSet 6 (cCall 3 Fn_law_text (aVar 0 (aVar 1 (aCons (cC (.int 14)) aNil)))))
    (sSeq (sParDD 7 8 (cCall 3 Fn_cuts (aVar 3 (aVar 4 (aVar 6 aNil)))) (cCall 3 Fn_pieces (aVar 3 (aVar 4 (aVar 6 aNil)))))
    (sSeq (sSet 9 (cF (cLc [10] (tgN 10) (gItems (cVar 8)) bYes (cCall 2 Fn_piece_width (aVar 5 (aVar 10 aNil))))))
    (sSeq (sIf (cB (c2 opNe (cVar 9) (cF (cLc [10] (tgN 10) (gItems (cVar 8)) bYes (cBt (fBest PySem.W.maxD) (aCons (cF (cLc [11] (tgN 11) (gItems (cVar 10)) bYes (cCall 2 Fn_piece_width (aVar 5 (aVar 11 aNil))))) aNil))))))
    (sRet (cC (.bool false)))
    sNx)
    (sSeq (sIf (bOr (cB (c2 opNe (cCall 4 Fn_width (aVar 3 (aVar 4 (aVar 5 (aVar 6 aNil))))) (cBt fSum (aVar 9 aNil)))) (cB (c2 opNe (cCall 2 Fn_piece_width (aVar 5 (aCons (cC (T [])) aNil))) (cC (.int 0)))))
    (sRet (cC (.bool false)))
    sNx)
    (sSeq (sSet 12 (cF (cLc [13] (tgN 13) (gRng fRng1 (aCons (c2 opAdd (cBt fLen (aVar 6 aNil)) (cC (.int 1))) aNil)) bYes (cCall 5 Fn_column_of (aVar 3 (aVar 4 (aVar 5 (aVar 6 (aVar 13 aNil)))))))))
    (sSeq (sIf (bOr (cB (c2 opNe (cVar 12) (cF (cBtF fSortA (aVar 12 aNil))))) (bOr (cB (c2 opNe (c2 opIx (cVar 12) (cC (.int 0))) (cC (.int 0)))) (cB (c2 opNe (c2 opIx (cVar 12) (c1 opNeg (cC (.int 1)))) (cBt fSum (aVar 9 aNil))))))
    (sRet (cC (.bool false)))
    sNx)
    (sSeq (sFor (tgP [(tgN 14), (tgN 15)]) (gEnumerate (aVar 9 aNil))
    (sSeq (sParDD 16 17 (c2 opIx (cVar 7) (cVar 14)) (c2 opIx (cVar 7) (c2 opAdd (cVar 14) (cC (.int 1)))))
    (sIf (bOr (cB (c2 opNe (c2 opIx (cVar 12) (cVar 17)) (c2 opAdd (c2 opIx (cVar 12) (cVar 16)) (cVar 15)))) (cB (c2 opNe (cSl (cVar 12) (gPart (cVar 16)) (gPart (cVar 17))) (c2 opMulA (cF (cLst (aCons (c2 opIx (cVar 12) (cVar 16)) aNil))) (c2 opSub (cVar 17) (cVar 16))))))
    (sRet (cC (.bool false)))
    sNx)))
    (sSeq (sFor (tgN 18) (gRng fRng1 (aCons (c2 opAdd (cBt fSum (aVar 9 aNil)) (cC (.int 2))) aNil))
    (sSeq (sSet 13 (cCall 5 Fn_at_column (aVar 3 (aVar 4 (aVar 5 (aVar 6 (aVar 18 aNil)))))))
    (sSeq (sIf (cB (c2 opNe (c2 opIsN (cVar 13) (cC .none)) (c2 opGe (cVar 18) (cBt fSum (aVar 9 aNil)))))
    (sRet (cC (.bool false)))
    sNx)
    (sIf (cB (c2 opNotN (cVar 13) (cC .none)))
    (sSeq (sSet 15 (c2 opIx (cVar 9) (cTIx (cVar 7) (cVar 13))))
    (sIf (bNot (cB (cCh opLe opLt (c2 opIx (cVar 12) (cVar 13)) (cVar 18) (c2 opAdd (c2 opIx (cVar 12) (cVar 13)) (cVar 15)))))
    (sRet (cC (.bool false)))
    sNx))
    sNx))))
    (sSeq (sSet 19 (cBt fTuple (aCons (cF (cLc [11] (tgN 11) (gItems (cF (cUpS (cVar 6)))) bYes (cTup (aVar 11 (aCons (cC (.int 4)) aNil))))) aNil)))
    (sSeq (sIf (cB (c2 opNe (cCall 4 Fn_width (aVar 3 (aVar 4 (aVar 19 (aVar 6 aNil))))) (c2 opMulA (cC (.int 4)) (cBt fLen (aVar 8 aNil)))))
    (sRet (cC (.bool false)))
    sNx)
    (sSeq (sSet 20 (cBt fTuple (aCons (cF (cLc [11] (tgN 11) (gItems (cF (cUpS (cVar 6)))) bYes (cTup (aVar 11 (aCons (cC (.int 0)) aNil))))) aNil)))
    (sIf (bOr (cB (c2 opNe (cCall 4 Fn_width (aVar 3 (aVar 4 (aVar 20 (aVar 6 aNil))))) (cC (.int 0)))) (bAnd (cTru (cVar 6)) (cB (c2 opNotN (cCall 5 Fn_at_column (aVar 3 (aVar 4 (aVar 20 (aVar 6 (aCons (cC (.int 0)) aNil)))))) (cC .none)))))
    (sRet (cC (.bool false)))
    sNx)))))))))))))))
    (sRet (cC (.bool true))))
structure TX (K : PySem.W.Frag) (mg : Str → Option Value) where
  a_kinds_of : Addr
  d_kinds_of : FuncData
  A_kinds_of : DefAt K mg "kinds_of" s_kinds_of ["kinds", "text"] a_kinds_of d_kinds_of
  a_is_in : Addr
  d_is_in : FuncData
  A_is_in : DefAt K mg "is_in" s_is_in ["item", "kind"] a_is_in d_is_in
  a_places_on : Addr
  d_places_on : FuncData
  A_places_on : DefAt K mg "places_on" s_places_on ["row", "items", "place"] a_places_on d_places_on
  a_leads_on : Addr
  d_leads_on : FuncData
  A_leads_on : DefAt K mg "leads_on" s_leads_on ["row", "items", "place"] a_leads_on d_leads_on
  a_leads_back : Addr
  d_leads_back : FuncData
  A_leads_back : DefAt K mg "leads_back" s_leads_back ["row", "items", "place"] a_leads_back d_leads_back
  a_rule_at : Addr
  d_rule_at : FuncData
  A_rule_at : DefAt K mg "rule_at" s_rule_at ["row", "rules", "place"] a_rule_at d_rule_at
  a_is_cut_at : Addr
  d_is_cut_at : FuncData
  A_is_cut_at : DefAt K mg "is_cut_at" s_is_cut_at ["row", "rules", "place"] a_is_cut_at d_is_cut_at
  a_cuts : Addr
  d_cuts : FuncData
  A_cuts : DefAt K mg "cuts" s_cuts ["kinds", "rules", "text"] a_cuts d_cuts
  a_pieces : Addr
  d_pieces : FuncData
  A_pieces : DefAt K mg "pieces" s_pieces ["kinds", "rules", "text"] a_pieces d_pieces
  a_piece_width : Addr
  d_piece_width : FuncData
  A_piece_width : DefAt K mg "piece_width" s_piece_width ["widths", "piece"] a_piece_width d_piece_width
  a_width : Addr
  d_width : FuncData
  A_width : DefAt K mg "width" s_width ["kinds", "rules", "widths", "text"] a_width d_width
  a_at_column : Addr
  d_at_column : FuncData
  A_at_column : DefAt K mg "at_column" s_at_column ["kinds", "rules", "widths", "text", "column"] a_at_column d_at_column
  a_column_of : Addr
  d_column_of : FuncData
  A_column_of : DefAt K mg "column_of" s_column_of ["kinds", "rules", "widths", "text", "place"] a_column_of d_column_of
  a_law_draw : Addr
  d_law_draw : FuncData
  A_law_draw : DefAt K mg "_law_draw" s_law_draw ["_law_script", "_law_town", "_law_many"] a_law_draw d_law_draw
  a_law_pick : Addr
  d_law_pick : FuncData
  A_law_pick : DefAt K mg "_law_pick" s_law_pick ["_law_script", "_law_town", "_law_some"] a_law_pick d_law_pick
  a_law_kinds : Addr
  d_law_kinds : FuncData
  A_law_kinds : DefAt K mg "_law_kinds" s_law_kinds ["_law_script", "_law_town"] a_law_kinds d_law_kinds
  a_law_items : Addr
  d_law_items : FuncData
  A_law_items : DefAt K mg "_law_items" s_law_items ["_law_script", "_law_town"] a_law_items d_law_items
  a_law_rules : Addr
  d_law_rules : FuncData
  A_law_rules : DefAt K mg "_law_rules" s_law_rules ["_law_script", "_law_town", "_law_most"] a_law_rules d_law_rules
  a_law_signs : Addr
  d_law_signs : FuncData
  A_law_signs : DefAt K mg "_law_signs" s_law_signs ["_law_script", "_law_town", "_law_most", "_law_some"] a_law_signs d_law_signs
  a_law_text : Addr
  d_law_text : FuncData
  A_law_text : DefAt K mg "_law_text" s_law_text ["_law_script", "_law_town", "_law_most"] a_law_text d_law_text
  a_law_widths : Addr
  d_law_widths : FuncData
  A_law_widths : DefAt K mg "_law_widths" s_law_widths ["_law_script", "_law_town"] a_law_widths d_law_widths
  a_law : Addr
  d_law : FuncData
  A_law : DefAt K mg "law" s_law ["_law_script"] a_law d_law
  m_dict : mg "dict" = none
  m_enumerate : mg "enumerate" = none
  m_len : mg "len" = none
  m_max : mg "max" = none
  m_range : mg "range" = none
  m_set : mg "set" = none
  m_sorted : mg "sorted" = none
  m_sum : mg "sum" = none
  m_tuple : mg "tuple" = none
  m_zip : mg "zip" = none
  u_OTHER : Tok
  k_OTHER : mg "OTHER" = some (.str ⟨#[79]⟩ u_OTHER)
section
variable {P : Program} {w : World} {K : PySem.W.Frag} {mg : Str → Option Value} {base : Heap} {ca : String → Addr}
theorem ok_kinds_of (Tx : TX K mg) : FnOk P w K mg base (L2.CX P w) 1 Tx.a_kinds_of Tx.d_kinds_of ["kinds", "text"] (spG K ca (["kinds", "text"] : List Str).length Fn_kinds_of) :=
  fn_ok2 (N := nm_kinds_of) (g := g_kinds_of) Tx.A_kinds_of.F sc_kinds_of fun cdv A outer s H E hr tk hp =>
    (ss_cons (es_dic (i := 2) sc_kinds_of.nd rfl (by first | exact Or.inl rfl | exact Or.inr rfl) (ed_dict rfl (by rfl) Tx.m_dict (ev_var 0)))
    (ss_one (es_ret (ev_m1 PySem.F.slot_str_join PySem.F.type_str_join mt_join om_join (ev_str (l := [])) (ev_F (ef_lc (own := [("sign", 3)]) rfl sc_kinds_of.nd (ig_any (ev_var 1)) (blkOk_by (N := nm_kinds_of) (sc := defScope s_kinds_of) (by decide +kernel)) (fun _ _ _ _ _ => (pg_name (i := 3) sc_kinds_of.nd rfl (by first | exact Or.inl rfl | exact Or.inr rfl))) (tok_name 3) (by decide) (fun _ _ _ _ _ => gts_nil) (fun _ _ _ _ _ => (ev_dget2 (i := 2) hr.units (ev_var 3) (ev_const (v := (.str ⟨#[79]⟩)) (d := (T [79])) Tx.k_OTHER ⟨_, rfl⟩ (fun _ => (.str _)))))))))))
theorem ok_is_in (Tx : TX K mg) : FnOk P w K mg base (L2.CX P w) 1 Tx.a_is_in Tx.d_is_in ["item", "kind"] (spG K ca (["item", "kind"] : List Str).length Fn_is_in) :=
  fn_ok2 (N := nm_is_in) (g := g_is_in) Tx.A_is_in.F sc_is_in fun cdv A outer s H E hr tk hp =>
    (ss_one (es_ret (ev_or (ev_cmp (op_eqD hr.units) o_eq (ev_ix (ev_var 0) ev_int) (ev_str (l := [])) (by rfl)) (ev_one (ev_cmp (or_in hr) o_in (ev_var 1) (ev_ix (ev_var 0) ev_int) (by rfl))))))
theorem ok_places_on (Tx : TX K mg) : FnOk P w K mg base (L2.CX P w) 2 Tx.a_places_on Tx.d_places_on ["row", "items", "place"] (spG K ca (["row", "items", "place"] : List Str).length Fn_places_on) :=
  fn_ok2 (N := nm_places_on) (g := g_places_on) Tx.A_places_on.F sc_places_on fun cdv A outer s H E hr tk hp =>
    (ss_cons (es_set (i := 3) sc_places_on.nd rfl (by first | exact Or.inl rfl | exact Or.inr rfl) (ev_F (ef_lst (ea_var 2 ea_nil))))
    (ss_cons (es_for hp rfl (ig_any (ev_var 1)) (pg_name (i := 4) sc_places_on.nd rfl (by first | exact Or.inl rfl | exact Or.inr rfl)) (tok_name 4)
    (ss_cons (es_own (i := 5) sc_places_on.nd rfl (by first | exact Or.inl rfl | exact Or.inr rfl) (ef_lst ea_nil))
    (ss_cons (es_for hp rfl (ig_any (ev_var 3)) (pg_name (i := 6) sc_places_on.nd rfl (by first | exact Or.inl rfl | exact Or.inr rfl)) (tok_name 6)
    (ss_one (es_if (et_cmp (op_eqD hr.units) o_eq (ev_ix (ev_var 4) ev_int) (ev_str (l := [42])) (by rfl))
    (ss_cons (es_app (i := 5) (ev_var 6))
    (ss_one (es_while hp (PW.pt (ew_and (et_cmp or_lt o_lt (ev_var 6) (ev_bt call_len o_len (by rfl) Tx.m_len PySem.boot_len (ea_var 0 ea_nil)) (by rfl)) (ew_and1 (et_truth (ev_call tk (ok_is_in Tx) (hr.mono (by decide)) (by rfl) Tx.A_is_in.g Tx.A_is_in.F.kp Tx.A_is_in.b (ea_var 4 (ea_cons (ev_ix (ev_var 0) (ev_var 6)) ea_nil)))))))
    (ss_cons (es_set (i := 6) sc_places_on.nd rfl (by first | exact Or.inl rfl | exact Or.inr rfl) (ev_op2 or_add o_add (ev_var 6) ev_int))
    (ss_one (es_app (i := 5) (ev_var 6)))))))
    (ss_one (es_if (PW.pt (ew_and (et_cmp or_lt o_lt (ev_var 6) (ev_bt call_len o_len (by rfl) Tx.m_len PySem.boot_len (ea_var 0 ea_nil)) (by rfl)) (ew_and1 (et_truth (ev_call tk (ok_is_in Tx) (hr.mono (by decide)) (by rfl) Tx.A_is_in.g Tx.A_is_in.F.kp Tx.A_is_in.b (ea_var 4 (ea_cons (ev_ix (ev_var 0) (ev_var 6)) ea_nil)))))))
    (ss_one (es_app (i := 5) (ev_op2 or_add o_add (ev_var 6) ev_int)))
    ss_nil)))))
    (ss_one (es_set (i := 3) sc_places_on.nd rfl (by first | exact Or.inl rfl | exact Or.inr rfl) (ev_F (ef_borrow 5 (ef_up rfl (by rfl) Tx.m_sorted (by rfl) Tx.m_set (ev_var 5)))))))))
    (ss_one (es_ret (ev_var 3)))))
theorem ok_leads_on (Tx : TX K mg) : FnOk P w K mg base (L2.CX P w) 3 Tx.a_leads_on Tx.d_leads_on ["row", "items", "place"] (spG K ca (["row", "items", "place"] : List Str).length Fn_leads_on) :=
  fn_ok2 (N := nm_leads_on) (g := g_leads_on) Tx.A_leads_on.F sc_leads_on fun cdv A outer s H E hr tk hp =>
    (ss_one (es_ret (ev_cmp (op_neD hr.units) o_ne (ev_call tk (ok_places_on Tx) (hr.mono (by decide)) (by rfl) Tx.A_places_on.g Tx.A_places_on.F.kp Tx.A_places_on.b (ea_var 0 (ea_var 1 (ea_var 2 ea_nil)))) (ev_F (ef_lst ea_nil)) (by rfl))))
theorem ok_leads_back (Tx : TX K mg) : FnOk P w K mg base (L2.CX P w) 3 Tx.a_leads_back Tx.d_leads_back ["row", "items", "place"] (spG K ca (["row", "items", "place"] : List Str).length Fn_leads_back) :=
  fn_ok2 (N := nm_leads_back) (g := g_leads_back) Tx.A_leads_back.F sc_leads_back fun cdv A outer s H E hr tk hp =>
    (ss_one (es_ret (ev_cmp (op_neD hr.units) o_ne (ev_call tk (ok_places_on Tx) (hr.mono (by decide)) (by rfl) Tx.A_places_on.g Tx.A_places_on.F.kp Tx.A_places_on.b (ea_cons (ev_rev (ev_sl (ev_var 0) eo_none (eo_some (ev_var 2)))) (ea_cons (ev_rev (ev_var 1)) (ea_cons ev_int ea_nil)))) (ev_F (ef_lst ea_nil)) (by rfl))))
theorem ok_rule_at (Tx : TX K mg) : FnOk P w K mg base (L2.CX P w) 4 Tx.a_rule_at Tx.d_rule_at ["row", "rules", "place"] (spG K ca (["row", "rules", "place"] : List Str).length Fn_rule_at) :=
  fn_ok2 (N := nm_rule_at) (g := g_rule_at) Tx.A_rule_at.F sc_rule_at fun cdv A outer s H E hr tk hp =>
    (ss_cons (es_for hp rfl (ig_enumerate (by rfl) Tx.m_enumerate (ea_var 1 ea_nil)) (pg_seq rfl (pgs_cons (pg_name (i := 3) sc_rule_at.nd rfl (by first | exact Or.inl rfl | exact Or.inr rfl)) (pgs_cons (pg_seq rfl (pgs_cons (pg_name (i := 4) sc_rule_at.nd rfl (by first | exact Or.inl rfl | exact Or.inr rfl)) (pgs_cons (pg_name (i := 5) sc_rule_at.nd rfl (by first | exact Or.inl rfl | exact Or.inr rfl)) (pgs_cons (pg_name (i := 6) sc_rule_at.nd rfl (by first | exact Or.inl rfl | exact Or.inr rfl)) pgs_nil)))) pgs_nil))) (tok_tup (tok_cons (tok_name 3) (tok_cons (tok_tup (tok_cons (tok_name 4) (tok_cons (tok_name 5) (tok_cons (tok_name 6) tok_nil))) rfl) tok_nil)) rfl)
    (ss_one (es_if (PW.pt (ew_and (et_truth (ev_call tk (ok_leads_back Tx) (hr.mono (by decide)) (by rfl) Tx.A_leads_back.g Tx.A_leads_back.F.kp Tx.A_leads_back.b (ea_var 0 (ea_var 4 (ea_var 2 ea_nil))))) (ew_and1 (et_truth (ev_call tk (ok_leads_on Tx) (hr.mono (by decide)) (by rfl) Tx.A_leads_on.g Tx.A_leads_on.F.kp Tx.A_leads_on.b (ea_var 0 (ea_var 6 (ea_var 2 ea_nil))))))))
    (ss_one (es_ret (ev_var 3)))
    ss_nil)))
    (ss_one (es_ret ev_non)))
theorem ok_is_cut_at (Tx : TX K mg) : FnOk P w K mg base (L2.CX P w) 5 Tx.a_is_cut_at Tx.d_is_cut_at ["row", "rules", "place"] (spG K ca (["row", "rules", "place"] : List Str).length Fn_is_cut_at) :=
  fn_ok2 (N := nm_is_cut_at) (g := g_is_cut_at) Tx.A_is_cut_at.F sc_is_cut_at fun cdv A outer s H E hr tk hp =>
    (ss_cons (es_if (et_cmp (or_in hr) o_in (ev_var 2) (ev_tup (ea_cons ev_int (ea_cons (ev_bt call_len o_len (by rfl) Tx.m_len PySem.boot_len (ea_var 0 ea_nil)) ea_nil))) (by rfl))
    (ss_one (es_ret (ev_cmp or_gt o_gt (ev_bt call_len o_len (by rfl) Tx.m_len PySem.boot_len (ea_var 0 ea_nil)) ev_int (by rfl))))
    ss_nil)
    (ss_cons (es_set (i := 3) sc_is_cut_at.nd rfl (by first | exact Or.inl rfl | exact Or.inr rfl) (ev_call tk (ok_rule_at Tx) (hr.mono (by decide)) (by rfl) Tx.A_rule_at.g Tx.A_rule_at.F.kp Tx.A_rule_at.b (ea_var 0 (ea_var 1 (ea_var 2 ea_nil)))))
    (ss_one (es_ret (ev_or (ev_cmp op_isN o_isN (ev_var 3) ev_non (by rfl)) (ev_one (ev_ix (ev_ix (ev_var 1) (ev_var 3)) ev_int)))))))
theorem ok_cuts (Tx : TX K mg) : FnOk P w K mg base (L2.CX P w) 6 Tx.a_cuts Tx.d_cuts ["kinds", "rules", "text"] (spG K ca (["kinds", "rules", "text"] : List Str).length Fn_cuts) :=
  fn_ok2 (N := nm_cuts) (g := g_cuts) Tx.A_cuts.F sc_cuts fun cdv A outer s H E hr tk hp =>
    (ss_cons (es_set (i := 3) sc_cuts.nd rfl (by first | exact Or.inl rfl | exact Or.inr rfl) (ev_call tk (ok_kinds_of Tx) (hr.mono (by decide)) (by rfl) Tx.A_kinds_of.g Tx.A_kinds_of.F.kp Tx.A_kinds_of.b (ea_var 0 (ea_var 2 ea_nil))))
    (ss_one (es_ret (ev_bty call_tupP o_tuple (by rfl) Tx.m_tuple (by decide +kernel) (ea_cons (ev_F (ef_lc (own := [("place", 4)]) rfl sc_cuts.nd (ig_rng1 (by rfl) Tx.m_range (ea_cons (ev_op2 or_add o_add (ev_bt call_len o_len (by rfl) Tx.m_len PySem.boot_len (ea_var 2 ea_nil)) ev_int) ea_nil)) (blkOk_by (N := nm_cuts) (sc := defScope s_cuts) (by decide +kernel)) (fun _ _ _ _ _ => (pg_name (i := 4) sc_cuts.nd rfl (by first | exact Or.inl rfl | exact Or.inr rfl))) (tok_name 4) (by decide) (fun _ _ _ _ _ => (gts_one (et_truth (ev_call takes0 (ok_is_cut_at Tx) (hr.mono (by decide)) (by rfl) Tx.A_is_cut_at.g Tx.A_is_cut_at.F.kp Tx.A_is_cut_at.b (ea_var 3 (ea_var 1 (ea_var 4 ea_nil))))))) (fun _ _ _ _ _ => (ev_var 4)))) ea_nil)))))
theorem ok_pieces (Tx : TX K mg) : FnOk P w K mg base (L2.CX P w) 7 Tx.a_pieces Tx.d_pieces ["kinds", "rules", "text"] (spG K ca (["kinds", "rules", "text"] : List Str).length Fn_pieces) :=
  fn_ok2 (N := nm_pieces) (g := g_pieces) Tx.A_pieces.F sc_pieces fun cdv A outer s H E hr tk hp =>
    (ss_cons (es_set (i := 3) sc_pieces.nd rfl (by first | exact Or.inl rfl | exact Or.inr rfl) (ev_call tk (ok_cuts Tx) (hr.mono (by decide)) (by rfl) Tx.A_cuts.g Tx.A_cuts.F.kp Tx.A_cuts.b (ea_var 0 (ea_var 1 (ea_var 2 ea_nil)))))
    (ss_one (es_ret (ev_bty call_tupP o_tuple (by rfl) Tx.m_tuple (by decide +kernel) (ea_cons (ev_F (ef_lc (own := [("one", 4), ("two", 5)]) rfl sc_pieces.nd (ig_zip (by rfl) Tx.m_zip (ea_cons (ev_sl (ev_var 3) eo_none (eo_some (ev_op1 un_neg o_neg ev_int))) (ea_cons (ev_sl (ev_var 3) (eo_some ev_int) eo_none) ea_nil))) (blkOk_by (N := nm_pieces) (sc := defScope s_pieces) (by decide +kernel)) (fun _ _ _ _ _ => (pg_seq rfl (pgs_cons (pg_name (i := 4) sc_pieces.nd rfl (by first | exact Or.inl rfl | exact Or.inr rfl)) (pgs_cons (pg_name (i := 5) sc_pieces.nd rfl (by first | exact Or.inl rfl | exact Or.inr rfl)) pgs_nil)))) (tok_tup (tok_cons (tok_name 4) (tok_cons (tok_name 5) tok_nil)) rfl) (by decide) (fun _ _ _ _ _ => gts_nil) (fun _ _ _ _ _ => (ev_sl (ev_var 2) (eo_some (ev_var 4)) (eo_some (ev_var 5)))))) ea_nil)))))
theorem ok_piece_width (Tx : TX K mg) : FnOk P w K mg base (L2.CX P w) 1 Tx.a_piece_width Tx.d_piece_width ["widths", "piece"] (spG K ca (["widths", "piece"] : List Str).length Fn_piece_width) :=
  fn_ok2 (N := nm_piece_width) (g := g_piece_width) Tx.A_piece_width.F sc_piece_width fun cdv A outer s H E hr tk hp =>
    (ss_cons (es_dic (i := 2) sc_piece_width.nd rfl (by first | exact Or.inl rfl | exact Or.inr rfl) (ed_dict rfl (by rfl) Tx.m_dict (ev_var 0)))
    (ss_one (es_ret (ev_bt (cr_maxD rfl hr.units) o_best (by rfl) Tx.m_max (by decide +kernel) (ea_cons (ev_op2 or_add o_add (ev_F (ef_lst (ea_cons ev_int ea_nil))) (ev_F (ef_lc (own := [("sign", 3)]) rfl sc_piece_width.nd (ig_any (ev_var 1)) (blkOk_by (N := nm_piece_width) (sc := defScope s_piece_width) (by decide +kernel)) (fun _ _ _ _ _ => (pg_name (i := 3) sc_piece_width.nd rfl (by first | exact Or.inl rfl | exact Or.inr rfl))) (tok_name 3) (by decide) (fun _ _ _ _ _ => gts_nil) (fun _ _ _ _ _ => (ev_dget2 (i := 2) hr.units (ev_var 3) ev_int))))) ea_nil)))))
theorem ok_width (Tx : TX K mg) : FnOk P w K mg base (L2.CX P w) 8 Tx.a_width Tx.d_width ["kinds", "rules", "widths", "text"] (spG K ca (["kinds", "rules", "widths", "text"] : List Str).length Fn_width) :=
  fn_ok2 (N := nm_width) (g := g_width) Tx.A_width.F sc_width fun cdv A outer s H E hr tk hp =>
    (ss_one (es_ret (ev_bt (cr_sum rfl) o_sum (by rfl) Tx.m_sum (by decide +kernel) (ea_cons (ev_F (ef_lc (own := [("piece", 4)]) rfl sc_width.nd (ig_any (ev_call tk (ok_pieces Tx) (hr.mono (by decide)) (by rfl) Tx.A_pieces.g Tx.A_pieces.F.kp Tx.A_pieces.b (ea_var 0 (ea_var 1 (ea_var 3 ea_nil))))) (blkOk_by (N := nm_width) (sc := defScope s_width) (by decide +kernel)) (fun _ _ _ _ _ => (pg_name (i := 4) sc_width.nd rfl (by first | exact Or.inl rfl | exact Or.inr rfl))) (tok_name 4) (by decide) (fun _ _ _ _ _ => gts_nil) (fun _ _ _ _ _ => (ev_call takes0 (ok_piece_width Tx) (hr.mono (by decide)) (by rfl) Tx.A_piece_width.g Tx.A_piece_width.F.kp Tx.A_piece_width.b (ea_var 2 (ea_var 4 ea_nil)))))) ea_nil))))
theorem ok_at_column (Tx : TX K mg) : FnOk P w K mg base (L2.CX P w) 8 Tx.a_at_column Tx.d_at_column ["kinds", "rules", "widths", "text", "column"] (spG K ca (["kinds", "rules", "widths", "text", "column"] : List Str).length Fn_at_column) :=
  fn_ok2 (N := nm_at_column) (g := g_at_column) Tx.A_at_column.F sc_at_column fun cdv A outer s H E hr tk hp =>
    (ss_cons (es_set (i := 5) sc_at_column.nd rfl (by first | exact Or.inl rfl | exact Or.inr rfl) ev_int)
    (ss_cons (es_set (i := 6) sc_at_column.nd rfl (by first | exact Or.inl rfl | exact Or.inr rfl) ev_int)
    (ss_cons (es_for hp rfl (ig_any (ev_call tk (ok_pieces Tx) (hr.mono (by decide)) (by rfl) Tx.A_pieces.g Tx.A_pieces.F.kp Tx.A_pieces.b (ea_var 0 (ea_var 1 (ea_var 3 ea_nil))))) (pg_name (i := 7) sc_at_column.nd rfl (by first | exact Or.inl rfl | exact Or.inr rfl)) (tok_name 7)
    (ss_cons (es_set (i := 5) sc_at_column.nd rfl (by first | exact Or.inl rfl | exact Or.inr rfl) (ev_op2 or_add o_add (ev_var 5) (ev_call tk (ok_piece_width Tx) (hr.mono (by decide)) (by rfl) Tx.A_piece_width.g Tx.A_piece_width.F.kp Tx.A_piece_width.b (ea_var 2 (ea_var 7 ea_nil)))))
    (ss_cons (es_if (et_cmp or_lt o_lt (ev_var 4) (ev_var 5) (by rfl))
    (ss_one (es_ret (ev_var 6)))
    ss_nil)
    (ss_one (es_set (i := 6) sc_at_column.nd rfl (by first | exact Or.inl rfl | exact Or.inr rfl) (ev_op2 or_add o_add (ev_var 6) (ev_bt call_len o_len (by rfl) Tx.m_len PySem.boot_len (ea_var 7 ea_nil))))))))
    (ss_one (es_ret ev_non)))))
theorem ok_column_of (Tx : TX K mg) : FnOk P w K mg base (L2.CX P w) 7 Tx.a_column_of Tx.d_column_of ["kinds", "rules", "widths", "text", "place"] (spG K ca (["kinds", "rules", "widths", "text", "place"] : List Str).length Fn_column_of) :=
  fn_ok2 (N := nm_column_of) (g := g_column_of) Tx.A_column_of.F sc_column_of fun cdv A outer s H E hr tk hp =>
    (ss_cons (es_if (et_not (et_chain or_le o_le or_le o_le ev_int (ev_var 4) (ev_bt call_len o_len (by rfl) Tx.m_len PySem.boot_len (ea_var 3 ea_nil))))
    (ss_one es_never)
    ss_nil)
    (ss_cons (es_set (i := 5) sc_column_of.nd rfl (by first | exact Or.inl rfl | exact Or.inr rfl) (ev_call tk (ok_cuts Tx) (hr.mono (by decide)) (by rfl) Tx.A_cuts.g Tx.A_cuts.F.kp Tx.A_cuts.b (ea_var 0 (ea_var 1 (ea_var 3 ea_nil)))))
    (ss_cons (es_setLc (own := [("one", 7), ("two", 8)]) (i := 6) rfl sc_column_of.nd rfl rfl (sw_true rfl rfl rfl (by decide +kernel)) (ig_zip (by rfl) Tx.m_zip (ea_cons (ev_sl (ev_var 5) eo_none (eo_some (ev_op1 un_neg o_neg ev_int))) (ea_cons (ev_sl (ev_var 5) (eo_some ev_int) eo_none) ea_nil))) (blkOk_by (N := nm_column_of) (sc := defScope s_column_of) (by decide +kernel)) (fun _ _ _ _ _ => (pg_seq rfl (pgs_cons (pg_name (i := 7) sc_column_of.nd rfl (by first | exact Or.inl rfl | exact Or.inr rfl)) (pgs_cons (pg_name (i := 8) sc_column_of.nd rfl (by first | exact Or.inl rfl | exact Or.inr rfl)) pgs_nil)))) (tok_tup (tok_cons (tok_name 7) (tok_cons (tok_name 8) tok_nil)) rfl) (by decide) (fun _ _ _ _ _ => (gts_one (et_cmp or_le o_le (ev_var 8) (ev_var 4) (by rfl)))) (fun _ _ _ _ _ => (ev_sl (ev_var 3) (eo_some (ev_var 7)) (eo_some (ev_var 8)))))
    (ss_one (es_ret (ev_bt (cr_sum rfl) o_sum (by rfl) Tx.m_sum (by decide +kernel) (ea_cons (ev_F (ef_lc (own := [("part", 9)]) rfl sc_column_of.nd (ig_any (ev_var 6)) (blkOk_by (N := nm_column_of) (sc := defScope s_column_of) (by decide +kernel)) (fun _ _ _ _ _ => (pg_name (i := 9) sc_column_of.nd rfl (by first | exact Or.inl rfl | exact Or.inr rfl))) (tok_name 9) (by decide) (fun _ _ _ _ _ => gts_nil) (fun _ _ _ _ _ => (ev_call takes0 (ok_piece_width Tx) (hr.mono (by decide)) (by rfl) Tx.A_piece_width.g Tx.A_piece_width.F.kp Tx.A_piece_width.b (ea_var 2 (ea_var 9 ea_nil)))))) ea_nil)))))))
theorem ok_law_draw (Tx : TX K mg) : FnOk P w K mg base (L2.CX P w) 1 Tx.a_law_draw Tx.d_law_draw ["_law_script", "_law_town", "_law_many"] (spG K ca (["_law_script", "_law_town", "_law_many"] : List Str).length Fn_law_draw) :=
  fn_ok2 (N := nm_law_draw) (g := g_law_draw) Tx.A_law_draw.F sc_law_draw fun cdv A outer s H E hr tk hp =>
    (ss_cons (es_town (i := 1))
    (ss_cons (es_set (i := 3) sc_law_draw.nd rfl (by first | exact Or.inl rfl | exact Or.inr rfl) (ev_lenV 1 (by rfl) Tx.m_len))
    (ss_cons (es_set (i := 4) sc_law_draw.nd rfl (by first | exact Or.inl rfl | exact Or.inr rfl) ev_int)
    (ss_cons (es_if (et_scr 0)
    (ss_one (es_set (i := 4) sc_law_draw.nd rfl (by first | exact Or.inl rfl | exact Or.inr rfl) (ev_scrIx 0 (ev_op2 op_mod o_mod (ev_var 3) (ev_lenV 0 (by rfl) Tx.m_len)))))
    ss_nil)
    (ss_cons (es_set (i := 5) sc_law_draw.nd rfl (by first | exact Or.inl rfl | exact Or.inr rfl) (ev_op2 op_mod o_mod (ev_op2 or_add o_add (ev_var 4) (ev_op2 or_mulA o_mulA ev_int (ev_var 3))) ev_int))
    (ss_cons (es_set (i := 5) sc_law_draw.nd rfl (by first | exact Or.inl rfl | exact Or.inr rfl) (ev_op2 op_mod o_mod (ev_op2 or_mulA o_mulA (ev_op2 op_mod o_mod (ev_op2 or_mulA o_mulA (ev_var 5) (ev_var 5)) ev_int) ev_int) ev_int))
    (ss_cons (es_set (i := 6) sc_law_draw.nd rfl (by first | exact Or.inl rfl | exact Or.inr rfl) (ev_op2 op_mod o_mod (ev_op2 or_mulA o_mulA (ev_op2 op_mod o_mod (ev_op2 or_mulA o_mulA (ev_var 5) (ev_var 5)) ev_int) ev_int) ev_int))
    (ss_one (es_ret (ev_op2 op_mod o_mod (ev_op2 or_add o_add (ev_op2 or_mulA o_mulA (ev_op2 op_fdiv o_div (ev_var 5) ev_int) ev_int) (ev_op2 op_fdiv o_div (ev_var 6) ev_int)) (ev_var 2)))))))))))
theorem ok_law_pick (Tx : TX K mg) : FnOk P w K mg base (L2.CX P w) 2 Tx.a_law_pick Tx.d_law_pick ["_law_script", "_law_town", "_law_some"] (spG K ca (["_law_script", "_law_town", "_law_some"] : List Str).length Fn_law_pick) :=
  fn_ok2 (N := nm_law_pick) (g := g_law_pick) Tx.A_law_pick.F sc_law_pick fun cdv A outer s H E hr tk hp =>
    (ss_one (es_ret (ev_ix (ev_var 2) (ev_call tk (ok_law_draw Tx) (hr.mono (by decide)) (by rfl) Tx.A_law_draw.g Tx.A_law_draw.F.kp Tx.A_law_draw.b (ea_var 0 (ea_var 1 (ea_cons (ev_bt call_len o_len (by rfl) Tx.m_len PySem.boot_len (ea_var 2 ea_nil)) ea_nil)))))))
theorem ok_law_kinds (Tx : TX K mg) : FnOk P w K mg base (L2.CX P w) 3 Tx.a_law_kinds Tx.d_law_kinds ["_law_script", "_law_town"] (spG K ca (["_law_script", "_law_town"] : List Str).length Fn_law_kinds) :=
  fn_ok2 (N := nm_law_kinds) (g := g_law_kinds) Tx.A_law_kinds.F sc_law_kinds fun cdv A outer s H E hr tk hp =>
    (ss_cons (es_set (i := 2) sc_law_kinds.nd rfl (by first | exact Or.inl rfl | exact Or.inr rfl) (ev_tup ea_nil))
    (ss_cons (es_for hp rfl (ig_any (ev_str (l := [10, 32, 33, 39, 45, 46, 94, 97, 65, 98, 99, 120, 95, 126]))) (pg_name (i := 3) sc_law_kinds.nd rfl (by first | exact Or.inl rfl | exact Or.inr rfl)) (tok_name 3)
    (ss_one (es_if (et_cmp or_gt o_gt (ev_call tk (ok_law_draw Tx) (hr.mono (by decide)) (by rfl) Tx.A_law_draw.g Tx.A_law_draw.F.kp Tx.A_law_draw.b (ea_var 0 (ea_var 1 (ea_cons ev_int ea_nil)))) ev_int (by rfl))
    (ss_one (es_set (i := 2) sc_law_kinds.nd rfl (by first | exact Or.inl rfl | exact Or.inr rfl) (ev_op2 or_add o_add (ev_var 2) (ev_tup (ea_cons (ev_tup (ea_var 3 (ea_cons (ev_call tk (ok_law_pick Tx) (hr.mono (by decide)) (by rfl) Tx.A_law_pick.g Tx.A_law_pick.F.kp Tx.A_law_pick.b (ea_var 0 (ea_var 1 (ea_cons (ev_str (l := [65, 66, 67, 77, 79, 90])) ea_nil)))) ea_nil))) ea_nil)))))
    ss_nil)))
    (ss_one (es_ret (ev_bty call_tupP o_tuple (by rfl) Tx.m_tuple (by decide +kernel) (ea_cons (ev_F (ef_bt (cr_sortA rfl hr.units) o_sortA (by rfl) Tx.m_sorted (by decide +kernel) (ea_var 2 ea_nil))) ea_nil))))))
theorem ok_law_items (Tx : TX K mg) : FnOk P w K mg base (L2.CX P w) 3 Tx.a_law_items Tx.d_law_items ["_law_script", "_law_town"] (spG K ca (["_law_script", "_law_town"] : List Str).length Fn_law_items) :=
  fn_ok2 (N := nm_law_items) (g := g_law_items) Tx.A_law_items.F sc_law_items fun cdv A outer s H E hr tk hp =>
    (ss_cons (es_set (i := 2) sc_law_items.nd rfl (by first | exact Or.inl rfl | exact Or.inr rfl) (ev_tup ea_nil))
    (ss_cons (es_for hp rfl (ig_rng1 (by rfl) Tx.m_range (ea_cons (ev_call tk (ok_law_pick Tx) (hr.mono (by decide)) (by rfl) Tx.A_law_pick.g Tx.A_law_pick.F.kp Tx.A_law_pick.b (ea_var 0 (ea_var 1 (ea_cons (ev_F (ef_lst (ea_cons ev_int (ea_cons ev_int (ea_cons ev_int (ea_cons ev_int (ea_cons ev_int ea_nil))))))) ea_nil)))) ea_nil)) (pg_name (i := 3) sc_law_items.nd rfl (by first | exact Or.inl rfl | exact Or.inr rfl)) (tok_name 3)
    (ss_cons (es_set (i := 4) sc_law_items.nd rfl (by first | exact Or.inl rfl | exact Or.inr rfl) (ev_m1 PySem.F.slot_str_join PySem.F.type_str_join mt_join om_join (ev_str (l := [])) (ev_F (ef_lc (own := [("_law_kind", 5)]) rfl sc_law_items.nd (ig_any (ev_str (l := [65, 66, 67, 77, 79, 90]))) (blkOk_by (N := nm_law_items) (sc := defScope s_law_items) (by decide +kernel)) (fun _ _ _ _ _ => (pg_name (i := 5) sc_law_items.nd rfl (by first | exact Or.inl rfl | exact Or.inr rfl))) (tok_name 5) (by decide) (fun _ _ _ _ _ => (gts_one (et_cmp (op_eqD hr.units) o_eq (ev_call takes0 (ok_law_draw Tx) (hr.mono (by decide)) (by rfl) Tx.A_law_draw.g Tx.A_law_draw.F.kp Tx.A_law_draw.b (ea_var 0 (ea_var 1 (ea_cons ev_int ea_nil)))) ev_int (by rfl)))) (fun _ _ _ _ _ => (ev_var 5))))))
    (ss_one (es_set (i := 2) sc_law_items.nd rfl (by first | exact Or.inl rfl | exact Or.inr rfl) (ev_op2 or_add o_add (ev_var 2) (ev_tup (ea_cons (ev_tup (ea_var 4 (ea_cons (ev_call tk (ok_law_pick Tx) (hr.mono (by decide)) (by rfl) Tx.A_law_pick.g Tx.A_law_pick.F.kp Tx.A_law_pick.b (ea_var 0 (ea_var 1 (ea_cons (ev_F (ef_lst (ea_cons (ev_str (l := [49])) (ea_cons (ev_str (l := [49])) (ea_cons (ev_str (l := [42])) ea_nil))))) ea_nil)))) ea_nil))) ea_nil)))))))
    (ss_one (es_ret (ev_var 2)))))
theorem ok_law_rules (Tx : TX K mg) : FnOk P w K mg base (L2.CX P w) 4 Tx.a_law_rules Tx.d_law_rules ["_law_script", "_law_town", "_law_most"] (spG K ca (["_law_script", "_law_town", "_law_most"] : List Str).length Fn_law_rules) :=
  fn_ok2 (N := nm_law_rules) (g := g_law_rules) Tx.A_law_rules.F sc_law_rules fun cdv A outer s H E hr tk hp =>
    (ss_cons (es_set (i := 3) sc_law_rules.nd rfl (by first | exact Or.inl rfl | exact Or.inr rfl) (ev_tup ea_nil))
    (ss_cons (es_for hp rfl (ig_rng1 (by rfl) Tx.m_range (ea_cons (ev_call tk (ok_law_draw Tx) (hr.mono (by decide)) (by rfl) Tx.A_law_draw.g Tx.A_law_draw.F.kp Tx.A_law_draw.b (ea_var 0 (ea_var 1 (ea_cons (ev_op2 or_add o_add (ev_var 2) ev_int) ea_nil)))) ea_nil)) (pg_name (i := 4) sc_law_rules.nd rfl (by first | exact Or.inl rfl | exact Or.inr rfl)) (tok_name 4)
    (ss_cons (es_set (i := 5) sc_law_rules.nd rfl (by first | exact Or.inl rfl | exact Or.inr rfl) (ev_cmp (op_eqD hr.units) o_eq (ev_call tk (ok_law_draw Tx) (hr.mono (by decide)) (by rfl) Tx.A_law_draw.g Tx.A_law_draw.F.kp Tx.A_law_draw.b (ea_var 0 (ea_var 1 (ea_cons ev_int ea_nil)))) ev_int (by rfl)))
    (ss_one (es_set (i := 3) sc_law_rules.nd rfl (by first | exact Or.inl rfl | exact Or.inr rfl) (ev_op2 or_add o_add (ev_var 3) (ev_tup (ea_cons (ev_tup (ea_cons (ev_call tk (ok_law_items Tx) (hr.mono (by decide)) (by rfl) Tx.A_law_items.g Tx.A_law_items.F.kp Tx.A_law_items.b (ea_var 0 (ea_var 1 ea_nil))) (ea_var 5 (ea_cons (ev_call tk (ok_law_items Tx) (hr.mono (by decide)) (by rfl) Tx.A_law_items.g Tx.A_law_items.F.kp Tx.A_law_items.b (ea_var 0 (ea_var 1 ea_nil))) ea_nil)))) ea_nil)))))))
    (ss_one (es_ret (ev_var 3)))))
theorem ok_law_signs (Tx : TX K mg) : FnOk P w K mg base (L2.CX P w) 3 Tx.a_law_signs Tx.d_law_signs ["_law_script", "_law_town", "_law_most", "_law_some"] (spG K ca (["_law_script", "_law_town", "_law_most", "_law_some"] : List Str).length Fn_law_signs) :=
  fn_ok2 (N := nm_law_signs) (g := g_law_signs) Tx.A_law_signs.F sc_law_signs fun cdv A outer s H E hr tk hp =>
    (ss_one (es_ret (ev_m1 PySem.F.slot_str_join PySem.F.type_str_join mt_join om_join (ev_str (l := [])) (ev_F (ef_lc (own := [("_law_k", 4)]) rfl sc_law_signs.nd (ig_rng1 (by rfl) Tx.m_range (ea_cons (ev_call tk (ok_law_draw Tx) (hr.mono (by decide)) (by rfl) Tx.A_law_draw.g Tx.A_law_draw.F.kp Tx.A_law_draw.b (ea_var 0 (ea_var 1 (ea_cons (ev_op2 or_add o_add (ev_var 2) ev_int) ea_nil)))) ea_nil)) (blkOk_by (N := nm_law_signs) (sc := defScope s_law_signs) (by decide +kernel)) (fun _ _ _ _ _ => (pg_name (i := 4) sc_law_signs.nd rfl (by first | exact Or.inl rfl | exact Or.inr rfl))) (tok_name 4) (by decide) (fun _ _ _ _ _ => gts_nil) (fun _ _ _ _ _ => (ev_call takes0 (ok_law_pick Tx) (hr.mono (by decide)) (by rfl) Tx.A_law_pick.g Tx.A_law_pick.F.kp Tx.A_law_pick.b (ea_var 0 (ea_var 1 (ea_var 3 ea_nil))))))))))
theorem ok_law_text (Tx : TX K mg) : FnOk P w K mg base (L2.CX P w) 4 Tx.a_law_text Tx.d_law_text ["_law_script", "_law_town", "_law_most"] (spG K ca (["_law_script", "_law_town", "_law_most"] : List Str).length Fn_law_text) :=
  fn_ok2 (N := nm_law_text) (g := g_law_text) Tx.A_law_text.F sc_law_text fun cdv A outer s H E hr tk hp =>
    (ss_one (es_ret (ev_call tk (ok_law_signs Tx) (hr.mono (by decide)) (by rfl) Tx.A_law_signs.g Tx.A_law_signs.F.kp Tx.A_law_signs.b (ea_var 0 (ea_var 1 (ea_var 2 (ea_cons (ev_str (l := [10, 32, 33, 39, 45, 46, 94, 97, 65, 98, 99, 120, 95, 126, 97, 65, 32, 94, 81, 90])) ea_nil)))))))
theorem ok_law_widths (Tx : TX K mg) : FnOk P w K mg base (L2.CX P w) 3 Tx.a_law_widths Tx.d_law_widths ["_law_script", "_law_town"] (spG K ca (["_law_script", "_law_town"] : List Str).length Fn_law_widths) :=
  fn_ok2 (N := nm_law_widths) (g := g_law_widths) Tx.A_law_widths.F sc_law_widths fun cdv A outer s H E hr tk hp =>
    (ss_cons (es_set (i := 2) sc_law_widths.nd rfl (by first | exact Or.inl rfl | exact Or.inr rfl) (ev_tup ea_nil))
    (ss_cons (es_for hp rfl (ig_any (ev_F (ef_bt (cr_sortA rfl hr.units) o_sortA (by rfl) Tx.m_sorted (by decide +kernel) (ea_cons (ev_str (l := [10, 32, 33, 39, 45, 46, 94, 97, 65, 98, 99, 120, 95, 126, 81, 90])) ea_nil)))) (pg_name (i := 3) sc_law_widths.nd rfl (by first | exact Or.inl rfl | exact Or.inr rfl)) (tok_name 3)
    (ss_one (es_if (et_cmp or_gt o_gt (ev_call tk (ok_law_draw Tx) (hr.mono (by decide)) (by rfl) Tx.A_law_draw.g Tx.A_law_draw.F.kp Tx.A_law_draw.b (ea_var 0 (ea_var 1 (ea_cons ev_int ea_nil)))) ev_int (by rfl))
    (ss_one (es_set (i := 2) sc_law_widths.nd rfl (by first | exact Or.inl rfl | exact Or.inr rfl) (ev_op2 or_add o_add (ev_var 2) (ev_tup (ea_cons (ev_tup (ea_var 3 (ea_cons (ev_call tk (ok_law_pick Tx) (hr.mono (by decide)) (by rfl) Tx.A_law_pick.g Tx.A_law_pick.F.kp Tx.A_law_pick.b (ea_var 0 (ea_var 1 (ea_cons (ev_F (ef_lst (ea_cons ev_int (ea_cons ev_int (ea_cons ev_int (ea_cons ev_int (ea_cons ev_int (ea_cons ev_int ea_nil)))))))) ea_nil)))) ea_nil))) ea_nil)))))
    ss_nil)))
    (ss_one (es_ret (ev_var 2)))))
theorem ok_law (Tx : TX K mg) (law : LawTrue 19 g_law) : FnOk P w K mg base (L2.CX P w) 9 Tx.a_law Tx.d_law ["_law_script"] (spLaw K) :=
  law_ok2 (ca := fun _ => 0) (g := g_law) Tx.A_law.F sc_law rfl rfl (by first | exact Or.inl rfl | exact Or.inr rfl) rfl (fun cdv A outer s H E hr tk hp =>
    (ss_cons (es_for hp rfl (ig_rng1 (by rfl) Tx.m_range (ea_cons ev_int ea_nil)) (pg_name (i := 2) sc_law.nd rfl (by first | exact Or.inl rfl | exact Or.inr rfl)) (tok_name 2)
    (ss_cons (es_tup (ev_tup (ea_cons (ev_call tk (ok_law_kinds Tx) (hr.mono (by decide)) (by rfl) Tx.A_law_kinds.g Tx.A_law_kinds.F.kp Tx.A_law_kinds.b (ea_var 0 (ea_var 1 ea_nil))) (ea_cons (ev_call tk (ok_law_rules Tx) (hr.mono (by decide)) (by rfl) Tx.A_law_rules.g Tx.A_law_rules.F.kp Tx.A_law_rules.b (ea_var 0 (ea_var 1 (ea_cons ev_int ea_nil)))) (ea_cons (ev_call tk (ok_law_widths Tx) (hr.mono (by decide)) (by rfl) Tx.A_law_widths.g Tx.A_law_widths.F.kp Tx.A_law_widths.b (ea_var 0 (ea_var 1 ea_nil))) ea_nil)))) (pg_seq rfl (pgs_cons (pg_name (i := 3) sc_law.nd rfl (by first | exact Or.inl rfl | exact Or.inr rfl)) (pgs_cons (pg_name (i := 4) sc_law.nd rfl (by first | exact Or.inl rfl | exact Or.inr rfl)) (pgs_cons (pg_name (i := 5) sc_law.nd rfl (by first | exact Or.inl rfl | exact Or.inr rfl)) pgs_nil)))) (tok_tup (tok_cons (tok_name 3) (tok_cons (tok_name 4) (tok_cons (tok_name 5) tok_nil))) rfl))
    (ss_cons (es_set (i := 6) sc_law.nd rfl (by first | exact Or.inl rfl | exact Or.inr rfl) (ev_call tk (ok_law_text Tx) (hr.mono (by decide)) (by rfl) Tx.A_law_text.g Tx.A_law_text.F.kp Tx.A_law_text.b (ea_var 0 (ea_var 1 (ea_cons ev_int ea_nil)))))
    (ss_cons (es_parDD (i := 7) (j := 8) rfl sc_law.nd rfl rfl (by decide) rfl rfl (ev_call tk (ok_cuts Tx) (hr.mono (by decide)) (by rfl) Tx.A_cuts.g Tx.A_cuts.F.kp Tx.A_cuts.b (ea_var 3 (ea_var 4 (ea_var 6 ea_nil)))) (ev_call tk (ok_pieces Tx) (hr.mono (by decide)) (by rfl) Tx.A_pieces.g Tx.A_pieces.F.kp Tx.A_pieces.b (ea_var 3 (ea_var 4 (ea_var 6 ea_nil)))) (by rfl))
    (ss_cons (es_setLc (own := [("_law_piece", 10)]) (i := 9) rfl sc_law.nd rfl rfl (sw_true rfl rfl rfl (by decide +kernel)) (ig_any (ev_var 8)) (blkOk_by (N := nm_law) (sc := defScope s_law) (by decide +kernel)) (fun _ _ _ _ _ => (pg_name (i := 10) sc_law.nd rfl (by first | exact Or.inl rfl | exact Or.inr rfl))) (tok_name 10) (by decide) (fun _ _ _ _ _ => gts_nil) (fun _ _ _ _ _ => (ev_call takes0 (ok_piece_width Tx) (hr.mono (by decide)) (by rfl) Tx.A_piece_width.g Tx.A_piece_width.F.kp Tx.A_piece_width.b (ea_var 5 (ea_var 10 ea_nil)))))
    (ss_cons (es_if (et_cmp (op_neD hr.units) o_ne (ev_var 9) (ev_F (ef_lc (own := [("_law_piece", 10)]) rfl sc_law.nd (ig_any (ev_var 8)) (blkOk_by (N := nm_law) (sc := defScope s_law) (by decide +kernel)) (fun _ _ _ _ _ => (pg_name (i := 10) sc_law.nd rfl (by first | exact Or.inl rfl | exact Or.inr rfl))) (tok_name 10) (by decide) (fun _ _ _ _ _ => gts_nil) (fun _ _ _ _ _ => (ev_bt (cr_maxD rfl hr.units) o_best (by rfl) Tx.m_max (by decide +kernel) (ea_cons (ev_F (ef_lc (own := [("_law_sign", 11)]) rfl sc_law.nd (ig_any (ev_var 10)) (blkOk_by (by with_unfolding_all rfl)) (fun _ _ _ _ _ => (pg_name (i := 11) sc_law.nd rfl (by first | exact Or.inl rfl | exact Or.inr rfl))) (tok_name 11) (by decide) (fun _ _ _ _ _ => gts_nil) (fun _ _ _ _ _ => (ev_call takes0 (ok_piece_width Tx) (hr.mono (by decide)) (by rfl) Tx.A_piece_width.g Tx.A_piece_width.F.kp Tx.A_piece_width.b (ea_var 5 (ea_var 11 ea_nil)))))) ea_nil))))) (by rfl))
    (ss_one (es_ret ev_bl))
    ss_nil)
    (ss_cons (es_if (PW.pt (ew_or (et_cmp (op_neD hr.units) o_ne (ev_call tk (ok_width Tx) (hr.mono (by decide)) (by rfl) Tx.A_width.g Tx.A_width.F.kp Tx.A_width.b (ea_var 3 (ea_var 4 (ea_var 5 (ea_var 6 ea_nil))))) (ev_bt (cr_sum rfl) o_sum (by rfl) Tx.m_sum (by decide +kernel) (ea_var 9 ea_nil)) (by rfl)) (ew_or1 (et_cmp (op_neD hr.units) o_ne (ev_call tk (ok_piece_width Tx) (hr.mono (by decide)) (by rfl) Tx.A_piece_width.g Tx.A_piece_width.F.kp Tx.A_piece_width.b (ea_var 5 (ea_cons (ev_str (l := [])) ea_nil))) ev_int (by rfl)))))
    (ss_one (es_ret ev_bl))
    ss_nil)
    (ss_cons (es_setLc (own := [("_law_place", 13)]) (i := 12) rfl sc_law.nd rfl rfl (sw_true rfl rfl rfl (by decide +kernel)) (ig_rng1 (by rfl) Tx.m_range (ea_cons (ev_op2 or_add o_add (ev_bt call_len o_len (by rfl) Tx.m_len PySem.boot_len (ea_var 6 ea_nil)) ev_int) ea_nil)) (blkOk_by (N := nm_law) (sc := defScope s_law) (by decide +kernel)) (fun _ _ _ _ _ => (pg_name (i := 13) sc_law.nd rfl (by first | exact Or.inl rfl | exact Or.inr rfl))) (tok_name 13) (by decide) (fun _ _ _ _ _ => gts_nil) (fun _ _ _ _ _ => (ev_call takes0 (ok_column_of Tx) (hr.mono (by decide)) (by rfl) Tx.A_column_of.g Tx.A_column_of.F.kp Tx.A_column_of.b (ea_var 3 (ea_var 4 (ea_var 5 (ea_var 6 (ea_var 13 ea_nil))))))))
    (ss_cons (es_if (PW.pt (ew_or (et_cmp (op_neD hr.units) o_ne (ev_var 12) (ev_F (ef_bt (cr_sortA rfl hr.units) o_sortA (by rfl) Tx.m_sorted (by decide +kernel) (ea_var 12 ea_nil))) (by rfl)) (ew_or (et_cmp (op_neD hr.units) o_ne (ev_ix (ev_var 12) ev_int) ev_int (by rfl)) (ew_or1 (et_cmp (op_neD hr.units) o_ne (ev_ix (ev_var 12) (ev_op1 un_neg o_neg ev_int)) (ev_bt (cr_sum rfl) o_sum (by rfl) Tx.m_sum (by decide +kernel) (ea_var 9 ea_nil)) (by rfl))))))
    (ss_one (es_ret ev_bl))
    ss_nil)
    (ss_cons (es_for hp rfl (ig_enumerate (by rfl) Tx.m_enumerate (ea_var 9 ea_nil)) (pg_seq rfl (pgs_cons (pg_name (i := 14) sc_law.nd rfl (by first | exact Or.inl rfl | exact Or.inr rfl)) (pgs_cons (pg_name (i := 15) sc_law.nd rfl (by first | exact Or.inl rfl | exact Or.inr rfl)) pgs_nil))) (tok_tup (tok_cons (tok_name 14) (tok_cons (tok_name 15) tok_nil)) rfl)
    (ss_cons (es_parDD (i := 16) (j := 17) rfl sc_law.nd rfl rfl (by decide) rfl rfl (ev_ix (ev_var 7) (ev_var 14)) (ev_ix (ev_var 7) (ev_op2 or_add o_add (ev_var 14) ev_int)) (by rfl))
    (ss_one (es_if (PW.pt (ew_or (et_cmp (op_neD hr.units) o_ne (ev_ix (ev_var 12) (ev_var 17)) (ev_op2 or_add o_add (ev_ix (ev_var 12) (ev_var 16)) (ev_var 15)) (by rfl)) (ew_or1 (et_cmp (op_neD hr.units) o_ne (ev_sl (ev_var 12) (eo_some (ev_var 16)) (eo_some (ev_var 17))) (ev_op2 or_mulA o_mulA (ev_F (ef_lst (ea_cons (ev_ix (ev_var 12) (ev_var 16)) ea_nil))) (ev_op2 op_sub o_sub (ev_var 17) (ev_var 16))) (by rfl)))))
    (ss_one (es_ret ev_bl))
    ss_nil))))
    (ss_cons (es_for hp rfl (ig_rng1 (by rfl) Tx.m_range (ea_cons (ev_op2 or_add o_add (ev_bt (cr_sum rfl) o_sum (by rfl) Tx.m_sum (by decide +kernel) (ea_var 9 ea_nil)) ev_int) ea_nil)) (pg_name (i := 18) sc_law.nd rfl (by first | exact Or.inl rfl | exact Or.inr rfl)) (tok_name 18)
    (ss_cons (es_set (i := 13) sc_law.nd rfl (by first | exact Or.inl rfl | exact Or.inr rfl) (ev_call tk (ok_at_column Tx) (hr.mono (by decide)) (by rfl) Tx.A_at_column.g Tx.A_at_column.F.kp Tx.A_at_column.b (ea_var 3 (ea_var 4 (ea_var 5 (ea_var 6 (ea_var 18 ea_nil)))))))
    (ss_cons (es_if (et_cmp (op_neD hr.units) o_ne (ev_cmp op_isN o_isN (ev_var 13) ev_non (by rfl)) (ev_cmp or_ge o_ge (ev_var 18) (ev_bt (cr_sum rfl) o_sum (by rfl) Tx.m_sum (by decide +kernel) (ea_var 9 ea_nil)) (by rfl)) (by rfl))
    (ss_one (es_ret ev_bl))
    ss_nil)
    (ss_one (es_if (et_cmp op_notN o_notN (ev_var 13) ev_non (by rfl))
    (ss_cons (es_set (i := 15) sc_law.nd rfl (by first | exact Or.inl rfl | exact Or.inr rfl) (ev_ix (ev_var 9) (ev_tix (ev_var 7) (ev_var 13))))
    (ss_one (es_if (et_not (et_chain or_le o_le or_lt o_lt (ev_ix (ev_var 12) (ev_var 13)) (ev_var 18) (ev_op2 or_add o_add (ev_ix (ev_var 12) (ev_var 13)) (ev_var 15))))
    (ss_one (es_ret ev_bl))
    ss_nil)))
    ss_nil)))))
    (ss_cons (es_set (i := 19) sc_law.nd rfl (by first | exact Or.inl rfl | exact Or.inr rfl) (ev_bty call_tupP o_tuple (by rfl) Tx.m_tuple (by decide +kernel) (ea_cons (ev_F (ef_lc (own := [("_law_sign", 11)]) rfl sc_law.nd (ig_any (ev_F (ef_upS rfl hr.units (by rfl) Tx.m_sorted (by rfl) Tx.m_set (ev_var 6)))) (blkOk_by (N := nm_law) (sc := defScope s_law) (by decide +kernel)) (fun _ _ _ _ _ => (pg_name (i := 11) sc_law.nd rfl (by first | exact Or.inl rfl | exact Or.inr rfl))) (tok_name 11) (by decide) (fun _ _ _ _ _ => gts_nil) (fun _ _ _ _ _ => (ev_tup (ea_var 11 (ea_cons ev_int ea_nil)))))) ea_nil)))
    (ss_cons (es_if (et_cmp (op_neD hr.units) o_ne (ev_call tk (ok_width Tx) (hr.mono (by decide)) (by rfl) Tx.A_width.g Tx.A_width.F.kp Tx.A_width.b (ea_var 3 (ea_var 4 (ea_var 19 (ea_var 6 ea_nil))))) (ev_op2 or_mulA o_mulA ev_int (ev_bt call_len o_len (by rfl) Tx.m_len PySem.boot_len (ea_var 8 ea_nil))) (by rfl))
    (ss_one (es_ret ev_bl))
    ss_nil)
    (ss_cons (es_set (i := 20) sc_law.nd rfl (by first | exact Or.inl rfl | exact Or.inr rfl) (ev_bty call_tupP o_tuple (by rfl) Tx.m_tuple (by decide +kernel) (ea_cons (ev_F (ef_lc (own := [("_law_sign", 11)]) rfl sc_law.nd (ig_any (ev_F (ef_upS rfl hr.units (by rfl) Tx.m_sorted (by rfl) Tx.m_set (ev_var 6)))) (blkOk_by (N := nm_law) (sc := defScope s_law) (by decide +kernel)) (fun _ _ _ _ _ => (pg_name (i := 11) sc_law.nd rfl (by first | exact Or.inl rfl | exact Or.inr rfl))) (tok_name 11) (by decide) (fun _ _ _ _ _ => gts_nil) (fun _ _ _ _ _ => (ev_tup (ea_var 11 (ea_cons ev_int ea_nil)))))) ea_nil)))
    (ss_one (es_if (PW.pt (ew_or (et_cmp (op_neD hr.units) o_ne (ev_call tk (ok_width Tx) (hr.mono (by decide)) (by rfl) Tx.A_width.g Tx.A_width.F.kp Tx.A_width.b (ea_var 3 (ea_var 4 (ea_var 20 (ea_var 6 ea_nil))))) ev_int (by rfl)) (ew_or1 (PW.pt (ew_and (et_truth (ev_var 6)) (ew_and1 (et_cmp op_notN o_notN (ev_call tk (ok_at_column Tx) (hr.mono (by decide)) (by rfl) Tx.A_at_column.g Tx.A_at_column.F.kp Tx.A_at_column.b (ea_var 3 (ea_var 4 (ea_var 20 (ea_var 6 (ea_cons ev_int ea_nil)))))) ev_non (by rfl))))))))
    (ss_one (es_ret ev_bl))
    ss_nil))))))))))))))))
    (ss_one (es_ret ev_bl)))) law
end
end W

namespace W
open PySem PySem.Spec PyProof.Rows L2 G
theorem mulOk_l {i j : Int} (h1 : -(2 ^ 64) < i) (h2 : i < 2 ^ 64) : mulOk i j = true := mulOk_iff.mpr (.inl ⟨h1, h2⟩)
theorem town_ok {n : Nat} (h : n < 1000000) : n < sizeLine := by rw [sizeLine_eq]; omega
def Drawn (m : Int) (d : D) : Prop := ∃ z, d = .int z ∧ 0 ≤ z ∧ z < m
theorem draw_tail (ns : List Int) (m : Int) (n : Nat) (hm : 0 < m) (c : Int) : (sSeq (sSet 5 (c2 opMod (c2 opAdd (cVar 4) (c2 opMulA (cC (.int 104729)) (cVar 3))) (cC (.int 4294967291))))
    (sSeq (sSet 5 (c2 opMod (c2 opMulA (c2 opMod (c2 opMulA (cVar 5) (cVar 5)) (cC (.int 4294967279))) (cC (.int 48271))) (cC (.int 4294967291))))
    (sSeq (sSet 6 (c2 opMod (c2 opMulA (c2 opMod (c2 opMulA (cVar 5) (cVar 5)) (cC (.int 4294967279))) (cC (.int 69621))) (cC (.int 4294967291))))
    (sRet (c2 opMod (c2 opAdd (c2 opMulA (c2 opDiv (cVar 5) (cC (.int 64))) (cC (.int 67108864))) (c2 opDiv (cVar 6) (cC (.int 64)))) (cVar 2))))) 
      [some (L.scr ns), some L.town, some (L.d (PyData.int m)), some (L.d (PyData.int (↑n + 1))), some (L.d (PyData.int c)), none, none] (n + 1)).Sat no2 (fun d n' => n' = n + 1 ∧ Drawn m d) no2 no2 := by
  refine sat_seq ?_
  have b1 : mulOk 104729 (↑n + 1) = true := mulOk_l (by decide) (by decide)
  simp [x_mul, b1]
  refine sat_seq ?_
  generalize ha : (c + 104729 * (↑n + 1)) % 4294967291 = a
  have b2 : mulOk a a = true := mulOk_l (by omega) (by omega)
  have b3 : mulOk (a * a % 4294967279) 48271 = true := mulOk_l (by omega) (by omega)
  simp [x_mul, b2, b3]
  refine sat_seq ?_
  generalize hb : (a * a % 4294967279 * 48271) % 4294967291 = b
  have b4 : mulOk b b = true := mulOk_l (by omega) (by omega)
  have b5 : mulOk (b * b % 4294967279) 69621 = true := mulOk_l (by omega) (by omega)
  simp [x_mul, b4, b5]
  have b6 : mulOk (b / 64) 67108864 = true := mulOk_l (by omega) (by omega)
  simp [x_mul, b6, hm]
  exact ⟨_, rfl, Int.emod_nonneg _ (by omega), Int.emod_lt_of_pos _ hm⟩
/-- what is drawn lies below the bound -/
theorem draw_ok (ns : List Int) (m : Int) (n : Nat) (hm : 0 < m) (hn : n < 1000000) : ∃ v, Fn_law_draw [.scr ns, .town, .d (.int m)] n = .ok (.int v) (n + 1) ∧ 0 ≤ v ∧ v < m := by
  have hz := town_ok hn
  suffices h : ∃ v n', Fn_law_draw [.scr ns, .town, .d (.int m)] n = .ok v n' ∧ n' = n + 1 ∧ Drawn m v by
    obtain ⟨v, n', e, rfl, z, rfl, h⟩ := h
    exact ⟨z, e, h⟩
  refine run_ex ?_
  unfold g_law_draw
  refine sat_seq ?_
  simp only [e_sTown, List.map_cons, List.map_nil, List.length_cons, List.length_nil, List.cons_append, List.nil_append, List.getElem?_cons_succ, List.getElem?_cons_zero, hz, if_true, sat_nx]
  refine sat_seq ?_
  simp only [e_sSet, e_cLenV, List.getElem?_cons_succ, List.getElem?_cons_zero, ofR_ok]
  simp only [List.length_cons, List.length_nil, List.replicate, Nat.reduceAdd, Nat.reduceSub, Nat.reduceLT, if_true, List.set_cons_succ, List.set_cons_zero, sat_nx]
  refine sat_seq ?_
  simp
  refine sat_seq ?_
  rw [e_sIf]
  cases ns with
  | nil =>
    simp only [e_cScrT, List.getElem?_cons_zero, List.isEmpty_nil, Bool.not_true, ofR_ok, Bool.false_eq_true, if_false, e_sNx, sat_nx]
    exact draw_tail _ m n hm 0
  | cons a r =>
    have hl : 0 < (a :: r).length := by simp
    obtain ⟨c, hc⟩ : ∃ c, atI (a :: r) (((n : Int) + 1) % ((a :: r).length : Nat)) = some c := by
      have h1 := Int.emod_nonneg ((n : Int) + 1) (b := ((a :: r).length : Nat)) (by omega)
      have h2 := Int.emod_lt_of_pos ((n : Int) + 1) (show (0 : Int) < ((a :: r).length : Nat) by omega)
      obtain ⟨j, hj⟩ := Int.eq_ofNat_of_zero_le h1
      rw [hj]
      exact ⟨_, atI_nat (List.getElem?_eq_getElem (by omega))⟩
    generalize ho : a :: r = ns at *
    have he : ns.isEmpty = false := by rw [← ho]; rfl
    simp [he, hl, hc]
    exact draw_tail _ m n hm c
theorem pick_ok (ns : List Int) (xs : List D) (n : Nat) (hx : xs ≠ []) (hn : n < 1000000) : ∃ x, Fn_law_pick [.scr ns, .town, .d (.list xs)] n = .ok x (n + 1) ∧ x ∈ xs := by
  have hl : 0 < xs.length := List.length_pos_iff.mpr hx
  obtain ⟨v, e, h0, h1⟩ := draw_ok ns xs.length n (by omega) hn
  obtain ⟨k, rfl⟩ := Int.eq_ofNat_of_zero_le h0
  have hk : k < xs.length := by omega
  refine ⟨xs[k], ?_, List.getElem_mem hk⟩
  refine run_eq ?_
  unfold g_law_pick
  have e2 : atI xs (k : Int) = some xs[k] := atI_nat (List.getElem?_eq_getElem hk)
  simp [e, e2]
theorem pickT_ok (ns : List Int) (xs : List Nat) (n : Nat) (hx : xs ≠ []) (hn : n < 1000000) (hl0 : xs.length ≤ 1000) : ∃ c, Fn_law_pick [.scr ns, .town, .d (T xs)] n = .ok (T [c]) (n + 1) ∧ c ∈ xs := by
  have hl : 0 < xs.length := List.length_pos_iff.mpr hx
  obtain ⟨v, e, h0, h1⟩ := draw_ok ns xs.length n (by omega) hn
  obtain ⟨k, rfl⟩ := Int.eq_ofNat_of_zero_le h0
  have hk : k < xs.length := by omega
  refine ⟨xs[k], ?_, List.getElem_mem hk⟩
  refine run_eq ?_
  unfold g_law_pick
  have e2 : atI xs (k : Int) = some xs[k] := atI_nat (List.getElem?_eq_getElem hk)
  have z : xs.length ≤ sizeLine := size_ok (by omega)
  simp [e, e2, z]
end W

/-! texts drawn of told signs -/
namespace W
open PySem PySem.Spec PyProof.Rows L2 G
theorem signs_ok (ns : List Int) (cs0 : List Nat) (most n : Nat) (hne : cs0 ≠ []) (hl0 : cs0.length ≤ 1000) (hn : n ≤ 800000) (hmost : most ≤ 100) : ∃ l n', Fn_law_signs [.scr ns, .town, .d (.int most), .d (T cs0)] n = .ok (T l) n' ∧ n' ≤ n + 1 + most ∧ (∀ c ∈ l, c ∈ cs0) ∧ l.length ≤ most := by
  obtain ⟨v, ev, h0, h1⟩ := draw_ok ns (most + 1) n (by omega) (by omega)
  obtain ⟨k, rfl⟩ := Int.eq_ofNat_of_zero_le h0
  obtain ⟨ys, n2, e1, q1, q2, q3⟩ := lc_draw (tg := tgN 4) (te := cCall 3 Fn_law_pick (aVar 0 (aVar 1 (aVar 3 aNil)))) (ρ := [some (.scr ns), some .town, some (.d (.int most)), some (.d (T cs0)), none]) PyData.int (fun y => y ∈ cs0.map fun c => T [c]) 1 (rngL 0 k) (n + 1) (fun d hd m hm => by
    rw [rngL_len] at hm
    obtain ⟨c, ec, hc⟩ := pickT_ok ns cs0 m hne (by omega) hl0
    exact ⟨[some (.scr ns), some .town, some (.d (.int most)), some (.d (T cs0)), some (.d d)], T [c], m + 1, by simp, by simp [ec], by omega, List.mem_map.mpr ⟨c, hc, rfl⟩⟩)
  rw [rngL_len] at q1 q2
  obtain ⟨cs, rfl, hcs⟩ := all_map (fun c => T [c]) q3
  rw [List.length_map] at q2
  have lc : cLc [4] (tgN 4) (gRng fRng1 (aCons (cCall 3 Fn_law_draw (aVar 0 (aVar 1 (aCons (c2 opAdd (cVar 2) (cC (.int 1))) aNil)))) aNil)) bYes (cCall 3 Fn_law_pick (aVar 0 (aVar 1 (aVar 3 aNil)))) [some (.scr ns), some .town, some (.d (.int most)), some (.d (T cs0)), none] n = .ok (cs.map fun c => T [c]) n2 :=
    e_lcd (e_rng1 (by simp [ev]) (by omega)) (by rw [rngL_len]; omega) e1
  refine ⟨cs, n2, ?_, by omega, fun c hc => hcs c hc, by omega⟩
  have jn := join_C (l := cs) (by omega)
  refine run_to rfl ?_
  unfold g_law_signs
  exact sret (d := T cs) (n1 := n2) (by simp [lc, jn]) ⟨rfl, rfl⟩
end W

/-! texts cut by rules: what the defs answer -/
namespace W
open PySem PySem.Spec PyProof.Rows L2 G
abbrev Item := List Nat × Bool
def encI (t : Item) : D := .tuple [T t.1, T (if t.2 = true then [42] else [49])]
def encIs (l : List Item) : D := .tuple (l.map encI)
abbrev Rule := List Item × Bool × List Item
def encR (r : Rule) : D := .tuple [encIs r.1, .bool r.2.1, encIs r.2.2]
def encRs (l : List Rule) : D := .tuple (l.map encR)
def okI (t : Item) : Prop := okT t.1 = true ∧ t.1.length ≤ 100
def okR (r : Rule) : Prop := (∀ t ∈ r.1, okI t) ∧ (∀ t ∈ r.2.2, okI t) ∧ r.1.length ≤ 100 ∧ r.2.2.length ≤ 100
/-! ### is_in -/
def isIn (t : Item) (k : Nat) : Bool := t.1 == [] || decide (k ∈ t.1)
theorem x_in_1 {l : List Nat} {k : Nat} : opIn (T [k]) (T l) = some (.bool (decide (k ∈ l))) := by
  show some (PyData.bool (PySem.Txt.contains ⟨l.toArray⟩ ⟨[k].toArray⟩)) = _
  congr 2
  exact StrLaws.found_one ⟨l.toArray⟩ k
theorem isin_ok (t : Item) (k n : Nat) (h : okI t) : Fn_is_in [.d (encI t), .d (T [k])] n = .ok (.bool (isIn t k)) n := by
  refine run_eq ?_
  unfold g_is_in
  have e0 : atI [T t.1, T (if t.2 = true then [42] else [49])] 0 = some (T t.1) := rfl
  unfold isIn
  cases hb : (t.1 == []) with
  | true => simp [encI, e0, x_eq_T h.1 (b := []) rfl, hb]
  | false => simp [encI, e0, x_eq_T h.1 (b := []) rfl, hb, x_in_1]
/-! ### places_on -/
def runs (t : Item) : Nat → List Nat → List Nat
  | _, [] => []
  | at_, c :: r => if isIn t c = true then (at_ + 1) :: runs t (at_ + 1) r else []
def one (t : Item) (at_ : Nat) : List Nat → List Nat
  | [] => []
  | c :: _ => if isIn t c = true then [at_ + 1] else []
theorem runs_cons (t : Item) (a c : Nat) (r : List Nat) : runs t a (c :: r) = if isIn t c = true then (a + 1) :: runs t (a + 1) r else [] := rfl
theorem one_cons (t : Item) (a c : Nat) (r : List Nat) : one t a (c :: r) = if isIn t c = true then [a + 1] else [] := rfl
def adv (row : List Nat) (t : Item) (at_ : Nat) : List Nat := if t.2 = true then at_ :: runs t at_ (row.drop at_) else one t at_ (row.drop at_)
def upN (l : List Nat) : List Nat := (upI (l.map fun k : Nat => (k : Int))).map Int.toNat
def placesM (row : List Nat) (items : List Item) (place : Nat) : List Nat := items.foldl (fun f t => upN (f.flatMap (adv row t))) [place]
theorem runs_le (t : Item) : ∀ (r : List Nat) (a : Nat), (∀ k ∈ runs t a r, k ≤ a + r.length) ∧ (runs t a r).length ≤ r.length
  | [], a => by simp [runs]
  | c :: r, a => by
    obtain ⟨h1, h2⟩ := runs_le t r (a + 1)
    unfold runs
    split
    · refine ⟨fun k hk => ?_, by simp; omega⟩
      rcases List.mem_cons.mp hk with e | e
      · rw [e, List.length_cons]; omega
      · have := h1 k e; rw [List.length_cons]; omega
    · simp
theorem adv_le {row : List Nat} {t : Item} {a : Nat} (ha : a ≤ row.length) : (∀ k ∈ adv row t a, k ≤ row.length) ∧ (adv row t a).length ≤ row.length + 1 := by
  unfold adv
  split
  · obtain ⟨h1, h2⟩ := runs_le t (row.drop a) a
    rw [List.length_drop] at h1 h2
    refine ⟨fun k hk => ?_, by rw [List.length_cons]; omega⟩
    rcases List.mem_cons.mp hk with e | e
    · omega
    · have := h1 k e; omega
  · cases hd : row.drop a with
    | nil => simp [one]
    | cons c r =>
      have hl : a < row.length := by
        have := congrArg List.length hd
        rw [List.length_drop, List.length_cons] at this
        omega
      have e1 : one t a (c :: r) = if isIn t c = true then [a + 1] else [] := rfl
      rw [e1]
      split
      · refine ⟨fun k hk => ?_, by simp⟩
        have := List.mem_singleton.mp hk
        omega
      · simp
theorem mem_upN {k : Nat} {l : List Nat} : k ∈ upN l ↔ k ∈ l := by
  unfold upN
  rw [List.mem_map]
  constructor
  · rintro ⟨z, h1, h2⟩
    rw [mem_upI, List.mem_map] at h1
    obtain ⟨j, hj, rfl⟩ := h1
    have : j = k := by simpa using h2
    rw [← this]; exact hj
  · intro h
    exact ⟨(k : Int), (mem_upI _ _).mpr (List.mem_map.mpr ⟨k, h, rfl⟩), by simp⟩
theorem rise_len : ∀ (l : List Int) (a b : Int), (∀ k ∈ l, a ≤ k ∧ k < b) → l.Pairwise (· < ·) → (l.length : Int) ≤ max 0 (b - a)
  | [], a, b, _, _ => by simp; omega
  | x :: r, a, b, h, p => by
    obtain ⟨p1, p2⟩ := List.pairwise_cons.mp p
    have hx := h x List.mem_cons_self
    have ih := rise_len r (x + 1) b (fun k hk => ⟨by have := p1 k hk; omega, (h k (List.mem_cons_of_mem _ hk)).2⟩) p2
    rw [List.length_cons]
    omega
theorem upI_len {l : List Nat} {m : Nat} (h : ∀ k ∈ l, k ≤ m) : (upI (l.map fun k : Nat => (k : Int))).length ≤ m + 1 := by
  have := rise_len (upI (l.map fun k : Nat => (k : Int))) 0 (m + 1) (fun k hk => by
    rw [mem_upI, List.mem_map] at hk
    obtain ⟨j, hj, rfl⟩ := hk
    have := h j hj
    omega) (rise_upI _)
  omega
theorem upI_nat (l : List Nat) : upI (l.map fun k : Nat => (k : Int)) = (upN l).map fun k : Nat => (k : Int) := by
  unfold upN
  rw [List.map_map]
  have : ∀ z ∈ upI (l.map fun k : Nat => (k : Int)), ((fun k : Nat => (k : Int)) ∘ Int.toNat) z = z := fun z hz => by
    rw [mem_upI, List.mem_map] at hz
    obtain ⟨j, hj, rfl⟩ := hz
    simp
  have e2 : (upI (l.map fun k : Nat => (k : Int))).map id = (upI (l.map fun k : Nat => (k : Int))).map ((fun k : Nat => (k : Int)) ∘ Int.toNat) := List.map_congr_left fun z hz => (this z hz).symm
  rw [List.map_id] at e2
  exact e2
theorem places_le {row : List Nat} {items : List Item} {place : Nat} (hp : place ≤ row.length) : (∀ k ∈ placesM row items place, k ≤ row.length) ∧ (placesM row items place).length ≤ row.length + 1 := by
  unfold placesM
  suffices h : ∀ (f : List Nat), (∀ k ∈ f, k ≤ row.length) ∧ f.length ≤ row.length + 1 → (∀ k ∈ items.foldl (fun f t => upN (f.flatMap (adv row t))) f, k ≤ row.length) ∧ (items.foldl (fun f t => upN (f.flatMap (adv row t))) f).length ≤ row.length + 1 from
    h [place] ⟨by simpa using hp, by simp⟩
  induction items with
  | nil => exact fun f h => h
  | cons t r ih =>
    intro f h
    rw [List.foldl_cons]
    have h1 : ∀ k ∈ f.flatMap (adv row t), k ≤ row.length := fun k hk => by
      obtain ⟨a, ha, hk⟩ := List.mem_flatMap.mp hk
      exact (adv_le (h.1 a ha)).1 k hk
    refine ih _ ⟨fun k hk => h1 k (mem_upN.mp hk), ?_⟩
    have := upI_len h1
    unfold upN
    rwa [List.length_map]
theorem flat_adv_len {row : List Nat} {t : Item} : ∀ {f : List Nat}, (∀ k ∈ f, k ≤ row.length) → (f.flatMap (adv row t)).length ≤ f.length * (row.length + 1)
  | [], _ => by simp
  | a :: f, h => by
    have h1 := (adv_le (t := t) (h a List.mem_cons_self)).2
    have h2 := flat_adv_len (t := t) fun k hk => h k (List.mem_cons_of_mem _ hk)
    rw [List.flatMap_cons, List.length_append, List.length_cons, Nat.succ_mul]
    omega
def μ6 (m : Nat) (ρ : G.Env) : Nat := match ρ[6]? with
  | some (some (L.d (PyData.int k))) => m - k.toNat
  | _ => 0
theorem nl_enc (l : List Nat) : noListA (l.map encN) = true := by
  induction l with
  | nil => simp [noListA]
  | cons a r ih => simp [noListA, noList, encN, ih]
theorem encN_map (l : List Nat) : l.map encN = (l.map fun k : Nat => (k : Int)).map PyData.int := by rw [List.map_map]; rfl
theorem places_ok (row : List Nat) (items : List Item) (place n : Nat) (hr : row.length ≤ 24) (hp : place ≤ row.length) (hi : ∀ t ∈ items, okI t) (hl : items.length ≤ 1000) :
    Fn_places_on [.d (T row), .d (encIs items), .d (encN place)] n = .ok (.list ((placesM row items place).map encN)) n := by
  have zr : row.length ≤ sizeLine := size_ok (by omega)
  refine run_eq ?_
  unfold g_places_on
  refine sat_sq [some (.d (T row)), some (.d (encIs items)), some (.d (encN place)), some (.d (.list ([place].map encN))), none, none, none] n (by simp [size_ok, encN]) ?_
  refine sat_seq ?_
  simp only [e_sFor, e_gItems, e_cVar, List.getElem?_cons_succ, List.getElem?_cons_zero, Res.bind_ok, encIs, x_it_tup, Res.lift_some, ofR_ok]
  refine sat_for encI (fun pre ρ m => m = n ∧ ∃ x4 x5 x6, ρ = [some (.d (T row)), some (.d (encIs items)), some (.d (encN place)), some (.d (.list ((placesM row pre place).map encN))), x4, x5, x6]) items ⟨rfl, none, none, none, rfl⟩ ?_ ?_
  · rintro pre a post ρ m e ⟨rfl, x4, x5, x6, rfl⟩
    refine ⟨_, tgN_ok (by simp), ?_⟩
    simp only [List.set_cons_succ, List.set_cons_zero]
    have hoka : okI a := hi a (by rw [e]; simp)
    obtain ⟨f1, f2⟩ := places_le (items := pre) hp
    generalize hf : placesM row pre place = f at f1 f2 ⊢
    refine sat_sq [some (.d (T row)), some (.d (encIs items)), some (.d (encN place)), some (.d (.list (f.map encN))), some (.d (encI a)), some (.own []), x6] m (by simp [size_ok]) ?_
    refine sat_seq ?_
    simp only [e_sFor, e_gItems, e_cVar, List.getElem?_cons_succ, List.getElem?_cons_zero, Res.bind_ok, x_it_lst, Res.lift_some, ofR_ok]
    refine sat_for encN (fun pre2 ρ m' => m' = m ∧ ∃ x6, ρ = [some (.d (T row)), some (.d (encIs items)), some (.d (encN place)), some (.d (.list (f.map encN))), some (.d (encI a)), some (.own ((pre2.flatMap (adv row a)).map encN)), x6]) f ⟨rfl, x6, rfl⟩ ?_ ?_
    · rintro pre2 k post2 ρ m' e2 ⟨rfl, x6, rfl⟩
      refine ⟨_, tgN_ok (by simp), ?_⟩
      simp only [List.set_cons_succ, List.set_cons_zero]
      have hk : k ≤ row.length := f1 k (by rw [e2]; simp)
      have hpl : pre2.length + 1 ≤ f.length := by rw [e2]; simp
      have hP : (pre2.flatMap (adv row a)).length ≤ 24 * 25 := by
        have h1 := flat_adv_len (t := a) (f := pre2) (row := row) fun j hj => f1 j (by rw [e2]; simp [hj])
        have h2 : pre2.length * (row.length + 1) ≤ 24 * 25 := Nat.mul_le_mul (by omega) (by omega)
        omega
      generalize hPe : pre2.flatMap (adv row a) = Pf at hP
      have goalP : (pre2 ++ [k]).flatMap (adv row a) = Pf ++ adv row a k := by rw [List.flatMap_append, hPe]; simp
      rw [goalP]
      have hadv := (adv_le (t := a) hk).2
      have e1 : atI [T a.1, T (if a.2 = true then [42] else [49])] 1 = some (T (if a.2 = true then [42] else [49])) := rfl
      have zP : Pf.length < sizeLine := size_lt (by omega)
      have tst : ∀ (x5 : Option L) (j : Nat), j ≤ row.length → (bAnd (cB (c2 opLt (cVar 6) (cBt fLen (aVar 0 aNil)))) (cTru (cCall 2 Fn_is_in (aVar 4 (aCons (c2 opIx (cVar 0) (cVar 6)) aNil)))))
          [some (.d (T row)), some (.d (encIs items)), some (.d (encN place)), some (.d (.list (f.map encN))), some (.d (encI a)), x5, some (.d (encN j))] m' = .ok (match row.drop j with | [] => false | c :: _ => isIn a c) m' := by
        intro x5 j hj
        cases hd : row.drop j with
        | nil =>
          have hj2 : row.length ≤ j := by simpa using hd
          have hj3 : ¬ ((j : Int) < row.length) := by omega
          simp [encN, zr]
          omega
        | cons c r =>
          have hl2 : j < row.length := by
            have := congrArg List.length hd
            rw [List.length_drop, List.length_cons] at this
            omega
          have hc : row[j]? = some c := by
            have := congrArg List.head? hd
            rw [List.head?_drop] at this
            simpa using this
          have ea : atI row (j : Int) = some c := atI_nat hc
          simp [encN, zr, hl2, ea, isin_ok a c m' hoka]
      cases hs : a.2 with
      | true =>
        have eadv : adv row a k = k :: runs a k (row.drop k) := by unfold adv; rw [if_pos hs]
        refine sat_if true m' ?_ (fun _ => ?_) (fun h => by cases h)
        · have e3 : atI [T a.1, T [42]] 1 = some (T [42]) := rfl
          simp [encI, e3, hs, x_eq_T (a := [42]) (b := [42]) rfl rfl]
        refine sat_sq [some (.d (T row)), some (.d (encIs items)), some (.d (encN place)), some (.d (.list (f.map encN))), some (.d (encI a)), some (.own ((Pf ++ [k]).map encN)), some (.d (encN k))] m' (by simp [zP]) ?_
        refine sat_while (fun ρ m2 => m2 = m' ∧ ∃ j acc, j ≤ row.length ∧ acc ++ runs a j (row.drop j) = adv row a k ∧ ρ = [some (.d (T row)), some (.d (encIs items)), some (.d (encN place)), some (.d (.list (f.map encN))), some (.d (encI a)), some (.own ((Pf ++ acc).map encN)), some (.d (encN j))]) (μ6 row.length) ?_ ⟨rfl, k, [k], hk, eadv.symm, rfl⟩
        rintro ρ m2 ⟨rfl, j, acc, hj, hacc, rfl⟩
        refine ⟨_, m2, tst _ j hj, fun hb => ?_, fun hb => ?_⟩
        · have : runs a j (row.drop j) = [] := by
            cases hd : row.drop j with
            | nil => rfl
            | cons c r => rw [hd] at hb; rw [runs_cons, if_neg (by rw [show isIn a c = false from hb]; decide)]
          rw [this, List.append_nil] at hacc
          rw [hacc]
          exact ⟨rfl, _, rfl⟩
        · cases hd : row.drop j with
          | nil => rw [hd] at hb; cases hb
          | cons c r =>
            rw [hd] at hb
            have hl2 : j < row.length := by
              have := congrArg List.length hd
              rw [List.length_drop, List.length_cons] at this
              omega
            have hd2 : row.drop (j + 1) = r := by
              have := congrArg List.tail hd
              rwa [List.tail_drop] at this
            have hruns : runs a j (row.drop j) = (j + 1) :: runs a (j + 1) (row.drop (j + 1)) := by rw [hd, hd2, runs_cons, if_pos (show isIn a c = true from hb)]
            have hal : acc.length ≤ 25 := by
              have := congrArg List.length hacc
              rw [List.length_append] at this
              omega
            have zA : (Pf ++ acc).length < sizeLine := size_lt (by rw [List.length_append]; omega)
            rw [List.length_append] at zA
            refine sat_sq [some (.d (T row)), some (.d (encIs items)), some (.d (encN place)), some (.d (.list (f.map encN))), some (.d (encI a)), some (.own ((Pf ++ acc).map encN)), some (.d (encN (j + 1)))] m2 (by simp [encN]) ?_
            refine sat_to (ρ1 := [some (.d (T row)), some (.d (encIs items)), some (.d (encN place)), some (.d (.list (f.map encN))), some (.d (encI a)), some (.own ((Pf ++ (acc ++ [j + 1])).map encN)), some (.d (encN (j + 1)))]) (n1 := m2) (by simp [zA]) ?_
            refine ⟨⟨rfl, j + 1, acc ++ [j + 1], hl2, ?_, rfl⟩, ?_⟩
            · rw [← hacc, hruns, List.append_assoc]; rfl
            · show row.length - ((j + 1 : Nat) : Int).toNat < row.length - (j : Int).toNat
              omega
      | false =>
        have eadv : adv row a k = one a k (row.drop k) := by unfold adv; rw [if_neg (by simp [hs])]
        refine sat_if false m' ?_ (fun h => by cases h) (fun _ => ?_)
        · have e3 : atI [T a.1, T [49]] 1 = some (T [49]) := rfl
          simp [encI, e3, hs, x_eq_T (a := [49]) (b := [42]) rfl rfl]
        refine sat_if _ m' (tst _ k hk) (fun hb => ?_) (fun hb => ?_)
        · cases hd : row.drop k with
          | nil => rw [hd] at hb; cases hb
          | cons c r =>
            rw [hd] at hb
            have : adv row a k = [k + 1] := by rw [eadv, hd, one_cons, if_pos (show isIn a c = true from hb)]
            rw [this]
            exact sat_to (ρ1 := [some (.d (T row)), some (.d (encIs items)), some (.d (encN place)), some (.d (.list (f.map encN))), some (.d (encI a)), some (.own ((Pf ++ [k + 1]).map encN)), some (.d (encN k))]) (n1 := m') (by simp [zP, encN]) ⟨rfl, _, rfl⟩
        · have : adv row a k = [] := by
            rw [eadv]
            cases hd : row.drop k with
            | nil => rfl
            | cons c r => rw [hd] at hb; rw [one_cons, if_neg (by rw [show isIn a c = false from hb]; decide)]
          rw [this, List.append_nil]
          exact sat_to e_sNx ⟨rfl, _, rfl⟩
    · rintro ρ m' ⟨rfl, x6, rfl⟩
      have hF := flat_adv_len (t := a) f1
      have hF2 : f.length * (row.length + 1) ≤ 25 * 25 := Nat.mul_le_mul (by omega) (by omega)
      have hin : ∀ k ∈ f.flatMap (adv row a), k ≤ row.length := fun k hk => by
        obtain ⟨b, hb, hk⟩ := List.mem_flatMap.mp hk
        exact (adv_le (f1 b hb)).1 k hk
      have hU := upI_len hin
      have step : placesM row (pre ++ [a]) place = upN (f.flatMap (adv row a)) := by rw [← hf]; unfold placesM; simp
      have cond : ((f.flatMap (adv row a)).map fun k : Nat => (k : Int)).length ≤ 1000 ∧ (upI ((f.flatMap (adv row a)).map fun k : Nat => (k : Int))).length < 64 := ⟨by rw [List.length_map]; omega, by omega⟩
      refine sat_to (ρ1 := [some (.d (T row)), some (.d (encIs items)), some (.d (encN place)), some (.d (.list ((placesM row (pre ++ [a]) place).map encN))), some (.d (encI a)), some (.own ((f.flatMap (adv row a)).map encN)), x6]) (n1 := m') ?_ ⟨rfl, _, _, _, rfl⟩
      rw [step]
      have eu : fUp (.list ((f.flatMap (adv row a)).map encN)) = some ((upN (f.flatMap (adv row a))).map encN) := by
        rw [encN_map, x_up, if_pos cond, upI_nat, ← encN_map]
      have nl := nl_enc (upN (f.flatMap (adv row a)))
      simp only [e_sSet, e_cF, e_borrowF, e_bor, List.getElem?_cons_succ, List.getElem?_cons_zero, e_cUp, e_cVar, List.set_cons_succ, List.set_cons_zero, Res.bind_ok, eu, Res.lift_some, nl, if_true, ofR_ok]
      simp
  · rintro ρ m ⟨rfl, x4, x5, x6, rfl⟩
    simp
end W

namespace W
open PySem PySem.Spec PyProof.Rows L2 G
/-! lists of counts compared -/
theorem layAll_N (l : List Nat) : PyData.canLayAll0 (l.map encN) = true := by
  induction l with
  | nil => simp [PyData.canLayAll0]
  | cons a r ih => simp [PyData.canLayAll0, PyData.canLay0, encN, ih]
theorem depthAll_N (l : List Nat) : PyData.depthAll (l.map encN) = 0 := by
  induction l with
  | nil => simp [PyData.depthAll]
  | cons a r ih => simp [PyData.depthAll, PyData.depth, encN, ih]
theorem shaped_lN (l : List Nat) : SeqAt.shaped (.list (l.map encN)) = true := by
  unfold SeqAt.shaped
  simp [PyData.canLay0, PyData.depth, layAll_N, depthAll_N]
theorem shaped_tN (l : List Nat) : SeqAt.shaped (.tuple (l.map encN)) = true := by
  unfold SeqAt.shaped
  simp [PyData.canLay0, PyData.depth, layAll_N, depthAll_N]
theorem eqvAll_N : ∀ (a b : List Nat), PyData.eqvAll (a.map encN) (b.map encN) = (a == b)
  | [], [] => by simp [PyData.eqvAll]
  | [], _ :: _ => by simp [PyData.eqvAll]
  | _ :: _, [] => by simp [PyData.eqvAll]
  | x :: xs, y :: ys => by
    simp only [List.map_cons, PyData.eqvAll, eqvAll_N xs ys]
    rw [Bool.eq_iff_iff]
    simp [encN, PyData.eqv]
    omega
theorem x_ne_lN {a b : List Nat} : opNe (.list (a.map encN)) (.list (b.map encN)) = some (.bool (!(a == b))) := by
  unfold opNe
  rw [if_pos ⟨shaped_lN a, shaped_lN b⟩]
  simp only [PyData.eqv, eqvAll_N]
theorem x_ne_tN {a b : List Nat} : opNe (.tuple (a.map encN)) (.tuple (b.map encN)) = some (.bool (!(a == b))) := by
  unfold opNe
  rw [if_pos ⟨shaped_tN a, shaped_tN b⟩]
  simp only [PyData.eqv, eqvAll_N]
/-! ### leads_on, leads_back -/
def leadsO (row : List Nat) (items : List Item) (place : Nat) : Bool := !(placesM row items place == [])
def leadsB (row : List Nat) (items : List Item) (place : Nat) : Bool := !(placesM (row.take place).reverse items.reverse 0 == [])
theorem leadsO_ok (row : List Nat) (items : List Item) (place n : Nat) (hr : row.length ≤ 24) (hp : place ≤ row.length) (hi : ∀ t ∈ items, okI t) (hl : items.length ≤ 1000) :
    Fn_leads_on [.d (T row), .d (encIs items), .d (encN place)] n = .ok (.bool (leadsO row items place)) n := by
  refine run_eq ?_
  unfold g_leads_on
  have h := places_ok row items place n hr hp hi hl
  have e := x_ne_lN (a := placesM row items place) (b := [])
  rw [List.map_nil] at e
  simp [h, e, size_ok, leadsO]
theorem leadsB_ok (row : List Nat) (items : List Item) (place n : Nat) (hr : row.length ≤ 24) (hp : place ≤ row.length) (hi : ∀ t ∈ items, okI t) (hl : items.length ≤ 1000) :
    Fn_leads_back [.d (T row), .d (encIs items), .d (encN place)] n = .ok (.bool (leadsB row items place)) n := by
  refine run_eq ?_
  unfold g_leads_back
  have h := places_ok (row.take place).reverse items.reverse 0 n (by rw [List.length_reverse, List.length_take]; omega) (Nat.zero_le _) (fun t ht => hi t (List.mem_reverse.mp ht)) (by rw [List.length_reverse]; exact hl)
  have e := x_ne_lN (a := placesM (row.take place).reverse items.reverse 0) (b := [])
  rw [List.map_nil] at e
  have z1 : row.length ≤ sizeLine := size_ok (by omega)
  have z2 : min place row.length ≤ sizeLine := size_ok (by omega)
  have e1 : encIs items.reverse = .tuple (items.map encI).reverse := by unfold encIs; rw [List.map_reverse]
  rw [e1] at h
  simp only [e_sRet, e_c2, e_cCall, e_aCons, e_c1, e_cSl, e_cVar, e_gNoPart, e_gPart, e_cC, e_aNil, List.getElem?_cons_succ, List.getElem?_cons_zero, Res.bind_ok, encN, x_part, Res.lift_some, x_sl_T, z1, if_true, cutL_take, x_rev_T, encIs, x_rev_tup, List.length_take, z2]
  have h' : Fn_places_on [.d (T (row.take place).reverse), .d (.tuple (items.map encI).reverse), .d (.int 0)] n = .ok (.list ((placesM (row.take place).reverse items.reverse 0).map encN)) n := h
  simp [h', e, size_ok, leadsB, z1, z2, cutL_take]
/-! ### rule_at -/
def fits (row : List Nat) (r : Rule) (place : Nat) : Bool := leadsB row r.1 place && leadsO row r.2.2 place
def ruleFrom (row : List Nat) (place : Nat) : Nat → List Rule → Option Nat
  | _, [] => none
  | i, r :: rs => if fits row r place = true then some i else ruleFrom row place (i + 1) rs
def ruleAt (row : List Nat) (rules : List Rule) (place : Nat) : Option Nat := ruleFrom row place 0 rules
theorem ruleFrom_cons (row : List Nat) (place i : Nat) (r : Rule) (rs : List Rule) : ruleFrom row place i (r :: rs) = if fits row r place = true then some i else ruleFrom row place (i + 1) rs := rfl
theorem ruleFrom_app (row : List Nat) (place : Nat) (b : List Rule) : ∀ (a : List Rule) (i : Nat), ruleFrom row place i (a ++ b) = (ruleFrom row place i a).or (ruleFrom row place (i + a.length) b)
  | [], i => by simp [ruleFrom]
  | r :: a, i => by
    rw [List.cons_append, ruleFrom_cons, ruleFrom_cons]
    split
    · rfl
    · rw [ruleFrom_app row place b a (i + 1), List.length_cons, show i + 1 + a.length = i + (a.length + 1) by omega]
theorem enum_zip (f : Rule → D) : ∀ (l : List Rule) (k : Nat), enumFrom0 k (l.map f) = (l.zipIdx k).map fun p => .tuple [encN p.2, f p.1]
  | [], _ => rfl
  | a :: r, k => by
    rw [List.map_cons, List.zipIdx_cons, List.map_cons, ← enum_zip f r (k + 1)]
    rfl
theorem rule_ok (row : List Nat) (rules : List Rule) (place n : Nat) (hr : row.length ≤ 24) (hp : place ≤ row.length) (hi : ∀ r ∈ rules, okR r) :
    Fn_rule_at [.d (T row), .d (encRs rules), .d (encN place)] n = .ok (encO (ruleAt row rules place)) n := by
  refine run_eq ?_
  unfold g_rule_at
  refine sat_seq ?_
  simp only [e_sFor, e_gEnum, e_aVar, e_aNil, List.getElem?_cons_succ, List.getElem?_cons_zero, List.map_cons, List.map_nil, List.cons_append, Res.bind_ok, e_asDs, e_dsCons, e_dsNil, Option.map_some, Res.lift_some, encRs, x_enum_t, ofR_ok, enum_zip]
  refine sat_for (fun p : Rule × Nat => (PyData.tuple [encN p.2, encR p.1] : D)) (fun pre ρ m => m = n ∧ ruleFrom row place 0 (pre.map (·.1)) = none ∧ ∃ x3 x4 x5 x6, ρ = [some (.d (T row)), some (.d (encRs rules)), some (.d (encN place)), x3, x4, x5, x6]) rules.zipIdx ⟨rfl, rfl, none, none, none, none, rfl⟩ ?_ ?_
  · rintro pre ⟨r, i⟩ post ρ m e ⟨rfl, hn, x3, x4, x5, x6, rfl⟩
    have hi0 : i = pre.length ∧ r ∈ rules := by
      have h1 : rules.zipIdx[pre.length]? = some (r, i) := by rw [e]; simp
      rw [List.getElem?_zipIdx] at h1
      cases hq : rules[pre.length]? with
      | none => rw [hq] at h1; cases h1
      | some q =>
        rw [hq] at h1
        have : (q, pre.length + 0) = (r, i) := by simpa [Nat.add_comm] using h1
        cases this
        exact ⟨rfl, List.mem_of_getElem? hq⟩
    obtain ⟨rfl, hmem⟩ := hi0
    obtain ⟨o1, o2, o3, o4⟩ := hi r hmem
    have hrules : rules = pre.map (·.1) ++ r :: post.map (·.1) := by
      have := congrArg (List.map (·.1)) e
      rw [List.zipIdx_map_fst] at this
      simpa using this
    refine ⟨[some (.d (T row)), some (.d (encRs rules)), some (.d (encN place)), some (.d (encN pre.length)), some (.d (encIs r.1)), some (.d (.bool r.2.1)), some (.d (encIs r.2.2))], by simp [encR], ?_⟩
    have b1 := leadsB_ok row r.1 place m hr hp o1 (by omega)
    have b2 := leadsO_ok row r.2.2 place m hr hp o2 (by omega)
    refine sat_if (fits row r place) m ?_ (fun h => ?_) (fun h => ?_)
    · unfold fits
      cases hb : leadsB row r.1 place with
      | true => rw [hb] at b1; simp [b1, b2]
      | false => rw [hb] at b1; simp [b1]
    · refine Out.Sat.rt (n := m) ?_
      refine ⟨?_, rfl⟩
      have : ruleAt row rules place = some pre.length := by
        unfold ruleAt
        rw [hrules, ruleFrom_app, hn, ruleFrom_cons, if_pos h]
        simp
      rw [this]
      rfl
    · refine sat_to e_sNx ⟨rfl, ?_, _, _, _, _, rfl⟩
      rw [List.map_append, ruleFrom_app, hn]
      show (none : Option Nat).or (ruleFrom row place _ [r]) = none
      rw [ruleFrom_cons, if_neg (by simp [h])]
      rfl
  · rintro ρ m ⟨rfl, hn, x3, x4, x5, x6, rfl⟩
    have : ruleAt row rules place = none := by
      rw [List.zipIdx_map_fst] at hn
      exact hn
    rw [this]
    simp [encO]
end W

namespace W
open PySem PySem.Spec PyProof.Rows L2 G
/-! ### is_cut_at -/
def isCut (row : List Nat) (rules : List Rule) (place : Nat) : Bool :=
  if place = 0 ∨ place = row.length then decide (0 < row.length) else match ruleAt row rules place with
    | none => true
    | some i => match rules[i]? with
      | some r => r.2.1
      | none => true
theorem ruleFrom_lt (row : List Nat) (place : Nat) : ∀ (rs : List Rule) (i k : Nat), ruleFrom row place i rs = some k → i ≤ k ∧ k < i + rs.length
  | [], i, k, h => by cases h
  | r :: rs, i, k, h => by
    rw [ruleFrom_cons] at h
    split at h
    · cases h; simp
    · have := ruleFrom_lt row place rs (i + 1) k h
      rw [List.length_cons]
      omega
theorem isN_n : isNoneD .none = true := rfl
theorem isN_i (i : Int) : isNoneD (.int i) = false := rfl
theorem iscut_ok (row : List Nat) (rules : List Rule) (place n : Nat) (hr : row.length ≤ 24) (hp : place ≤ row.length) (hi : ∀ r ∈ rules, okR r) :
    Fn_is_cut_at [.d (T row), .d (encRs rules), .d (encN place)] n = .ok (.bool (isCut row rules place)) n := by
  have zr : row.length ≤ sizeLine := size_ok (by omega)
  have ein : opIn (encN place) (.tuple [.int 0, .int row.length]) = some (.bool (decide (place = 0 ∨ place = row.length))) := by
    show (if flatD (.int (place : Int)) = true ∧ [PyData.int 0, PyData.int row.length].all flatD = true then some (PyData.bool ([PyData.int 0, PyData.int row.length].any fun z => PyData.eqv z (.int (place : Int)))) else none) = _
    rw [if_pos ⟨rfl, rfl⟩]
    congr 2
    rw [Bool.eq_iff_iff]
    simp [PyData.eqv]
    omega
  refine run_eq ?_
  unfold g_is_cut_at
  refine sat_seq ?_
  refine sat_if (decide (place = 0 ∨ place = row.length)) n (by simp [zr, size_ok, ein]) (fun h => ?_) (fun h => ?_)
  · have h' : place = 0 ∨ place = row.length := by simpa using h
    have hc : isCut row rules place = decide (0 < row.length) := by unfold isCut; rw [if_pos h']
    rw [hc]
    simp [zr]
  · have h' : ¬ (place = 0 ∨ place = row.length) := by simpa using h
    refine sat_to e_sNx ?_
    have hrule := rule_ok row rules place n hr hp hi
    refine sat_sq [some (.d (T row)), some (.d (encRs rules)), some (.d (encN place)), some (.d (encO (ruleAt row rules place)))] n (by simp [hrule]) ?_
    cases hq : ruleAt row rules place with
    | none =>
      have hc : isCut row rules place = true := by unfold isCut; rw [if_neg h', hq]
      rw [hc]
      simp [encO, opIsN, isN_n]
    | some i =>
      obtain ⟨_, hlt⟩ := ruleFrom_lt row place rules 0 i hq
      rw [Nat.zero_add] at hlt
      have hc : isCut row rules place = rules[i].2.1 := by
        unfold isCut
        rw [if_neg h', hq]
        simp only [List.getElem?_eq_getElem hlt]
      have e1 : atI (rules.map encR) (i : Int) = some (encR rules[i]) := atI_nat (by rw [List.getElem?_map, List.getElem?_eq_getElem hlt]; rfl)
      have e2 : atI [encIs rules[i].1, .bool rules[i].2.1, encIs rules[i].2.2] 1 = some (.bool rules[i].2.1) := rfl
      rw [hc]
      simp [encO, encN, opIsN, isN_n, isN_i, encRs, e1, encR, e2]
/-! ### kinds_of -/
def encK (p : Nat × Nat) : D := .tuple [T [p.1], T [p.2]]
def encKs (ks : List (Nat × Nat)) : D := .tuple (ks.map encK)
def keyN (c : Nat) : Key := .inr ⟨[c].toArray⟩
def pairK (p : Nat × Nat) : Key × D := (keyN p.1, T [p.2])
def table (ks : List (Nat × Nat)) : List (Key × D) := mergeD [] (ks.map pairK)
theorem pairs_K (ks : List (Nat × Nat)) : pairsD (ks.map encK) = some (ks.map pairK) := by
  induction ks with
  | nil => rfl
  | cons p r ih =>
    rw [List.map_cons, List.map_cons]
    show (keyD (T [p.1])).bind (fun k => (pairsD (r.map encK)).map ((k, T [p.2]) :: ·)) = _
    rw [ih]
    rfl
theorem dic_K (ks : List (Nat × Nat)) : fDic (encKs ks) = some (table ks) := by
  unfold fDic encKs
  simp only [pairs_K]
  rfl
theorem mem_putD {kvs : List (Key × D)} {k : Key} {v : D} {p : Key × D} (h : p ∈ putD kvs k v) : p ∈ kvs ∨ p.2 = v := by
  unfold putD at h
  split at h
  · obtain ⟨q, hq, rfl⟩ := List.mem_map.mp h
    split
    · exact .inr rfl
    · exact .inl hq
  · rcases List.mem_append.mp h with h | h
    · exact .inl h
    · rw [List.mem_singleton.mp h]; exact .inr rfl
theorem mem_mergeD : ∀ (more kvs : List (Key × D)) {p : Key × D}, p ∈ mergeD kvs more → p ∈ kvs ∨ ∃ q ∈ more, p.2 = q.2
  | [], kvs, p, h => .inl h
  | m :: more, kvs, p, h => by
    rcases mem_mergeD more (putD kvs m.1 m.2) h with h | ⟨q, h1, h2⟩
    · rcases mem_putD h with h | h
      · exact .inl h
      · exact .inr ⟨m, List.mem_cons_self, h⟩
    · exact .inr ⟨q, List.mem_cons_of_mem _ h1, h2⟩
theorem look_mem {kvs : List (Key × D)} {k : Key} {d : D} (h : lookD kvs k = some d) : ∃ p ∈ kvs, p.2 = d := by
  unfold lookD at h
  cases hq : kvs.find? fun kv => decide (kv.1 = k) with
  | none => rw [hq] at h; cases h
  | some p =>
    rw [hq] at h
    exact ⟨p, List.mem_of_find?_eq_some hq, Option.some.inj h⟩
theorem kd_ex (ks : List (Nat × Nat)) (c : Nat) : ∃ k, (lookD (table ks) (keyN c)).getD (T [79]) = T [k] ∧ (k = 79 ∨ k ∈ ks.map (·.2)) := by
  cases h : lookD (table ks) (keyN c) with
  | none => exact ⟨79, rfl, .inl rfl⟩
  | some d =>
    obtain ⟨p, hp, rfl⟩ := look_mem h
    rcases mem_mergeD _ _ hp with z | ⟨q, hq, e⟩
    · cases z
    · obtain ⟨r, hr, rfl⟩ := List.mem_map.mp hq
      exact ⟨r.2, e, .inr (List.mem_map.mpr ⟨r, hr, rfl⟩)⟩
noncomputable def kd (ks : List (Nat × Nat)) (c : Nat) : Nat := (kd_ex ks c).choose
theorem kd_is (ks : List (Nat × Nat)) (c : Nat) : (lookD (table ks) (keyN c)).getD (T [79]) = T [kd ks c] := (kd_ex ks c).choose_spec.1
theorem kd_in (ks : List (Nat × Nat)) (c : Nat) : kd ks c = 79 ∨ kd ks c ∈ ks.map (·.2) := (kd_ex ks c).choose_spec.2
noncomputable def rowM (ks : List (Nat × Nat)) (text : List Nat) : List Nat := text.map (kd ks)
theorem rowM_len (ks : List (Nat × Nat)) (text : List Nat) : (rowM ks text).length = text.length := List.length_map _
theorem kinds_ok (ks : List (Nat × Nat)) (text : List Nat) (n : Nat) (hl : text.length ≤ 100000) : Fn_kinds_of [.d (encKs ks), .d (T text)] n = .ok (T (rowM ks text)) n := by
  refine run_eq ?_
  unfold g_kinds_of
  refine sat_sq [some (.d (encKs ks)), some (.d (T text)), some (.dic (table ks)), none] n (by simp [dic_K]) ?_
  have lc : cLc [3] (tgN 3) (gItems (cVar 1)) bYes (cDGet 2 (cVar 3) (cC (T [79]))) [some (.d (encKs ks)), some (.d (T text)), some (.dic (table ks)), none] n = .ok (text.map fun c => T [kd ks c]) n :=
    e_lcm (fun c => T [c]) _ text rfl (by omega) fun c hc => ⟨[some (.d (encKs ks)), some (.d (T text)), some (.dic (table ks)), some (.d (T [c]))], rfl, by
      have := kd_is ks c
      unfold keyN at this
      simp [this]⟩
  have e1 : (text.map fun c => T [kd ks c]) = (text.map fun c => [kd ks c]).map T := by rw [List.map_map]; rfl
  rw [e1] at lc
  have j : mJoin (T []) (.list ((text.map fun c => [kd ks c]).map T)) = some (T (rowM ks text)) := by
    rw [x_join_l (by rw [sum_flat, ones_flat, List.length_map]; omega), ones_flat]
    rfl
  simp only [e_sRet, e_cM1, e_cC, Res.bind_ok, onT_T, e_cF, lc, j, Res.lift_some, ofR_ok]
  exact .rt ⟨rfl, rfl⟩
/-! ### cuts, why -/
def cutsM (row : List Nat) (rules : List Rule) : List Nat := (List.range (row.length + 1)).filter (isCut row rules)
theorem cuts_ok (ks : List (Nat × Nat)) (rules : List Rule) (text : List Nat) (n : Nat) (hr : text.length ≤ 24) (hi : ∀ r ∈ rules, okR r) :
    Fn_cuts [.d (encKs ks), .d (encRs rules), .d (T text)] n = .ok (.tuple ((cutsM (rowM ks text) rules).map encN)) n := by
  have zr : text.length ≤ sizeLine := size_ok (by omega)
  have hk := kinds_ok ks text n (by omega)
  have hrl := rowM_len ks text
  generalize hrow : rowM ks text = row at hk hrl ⊢
  refine run_eq ?_
  unfold g_cuts
  refine sat_sq [some (.d (encKs ks)), some (.d (encRs rules)), some (.d (T text)), some (.d (T row)), none] n (by simp [hk]) ?_
  have lc : cLc [4] (tgN 4) (gRng fRng1 (aCons (c2 opAdd (cBt fLen (aVar 2 aNil)) (cC (.int 1))) aNil)) (cTru (cCall 3 Fn_is_cut_at (aVar 3 (aVar 1 (aVar 4 aNil))))) (cVar 4) [some (.d (encKs ks)), some (.d (encRs rules)), some (.d (T text)), some (.d (T row)), none] n
      = .ok (((List.range (row.length + 1)).filter (isCut row rules)).map encN) n := by
    refine e_lcf (fun i : Nat => PyData.int (0 + (i : Int))) _ _ (List.range (row.length + 1)) ?_ (by rw [List.length_range]; omega) fun i hi2 => ?_
    · exact e_rng1 (k := row.length + 1) (by simp [zr, hrl]) (by omega)
    · have hi3 : i < row.length + 1 := List.mem_range.mp hi2
      have e0 : (0 : Int) + (i : Int) = (i : Int) := by omega
      have hc := iscut_ok row rules i n (by omega) (by omega) hi
      refine ⟨[some (.d (encKs ks)), some (.d (encRs rules)), some (.d (T text)), some (.d (T row)), some (.d (encN i))], ?_, ?_, fun _ => ?_⟩
      · rw [e0]; rfl
      · simp [hc]
      · simp
  simp only [e_sRet, e_cBt, e_aCons, e_cF, lc, e_aNil, Res.bind_ok, e_asDs, e_dsCons, e_dsNil, Res.lift_some, Option.map_some, x_tup_lst, ofR_ok]
  exact .rt ⟨rfl, rfl⟩
end W

namespace W
open PySem PySem.Spec PyProof.Rows L2 G
def signsK : List Nat := [10, 32, 33, 39, 45, 46, 94, 97, 65, 98, 99, 120, 95, 126]
def lettersK : List Nat := [65, 66, 67, 77, 79, 90]
theorem okT1 {c : Nat} (h : c < 0x110000) : okT [c] = true := by simpa [okT] using h
theorem letters_lt {c : Nat} (h : c ∈ lettersK) : c < 128 := by
  have : ∀ c ∈ lettersK, c < 128 := by decide
  exact this c h
def okKs (ks : List (Nat × Nat)) : Prop := ∀ p ∈ ks, p.1 < 128 ∧ p.2 ∈ lettersK
theorem alike_K (p q : Nat × Nat) : PySem.W.alike (encK p) (encK q) = true := by simp [encK, T, PySem.W.alike, PySem.W.alikeAll]
theorem sort_K (ks : List (Nat × Nat)) : ∃ ks' : List (Nat × Nat), fSort [.tuple (ks.map encK)] = some (ks'.map encK) ∧ ks'.length = ks.length ∧ ∀ p ∈ ks', p ∈ ks := by
  have hs : sortOk (ks.map encK) := ⟨PySem.W.AllAlike.of fun a b => alike_K a b, PySem.W.Sortable.tuples fun b => ⟨_, _, rfl⟩, fun d hd => by
    obtain ⟨p, _, rfl⟩ := List.mem_map.mp hd
    simp [encK, T, PyData.depth, PyData.depthAll]⟩
  have pm := List.mergeSort_perm (ks.map encK) (PySem.W.dataLe false id)
  obtain ⟨ks', e, h⟩ := all_map encK (ds := (ks.map encK).mergeSort (PySem.W.dataLe false id)) (l := ks) fun d hd => pm.mem_iff.mp hd
  refine ⟨ks', by rw [x_sort_t hs, e], ?_, h⟩
  have := pm.length_eq
  rw [e, List.length_map, List.length_map] at this
  exact this
theorem lkinds_ok (ns : List Int) (n : Nat) (hn : n ≤ 900000) : ∃ ks n', Fn_law_kinds [.scr ns, .town] n = .ok (encKs ks) n' ∧ n' ≤ n + 28 ∧ okKs ks ∧ ks.length ≤ 14 := by
  suffices h : ∃ v n', Fn_law_kinds [.scr ns, .town] n = .ok v n' ∧ n' ≤ n + 28 ∧ ∃ ks, v = encKs ks ∧ okKs ks ∧ ks.length ≤ 14 by
    obtain ⟨v, n', e, h1, ks, rfl, h2, h3⟩ := h
    exact ⟨ks, n', e, h1, h2, h3⟩
  refine run_ex ?_
  unfold g_law_kinds
  refine sat_sq [some (.scr ns), some .town, some (.d (.tuple [])), none] n (by simp [size_ok]) ?_
  refine sat_seq ?_
  simp only [e_sFor, e_gItems, e_cC, Res.bind_ok, x_it_T, Res.lift_some, ofR_ok]
  refine sat_for (fun c => T [c]) (fun pre ρ m => m ≤ n + 2 * pre.length ∧ ∃ ks x3, okKs ks ∧ ks.length ≤ pre.length ∧ ρ = [some (.scr ns), some .town, some (.d (.tuple (ks.map encK))), x3]) signsK ⟨by simp, [], none, fun p hp => (by cases hp), by simp, rfl⟩ ?_ ?_
  · rintro pre a post ρ m e ⟨hm, ks, x3, hks, hlk, rfl⟩
    refine ⟨_, tgN_ok (by simp), ?_⟩
    simp only [List.set_cons_succ, List.set_cons_zero]
    have hlen : pre.length + 1 ≤ 14 := by
      have := congrArg List.length e
      rw [List.length_append, List.length_cons] at this
      have h14 : signsK.length = 14 := rfl
      omega
    have ha : a < 128 := by
      have h1 : ∀ c ∈ signsK, c < 128 := by decide
      exact h1 a (by rw [e]; simp)
    obtain ⟨v, ev, h0, h1⟩ := draw_ok ns 4 m (by omega) (by omega)
    refine sat_if (decide (0 < v)) (m + 1) (by simp [ev]) (fun _ => ?_) (fun _ => ?_)
    · obtain ⟨c, ec, hc⟩ := pickT_ok ns lettersK (m + 1) (by decide) (by omega) (by decide)
      have ec' : Fn_law_pick [.scr ns, .town, .d (T [65, 66, 67, 77, 79, 90])] (m + 1) = .ok (T [c]) (m + 1 + 1) := ec
      have z : ks.length + 1 ≤ sizeLine := size_ok (by omega)
      refine sat_to (ρ1 := [some (.scr ns), some .town, some (.d (.tuple ((ks ++ [(a, c)]).map encK))), some (.d (T [a]))]) (n1 := m + 2) (by simp [ec', size_ok, z, encK]) ?_
      refine ⟨by rw [List.length_append]; simp; omega, ks ++ [(a, c)], _, fun p hp => ?_, by simp; omega, rfl⟩
      rcases List.mem_append.mp hp with q | q
      · exact hks p q
      · rw [List.mem_singleton.mp q]; exact ⟨ha, hc⟩
    · exact sat_to e_sNx ⟨by rw [List.length_append]; simp; omega, ks, _, hks, by simp; omega, rfl⟩
  · rintro ρ m ⟨hm, ks, x3, hks, hlk, rfl⟩
    obtain ⟨ks', e1, h1, h2⟩ := sort_K ks
    have h14 : signsK.length = 14 := rfl
    simp only [e_sRet, e_cBt, e_aCons, e_cF, e_cBtF, e_aVar, e_aNil, List.getElem?_cons_succ, List.getElem?_cons_zero, Res.bind_ok, e_asDs, e_dsCons, e_dsNil, Option.map_some, Res.lift_some, x_sortA_t, e1, x_tup_lst, ofR_ok]
    refine .rt ⟨by omega, ks', rfl, fun p hp => hks p (h2 p hp), by omega⟩
end W

namespace W
open PySem PySem.Spec PyProof.Rows L2 G
/-- rules as drawn: their kinds are letters -/
def ltI (t : Item) : Prop := (∀ c ∈ t.1, c ∈ lettersK) ∧ t.1.length ≤ 6
def ltR (r : Rule) : Prop := (∀ t ∈ r.1, ltI t) ∧ (∀ t ∈ r.2.2, ltI t) ∧ r.1.length ≤ 3 ∧ r.2.2.length ≤ 3
theorem ltI_ok {t : Item} (h : ltI t) : okI t := by
  refine ⟨?_, Nat.le_trans h.2 (by omega)⟩
  unfold okT
  rw [List.all_eq_true]
  intro c hc
  have := letters_lt (h.1 c hc)
  simp
  omega
theorem ltR_ok {r : Rule} (h : ltR r) : okR r := ⟨fun t ht => ltI_ok (h.1 t ht), fun t ht => ltI_ok (h.2.1 t ht), Nat.le_trans h.2.2.1 (by omega), Nat.le_trans h.2.2.2 (by omega)⟩
theorem litems_ok (ns : List Int) (n : Nat) (hn : n ≤ 900000) : ∃ its n', Fn_law_items [.scr ns, .town] n = .ok (encIs its) n' ∧ n' ≤ n + 22 ∧ (∀ t ∈ its, ltI t) ∧ its.length ≤ 3 := by
  suffices h : ∃ v n', Fn_law_items [.scr ns, .town] n = .ok v n' ∧ n' ≤ n + 22 ∧ ∃ its, v = encIs its ∧ (∀ t ∈ its, ltI t) ∧ its.length ≤ 3 by
    obtain ⟨v, n', e, h1, ks, rfl, h2, h3⟩ := h
    exact ⟨ks, n', e, h1, h2, h3⟩
  refine run_ex ?_
  unfold g_law_items
  refine sat_sq [some (.scr ns), some .town, some (.d (.tuple [])), none, none, none] n (by simp [size_ok]) ?_
  refine sat_seq ?_
  obtain ⟨x, ex, hx⟩ := pick_ok ns [.int 0, .int 1, .int 1, .int 2, .int 3] n (by simp) (by omega)
  have hx' : ∃ k : Nat, x = .int k ∧ k ≤ 3 := by
    simp at hx
    rcases hx with rfl | rfl | rfl | rfl
    · exact ⟨0, rfl, by omega⟩
    · exact ⟨1, rfl, by omega⟩
    · exact ⟨2, rfl, by omega⟩
    · exact ⟨3, rfl, by omega⟩
  obtain ⟨k, rfl, hk⟩ := hx'
  have er : gRng fRng1 (aCons (cCall 3 Fn_law_pick (aVar 0 (aVar 1 (aCons (cF (cLst (aCons (cC (.int 0)) (aCons (cC (.int 1)) (aCons (cC (.int 1)) (aCons (cC (.int 2)) (aCons (cC (.int 3)) aNil))))))) aNil)))) aNil) [some (.scr ns), some .town, some (.d (.tuple [])), none, none, none] n = .ok (rngL 0 k) (n + 1) :=
    e_rng1 (by simp [ex, size_ok]) (by omega)
  simp only [e_sFor, er, ofR_ok]
  refine sat_rng (fun j ρ m => m ≤ n + 1 + 7 * j ∧ ∃ its x3 x4, (∀ t ∈ its, ltI t) ∧ its.length ≤ j ∧ ρ = [some (.scr ns), some .town, some (.d (.tuple (its.map encI))), x3, x4, none]) 0 k ⟨by omega, [], none, none, by simp, by simp, rfl⟩ ?_ ?_
  · rintro j ρ m hj ⟨hm, its, x3, x4, h1, h2, rfl⟩
    refine ⟨_, tgN_ok (by simp), ?_⟩
    simp only [List.set_cons_succ, List.set_cons_zero]
    generalize some (L.d (PyData.int (0 + (j : Int)))) = y3
    have hl6 : lettersK.length = 6 := rfl
    obtain ⟨ys, m1, e1, q1, q2, q3⟩ := lc_fdraw (tg := tgN 5) (tt := cB (c2 opEq (cCall 3 Fn_law_draw (aVar 0 (aVar 1 (aCons (cC (.int 3)) aNil)))) (cC (.int 0)))) (te := cVar 5)
      (ρ := [some (.scr ns), some .town, some (.d (.tuple (its.map encI))), y3, x4, none]) 1 (fun y => y ∈ lettersK.map fun c => T [c]) (lettersK.map fun c => T [c]) m (fun d hd m2 hm2 => by
        rw [List.length_map] at hm2
        obtain ⟨v, ev, _, _⟩ := draw_ok ns 3 m2 (by omega) (by omega)
        exact ⟨[some (.scr ns), some .town, some (.d (.tuple (its.map encI))), y3, x4, some (.d d)], v == 0, m2 + 1, by simp, by simp [ev], by omega, fun _ => ⟨d, by simp, hd⟩⟩)
    obtain ⟨cs, rfl, hcs⟩ := all_map (fun c => T [c]) q3
    rw [List.length_map, List.length_map] at q2
    rw [List.length_map] at q1
    have lc : cLc [5] (tgN 5) (gItems (cC (T [65, 66, 67, 77, 79, 90]))) (cB (c2 opEq (cCall 3 Fn_law_draw (aVar 0 (aVar 1 (aCons (cC (.int 3)) aNil)))) (cC (.int 0)))) (cVar 5) [some (.scr ns), some .town, some (.d (.tuple (its.map encI))), y3, x4, none] m = .ok (cs.map fun c => T [c]) m1 :=
      e_lcd (ds := lettersK.map fun c => T [c]) rfl (by decide) e1
    have e2 : (cs.map fun c => T [c]) = (cs.map fun c => [c]).map T := by rw [List.map_map]; rfl
    rw [e2] at lc
    have fl : (cs.map fun c => [c]).flatten = cs := by
      have := ones_flat id cs
      simpa using this
    have jn : mJoin (T []) (.list ((cs.map fun c => [c]).map T)) = some (T cs) := by
      rw [x_join_l (by rw [sum_flat, fl]; omega), fl]
    refine sat_sq [some (.scr ns), some .town, some (.d (.tuple (its.map encI))), y3, some (.d (T cs)), none] m1 ?_ ?_
    · simp only [e_sSet, e_cM1, e_cC, Res.bind_ok, onT_T, e_cF, lc, jn, Res.lift_some, ofR_ok]
      simp
    · obtain ⟨x, ex, hx⟩ := pick_ok ns [T [49], T [49], T [42]] m1 (by simp) (by omega)
      have hx' : ∃ b : Bool, x = T (if b = true then [42] else [49]) := by
        simp at hx
        rcases hx with rfl | rfl
        · exact ⟨false, rfl⟩
        · exact ⟨true, rfl⟩
      obtain ⟨b, rfl⟩ := hx'
      have z : its.length + 1 ≤ sizeLine := size_ok (by omega)
      have lt : ltI (cs, b) := ⟨fun c hc => hcs c hc, by simp only; omega⟩
      refine sat_to (ρ1 := [some (.scr ns), some .town, some (.d (.tuple ((its ++ [(cs, b)]).map encI))), y3, some (.d (T cs)), none]) (n1 := m1 + 1) (by simp [ex, size_ok, z, encI]) ?_
      refine ⟨by omega, its ++ [(cs, b)], _, _, fun t ht => ?_, by simp; omega, rfl⟩
      rcases List.mem_append.mp ht with q | q
      · exact h1 t q
      · rw [List.mem_singleton.mp q]; exact lt
  · rintro ρ m ⟨hm, its, x3, x4, h1, h2, rfl⟩
    simp only [e_sRet, e_cVar, List.getElem?_cons_succ, List.getElem?_cons_zero, ofR_ok]
    exact .rt ⟨by omega, its, rfl, h1, by omega⟩
theorem lrules_ok (ns : List Int) (most n : Nat) (hn : n ≤ 800000) (hmost : most ≤ 100) : ∃ rs n', Fn_law_rules [.scr ns, .town, .d (.int most)] n = .ok (encRs rs) n' ∧ n' ≤ n + 1 + 45 * most ∧ (∀ r ∈ rs, ltR r) ∧ rs.length ≤ most := by
  suffices h : ∃ v n', Fn_law_rules [.scr ns, .town, .d (.int most)] n = .ok v n' ∧ n' ≤ n + 1 + 45 * most ∧ ∃ rs, v = encRs rs ∧ (∀ r ∈ rs, ltR r) ∧ rs.length ≤ most by
    obtain ⟨v, n', e, h1, ks, rfl, h2, h3⟩ := h
    exact ⟨ks, n', e, h1, h2, h3⟩
  refine run_ex ?_
  unfold g_law_rules
  refine sat_sq [some (.scr ns), some .town, some (.d (.int most)), some (.d (.tuple [])), none, none] n (by simp [size_ok]) ?_
  refine sat_seq ?_
  obtain ⟨v, ev, h0, h1⟩ := draw_ok ns (most + 1) n (by omega) (by omega)
  obtain ⟨k, rfl⟩ := Int.eq_ofNat_of_zero_le h0
  have er : gRng fRng1 (aCons (cCall 3 Fn_law_draw (aVar 0 (aVar 1 (aCons (c2 opAdd (cVar 2) (cC (.int 1))) aNil)))) aNil) [some (.scr ns), some .town, some (.d (.int most)), some (.d (.tuple [])), none, none] n = .ok (rngL 0 k) (n + 1) :=
    e_rng1 (by simp [ev]) (by omega)
  simp only [e_sFor, er, ofR_ok]
  refine sat_rng (fun j ρ m => m ≤ n + 1 + 45 * j ∧ ∃ rs x4 x5, (∀ r ∈ rs, ltR r) ∧ rs.length ≤ j ∧ ρ = [some (.scr ns), some .town, some (.d (.int most)), some (.d (.tuple (rs.map encR))), x4, x5]) 0 k ⟨by omega, [], none, none, by simp, by simp, rfl⟩ ?_ ?_
  · rintro j ρ m hj ⟨hm, rs, x4, x5, q1, q2, rfl⟩
    refine ⟨_, tgN_ok (by simp), ?_⟩
    simp only [List.set_cons_succ, List.set_cons_zero]
    generalize some (L.d (PyData.int (0 + (j : Int)))) = y4
    obtain ⟨v, ev, _, _⟩ := draw_ok ns 2 m (by omega) (by omega)
    refine sat_sq [some (.scr ns), some .town, some (.d (.int most)), some (.d (.tuple (rs.map encR))), y4, some (.d (.bool (v == 0)))] (m + 1) (by simp [ev]) ?_
    obtain ⟨i1, m1, e1, a1, a2, a3⟩ := litems_ok ns (m + 1) (by omega)
    obtain ⟨i2, m2, e2, b1, b2, b3⟩ := litems_ok ns m1 (by omega)
    have z : rs.length + 1 ≤ sizeLine := size_ok (by omega)
    have lr : ltR (i1, (v == 0), i2) := ⟨a2, b2, a3, b3⟩
    refine sat_to (ρ1 := [some (.scr ns), some .town, some (.d (.int most)), some (.d (.tuple ((rs ++ [(i1, (v == 0), i2)]).map encR))), y4, some (.d (.bool (v == 0)))]) (n1 := m2) (by simp [e1, e2, size_ok, z, encR]) ?_
    refine ⟨by omega, rs ++ [(i1, (v == 0), i2)], _, _, fun t ht => ?_, by simp; omega, rfl⟩
    rcases List.mem_append.mp ht with q | q
    · exact q1 t q
    · rw [List.mem_singleton.mp q]; exact lr
  · rintro ρ m ⟨hm, rs, x4, x5, q1, q2, rfl⟩
    simp only [e_sRet, e_cVar, List.getElem?_cons_succ, List.getElem?_cons_zero, ofR_ok]
    exact .rt ⟨by omega, rs, rfl, q1, by omega⟩
def charsT : List Nat := [10, 32, 33, 39, 45, 46, 94, 97, 65, 98, 99, 120, 95, 126, 97, 65, 32, 94, 81, 90]
theorem ltext_ok (ns : List Int) (most n : Nat) (hn : n ≤ 800000) (hmost : most ≤ 100) : ∃ l n', Fn_law_text [.scr ns, .town, .d (.int most)] n = .ok (T l) n' ∧ n' ≤ n + 1 + most ∧ (∀ c ∈ l, c ∈ charsT) ∧ l.length ≤ most := by
  obtain ⟨l, n', es, h1, h2, h3⟩ := signs_ok ns charsT most n (by decide) (by decide) hn hmost
  refine ⟨l, n', ?_, h1, h2, h3⟩
  refine run_eq ?_
  unfold g_law_text
  unfold charsT at es
  simp [es]
end W

/-! what pieces are, in plain Lean -/
namespace W
open PySem PySem.Spec PyProof.Rows L2 G
def piecesM (text : List Nat) (c : List Nat) : List (List Nat) := (c.dropLast.zip c.tail).map fun p => (text.drop p.1).take (p.2 - p.1)
theorem cutsM_len (row : List Nat) (rules : List Rule) : (cutsM row rules).length ≤ row.length + 1 := by
  have := List.length_filter_le (isCut row rules) (List.range (row.length + 1))
  rwa [List.length_range] at this
theorem pieces_cons (text : List Nat) (a b : Nat) (r : List Nat) : piecesM text (a :: b :: r) = (text.drop a).take (b - a) :: piecesM text (b :: r) := by
  unfold piecesM
  simp
theorem pieces_one (text : List Nat) (a : Nat) : piecesM text [a] = [] := rfl
theorem pieces_nil (text : List Nat) : piecesM text [] = [] := rfl
theorem pieces_len (text : List Nat) : ∀ c : List Nat, (piecesM text c).length = c.length - 1
  | [] => rfl
  | [a] => rfl
  | a :: b :: r => by rw [pieces_cons, List.length_cons, pieces_len text (b :: r)]; simp
theorem take_drop_app (text : List Nat) {a b : Nat} (h : a ≤ b) : (text.drop a).take (b - a) ++ text.drop b = text.drop a := by
  have e : text.drop b = (text.drop a).drop (b - a) := by rw [List.drop_drop]; congr 1; omega
  rw [e, List.take_append_drop]
/-- from one cut on, pieces are the rest of the text -/
theorem pieces_flat (text : List Nat) : ∀ (r : List Nat) (a : Nat), (a :: r).Pairwise (· < ·) → (a :: r).getLast? = some text.length → (piecesM text (a :: r)).flatten = text.drop a
  | [], a, _, h => by
    have : a = text.length := by simpa using h
    rw [pieces_one, this, List.drop_length]
    rfl
  | b :: r, a, p, h => by
    obtain ⟨p1, p2⟩ := List.pairwise_cons.mp p
    have hab := p1 b List.mem_cons_self
    rw [pieces_cons, List.flatten_cons, pieces_flat text r b p2 (by simpa [List.getLast?_cons_cons] using h), take_drop_app text (by omega)]
/-- the first i pieces are the text up to the i-th cut -/
theorem pieces_take (text : List Nat) : ∀ (i : Nat) (c : List Nat) (a x : Nat), (a :: c).Pairwise (· < ·) → (a :: c)[i]? = some x → ((piecesM text (a :: c)).take i).flatten = (text.drop a).take (x - a)
  | 0, c, a, x, _, h => by
    have : a = x := by simpa using h
    rw [this]
    simp
  | i + 1, [], a, x, _, h => by simp at h
  | i + 1, b :: r, a, x, p, h => by
    obtain ⟨p1, p2⟩ := List.pairwise_cons.mp p
    have hab := p1 b List.mem_cons_self
    have hx : b ≤ x := by
      have h' : (b :: r)[i]? = some x := by simpa using h
      have hm := List.mem_of_getElem? h'
      rcases List.mem_cons.mp hm with e | e
      · omega
      · have := (List.pairwise_cons.mp p2).1 x e; omega
    rw [pieces_cons, List.take_succ_cons, List.flatten_cons, pieces_take text i r b x p2 (by simpa using h)]
    have e : text.drop b = (text.drop a).drop (b - a) := by rw [List.drop_drop]; congr 1; omega
    rw [e]
    have e2 : x - a = (b - a) + (x - b) := by omega
    rw [e2, List.take_add]
theorem pieces_get (text : List Nat) : ∀ (i : Nat) (c : List Nat) (x y : Nat), c[i]? = some x → c[i + 1]? = some y → (piecesM text c)[i]? = some ((text.drop x).take (y - x))
  | _, [], x, y, h, _ => by simp at h
  | _, [a], x, y, _, h => by simp at h
  | 0, a :: b :: r, x, y, h, h2 => by
    have e1 : a = x := by simpa using h
    have e2 : b = y := by simpa using h2
    rw [pieces_cons, e1, e2]
    rfl
  | i + 1, a :: b :: r, x, y, h, h2 => by
    rw [pieces_cons, List.getElem?_cons_succ]
    exact pieces_get text i (b :: r) x y (by simpa using h) (by simpa using h2)
theorem cuts_rise (row : List Nat) (rules : List Rule) : (cutsM row rules).Pairwise (· < ·) := List.Pairwise.filter _ List.pairwise_lt_range
theorem mem_cuts {row : List Nat} {rules : List Rule} {p : Nat} : p ∈ cutsM row rules ↔ p ≤ row.length ∧ isCut row rules p = true := by
  unfold cutsM
  rw [List.mem_filter, List.mem_range]
  constructor
  · rintro ⟨a, b⟩; exact ⟨by omega, b⟩
  · rintro ⟨a, b⟩; exact ⟨by omega, b⟩
theorem cut_end {row : List Nat} (rules : List Rule) (h : 0 < row.length) : isCut row rules 0 = true ∧ isCut row rules row.length = true := by
  unfold isCut
  rw [if_pos (.inl rfl), if_pos (.inr rfl), decide_eq_true h]
  exact ⟨rfl, rfl⟩
theorem cuts_none {row : List Nat} (rules : List Rule) (h : row.length = 0) : cutsM row rules = [] := by
  have : row = [] := List.eq_nil_of_length_eq_zero h
  subst this
  rfl
/-- the cuts of a text with signs: from 0 on, to its end -/
theorem cuts_shape {row : List Nat} (rules : List Rule) (h : 0 < row.length) : ∃ r, cutsM row rules = 0 :: r ∧ (0 :: r).getLast? = some row.length := by
  obtain ⟨h1, h2⟩ := cut_end rules h
  have m1 : 0 ∈ cutsM row rules := mem_cuts.mpr ⟨by omega, h1⟩
  have m2 : row.length ∈ cutsM row rules := mem_cuts.mpr ⟨by omega, h2⟩
  have hr := cuts_rise row rules
  cases hc : cutsM row rules with
  | nil => rw [hc] at m1; cases m1
  | cons a r =>
    rw [hc] at m1 m2 hr
    obtain ⟨p1, _⟩ := List.pairwise_cons.mp hr
    have ha : a = 0 := by
      rcases List.mem_cons.mp m1 with e | e
      · exact e.symm
      · have := p1 0 e; omega
    subst ha
    refine ⟨r, rfl, ?_⟩
    rcases List.eq_nil_or_concat (0 :: r) with e | ⟨i, z, e⟩
    · cases e
    · rw [e, List.concat_eq_append, List.getLast?_concat]
      rw [e, List.concat_eq_append] at hr m2
      have hz : z ≤ row.length := by
        have : z ∈ cutsM row rules := by rw [hc, e, List.concat_eq_append]; simp
        exact (mem_cuts.mp this).1
      rcases List.mem_append.mp m2 with q | q
      · have := (List.pairwise_append.mp hr).2.2 _ q z (by simp)
        omega
      · rw [List.mem_singleton.mp q]
end W

/-! pieces -/
namespace W
open PySem PySem.Spec PyProof.Rows L2 G
theorem pieces_ok (ks : List (Nat × Nat)) (rules : List Rule) (text : List Nat) (n : Nat) (hl : text.length ≤ 24) (hi : ∀ r ∈ rules, okR r) :
    Fn_pieces [.d (encKs ks), .d (encRs rules), .d (T text)] n = .ok (.tuple ((piecesM text (cutsM (rowM ks text) rules)).map T)) n := by
  have zr : text.length ≤ sizeLine := size_ok (by omega)
  have hc := cuts_ok ks rules text n hl hi
  have hcl := cutsM_len (rowM ks text) rules
  rw [rowM_len] at hcl
  generalize cutsM (rowM ks text) rules = c at hc hcl ⊢
  refine run_eq ?_
  unfold g_pieces
  refine sat_sq [some (.d (encKs ks)), some (.d (encRs rules)), some (.d (T text)), some (.d (.tuple (c.map encN))), none, none] n (by simp [hc]) ?_
  have ez : gZip (aCons (cSl (cVar 3) gNoPart (gPart (c1 opNeg (cC (.int 1))))) (aCons (cSl (cVar 3) (gPart (cC (.int 1))) gNoPart) aNil)) [some (.d (encKs ks)), some (.d (encRs rules)), some (.d (T text)), some (.d (.tuple (c.map encN))), none, none] n
      = .ok ((c.dropLast.zip c.tail).map fun p => (PyData.tuple [encN p.1, encN p.2] : D)) n := by
    rw [← zip_N]
    simp only [e_gZip, e_aCons, e_cSl, e_cVar, e_gNoPart, e_gPart, e_c1, e_cC, e_aNil, List.getElem?_cons_succ, List.getElem?_cons_zero, Res.bind_ok, x_neg, Res.lift_some, x_part, x_sl_tup, e_asDs, e_dsCons, e_dsNil, Option.map_some, x_zip_tt, cutL_init, cutL_tail]
    rw [List.map_dropLast, List.map_tail]
  have lc : cLc [4, 5] (tgP [(tgN 4), (tgN 5)]) (gZip (aCons (cSl (cVar 3) gNoPart (gPart (c1 opNeg (cC (.int 1))))) (aCons (cSl (cVar 3) (gPart (cC (.int 1))) gNoPart) aNil))) bYes (cSl (cVar 2) (gPart (cVar 4)) (gPart (cVar 5))) [some (.d (encKs ks)), some (.d (encRs rules)), some (.d (T text)), some (.d (.tuple (c.map encN))), none, none] n
      = .ok ((c.dropLast.zip c.tail).map fun p => T ((text.drop p.1).take (p.2 - p.1))) n :=
    e_lcm (fun p : Nat × Nat => (PyData.tuple [encN p.1, encN p.2] : D)) _ (c.dropLast.zip c.tail) ez (by rw [List.length_zip, List.length_dropLast]; omega) fun p hp =>
      ⟨[some (.d (encKs ks)), some (.d (encRs rules)), some (.d (T text)), some (.d (.tuple (c.map encN))), some (.d (encN p.1)), some (.d (encN p.2))], by simp, by simp [encN, zr, cutL_mid]⟩
  have e1 : ((c.dropLast.zip c.tail).map fun p => T ((text.drop p.1).take (p.2 - p.1))) = (piecesM text c).map T := by unfold piecesM; rw [List.map_map]; rfl
  rw [e1] at lc
  simp only [e_sRet, e_cBt, e_aCons, e_cF, lc, e_aNil, Res.bind_ok, e_asDs, e_dsCons, e_dsNil, Res.lift_some, Option.map_some, x_tup_lst, ofR_ok]
  exact .rt ⟨rfl, rfl⟩
end W

/-! widths: piece_width, width -/
namespace W
open PySem PySem.Spec PyProof.Rows L2 G
abbrev Wds := List (Nat × Nat)
def encWd (p : Nat × Nat) : D := .tuple [T [p.1], encN p.2]
def encWds (w : Wds) : D := .tuple (w.map encWd)
def pairW (p : Nat × Nat) : Key × D := (keyN p.1, encN p.2)
def tableW (w : Wds) : List (Key × D) := mergeD [] (w.map pairW)
theorem pairs_W (w : Wds) : pairsD (w.map encWd) = some (w.map pairW) := by
  induction w with
  | nil => rfl
  | cons p r ih =>
    rw [List.map_cons, List.map_cons]
    show (keyD (T [p.1])).bind (fun k => (pairsD (r.map encWd)).map ((k, encN p.2) :: ·)) = _
    rw [ih]
    rfl
theorem dic_W (w : Wds) : fDic (encWds w) = some (tableW w) := by
  unfold fDic encWds
  simp only [pairs_W]
  rfl
theorem wd_ex (w : Wds) (c : Nat) : ∃ k : Nat, (lookD (tableW w) (keyN c)).getD (.int 1) = encN k ∧ (k = 1 ∨ k ∈ w.map (·.2)) := by
  cases h : lookD (tableW w) (keyN c) with
  | none => exact ⟨1, rfl, .inl rfl⟩
  | some d =>
    obtain ⟨p, hp, rfl⟩ := look_mem h
    rcases mem_mergeD _ _ hp with z | ⟨q, hq, e⟩
    · cases z
    · obtain ⟨r, hr, rfl⟩ := List.mem_map.mp hq
      exact ⟨r.2, e, .inr (List.mem_map.mpr ⟨r, hr, rfl⟩)⟩
noncomputable def wdM (w : Wds) (c : Nat) : Nat := (wd_ex w c).choose
theorem wd_is (w : Wds) (c : Nat) : (lookD (tableW w) (keyN c)).getD (.int 1) = encN (wdM w c) := (wd_ex w c).choose_spec.1
theorem wd_in (w : Wds) (c : Nat) : wdM w c = 1 ∨ wdM w c ∈ w.map (·.2) := (wd_ex w c).choose_spec.2
/-- no width is greater than four -/
def WdW (w : Wds) : Prop := ∀ p ∈ w, p.2 ≤ 4
theorem wd_le {w : Wds} (h : WdW w) (c : Nat) : wdM w c ≤ 4 := by
  rcases wd_in w c with e | e
  · omega
  · obtain ⟨p, hp, e2⟩ := List.mem_map.mp e
    rw [← e2]
    exact h p hp
/-! ### the greatest of numbers -/
def maxN (a : Nat) (l : List Nat) : Nat := l.foldl max a
theorem maxN_ge (l : List Nat) : ∀ a : Nat, a ≤ maxN a l ∧ ∀ x ∈ l, x ≤ maxN a l := by
  induction l with
  | nil => intro a; exact ⟨Nat.le_refl _, by simp⟩
  | cons b r ih =>
    intro a
    obtain ⟨h1, h2⟩ := ih (max a b)
    show a ≤ maxN (max a b) r ∧ ∀ x ∈ b :: r, x ≤ maxN (max a b) r
    refine ⟨by omega, fun x hx => ?_⟩
    rcases List.mem_cons.mp hx with z | z
    · rw [z]; omega
    · exact h2 x z
theorem maxN_mem (l : List Nat) : ∀ a : Nat, maxN a l = a ∨ maxN a l ∈ l := by
  induction l with
  | nil => intro a; exact .inl rfl
  | cons b r ih =>
    intro a
    show maxN (max a b) r = a ∨ maxN (max a b) r ∈ b :: r
    rcases ih (max a b) with h | h
    · rcases Nat.le_total a b with z | z
      · exact .inr (by rw [h, Nat.max_eq_right z]; exact List.mem_cons_self)
      · exact .inl (by rw [h, Nat.max_eq_left z])
    · exact .inr (List.mem_cons_of_mem _ h)
theorem maxD_N : ∀ (l : List Nat) (a : Nat), PySem.W.maxD (encN a) (l.map encN) = encN (maxN a l)
  | [], a => rfl
  | b :: r, a => by
    have ih := maxD_N r
    unfold PySem.W.maxD at ih ⊢
    rw [List.map_cons, List.foldl_cons]
    have e : PySem.W.dataLt (encN a) (encN b) = decide (a < b) := by
      unfold encN
      rw [PySem.W.dataLt_int, Bool.eq_iff_iff]
      simp
    rw [e]
    show _ = encN (maxN (max a b) r)
    by_cases h : a < b
    · rw [if_pos (by simpa using h), ih b, Nat.max_eq_right (by omega)]
    · rw [if_neg (by simpa using h), ih a, Nat.max_eq_left (by omega)]
theorem minOk_N (l : List Nat) : minOk (l.map encN) := by
  refine ⟨⟨fun x hx y hy => ?_, fun x hx => ?_⟩, ?_, ?_⟩
  · obtain ⟨a, _, rfl⟩ := List.mem_map.mp hx
    obtain ⟨b, _, rfl⟩ := List.mem_map.mp hy
    simp [encN, PySem.W.alike]
  · obtain ⟨a, _, rfl⟩ := List.mem_map.mp hx
    exact nofun
  · induction l with
    | nil => simp [PyData.canLayAll0]
    | cons a r ih => simp [PyData.canLayAll0, PyData.canLay0, encN, ih]
  · have : PyData.depthAll (l.map encN) ≤ 0 := by
      induction l with
      | nil => simp [PyData.depthAll]
      | cons a r ih =>
        have e : (encN a).depth = 0 := by simp [encN, PyData.depth]
        simp [PyData.depthAll, e]
        omega
    omega
theorem x_max_N (a : Nat) (l : List Nat) : fBest PySem.W.maxD [.list (encN a :: l.map encN)] = some (encN (maxN a l)) := by
  have := x_best_l (f := PySem.W.maxD) (x := encN a) (ds := l.map encN) (minOk_N (a :: l))
  rw [maxD_N] at this
  exact this
/-! ### piece_width -/
noncomputable def pwM (w : Wds) (t : List Nat) : Nat := maxN 0 (t.map (wdM w))
theorem pw_le {w : Wds} (h : WdW w) (t : List Nat) : pwM w t ≤ 4 := by
  rcases maxN_mem (t.map (wdM w)) 0 with e | e
  · unfold pwM; omega
  · obtain ⟨c, _, e2⟩ := List.mem_map.mp e
    have := wd_le h c
    unfold pwM
    omega
theorem pw_nil (w : Wds) : pwM w [] = 0 := rfl
theorem pw_one (w : Wds) (c : Nat) : pwM w [c] = wdM w c := by
  show max 0 (wdM w c) = _
  omega
theorem pw_ok (w : Wds) (t : List Nat) (n : Nat) (hl : t.length ≤ 100000) : Fn_piece_width [.d (encWds w), .d (T t)] n = .ok (encN (pwM w t)) n := by
  refine run_to (ρ0 := [some (.d (encWds w)), some (.d (T t)), none, none]) rfl ?_
  unfold g_piece_width
  refine sq (ρ1 := [some (.d (encWds w)), some (.d (T t)), some (.dic (tableW w)), none]) (n1 := n) (by simp [dic_W]) ?_
  have lc : cLc [3] (tgN 3) (gItems (cVar 1)) bYes (cDGet 2 (cVar 3) (cC (.int 1))) [some (.d (encWds w)), some (.d (T t)), some (.dic (tableW w)), none] n = .ok ((t.map (wdM w)).map encN) n := by
    rw [List.map_map]
    exact e_lcm (fun c => T [c]) _ t rfl (by omega) fun c hc => ⟨[some (.d (encWds w)), some (.d (T t)), some (.dic (tableW w)), some (.d (T [c]))], rfl, by
      have := wd_is w c
      unfold keyN at this
      simp [this]⟩
  have hm := x_max_N 0 (t.map (wdM w))
  have ea : opAdd (.list [.int 0]) (.list ((t.map (wdM w)).map encN)) = some (.list (encN 0 :: (t.map (wdM w)).map encN)) := add_l (by simp; omega)
  generalize ((t.map (wdM w)).map encN) = Q at lc hm ea
  exact sret (d := encN (pwM w t)) (n1 := n) (by simp only [e_cBt, e_aCons, e_aNil, e_c2, e_cF, e_cLst, e_cC, lc, Res.bind_ok, e_asDs, e_dsCons, e_dsNil, Option.map_some, Res.lift_some, List.length_cons, List.length_nil, Nat.reduceAdd, sz1, if_true, ea, hm]; rfl) ⟨rfl, rfl⟩
/-! ### width -/
noncomputable def piecesOf (ks : List (Nat × Nat)) (rules : List Rule) (text : List Nat) : List (List Nat) := piecesM text (cutsM (rowM ks text) rules)
noncomputable def widM (ks : List (Nat × Nat)) (rules : List Rule) (w : Wds) (text : List Nat) : Nat := ((piecesOf ks rules text).map (pwM w)).sum
theorem piecesOf_flat (ks : List (Nat × Nat)) (rules : List Rule) (text : List Nat) : (piecesOf ks rules text).flatten = text := by
  unfold piecesOf
  have hl := rowM_len ks text
  by_cases h : 0 < (rowM ks text).length
  · obtain ⟨r, e, hlast⟩ := cuts_shape rules h
    rw [e, pieces_flat text r 0 (by rw [← e]; exact cuts_rise _ _) (by rw [hlast, hl])]
    rfl
  · have h0 : text = [] := List.eq_nil_of_length_eq_zero (by omega)
    subst h0
    rw [cuts_none rules (by simpa using hl)]
    rfl
theorem mem_piece {ks : List (Nat × Nat)} {rules : List Rule} {text p : List Nat} (h : p ∈ piecesOf ks rules text) : p.length ≤ text.length ∧ ∀ c ∈ p, c ∈ text := by
  have hf := piecesOf_flat ks rules text
  constructor
  · have : p.length ≤ (piecesOf ks rules text).flatten.length := (List.sublist_flatten_of_mem h).length_le
    rwa [hf] at this
  · intro c hc
    rw [← hf]
    exact List.mem_flatten.mpr ⟨p, h, hc⟩
theorem piecesOf_len (ks : List (Nat × Nat)) (rules : List Rule) (text : List Nat) : (piecesOf ks rules text).length ≤ text.length := by
  unfold piecesOf
  rw [pieces_len]
  have := cutsM_len (rowM ks text) rules
  rw [rowM_len] at this
  omega
theorem pcs_ok (ks : List (Nat × Nat)) (rules : List Rule) (text : List Nat) (n : Nat) (hl : text.length ≤ 24) (hi : ∀ r ∈ rules, okR r) :
    Fn_pieces [.d (encKs ks), .d (encRs rules), .d (T text)] n = .ok (.tuple ((piecesOf ks rules text).map T)) n := pieces_ok ks rules text n hl hi
theorem wid_ok (ks : List (Nat × Nat)) (rules : List Rule) (w : Wds) (t : List Nat) (n : Nat) (hl : t.length ≤ 24) (hi : ∀ r ∈ rules, okR r) :
    Fn_width [.d (encKs ks), .d (encRs rules), .d (encWds w), .d (T t)] n = .ok (encN (widM ks rules w t)) n := by
  refine run_to (ρ0 := [some (.d (encKs ks)), some (.d (encRs rules)), some (.d (encWds w)), some (.d (T t)), none]) rfl ?_
  unfold g_width
  have hp := pcs_ok ks rules t n hl hi
  have hpl := piecesOf_len ks rules t
  have lc : cLc [4] (tgN 4) (gItems (cCall 3 Fn_pieces (aVar 0 (aVar 1 (aVar 3 aNil))))) bYes (cCall 2 Fn_piece_width (aVar 2 (aVar 4 aNil))) [some (.d (encKs ks)), some (.d (encRs rules)), some (.d (encWds w)), some (.d (T t)), none] n = .ok ((piecesOf ks rules t).map fun p => encN (pwM w p)) n :=
    e_lcm T _ (piecesOf ks rules t) (by simp [hp]) (by omega) fun p hpm => ⟨[some (.d (encKs ks)), some (.d (encRs rules)), some (.d (encWds w)), some (.d (T t)), some (.d (T p))], rfl, by
      have := pw_ok w p n (by have := (mem_piece hpm).1; omega)
      simp [this]⟩
  have hs := x_sum_n (f := pwM w) (l := piecesOf ks rules t)
  exact sret (d := encN (widM ks rules w t)) (n1 := n) (by simp only [e_cBt, e_aCons, e_aNil, e_cF, lc, Res.bind_ok, e_asDs, e_dsCons, e_dsNil, Option.map_some, Res.lift_some, hs]; rfl) ⟨rfl, rfl⟩
theorem sum_le4 {w : Wds} (h : WdW w) : ∀ ps : List (List Nat), (ps.map (pwM w)).sum ≤ 4 * ps.length
  | [] => by simp
  | p :: r => by
    have := sum_le4 h r
    have := pw_le h p
    simp
    omega
theorem wid_le {w : Wds} (h : WdW w) (ks : List (Nat × Nat)) (rules : List Rule) (t : List Nat) : widM ks rules w t ≤ 4 * t.length := by
  have h1 := sum_le4 h (piecesOf ks rules t)
  have h2 := piecesOf_len ks rules t
  unfold widM
  omega
/-! ### widths drawn -/
theorem lwidths_ok (ns : List Int) (n : Nat) (hn : n ≤ 900000) : ∃ w n', Fn_law_widths [.scr ns, .town] n = .ok (encWds w) n' ∧ n' ≤ n + 32 ∧ WdW w ∧ w.length ≤ 16 ∧ (∀ p ∈ w, p.1 < 128) ∧ (w.map (·.1)).Nodup := by
  suffices h : ∃ v n', Fn_law_widths [.scr ns, .town] n = .ok v n' ∧ ∃ w, v = encWds w ∧ n' ≤ n + 32 ∧ WdW w ∧ w.length ≤ 16 ∧ (∀ p ∈ w, p.1 < 128) ∧ (w.map (·.1)).Nodup by
    obtain ⟨v, n', e, w, rfl, h⟩ := h
    exact ⟨w, n', e, h⟩
  refine run_toP (ρ0 := [some (.scr ns), some .town, none, none]) rfl ?_
  unfold g_law_widths
  refine sq (n1 := n) (by simp [] <;> first | exact ⟨rfl, rfl⟩ | rfl) ?_
  refine sat_seq ?_
  obtain ⟨S, hS⟩ : ∃ S, S = [10, 32, 33, 39, 45, 46, 94, 97, 65, 98, 99, 120, 95, 126, 81, 90].mergeSort leN := ⟨_, rfl⟩
  have hp : S.Perm [10, 32, 33, 39, 45, 46, 94, 97, 65, 98, 99, 120, 95, 126, 81, 90] := by rw [hS]; exact sortN_perm _
  have hSl : S.length = 16 := hp.length_eq
  have hSn : S.Nodup := hp.nodup_iff.mpr (by decide)
  have hSm : ∀ c ∈ S, c < 128 := fun c hc => by
    have : ∀ c ∈ [10, 32, 33, 39, 45, 46, 94, 97, 65, 98, 99, 120, 95, 126, 81, 90], c < 128 := by decide
    exact this c (hp.mem_iff.mp hc)
  have es : fSortA [T [10, 32, 33, 39, 45, 46, 94, 97, 65, 98, 99, 120, 95, 126, 81, 90]] = some (S.map (fun c : Nat => T [c])) := by
    rw [x_sortA_T (by decide), hS]
  have it : ∀ x2 x3, gItems (cF (cBtF fSortA (aCons (cC (T [10, 32, 33, 39, 45, 46, 94, 97, 65, 98, 99, 120, 95, 126, 81, 90])) aNil))) [some (.scr ns), some .town, x2, x3] n = .ok (S.map (fun c : Nat => T [c])) n := fun x2 x3 => by simp [es]
  simp only [e_sFor, it, ofR_ok]
  refine sat_for (fun c : Nat => T [c]) (fun pre ρ m => m ≤ n + 2 * pre.length ∧ ∃ (w : Wds) (x3 : Option L), ρ = [some (.scr ns), some .town, some (.d (encWds w)), x3] ∧ WdW w ∧ (w.map (·.1)).Sublist pre) S ⟨by simp, [], none, rfl, (fun p hp => by cases hp), by simp⟩ ?_ ?_
  · rintro pre a post ρ m e ⟨hm, w, x3, rfl, hw, hsub⟩
    have hlen := congrArg List.length e
    rw [List.length_append, List.length_cons] at hlen
    have hwl := hsub.length_le
    rw [List.length_map] at hwl
    refine ⟨[some (.scr ns), some .town, some (.d (encWds w)), some (.d (T [a]))], rfl, ?_⟩
    obtain ⟨v, ev, v0, v1⟩ := draw_ok ns 3 m (by omega) (by omega)
    by_cases hv : 0 < v
    · obtain ⟨x, ex, hx⟩ := pick_ok ns [.int 0, .int 1, .int 1, .int 2, .int 2, .int 4] (m + 1) (by simp) (by omega)
      have hx' : ∃ k : Nat, x = encN k ∧ k ≤ 4 := by
        simp only [List.mem_cons, List.not_mem_nil, or_false] at hx
        rcases hx with rfl | rfl | rfl | rfl | rfl | rfl
        · exact ⟨0, rfl, by omega⟩
        · exact ⟨1, rfl, by omega⟩
        · exact ⟨1, rfl, by omega⟩
        · exact ⟨2, rfl, by omega⟩
        · exact ⟨2, rfl, by omega⟩
        · exact ⟨4, rfl, by omega⟩
      obtain ⟨k, rfl, hk⟩ := hx'
      have ea : opAdd (encWds w) (.tuple [.tuple [T [a], encN k]]) = some (encWds (w ++ [(a, k)])) := by
        unfold encWds
        rw [add_t (by simp; omega), List.map_append]
        rfl
      refine sifT (n1 := m + 1) (by simp [ev, hv]) (so (ρ1 := [some (.scr ns), some .town, some (.d (encWds (w ++ [(a, k)]))), some (.d (T [a]))]) (n1 := m + 1 + 1) (by simp [ex, ea]) ⟨by simp; omega, w ++ [(a, k)], _, rfl, fun p hp => ?_, ?_⟩)
      · rcases List.mem_append.mp hp with z | z
        · exact hw p z
        · rw [List.mem_singleton.mp z]; exact hk
      · rw [List.map_append]
        exact hsub.append (List.Sublist.refl _)
    · refine sifF (n1 := m + 1) (by simp [ev]; omega) (so rfl ⟨by simp; omega, w, _, rfl, hw, hsub.trans (List.sublist_append_left ..)⟩)
  · rintro ρ m ⟨hm, w, x3, rfl, hw, hsub⟩
    have hwl := hsub.length_le
    rw [List.length_map] at hwl
    refine sret (n1 := m) (d := encWds w) (by simp) ⟨w, rfl, by omega, hw, by omega, fun p hp => hSm _ (hsub.subset (List.mem_map.mpr ⟨p, hp, rfl⟩)), hsub.nodup hSn⟩
end W

/-! sums of widths -/
namespace W
open PySem PySem.Spec PyProof.Rows L2 G
noncomputable def sumW (w : Wds) (ps : List (List Nat)) : Nat := (ps.map (pwM w)).sum
theorem sumW_snoc (w : Wds) (ps : List (List Nat)) (p : List Nat) : sumW w (ps ++ [p]) = sumW w ps + pwM w p := by
  unfold sumW
  rw [List.map_append, List.sum_append]
  simp
end W

/-! at_column, column_of -/
namespace W
open PySem PySem.Spec PyProof.Rows L2 G
/-- at each column the place where its piece begins -/
noncomputable def rowOf (w : Wds) : Nat → List (List Nat) → List Nat
  | _, [] => []
  | a, p :: r => List.replicate (pwM w p) a ++ rowOf w (a + p.length) r
theorem rowOf_cons (w : Wds) (a : Nat) (p : List Nat) (r : List (List Nat)) : rowOf w a (p :: r) = List.replicate (pwM w p) a ++ rowOf w (a + p.length) r := rfl
theorem rowOf_app (w : Wds) : ∀ (ps qs : List (List Nat)) (a : Nat), rowOf w a (ps ++ qs) = rowOf w a ps ++ rowOf w (a + ps.flatten.length) qs
  | [], qs, a => by simp [rowOf]
  | p :: r, qs, a => by
    rw [List.cons_append, rowOf_cons, rowOf_cons, rowOf_app w r qs, List.append_assoc, List.flatten_cons, List.length_append, Nat.add_assoc]
theorem rowOf_len (w : Wds) : ∀ (ps : List (List Nat)) (a : Nat), (rowOf w a ps).length = sumW w ps
  | [], a => rfl
  | p :: r, a => by
    rw [rowOf_cons, List.length_append, List.length_replicate, rowOf_len w r]
    unfold sumW
    simp
theorem atcol_ok (ks : List (Nat × Nat)) (rules : List Rule) (w : Wds) (t : List Nat) (col n : Nat) (hl : t.length ≤ 24) (hi : ∀ r ∈ rules, okR r) :
    Fn_at_column [.d (encKs ks), .d (encRs rules), .d (encWds w), .d (T t), .d (encN col)] n = .ok (encO (rowOf w 0 (piecesOf ks rules t))[col]?) n := by
  refine run_to (ρ0 := [some (.d (encKs ks)), some (.d (encRs rules)), some (.d (encWds w)), some (.d (T t)), some (.d (encN col)), none, none, none]) rfl ?_
  unfold g_at_column
  have hp := pcs_ok ks rules t n hl hi
  have hpl := piecesOf_len ks rules t
  have hpf := piecesOf_flat ks rules t
  have hpm : ∀ p ∈ piecesOf ks rules t, p.length ≤ 24 := fun p h => by have := (mem_piece h).1; omega
  generalize piecesOf ks rules t = ps at hp hpl hpf hpm ⊢
  refine sq (n1 := n) (by simp [] <;> first | exact ⟨rfl, rfl⟩ | rfl) ?_
  refine sq (n1 := n) (by simp [] <;> first | exact ⟨rfl, rfl⟩ | rfl) ?_
  refine sat_seq ?_
  have it : gItems (cCall 3 Fn_pieces (aVar 0 (aVar 1 (aVar 3 aNil)))) [some (.d (encKs ks)), some (.d (encRs rules)), some (.d (encWds w)), some (.d (T t)), some (.d (encN col)), some (.d (.int 0)), some (.d (.int 0)), none] n = .ok (ps.map T) n := by simp [hp]
  simp only [e_sFor, it, ofR_ok]
  refine sat_for T (fun pre ρ m => m = n ∧ ∃ x7 : Option L, ρ = [some (.d (encKs ks)), some (.d (encRs rules)), some (.d (encWds w)), some (.d (T t)), some (.d (encN col)), some (.d (encN (sumW w pre))), some (.d (encN pre.flatten.length)), x7] ∧ sumW w pre ≤ col) ps ⟨rfl, none, rfl, Nat.zero_le _⟩ ?_ ?_
  · rintro pre p post ρ m e ⟨hm, x7, rfl, hc⟩
    have hm2 := hm.symm
    subst hm2
    have hpw := pw_ok w p n (by have := hpm p (by rw [e]; simp); omega)
    have hz : p.length ≤ sizeLine := size_ok (by have := hpm p (by rw [e]; simp); omega)
    refine ⟨[some (.d (encKs ks)), some (.d (encRs rules)), some (.d (encWds w)), some (.d (T t)), some (.d (encN col)), some (.d (encN (sumW w pre))), some (.d (encN pre.flatten.length)), some (.d (T p))], rfl, ?_⟩
    have ea : opAdd (encN (sumW w pre)) (encN (pwM w p)) = some (encN (sumW w (pre ++ [p]))) := by
      rw [sumW_snoc]
      show some (PyData.int ((sumW w pre : Int) + (pwM w p : Int))) = some (PyData.int ((sumW w pre + pwM w p : Nat) : Int))
      congr 2
    refine sq (ρ1 := [some (.d (encKs ks)), some (.d (encRs rules)), some (.d (encWds w)), some (.d (T t)), some (.d (encN col)), some (.d (encN (sumW w (pre ++ [p])))), some (.d (encN pre.flatten.length)), some (.d (T p))]) (n1 := n) (by simp [hpw, ea]) ?_
    have hrow : rowOf w 0 ps = rowOf w 0 pre ++ (List.replicate (pwM w p) pre.flatten.length ++ rowOf w (pre.flatten.length + p.length) post) := by
      rw [e, rowOf_app, rowOf_cons, Nat.zero_add]
    have hlen := rowOf_len w pre 0
    have hs := sumW_snoc w pre p
    by_cases hlt : col < sumW w (pre ++ [p])
    · have el : opLt (encN col) (encN (sumW w (pre ++ [p]))) = some (.bool true) := by
        show opLt (.int _) (.int _) = _
        rw [x_lt]
        simp
        exact hlt
      refine sat_seq (sifT (n1 := n) (by simp [el]) (sret (n1 := n) (d := encN pre.flatten.length) (by simp) ⟨?_, rfl⟩))
      rw [hrow, List.getElem?_append_right (by omega), hlen, List.getElem?_append_left (by rw [List.length_replicate]; omega), List.getElem?_replicate, if_pos (by omega)]
      rfl
    · have el : opLt (encN col) (encN (sumW w (pre ++ [p]))) = some (.bool false) := by
        show opLt (.int _) (.int _) = _
        rw [x_lt]
        simp
        omega
      refine sno (n1 := n) (by simp [el]) ?_
      have ep : opAdd (encN pre.flatten.length) (.int (p.length : Int)) = some (encN (pre ++ [p]).flatten.length) := by
        rw [List.flatten_append, List.length_append, show [p].flatten = p by simp]
        show some (PyData.int ((pre.flatten.length : Int) + (p.length : Int))) = some (PyData.int ((pre.flatten.length + p.length : Nat) : Int))
        congr 2
      have lp : fLen [T p] = some (.int (p.length : Int)) := by rw [x_len_T, if_pos hz]
      refine so (ρ1 := [some (.d (encKs ks)), some (.d (encRs rules)), some (.d (encWds w)), some (.d (T t)), some (.d (encN col)), some (.d (encN (sumW w (pre ++ [p])))), some (.d (encN (pre ++ [p]).flatten.length)), some (.d (T p))]) (n1 := n) ?_ ⟨rfl, _, rfl, by omega⟩
      generalize encN (pre ++ [p]).flatten.length = z1 at ep ⊢
      generalize encN pre.flatten.length = z2 at ep ⊢
      simp [lp, ep, -x_len_T]
  · rintro ρ m ⟨rfl, x7, rfl, hc⟩
    refine sret (n1 := m) (d := .none) (by simp) ⟨?_, rfl⟩
    rw [List.getElem?_eq_none (by rw [rowOf_len]; exact hc)]
    rfl
/-- the width of all pieces that end at a place or ahead -/
noncomputable def colOf (w : Wds) (t c : List Nat) (place : Nat) : Nat := (((c.dropLast.zip c.tail).filter fun p => decide (p.2 ≤ place)).map fun p => pwM w ((t.drop p.1).take (p.2 - p.1))).sum
theorem colof_ok (ks : List (Nat × Nat)) (rules : List Rule) (w : Wds) (t : List Nat) (place n : Nat) (hl : t.length ≤ 24) (hp : place ≤ t.length) (hi : ∀ r ∈ rules, okR r) :
    Fn_column_of [.d (encKs ks), .d (encRs rules), .d (encWds w), .d (T t), .d (encN place)] n = .ok (encN (colOf w t (cutsM (rowM ks t) rules) place)) n := by
  refine run_to (ρ0 := [some (.d (encKs ks)), some (.d (encRs rules)), some (.d (encWds w)), some (.d (T t)), some (.d (encN place)), none, none, none, none, none]) rfl ?_
  unfold g_column_of
  have hz : t.length ≤ sizeLine := size_ok (by omega)
  have hc := cuts_ok ks rules t n hl hi
  have hcl := cutsM_len (rowM ks t) rules
  rw [rowM_len] at hcl
  generalize cutsM (rowM ks t) rules = c at hc hcl ⊢
  refine sno (n1 := n) (by simp [encN, hz, hp]) ?_
  refine sq (ρ1 := [some (.d (encKs ks)), some (.d (encRs rules)), some (.d (encWds w)), some (.d (T t)), some (.d (encN place)), some (.d (.tuple (c.map encN))), none, none, none, none]) (n1 := n) (by simp [hc]) ?_
  obtain ⟨Z, hZ⟩ : ∃ Z, Z = (c.dropLast.zip c.tail).filter fun p => decide (p.2 ≤ place) := ⟨_, rfl⟩
  have hZl : Z.length ≤ 100 := by
    rw [hZ]
    have := List.length_filter_le (fun p : Nat × Nat => decide (p.2 ≤ place)) (c.dropLast.zip c.tail)
    rw [List.length_zip, List.length_dropLast] at this
    omega
  have ez : gZip (aCons (cSl (cVar 5) gNoPart (gPart (c1 opNeg (cC (.int 1))))) (aCons (cSl (cVar 5) (gPart (cC (.int 1))) gNoPart) aNil)) [some (.d (encKs ks)), some (.d (encRs rules)), some (.d (encWds w)), some (.d (T t)), some (.d (encN place)), some (.d (.tuple (c.map encN))), none, none, none, none] n
      = .ok ((c.dropLast.zip c.tail).map fun p => (PyData.tuple [encN p.1, encN p.2] : D)) n := by
    rw [← zip_N]
    simp only [e_gZip, e_aCons, e_cSl, e_cVar, e_gNoPart, e_gPart, e_c1, e_cC, e_aNil, List.getElem?_cons_succ, List.getElem?_cons_zero, Res.bind_ok, x_neg, Res.lift_some, x_part, x_sl_tup, e_asDs, e_dsCons, e_dsNil, Option.map_some, x_zip_tt, cutL_init, cutL_tail]
    rw [List.map_dropLast, List.map_tail]
  have lc : cLc [7, 8] (tgP [(tgN 7), (tgN 8)]) (gZip (aCons (cSl (cVar 5) gNoPart (gPart (c1 opNeg (cC (.int 1))))) (aCons (cSl (cVar 5) (gPart (cC (.int 1))) gNoPart) aNil))) (cB (c2 opLe (cVar 8) (cVar 4))) (cSl (cVar 3) (gPart (cVar 7)) (gPart (cVar 8))) [some (.d (encKs ks)), some (.d (encRs rules)), some (.d (encWds w)), some (.d (T t)), some (.d (encN place)), some (.d (.tuple (c.map encN))), none, none, none, none] n
      = .ok ((Z.map fun p => (t.drop p.1).take (p.2 - p.1)).map T) n := by
    rw [hZ, List.map_map]
    exact e_lcf (fun p : Nat × Nat => (PyData.tuple [encN p.1, encN p.2] : D)) (fun p => decide (p.2 ≤ place)) _ (c.dropLast.zip c.tail) ez (by rw [List.length_zip, List.length_dropLast]; omega) fun p hp =>
      ⟨[some (.d (encKs ks)), some (.d (encRs rules)), some (.d (encWds w)), some (.d (T t)), some (.d (encN place)), some (.d (.tuple (c.map encN))), none, some (.d (encN p.1)), some (.d (encN p.2)), none], rfl, by simp [encN], fun _ => by simp [encN, hz, cutL_mid]⟩
  obtain ⟨Y, hY⟩ : ∃ Y, Y = Z.map fun p => (t.drop p.1).take (p.2 - p.1) := ⟨_, rfl⟩
  rw [← hY] at lc
  have hYl : Y.length ≤ 100 := by rw [hY, List.length_map]; exact hZl
  have hYs : ∀ y ∈ Y, y.length ≤ 24 := fun y hy => by
    rw [hY] at hy
    obtain ⟨p, _, rfl⟩ := List.mem_map.mp hy
    rw [List.length_take, List.length_drop]
    omega
  refine sq (ρ1 := [some (.d (encKs ks)), some (.d (encRs rules)), some (.d (encWds w)), some (.d (T t)), some (.d (encN place)), some (.d (.tuple (c.map encN))), some (.d (.list (Y.map T))), none, none, none]) (n1 := n) (by rw [e_sSet, e_cF, lc]; rfl) ?_
  have lc2 : cLc [9] (tgN 9) (gItems (cVar 6)) bYes (cCall 2 Fn_piece_width (aVar 2 (aVar 9 aNil))) [some (.d (encKs ks)), some (.d (encRs rules)), some (.d (encWds w)), some (.d (T t)), some (.d (encN place)), some (.d (.tuple (c.map encN))), some (.d (.list (Y.map T))), none, none, none] n = .ok (Y.map fun p => encN (pwM w p)) n :=
    e_lcm T _ Y (by simp) (by omega) fun p hpm => ⟨[some (.d (encKs ks)), some (.d (encRs rules)), some (.d (encWds w)), some (.d (T t)), some (.d (encN place)), some (.d (.tuple (c.map encN))), some (.d (.list (Y.map T))), none, none, some (.d (T p))], rfl, by
      have := pw_ok w p n (by have := hYs p hpm; omega)
      simp [this]⟩
  have hs := x_sum_n (f := pwM w) (l := Y)
  have hd : colOf w t c place = (Y.map (pwM w)).sum := by rw [hY, hZ, List.map_map]; rfl
  rw [hd]
  exact sret (n1 := n) (d := encN (Y.map (pwM w)).sum) (by simp only [e_cBt, e_aCons, e_aNil, e_cF, lc2, Res.bind_ok, e_asDs, e_dsCons, e_dsNil, Option.map_some, Res.lift_some, hs]) ⟨rfl, rfl⟩
end W

/-! columns: plain laws -/
namespace W
open PySem PySem.Spec PyProof.Rows L2 G
section
variable (w : Wds) (t : List Nat)
theorem col_cons (a b : Nat) (r : List Nat) (q : Nat) : colOf w t (a :: b :: r) q = (if b ≤ q then pwM w ((t.drop a).take (b - a)) else 0) + colOf w t (b :: r) q := by
  have e : colOf w t (a :: b :: r) q = ((((a, b) :: ((b :: r).dropLast.zip (b :: r).tail)).filter fun p => decide (p.2 ≤ q)).map fun p => pwM w ((t.drop p.1).take (p.2 - p.1))).sum := rfl
  rw [e, List.filter_cons]
  by_cases h : b ≤ q
  · rw [if_pos (by simpa using h), if_pos h, List.map_cons, List.sum_cons]
    rfl
  · rw [if_neg (by simpa using h), if_neg h, Nat.zero_add]
    rfl
theorem col_one (a q : Nat) : colOf w t [a] q = 0 := rfl
theorem col_nil (q : Nat) : colOf w t [] q = 0 := rfl
theorem sumW_cons (p : List Nat) (ps : List (List Nat)) : sumW w (p :: ps) = pwM w p + sumW w ps := by
  unfold sumW
  simp
theorem col_low : ∀ (r : List Nat) (a q : Nat), (a :: r).Pairwise (· < ·) → (∀ b ∈ r, q < b) → colOf w t (a :: r) q = 0
  | [], a, q, _, _ => rfl
  | b :: r, a, q, h, hb => by
    have h1 := hb b List.mem_cons_self
    rw [col_cons, if_neg (by omega), col_low r b q (List.pairwise_cons.mp h).2 fun x hx => hb x (List.mem_cons_of_mem _ hx)]
theorem col_at : ∀ (i : Nat) (r : List Nat) (a x : Nat), (a :: r).Pairwise (· < ·) → (a :: r)[i]? = some x → colOf w t (a :: r) x = sumW w ((piecesM t (a :: r)).take i)
  | 0, r, a, x, h, hx => by
    rw [List.getElem?_cons_zero] at hx
    cases hx
    rw [col_low w t r a a h fun b hb => (List.pairwise_cons.mp h).1 b hb]
    rfl
  | i + 1, [], a, x, h, hx => by
    rw [List.getElem?_cons_succ] at hx
    simp at hx
  | i + 1, b :: r, a, x, h, hx => by
    rw [List.getElem?_cons_succ] at hx
    have h2 := (List.pairwise_cons.mp h).2
    have hb : b ≤ x := by
      cases i with
      | zero =>
        rw [List.getElem?_cons_zero] at hx
        cases hx
        exact Nat.le_refl _
      | succ i =>
        rw [List.getElem?_cons_succ] at hx
        exact Nat.le_of_lt ((List.pairwise_cons.mp h2).1 x (List.mem_of_getElem? hx))
    rw [col_cons, if_pos hb, col_at i r b x h2 hx, pieces_cons, List.take_succ_cons, sumW_cons]
theorem col_in : ∀ (i : Nat) (r : List Nat) (a x y q : Nat), (a :: r).Pairwise (· < ·) → (a :: r)[i]? = some x → (a :: r)[i + 1]? = some y → x ≤ q → q < y → colOf w t (a :: r) q = sumW w ((piecesM t (a :: r)).take i)
  | 0, r, a, x, y, q, h, hx, hy, h1, h2 => by
    have hlow : ∀ b ∈ r, q < b := fun b hb => by
      cases r with
      | nil => cases hb
      | cons c r =>
        rw [List.getElem?_cons_succ, List.getElem?_cons_zero] at hy
        cases hy
        rcases List.mem_cons.mp hb with z | z
        · omega
        · have := (List.pairwise_cons.mp (List.pairwise_cons.mp h).2).1 b z
          omega
    rw [col_low w t r a q h hlow]
    rfl
  | i + 1, [], a, x, y, q, h, hx, hy, h1, h2 => by
    rw [List.getElem?_cons_succ] at hx
    simp at hx
  | i + 1, b :: r, a, x, y, q, h, hx, hy, h1, h2 => by
    rw [List.getElem?_cons_succ] at hx hy
    have hp := (List.pairwise_cons.mp h).2
    have hb : b ≤ x := by
      cases i with
      | zero =>
        rw [List.getElem?_cons_zero] at hx
        cases hx
        exact Nat.le_refl _
      | succ i =>
        rw [List.getElem?_cons_succ] at hx
        exact Nat.le_of_lt ((List.pairwise_cons.mp hp).1 x (List.mem_of_getElem? hx))
    rw [col_cons, if_pos (by omega), col_in i r b x y q hp hx hy h1 h2, pieces_cons, List.take_succ_cons, sumW_cons]
theorem col_mono : ∀ (c : List Nat) {q q' : Nat}, q ≤ q' → colOf w t c q ≤ colOf w t c q'
  | [], _, _, _ => Nat.le_refl _
  | [a], _, _, _ => Nat.le_refl _
  | a :: b :: r, q, q', h => by
    have ih := col_mono (b :: r) h
    rw [col_cons, col_cons]
    by_cases h1 : b ≤ q
    · rw [if_pos h1, if_pos (by omega)]
      omega
    · rw [if_neg h1]
      omega
end
/-- the columns of all places -/
noncomputable def colsM (w : Wds) (t c : List Nat) : List Nat := (List.range (t.length + 1)).map (colOf w t c)
theorem cols_at (w : Wds) (t c : List Nat) {q : Nat} (h : q ≤ t.length) : (colsM w t c)[q]? = some (colOf w t c q) := by
  unfold colsM
  rw [List.getElem?_map, List.getElem?_range (by omega)]
  rfl
theorem cols_rise (w : Wds) (t c : List Nat) : (colsM w t c).Pairwise (· ≤ ·) := by
  unfold colsM
  rw [List.pairwise_map]
  exact (List.pairwise_lt_range (n := t.length + 1)).imp fun h => col_mono w t c (Nat.le_of_lt h)
theorem cols_seg (w : Wds) (t c : List Nat) {x y v : Nat} (hy : y ≤ t.length + 1) (h : ∀ q, x ≤ q → q < y → colOf w t c q = v) : ((colsM w t c).drop x).take (y - x) = List.replicate (y - x) v := by
  unfold colsM
  rw [← List.map_drop, ← List.map_take]
  by_cases hx : x ≤ y
  · refine List.eq_replicate_iff.mpr ⟨by rw [List.length_map, List.length_take, List.length_drop, List.length_range]; omega, fun b hb => ?_⟩
    obtain ⟨q, hq, rfl⟩ := List.mem_map.mp hb
    obtain ⟨j, hj⟩ := List.mem_iff_getElem?.mp hq
    rw [List.getElem?_take] at hj
    split at hj
    · rename_i hlt
      rw [List.getElem?_drop, List.getElem?_range (by omega)] at hj
      cases hj
      exact h _ (by omega) (by omega)
    · cases hj
  · rw [show y - x = 0 by omega]
    rfl
/-! ### the piece at a column -/
theorem row_at (w : Wds) : ∀ (ps : List (List Nat)) (a col place : Nat), (rowOf w a ps)[col]? = some place → ∃ i p, ps[i]? = some p ∧ place = a + (ps.take i).flatten.length ∧ sumW w (ps.take i) ≤ col ∧ col < sumW w (ps.take i) + pwM w p
  | [], a, col, place, h => by simp [rowOf] at h
  | p :: r, a, col, place, h => by
    rw [rowOf_cons] at h
    by_cases hc : col < pwM w p
    · rw [List.getElem?_append_left (by rw [List.length_replicate]; exact hc), List.getElem?_replicate, if_pos hc] at h
      cases h
      exact ⟨0, p, rfl, rfl, Nat.zero_le _, by simpa [sumW] using hc⟩
    · rw [List.getElem?_append_right (by rw [List.length_replicate]; omega), List.length_replicate] at h
      obtain ⟨i, p', h1, h2, h3, h4⟩ := row_at w r _ _ _ h
      refine ⟨i + 1, p', h1, ?_, ?_, ?_⟩
      · rw [List.take_succ_cons, List.flatten_cons, List.length_append, h2]
        omega
      · rw [List.take_succ_cons, sumW_cons]
        omega
      · rw [List.take_succ_cons, sumW_cons]
        omega
theorem wd_find : ∀ {ks : Wds} (c : Nat), (ks.map (·.1)).Nodup → wdM ks c = ((ks.find? fun p => decide (p.1 = c)).map (·.2)).getD 1 := by
  intro ks c h
  have e := wd_is ks c
  have put_new : ∀ (kvs : List (Key × D)) (k : Key) (v : D), k ∉ kvs.map (·.1) → putD kvs k v = kvs ++ [(k, v)] := fun kvs k v h => by
    unfold putD
    rw [if_neg]
    intro z
    obtain ⟨p, hp, e⟩ := List.any_eq_true.mp z
    exact h (List.mem_map.mpr ⟨p, hp, of_decide_eq_true e⟩)
  have merge_nd : ∀ (more kvs : List (Key × D)), (more.map (·.1)).Nodup → (∀ p ∈ more, p.1 ∉ kvs.map (·.1)) → mergeD kvs more = kvs ++ more := by
    intro more
    induction more with
    | nil => intro kvs _ _; exact (List.append_nil _).symm
    | cons p r ih =>
      intro kvs h1 h2
      rw [List.map_cons, List.nodup_cons] at h1
      show mergeD (putD kvs p.1 p.2) r = _
      rw [put_new _ _ _ (h2 p List.mem_cons_self), ih _ h1.2 fun q hq z => ?_]
      · simp
      · rw [List.map_append] at z
        rcases List.mem_append.mp z with z | z
        · exact h2 q (List.mem_cons_of_mem _ hq) z
        · simp at z
          exact h1.1 (z ▸ List.mem_map.mpr ⟨q, hq, rfl⟩)
  have keyInj : ∀ a b : Nat, keyN a = keyN b → a = b := fun a b e => by
    unfold keyN at e
    simpa using e
  have ht : tableW ks = ks.map pairW := by
    unfold tableW
    rw [merge_nd _ _ ?_ (by simp), List.nil_append]
    rw [List.map_map]
    show (ks.map fun p => keyN p.1).Nodup
    rw [show (ks.map fun p => keyN p.1) = (ks.map (·.1)).map keyN by rw [List.map_map]; rfl]
    exact List.Pairwise.map keyN (fun a b hab e => hab (keyInj a b e)) h
  rw [ht] at e
  have hT : ∀ a b : Nat, encN a = encN b → a = b := fun a b e => by
    unfold encN at e
    have e' : (a : Int) = (b : Int) := by simpa using e
    omega
  apply hT
  rw [← e]
  unfold lookD
  clear e ht h
  induction ks with
  | nil => rfl
  | cons p r ih =>
    rw [List.map_cons]
    by_cases hp : p.1 = c
    · rw [List.find?_cons_of_pos (by show decide (keyN p.1 = keyN c) = true; rw [hp]; simp), List.find?_cons_of_pos (by simpa using hp)]
      rfl
    · rw [List.find?_cons_of_neg (by
        show ¬ decide (keyN p.1 = keyN c) = true
        simp only [decide_eq_true_eq]
        exact fun z => hp (keyInj _ _ z)), List.find?_cons_of_neg (by simpa using hp)]
      exact ih
/-! ### one width for all signs -/
def oneW (t : List Nat) (k : Nat) : Wds := (upC t).map fun c => (c, k)
theorem one_nd (t : List Nat) (k : Nat) : ((oneW t k).map (·.1)).Nodup := by
  unfold oneW
  rw [List.map_map, show ((fun p : Nat × Nat => p.1) ∘ fun c => (c, k)) = id from rfl, List.map_id]
  exact (rise_upC t).imp fun h => by omega
theorem one_wd {t : List Nat} {k c : Nat} (hc : c ∈ t) : wdM (oneW t k) c = k := by
  rw [wd_find c (one_nd t k)]
  obtain ⟨p, hp⟩ : ∃ p, (oneW t k).find? (fun p => decide (p.1 = c)) = some p := by
    cases h : (oneW t k).find? (fun p => decide (p.1 = c)) with
    | some p => exact ⟨p, rfl⟩
    | none =>
      have := List.find?_eq_none.mp h (c, k) (List.mem_map.mpr ⟨c, (mem_upC c t).mpr hc, rfl⟩)
      simp at this
  rw [hp]
  have hm := List.mem_of_find?_eq_some hp
  obtain ⟨d, _, rfl⟩ := List.mem_map.mp hm
  rfl
theorem one_pw {t p : List Nat} {k : Nat} (hp : ∀ c ∈ p, c ∈ t) (hne : p ≠ []) : pwM (oneW t k) p = k := by
  have e : p.map (wdM (oneW t k)) = p.map fun _ => k := List.map_congr_left fun c hc => one_wd (hp c hc)
  unfold pwM
  rw [e]
  have h1 := maxN_ge (p.map fun _ => k) 0
  rcases maxN_mem (p.map fun _ => k) 0 with h | h
  · obtain ⟨c, hc⟩ := List.exists_mem_of_ne_nil p hne
    have := h1.2 k (List.mem_map.mpr ⟨c, hc, rfl⟩)
    omega
  · obtain ⟨c, hc, e2⟩ := List.mem_map.mp h
    omega
theorem one_sum {t : List Nat} {k : Nat} : ∀ {ps : List (List Nat)}, (∀ p ∈ ps, p ≠ [] ∧ ∀ c ∈ p, c ∈ t) → (ps.map (pwM (oneW t k))).sum = k * ps.length
  | [], _ => by simp
  | p :: r, h => by
    rw [List.map_cons, List.sum_cons, one_sum (ps := r) fun x hx => h x (List.mem_cons_of_mem _ hx), one_pw (h p List.mem_cons_self).2 (h p List.mem_cons_self).1, List.length_cons, Nat.mul_succ]
    omega
/-! ### the widest sign -/
theorem maxN_tail (a : Nat) (l : List Nat) : maxN 0 (a :: l) = maxN a l := by
  unfold maxN
  rw [List.foldl_cons, Nat.max_eq_right (Nat.zero_le a)]
theorem pieces_ne (text : List Nat) : ∀ (r : List Nat) (a : Nat), (a :: r).Pairwise (· < ·) → (∀ x ∈ r, x ≤ text.length) → ∀ p ∈ piecesM text (a :: r), p ≠ []
  | [], a, _, _, p, hp => by rw [pieces_one] at hp; cases hp
  | b :: r, a, h, hl, p, hp => by
    rw [pieces_cons] at hp
    have h1 := (List.pairwise_cons.mp h).1 b List.mem_cons_self
    rcases List.mem_cons.mp hp with z | z
    · have hb := hl b List.mem_cons_self
      rw [z]
      intro e
      have := congrArg List.length e
      rw [List.length_take, List.length_drop] at this
      simp at this
      omega
    · exact pieces_ne text r b (List.pairwise_cons.mp h).2 (fun x hx => hl x (List.mem_cons_of_mem _ hx)) p z
end W

namespace W
open PySem PySem.Spec PyProof.Rows L2 G
theorem idx_at {c : List Nat} (h : c.Pairwise (· < ·)) : ∀ {i x : Nat}, c[i]? = some x → c.idxOf x = i := by
  induction c with
  | nil => intro i x hx; simp at hx
  | cons a r ih =>
    intro i x hx
    obtain ⟨h1, h2⟩ := List.pairwise_cons.mp h
    cases i with
    | zero =>
      rw [List.getElem?_cons_zero] at hx
      cases hx
      rw [List.idxOf_cons_self]
    | succ i =>
      rw [List.getElem?_cons_succ] at hx
      have := h1 x (List.mem_of_getElem? hx)
      rw [List.idxOf_cons, beq_eq_false_iff_ne.mpr (by omega), cond_false, ih h2 hx]
theorem insC_len (x : Nat) : ∀ l, (insC x l).length ≤ l.length + 1
  | [] => Nat.le_refl _
  | y :: r => by
    have := insC_len x r
    unfold insC
    split
    · simp
    · split
      · simp
      · simp; omega
theorem upC_len : ∀ l, (upC l).length ≤ l.length
  | [] => Nat.le_refl _
  | x :: r => by
    have := upC_len r
    have := insC_len x (upC r)
    show (insC x (upC r)).length ≤ _
    rw [List.length_cons]
    omega
theorem rep_flat1 (k : Nat) (x : D) : (List.replicate k [x]).flatten = List.replicate k x := by
  induction k with
  | zero => rfl
  | succ k ih => rw [List.replicate_succ, List.flatten_cons, ih]; rfl
theorem enum_zipW (f : List Nat → D) : ∀ (l : List (List Nat)) (k : Nat), enumFrom0 k (l.map f) = (l.zipIdx k).map fun p => .tuple [encN p.2, f p.1]
  | [], _ => rfl
  | a :: r, k => by
    rw [List.map_cons, List.zipIdx_cons, List.map_cons, ← enum_zipW f r (k + 1)]
    rfl
/-- the cuts of a text and its pieces -/
structure CP (t c : List Nat) (ps : List (List Nat)) : Prop where
  ps : ps = piecesM t c
  rise : c.Pairwise (· < ·)
  le : ∀ x ∈ c, x ≤ t.length
  nil : c = [] → t = []
  z : c ≠ [] → ∃ r, c = 0 :: r ∧ (0 :: r).getLast? = some t.length
theorem cp_of {row t : List Nat} (rules : List Rule) (h : row.length = t.length) : CP t (cutsM row rules) (piecesM t (cutsM row rules)) where
  ps := rfl
  rise := cuts_rise row rules
  le := fun x hx => by
    unfold cutsM at hx
    have := List.mem_range.mp (List.mem_filter.mp hx).1
    omega
  nil := fun e => by
    by_cases h0 : 0 < row.length
    · obtain ⟨r, e1, _⟩ := cuts_shape rules h0
      rw [e] at e1
      cases e1
    · exact List.eq_nil_of_length_eq_zero (by omega)
  z := fun e => by
    by_cases h0 : 0 < row.length
    · obtain ⟨r, e1, e2⟩ := cuts_shape rules h0
      exact ⟨r, e1, by rw [e2, h]⟩
    · exact (e (cuts_none rules (by omega))).elim
section
variable {t c : List Nat} {ps : List (List Nat)} (w : Wds) (h : CP t c ps)
include h
theorem CP.len : ps.length = c.length - 1 := by rw [h.ps, pieces_len]
theorem CP.ne : ∀ p ∈ ps, p ≠ [] := by
  intro p hp
  by_cases hc : c = []
  · rw [h.ps, hc] at hp; cases hp
  · obtain ⟨r, e, _⟩ := h.z hc
    rw [h.ps, e] at hp
    have hr := h.rise
    rw [e] at hr
    exact pieces_ne t r 0 hr (fun x hx => h.le x (by rw [e]; exact List.mem_cons_of_mem _ hx)) p hp
theorem CP.flat : ps.flatten = t := by
  by_cases hc : c = []
  · rw [h.ps, hc, h.nil hc]; rfl
  · obtain ⟨r, e, hl⟩ := h.z hc
    have hr := h.rise
    rw [e] at hr
    rw [h.ps, e, pieces_flat t r 0 hr hl]
    rfl
theorem CP.sub {p : List Nat} (hp : p ∈ ps) : p.length ≤ t.length ∧ ∀ x ∈ p, x ∈ t := by
  have hf := h.flat
  constructor
  · have : p.length ≤ ps.flatten.length := (List.sublist_flatten_of_mem hp).length_le
    rwa [hf] at this
  · intro x hx
    rw [← hf]
    exact List.mem_flatten.mpr ⟨p, hp, hx⟩
theorem CP.first : colOf w t c 0 = 0 := by
  by_cases hc : c = []
  · rw [hc]; rfl
  · obtain ⟨r, e, _⟩ := h.z hc
    have hr := h.rise
    rw [e] at hr ⊢
    rw [col_at w t 0 r 0 0 hr rfl]
    rfl
theorem CP.last : colOf w t c t.length = sumW w ps := by
  by_cases hc : c = []
  · rw [h.ps, hc]; rfl
  · obtain ⟨r, e, hl⟩ := h.z hc
    have hr := h.rise
    have hlen := h.len
    rw [e] at hr hlen
    have hx : (0 :: r)[r.length]? = some t.length := by
      rw [List.getLast?_eq_getElem?] at hl
      exact hl
    have := col_at w t r.length r 0 t.length hr hx
    rw [e, this, ← e, ← h.ps, List.take_of_length_le (by rw [hlen]; simp)]
theorem CP.at {i : Nat} {p : List Nat} (hi : ps[i]? = some p) : ∃ x y, c[i]? = some x ∧ c[i + 1]? = some y ∧ x < y ∧ y ≤ t.length ∧ x = (ps.take i).flatten.length ∧ colOf w t c x = sumW w (ps.take i) ∧ colOf w t c y = sumW w (ps.take i) + pwM w p ∧ ∀ q, x ≤ q → q < y → colOf w t c q = sumW w (ps.take i) := by
  have hlt : i < ps.length := (List.getElem?_eq_some_iff.mp hi).1
  have hlen := h.len
  obtain ⟨x, hx⟩ : ∃ x, c[i]? = some x := ⟨_, List.getElem?_eq_getElem (by omega)⟩
  obtain ⟨y, hy⟩ : ∃ y, c[i + 1]? = some y := ⟨_, List.getElem?_eq_getElem (by omega)⟩
  have hc : c ≠ [] := by intro e; rw [e] at hx; simp at hx
  obtain ⟨r, e, _⟩ := h.z hc
  have hr := h.rise
  have hxy : x < y := by
    have h1 := List.pairwise_iff_getElem.mp hr i (i + 1) (by omega) (by omega) (by omega)
    obtain ⟨_, e1⟩ := List.getElem?_eq_some_iff.mp hx
    obtain ⟨_, e2⟩ := List.getElem?_eq_some_iff.mp hy
    rw [e1, e2] at h1
    exact h1
  have hyl := h.le y (List.mem_of_getElem? hy)
  rw [e] at hr hx hy
  have h1 := col_at w t i r 0 x hr hx
  have h2 := col_at w t (i + 1) r 0 y hr hy
  have h3 := fun q => col_in w t i r 0 x y q hr hx hy
  have h4 := pieces_take t i r 0 x hr hx
  rw [← e, ← h.ps] at h1 h2 h3 h4
  refine ⟨x, y, by rw [e]; exact hx, by rw [e]; exact hy, hxy, hyl, ?_, h1, ?_, h3⟩
  · rw [h4, List.length_take, List.drop_zero]
    omega
  · rw [h2, List.take_add_one, hi]
    exact sumW_snoc w _ p
end
theorem law_true : LawTrue 19 g_law := law_of fun ns hns => by
  unfold g_law
  refine sat_seq ?_
  have e6 : ∀ ρ : G.Env, gRng fRng1 (aCons (cC (.int 6)) aNil) ρ 0 = .ok (rngL 0 6) 0 := fun ρ => e_rng1 (k := 6) rfl (by omega)
  simp only [e_sFor, e6, ofR_ok]
  refine sat_rng (fun i ρ n => n ≤ 1000 * i ∧ ∃ x2 x3 x4 x5 x6 x7 x8 x9 x10 x11 x12 x13 x14 x15 x16 x17 x18 x19 x20, ρ = [some (.scr ns), some .town, x2, x3, x4, x5, x6, x7, x8, x9, x10, x11, x12, x13, x14, x15, x16, x17, x18, x19, x20]) 0 6 ⟨by omega, _, _, _, _, _, _, _, _, _, _, _, _, _, _, _, _, _, _, _, rfl⟩ ?_ ?_
  · rintro i ρ n hi ⟨hn, x2, x3, x4, x5, x6, x7, x8, x9, x10, x11, x12, x13, x14, x15, x16, x17, x18, x19, x20, rfl⟩
    refine ⟨_, rfl, ?_⟩
    simp only [List.set_cons_succ, List.set_cons_zero]
    generalize some (L.d (PyData.int (0 + (i : Int)))) = x2
    obtain ⟨ks, n1, ek, b1, hks, hkl⟩ := lkinds_ok ns n (by omega)
    obtain ⟨rs, n2, er, b2, hrs, hrl⟩ := lrules_ok ns 7 n1 (by omega) (by omega)
    have er' : Fn_law_rules [.scr ns, .town, .d (.int 7)] n1 = .ok (encRs rs) n2 := er
    obtain ⟨w, n3, ew, b3, hw, w2, w3, w4⟩ := lwidths_ok ns n2 (by omega)
    obtain ⟨t, n4, et, b4, htc, htl⟩ := ltext_ok ns 14 n3 (by omega) (by omega)
    have et' : Fn_law_text [.scr ns, .town, .d (.int 14)] n3 = .ok (T t) n4 := et
    have hro : ∀ r ∈ rs, okR r := fun r hr => ltR_ok (hrs r hr)
    have hl14 : t.length ≤ 14 := by omega
    have hz : t.length ≤ sizeLine := size_ok (by omega)
    have hfl : fLen [T t] = some (.int (t.length : Int)) := by rw [x_len_T, if_pos hz]
    refine sq (n1 := n3) (by simp [ek, er', ew] <;> first | exact ⟨rfl, rfl⟩ | rfl) ?_
    refine sq (n1 := n4) (by simp [et'] <;> first | exact ⟨rfl, rfl⟩ | rfl) ?_
    have ecuts := cuts_ok ks rs t n4 (by omega) hro
    have epcs := pcs_ok ks rs t n4 (by omega) hro
    have hcp := cp_of rs (rowM_len ks t)
    have hcol := fun (q : Nat) (hq : q ≤ t.length) => colof_ok ks rs w t q n4 (by omega) hq hro
    have hat := fun (W : Wds) (col : Nat) => atcol_ok ks rs W t col n4 (by omega) hro
    have hwid : ∀ W, Fn_width [.d (encKs ks), .d (encRs rs), .d (encWds W), .d (T t)] n4 = .ok (encN (sumW W (piecesM t (cutsM (rowM ks t) rs)))) n4 := fun W => wid_ok ks rs W t n4 (by omega) hro
    have hpw := fun (p : List Nat) (hp : p.length ≤ 14) => pw_ok w p n4 (by omega)
    unfold piecesOf at epcs hat
    generalize piecesM t (cutsM (rowM ks t) rs) = ps at epcs hcp hat hwid
    generalize cutsM (rowM ks t) rs = c at ecuts hcp hcol
    refine sq (ρ1 := [some (.scr ns), some .town, x2, some (.d (encKs ks)), some (.d (encRs rs)), some (.d (encWds w)), some (.d (T t)), some (.d (.tuple (c.map encN))), some (.d (.tuple (ps.map T))), x9, x10, x11, x12, x13, x14, x15, x16, x17, x18, x19, x20]) (n1 := n4) (by simp [ecuts, epcs] <;> rfl) ?_
    have hpne := hcp.ne
    have hpsub := fun p hp => hcp.sub (p := p) hp
    have hpl : ps.length ≤ 14 := by
      have h1 := hcp.flat
      have h2 : ∀ qs : List (List Nat), (∀ p ∈ qs, p ≠ []) → qs.length ≤ qs.flatten.length := by
        intro qs
        induction qs with
        | nil => intro _; simp
        | cons p r ih =>
          intro hq
          have h3 := ih fun x hx => hq x (List.mem_cons_of_mem _ hx)
          have h4 := List.length_pos_iff.mpr (hq p List.mem_cons_self)
          rw [List.flatten_cons, List.length_append, List.length_cons]
          omega
      have h3 := h2 ps hpne
      rw [h1] at h3
      omega
    -- the widths of the pieces
    have lc9 : ∀ x2 x9 x10 x11 x12 x13 x14 x15 x16 x17 x18 x19 x20, cLc [10] (tgN 10) (gItems (cVar 8)) bYes (cCall 2 Fn_piece_width (aVar 5 (aVar 10 aNil))) [some (.scr ns), some .town, x2, some (.d (encKs ks)), some (.d (encRs rs)), some (.d (encWds w)), some (.d (T t)), some (.d (.tuple (c.map encN))), some (.d (.tuple (ps.map T))), x9, x10, x11, x12, x13, x14, x15, x16, x17, x18, x19, x20] n4 = .ok (ps.map fun p => encN (pwM w p)) n4 := fun x2 x9 x10 x11 x12 x13 x14 x15 x16 x17 x18 x19 x20 =>
      e_lcm T _ ps (by simp) (by omega) fun p hp => ⟨[some (.scr ns), some .town, x2, some (.d (encKs ks)), some (.d (encRs rs)), some (.d (encWds w)), some (.d (T t)), some (.d (.tuple (c.map encN))), some (.d (.tuple (ps.map T))), x9, some (.d (T p)), x11, x12, x13, x14, x15, x16, x17, x18, x19, x20], rfl, by
        have := hpw p (by have := (hpsub p hp).1; omega)
        simp [this]⟩
    refine sq (ρ1 := [some (.scr ns), some .town, x2, some (.d (encKs ks)), some (.d (encRs rs)), some (.d (encWds w)), some (.d (T t)), some (.d (.tuple (c.map encN))), some (.d (.tuple (ps.map T))), some (.d (.list (ps.map fun p => encN (pwM w p)))), x10, x11, x12, x13, x14, x15, x16, x17, x18, x19, x20]) (n1 := n4) (by rw [e_sSet, e_cF, lc9]; rfl) ?_
    have lc10 : cLc [10] (tgN 10) (gItems (cVar 8)) bYes (cBt (fBest PySem.W.maxD) (aCons (cF (cLc [11] (tgN 11) (gItems (cVar 10)) bYes (cCall 2 Fn_piece_width (aVar 5 (aVar 11 aNil))))) aNil)) [some (.scr ns), some .town, x2, some (.d (encKs ks)), some (.d (encRs rs)), some (.d (encWds w)), some (.d (T t)), some (.d (.tuple (c.map encN))), some (.d (.tuple (ps.map T))), some (.d (.list (ps.map fun p => encN (pwM w p)))), x10, x11, x12, x13, x14, x15, x16, x17, x18, x19, x20] n4 = .ok (ps.map fun p => encN (pwM w p)) n4 :=
      e_lcm T _ ps (by simp) (by omega) fun p hp => ⟨[some (.scr ns), some .town, x2, some (.d (encKs ks)), some (.d (encRs rs)), some (.d (encWds w)), some (.d (T t)), some (.d (.tuple (c.map encN))), some (.d (.tuple (ps.map T))), some (.d (.list (ps.map fun p => encN (pwM w p)))), some (.d (T p)), x11, x12, x13, x14, x15, x16, x17, x18, x19, x20], rfl, by
        have hlp := (hpsub p hp).1
        have lc11 : cLc [11] (tgN 11) (gItems (cVar 10)) bYes (cCall 2 Fn_piece_width (aVar 5 (aVar 11 aNil))) [some (.scr ns), some .town, x2, some (.d (encKs ks)), some (.d (encRs rs)), some (.d (encWds w)), some (.d (T t)), some (.d (.tuple (c.map encN))), some (.d (.tuple (ps.map T))), some (.d (.list (ps.map fun p => encN (pwM w p)))), some (.d (T p)), x11, x12, x13, x14, x15, x16, x17, x18, x19, x20] n4 = .ok ((p.map (wdM w)).map encN) n4 := by
          rw [List.map_map]
          refine e_lcm (fun c => T [c]) _ p (by simp) (by omega) fun z hz2 => ⟨[some (.scr ns), some .town, x2, some (.d (encKs ks)), some (.d (encRs rs)), some (.d (encWds w)), some (.d (T t)), some (.d (.tuple (c.map encN))), some (.d (.tuple (ps.map T))), some (.d (.list (ps.map fun p => encN (pwM w p)))), some (.d (T p)), some (.d (T [z])), x12, x13, x14, x15, x16, x17, x18, x19, x20], rfl, ?_⟩
          have := hpw [z] (by simp)
          rw [pw_one] at this
          simp [this]
        cases p with
        | nil => exact (hpne [] hp rfl).elim
        | cons a r =>
          have hm := x_max_N (wdM w a) (r.map (wdM w))
          have hm2 : fBest PySem.W.maxD [.list (((a :: r).map (wdM w)).map encN)] = some (encN (pwM w (a :: r))) := by
            rw [List.map_cons, List.map_cons, hm]
            congr 2 <;> exact (maxN_tail _ _).symm
          generalize ((a :: r).map (wdM w)).map encN = Q at lc11 hm2
          simp only [e_cBt, e_aCons, e_aNil, e_cF, lc11, Res.bind_ok, e_asDs, e_dsCons, e_dsNil, Option.map_some, Res.lift_some, hm2]⟩
    have okL : okD 60 (.list (ps.map fun p => encN (pwM w p))) := okD_lm (k := 59) fun _ _ => okD_i
    have neL := x_ne_self okL
    refine sno (n1 := n4) (by
      simp only [e_cB, e_c2, e_cVar, List.getElem?_cons_succ, List.getElem?_cons_zero, Res.bind_ok, e_cF, lc10, neL, Res.lift_some]
      rfl) ?_
    have hsum : fSum [.list (ps.map fun p => encN (pwM w p))] = some (encN (sumW w ps)) := x_sum_n (f := pwM w) (l := ps)
    have hw0 : Fn_piece_width [.d (encWds w), .d (T [])] n4 = .ok (.int 0) n4 := hpw [] (by simp)
    have neS : opNe (encN (sumW w ps)) (encN (sumW w ps)) = some (.bool false) := x_ne_self okD_i
    have ne0 : opNe (.int 0) (.int 0) = some (.bool false) := x_ne_self okD_i
    have hwid0 := hwid w
    have hsle : sumW w ps ≤ 56 := by
      have := sum_le4 hw ps
      unfold sumW
      omega
    obtain ⟨SZ, hSZ⟩ : ∃ SZ, SZ = ps.map fun p => encN (pwM w p) := ⟨_, rfl⟩
    rw [← hSZ] at hsum
    rw [← hSZ]
    refine sno (n1 := n4) (by simp [hwid0, hsum, hw0, neS, ne0]) ?_
    -- the columns
    have lc12 : cLc [13] (tgN 13) (gRng fRng1 (aCons (c2 opAdd (cBt fLen (aVar 6 aNil)) (cC (.int 1))) aNil)) bYes (cCall 5 Fn_column_of (aVar 3 (aVar 4 (aVar 5 (aVar 6 (aVar 13 aNil)))))) [some (.scr ns), some .town, x2, some (.d (encKs ks)), some (.d (encRs rs)), some (.d (encWds w)), some (.d (T t)), some (.d (.tuple (c.map encN))), some (.d (.tuple (ps.map T))), some (.d (.list SZ)), x10, x11, x12, x13, x14, x15, x16, x17, x18, x19, x20] n4 = .ok ((colsM w t c).map encN) n4 := by
      unfold colsM
      rw [List.map_map]
      refine e_lcm encN _ (List.range (t.length + 1)) ?_ (by rw [List.length_range]; omega) fun q hq => ⟨[some (.scr ns), some .town, x2, some (.d (encKs ks)), some (.d (encRs rs)), some (.d (encWds w)), some (.d (T t)), some (.d (.tuple (c.map encN))), some (.d (.tuple (ps.map T))), some (.d (.list SZ)), x10, x11, x12, some (.d (encN q)), x14, x15, x16, x17, x18, x19, x20], rfl, ?_⟩
      · rw [← rng_N]
        exact e_rng1 (k := t.length + 1) (by simp [hz]) (by omega)
      · have := hcol q (by have := List.mem_range.mp hq; omega)
        simp [this]
    have hcat := fun {q : Nat} (hq : q ≤ t.length) => cols_at w t c hq
    have hcsort := sortN_self (cols_rise w t c)
    have hcseg := fun {x y v : Nat} => cols_seg w t c (x := x) (y := y) (v := v)
    have hc0 := hcp.first w
    have hcl := hcp.last w
    have hclast : atI ((colsM w t c).map encN) (-1) = some (encN (sumW w ps)) := by
      unfold colsM
      rw [List.range_succ, List.map_append, List.map_append, ← hcl]
      exact atI_neg1 _ _
    have hci := fun (i : Nat) (p : List Nat) (hi : ps[i]? = some p) => hcp.at w hi
    have hatC : ∀ q, q ≤ t.length → opIx (.list ((colsM w t c).map encN)) (.int (q : Int)) = some (encN (colOf w t c q)) := fun q hq => atI_nat (by rw [List.getElem?_map, hcat hq]; rfl)
    refine sq (ρ1 := [some (.scr ns), some .town, x2, some (.d (encKs ks)), some (.d (encRs rs)), some (.d (encWds w)), some (.d (T t)), some (.d (.tuple (c.map encN))), some (.d (.tuple (ps.map T))), some (.d (.list SZ)), x10, x11, some (.d (.list ((colsM w t c).map encN))), x13, x14, x15, x16, x17, x18, x19, x20]) (n1 := n4) (by rw [e_sSet, e_cF, lc12]; rfl) ?_
    have okC : okD 60 (.list ((colsM w t c).map encN)) := okD_lm (k := 59) fun _ _ => okD_i
    have neC := x_ne_self okC
    have hsC : fSortA [.list ((colsM w t c).map encN)] = some ((colsM w t c).map encN) := by rw [x_sortA_l, x_sort_N, hcsort]
    have hix0 : opIx (.list ((colsM w t c).map encN)) (.int 0) = some (.int 0) := by
      have := hatC 0 (by omega)
      rw [hc0] at this
      exact this
    have hixl : opIx (.list ((colsM w t c).map encN)) (.int (-1)) = some (encN (sumW w ps)) := hclast
    have hslC : ∀ x y v : Nat, y ≤ t.length + 1 → (∀ q, x ≤ q → q < y → colOf w t c q = v) → opSl (.list ((colsM w t c).map encN)) (some (x : Int)) (some (y : Int)) = some (.list (List.replicate (y - x) (encN v))) := fun x y v hy hq => by
      rw [x_sl_lst, cutL_mid, ← List.map_drop, ← List.map_take, hcseg hy hq, List.map_replicate]
    obtain ⟨CC, hCC⟩ : ∃ CC, CC = (colsM w t c).map encN := ⟨_, rfl⟩
    rw [← hCC] at neC hsC hix0 hixl hslC hatC
    rw [← hCC]
    refine sno (n1 := n4) (by simp [hsC, neC, hix0, ne0, hixl, hsum, neS, -x_ix_lst, -x_sortA_l]) ?_
    -- from cut to cut
    refine sat_seq (Out.Sat.mono (N := fun ρ k => k = n4 ∧ ∃ x14 x15 x16 x17, ρ = [some (.scr ns), some .town, x2, some (.d (encKs ks)), some (.d (encRs rs)), some (.d (encWds w)), some (.d (T t)), some (.d (.tuple (c.map encN))), some (.d (.tuple (ps.map T))), some (.d (.list SZ)), x10, x11, some (.d (.list CC)), x13, x14, x15, x16, x17, x18, x19, x20]) ?_ ?_ (fun _ _ h => h) (fun _ _ h => h) (fun _ _ h => h))
    · have it : gEnumerate (aVar 9 aNil) [some (.scr ns), some .town, x2, some (.d (encKs ks)), some (.d (encRs rs)), some (.d (encWds w)), some (.d (T t)), some (.d (.tuple (c.map encN))), some (.d (.tuple (ps.map T))), some (.d (.list SZ)), x10, x11, some (.d (.list CC)), x13, x14, x15, x16, x17, x18, x19, x20] n4 = .ok (ps.zipIdx.map fun p => (PyData.tuple [encN p.2, encN (pwM w p.1)] : D)) n4 := by
        rw [hSZ, ← enum_zipW (fun p => encN (pwM w p)) ps 0]
        simp
      simp only [e_sFor, it, ofR_ok]
      refine sat_for (fun p : List Nat × Nat => (PyData.tuple [encN p.2, encN (pwM w p.1)] : D)) (fun pre ρ k => k = n4 ∧ ∃ x14 x15 x16 x17, ρ = [some (.scr ns), some .town, x2, some (.d (encKs ks)), some (.d (encRs rs)), some (.d (encWds w)), some (.d (T t)), some (.d (.tuple (c.map encN))), some (.d (.tuple (ps.map T))), some (.d (.list SZ)), x10, x11, some (.d (.list CC)), x13, x14, x15, x16, x17, x18, x19, x20]) ps.zipIdx ⟨rfl, _, _, _, _, rfl⟩ ?_ ?_
      · rintro pre ⟨p, i⟩ post ρ k e ⟨hk, x14, x15, x16, x17, rfl⟩
        have hk2 := hk.symm
        subst hk2
        have hmem : (p, i) ∈ ps.zipIdx := by rw [e]; simp
        have hpi : ps[i]? = some p := by
          have := List.mem_zipIdx hmem
          rw [List.getElem?_eq_getElem (by omega)]
          congr 1
          simpa using this.2.2.symm
        obtain ⟨x, y, hx, hy, hxy, hyl, _, cx, cy, cq⟩ := hci i p hpi
        refine ⟨[some (.scr ns), some .town, x2, some (.d (encKs ks)), some (.d (encRs rs)), some (.d (encWds w)), some (.d (T t)), some (.d (.tuple (c.map encN))), some (.d (.tuple (ps.map T))), some (.d (.list SZ)), x10, x11, some (.d (.list CC)), x13, some (.d (encN i)), some (.d (encN (pwM w p))), x16, x17, x18, x19, x20], rfl, ?_⟩
        have ex : opIx (.tuple (c.map encN)) (encN i) = some (encN x) := atI_nat (by rw [List.getElem?_map, hx]; rfl)
        have ey : opIx (.tuple (c.map encN)) (.int ((i : Int) + 1)) = some (encN y) := by
          show atI (c.map encN) _ = _
          rw [show (i : Int) + 1 = ((i + 1 : Nat) : Int) by omega]
          exact atI_nat (by rw [List.getElem?_map, hy]; rfl)
        have ei : opAdd (encN i) (.int 1) = some (.int ((i : Int) + 1)) := rfl
        refine sq (ρ1 := [some (.scr ns), some .town, x2, some (.d (encKs ks)), some (.d (encRs rs)), some (.d (encWds w)), some (.d (T t)), some (.d (.tuple (c.map encN))), some (.d (.tuple (ps.map T))), some (.d (.list SZ)), x10, x11, some (.d (.list CC)), x13, some (.d (encN i)), some (.d (encN (pwM w p))), some (.d (encN x)), some (.d (encN y)), x18, x19, x20]) (n1 := n4) (by
          generalize PyData.tuple (c.map encN) = CT at ex ey
          simp [ex, ei, ey]) ?_
        have f1 := hatC x (by omega)
        have f2 := hatC y hyl
        rw [cx] at f1
        rw [cy] at f2
        have f3 := hslC x y _ (by omega) cq
        have eadd : opAdd (encN (sumW w (ps.take i))) (encN (pwM w p)) = some (encN (sumW w (ps.take i) + pwM w p)) := by
          show some (PyData.int _) = some (PyData.int _)
          congr 2
        have esub : opSub (encN y) (encN x) = some (.int ((y : Int) - (x : Int))) := rfl
        have emul : opMulA (.list [encN (sumW w (ps.take i))]) (.int ((y : Int) - (x : Int))) = some (.list (List.replicate (y - x) (encN (sumW w (ps.take i))))) := by
          rw [x_mulA_l, x_mul_lst, if_pos ⟨by omega, by omega, by simp⟩, rep_flat1]
          congr 3
          omega
        have ne1 : opNe (encN (sumW w (ps.take i) + pwM w p)) (encN (sumW w (ps.take i) + pwM w p)) = some (.bool false) := x_ne_self okD_i
        have ne2 : opNe (.list (List.replicate (y - x) (encN (sumW w (ps.take i))))) (.list (List.replicate (y - x) (encN (sumW w (ps.take i))))) = some (.bool false) := x_ne_self (okD_l (k := 59) fun d hd => by rw [List.eq_of_mem_replicate hd]; exact okD_i)
        have pmx : partD (encN x) = some (some (x : Int)) := rfl
        have pmy : partD (encN y) = some (some (y : Int)) := rfl
        have g1 : opIx (.list CC) (encN x) = some (encN (sumW w (ps.take i))) := f1
        have g2 : opIx (.list CC) (encN y) = some (encN (sumW w (ps.take i) + pwM w p)) := f2
        generalize List.replicate (y - x) (encN (sumW w (ps.take i))) = RR at f3 emul ne2
        generalize encN (sumW w (ps.take i) + pwM w p) = v2 at g2 eadd ne1
        generalize encN (sumW w (ps.take i)) = v1 at g1 eadd emul
        generalize encN (pwM w p) = v0 at eadd
        refine snoE (n1 := n4) (by simp [g1, g2, eadd, ne1, pmx, pmy, f3, esub, emul, ne2, -x_ix_lst, -x_sl_lst, -x_mulA_l]) ⟨rfl, _, _, _, _, rfl⟩
      · rintro ρ k ⟨rfl, x14, x15, x16, x17, rfl⟩
        exact ⟨rfl, _, _, _, _, rfl⟩
    rintro ρ n5 ⟨hn5, x14, x15, x16, x17, rfl⟩
    have hn5' := hn5.symm
    subst hn5'
    -- the piece at each column
    have hat1 := hat w
    have hrl := rowOf_len w ps 0
    have hrow := fun {col place : Nat} => row_at w ps 0 col place
    refine sat_seq (Out.Sat.mono (N := fun ρ k => k = n4 ∧ ∃ x13 x15 x18, ρ = [some (.scr ns), some .town, x2, some (.d (encKs ks)), some (.d (encRs rs)), some (.d (encWds w)), some (.d (T t)), some (.d (.tuple (c.map encN))), some (.d (.tuple (ps.map T))), some (.d (.list SZ)), x10, x11, some (.d (.list CC)), x13, x14, x15, x16, x17, x18, x19, x20]) ?_ ?_ (fun _ _ h => h) (fun _ _ h => h) (fun _ _ h => h))
    · have it : gRng fRng1 (aCons (c2 opAdd (cBt fSum (aVar 9 aNil)) (cC (.int 2))) aNil) [some (.scr ns), some .town, x2, some (.d (encKs ks)), some (.d (encRs rs)), some (.d (encWds w)), some (.d (T t)), some (.d (.tuple (c.map encN))), some (.d (.tuple (ps.map T))), some (.d (.list SZ)), x10, x11, some (.d (.list CC)), x13, x14, x15, x16, x17, x18, x19, x20] n4 = .ok (rngL 0 (sumW w ps + 2)) n4 := e_rng1 (k := sumW w ps + 2) (by simp [hsum, encN]) (by omega)
      simp only [e_sFor, it, ofR_ok]
      refine sat_rng (fun j ρ k => k = n4 ∧ ∃ x13 x15 x18, ρ = [some (.scr ns), some .town, x2, some (.d (encKs ks)), some (.d (encRs rs)), some (.d (encWds w)), some (.d (T t)), some (.d (.tuple (c.map encN))), some (.d (.tuple (ps.map T))), some (.d (.list SZ)), x10, x11, some (.d (.list CC)), x13, x14, x15, x16, x17, x18, x19, x20]) 0 (sumW w ps + 2) ⟨rfl, _, _, _, rfl⟩ ?_ ?_
      · rintro j ρ k hj ⟨hk, x13, x15, x18, rfl⟩
        have hk2 := hk.symm
        subst hk2
        refine ⟨_, rfl, ?_⟩
        simp only [List.set_cons_succ, List.set_cons_zero]
        rw [show some (L.d (PyData.int (0 + (j : Int)))) = some (L.d (encN j)) by rw [show (0 : Int) + (j : Int) = (j : Int) by omega]; rfl]
        have ha := hat1 j
        cases ho : (rowOf w 0 ps)[j]? with
        | none =>
          rw [ho] at ha
          have hge : sumW w ps ≤ j := by
            have := List.getElem?_eq_none_iff.mp ho
            omega
          have ege : opGe (encN j) (encN (sumW w ps)) = some (.bool true) := by
            show some (PyData.bool (decide ((j : Int) ≥ (sumW w ps : Int)))) = _
            congr 2
            exact decide_eq_true (by omega)
          have ha' : Fn_at_column [.d (encKs ks), .d (encRs rs), .d (encWds w), .d (T t), .d (encN j)] n4 = .ok .none n4 := ha
          have nb : opNe (.bool true) (.bool true) = some (.bool false) := x_ne_self okD_b
          refine sq (ρ1 := [some (.scr ns), some .town, x2, some (.d (encKs ks)), some (.d (encRs rs)), some (.d (encWds w)), some (.d (T t)), some (.d (.tuple (c.map encN))), some (.d (.tuple (ps.map T))), some (.d (.list SZ)), x10, x11, some (.d (.list CC)), some (.d (.none)), x14, x15, x16, x17, some (.d (encN j)), x19, x20]) (n1 := n4) (by simp [ha']) ?_
          refine sno (n1 := n4) (by simp [opIsN, isN_n, ege, hsum, nb]) ?_
          exact snoE (n1 := n4) (by simp [opNotN, isN_n]) ⟨rfl, _, _, _, rfl⟩
        | some place =>
          rw [ho] at ha
          have hlt : j < sumW w ps := by
            have := (List.getElem?_eq_some_iff.mp ho).1
            omega
          obtain ⟨i, p, hpi, hpl2, b1, b2⟩ := hrow ho
          obtain ⟨x, y, hx, hy, hxy, hyl, hxe, cx, cy, cq⟩ := hci i p hpi
          have epx : place = x := by omega
          subst epx
          have ege : opGe (encN j) (encN (sumW w ps)) = some (.bool false) := by
            show some (PyData.bool (decide ((j : Int) ≥ (sumW w ps : Int)))) = _
            congr 2
            exact decide_eq_false (by omega)
          have ha' : Fn_at_column [.d (encKs ks), .d (encRs rs), .d (encWds w), .d (T t), .d (encN j)] n4 = .ok (encN place) n4 := ha
          have nb : opNe (.bool false) (.bool false) = some (.bool false) := x_ne_self okD_b
          refine sq (ρ1 := [some (.scr ns), some .town, x2, some (.d (encKs ks)), some (.d (encRs rs)), some (.d (encWds w)), some (.d (T t)), some (.d (.tuple (c.map encN))), some (.d (.tuple (ps.map T))), some (.d (.list SZ)), x10, x11, some (.d (.list CC)), some (.d (encN place)), x14, x15, x16, x17, some (.d (encN j)), x19, x20]) (n1 := n4) (by simp [ha']) ?_
          refine sno (n1 := n4) (by simp [opIsN, encN, isN_i, isN_n, hsum, show ¬ (sumW w ps ≤ j) by omega, nb]) ?_
          refine sifT (n1 := n4) (by simp [opNotN, encN, isN_i, isN_n]) ?_
          have etx : cTIx (cVar 7) (cVar 13) [some (.scr ns), some .town, x2, some (.d (encKs ks)), some (.d (encRs rs)), some (.d (encWds w)), some (.d (T t)), some (.d (.tuple (c.map encN))), some (.d (.tuple (ps.map T))), some (.d (.list SZ)), x10, x11, some (.d (.list CC)), some (.d (encN place)), x14, x15, x16, x17, some (.d (encN j)), x19, x20] n4 = .ok (encN i) n4 := by
            have := e_cTIx (ga := cVar 7) (gb := cVar 13) (ρ := [some (.scr ns), some .town, x2, some (.d (encKs ks)), some (.d (encRs rs)), some (.d (encWds w)), some (.d (T t)), some (.d (.tuple (c.map encN))), some (.d (.tuple (ps.map T))), some (.d (.list SZ)), x10, x11, some (.d (.list CC)), some (.d (encN place)), x14, x15, x16, x17, some (.d (encN j)), x19, x20]) (n := n4) (n1 := n4) (n2 := n4) (ns := c) (k := place) (by simp) (by simp) (List.mem_of_getElem? hx)
            rw [idx_at hcp.rise hx] at this
            exact this
          have eSZ : opIx (.list SZ) (encN i) = some (encN (pwM w p)) := by
            rw [hSZ]
            exact atI_nat (by rw [List.getElem?_map, hpi]; rfl)
          refine sq (ρ1 := [some (.scr ns), some .town, x2, some (.d (encKs ks)), some (.d (encRs rs)), some (.d (encWds w)), some (.d (T t)), some (.d (.tuple (c.map encN))), some (.d (.tuple (ps.map T))), some (.d (.list SZ)), x10, x11, some (.d (.list CC)), some (.d (encN place)), x14, some (.d (encN (pwM w p))), x16, x17, some (.d (encN j)), x19, x20]) (n1 := n4) (by
            rw [e_sSet, e_c2, e_cVar]
            simp only [List.getElem?_cons_succ, List.getElem?_cons_zero, Res.bind_ok]
            rw [etx]
            simp only [Res.bind_ok, eSZ, Res.lift_some, ofR_ok]
            rfl) ?_
          have f1 := hatC place (by omega)
          rw [cx] at f1
          have g1 : opIx (.list CC) (encN place) = some (encN (sumW w (ps.take i))) := f1
          have eadd : opAdd (encN (sumW w (ps.take i))) (encN (pwM w p)) = some (encN (sumW w (ps.take i) + pwM w p)) := by
            show some (PyData.int _) = some (PyData.int _)
            congr 2
          have ele : opLe (encN (sumW w (ps.take i))) (encN j) = some (.bool true) := by
            show some (PyData.bool (decide ((sumW w (ps.take i) : Int) ≤ (j : Int)))) = _
            congr 2
            exact decide_eq_true (by omega)
          have elt : opLt (encN j) (encN (sumW w (ps.take i) + pwM w p)) = some (.bool true) := by
            show some (PyData.bool (decide ((j : Int) < ((sumW w (ps.take i) + pwM w p : Nat) : Int)))) = _
            congr 2
            exact decide_eq_true (by omega)
          generalize encN (sumW w (ps.take i) + pwM w p) = v2 at eadd elt
          generalize encN (sumW w (ps.take i)) = v1 at g1 eadd ele
          generalize encN (pwM w p) = v0 at eadd
          exact snoE (n1 := n4) (by simp [g1, ele, eadd, elt, -x_ix_lst]) ⟨rfl, _, _, _, rfl⟩
      · rintro ρ k ⟨rfl, x13, x15, x18, rfl⟩
        exact ⟨rfl, _, _, _, rfl⟩
    rintro ρ n6 ⟨hn6, x13, x15, x18, rfl⟩
    have hn6' := hn6.symm
    subst hn6'
    -- one width for all signs
    have hup := upC_len t
    have hps1 : ∀ p ∈ ps, p ≠ [] ∧ ∀ x ∈ p, x ∈ t := fun p hp => ⟨hpne p hp, (hpsub p hp).2⟩
    have lcw : ∀ (k : Nat) x2 x10 x11 x13 x14 x15 x16 x17 x18 x19 x20, cLc [11] (tgN 11) (gItems (cF (cUpS (cVar 6)))) bYes (cTup (aVar 11 (aCons (cC (.int (k : Int))) aNil))) [some (.scr ns), some .town, x2, some (.d (encKs ks)), some (.d (encRs rs)), some (.d (encWds w)), some (.d (T t)), some (.d (.tuple (c.map encN))), some (.d (.tuple (ps.map T))), some (.d (.list SZ)), x10, x11, some (.d (.list CC)), x13, x14, x15, x16, x17, x18, x19, x20] n4 = .ok ((oneW t k).map encWd) n4 := fun k x2 x10 x11 x13 x14 x15 x16 x17 x18 x19 x20 => by
      unfold oneW
      rw [List.map_map]
      refine e_lcm (fun c => T [c]) _ (upC t) (by simp [show t.length ≤ 1000 by omega]) (by omega) fun z hz2 => ⟨[some (.scr ns), some .town, x2, some (.d (encKs ks)), some (.d (encRs rs)), some (.d (encWds w)), some (.d (T t)), some (.d (.tuple (c.map encN))), some (.d (.tuple (ps.map T))), some (.d (.list SZ)), x10, some (.d (T [z])), some (.d (.list CC)), x13, x14, x15, x16, x17, x18, x19, x20], rfl, by simp [encWd, encN]⟩
    have hs4 : sumW (oneW t 4) ps = 4 * ps.length := one_sum hps1
    have hs0 : sumW (oneW t 0) ps = 0 := by
      have := one_sum (k := 0) hps1
      unfold sumW
      omega
    have lw4 := lcw 4
    have lw0 := lcw 0
    refine sq (ρ1 := [some (.scr ns), some .town, x2, some (.d (encKs ks)), some (.d (encRs rs)), some (.d (encWds w)), some (.d (T t)), some (.d (.tuple (c.map encN))), some (.d (.tuple (ps.map T))), some (.d (.list SZ)), x10, x11, some (.d (.list CC)), x13, x14, x15, x16, x17, x18, some (.d (encWds (oneW t 4))), x20]) (n1 := n4) (by
      have := lw4 x2 x10 x11 x13 x14 x15 x16 x17 x18 x19 x20
      simp only [e_sSet, e_cBt, e_aCons, e_cF, show (PyData.int 4) = PyData.int ((4 : Nat) : Int) from rfl, this, e_aNil, Res.bind_ok, e_asDs, e_dsCons, e_dsNil, Res.lift_some, Option.map_some, x_tup_lst, ofR_ok]
      rfl) ?_
    have hw4 := hwid (oneW t 4)
    rw [hs4] at hw4
    have zp : ps.length ≤ sizeLine := size_ok (by omega)
    have em4 : opMulA (.int 4) (.int (ps.length : Int)) = some (encN (4 * ps.length)) := by
      rw [x_mulA_i, x_mul_ok (mulOk_iff.mpr (.inl ⟨by omega, by omega⟩))]
      show some (PyData.int _) = some (PyData.int _)
      congr 2
    have ne4 : opNe (encN (4 * ps.length)) (encN (4 * ps.length)) = some (.bool false) := x_ne_self okD_i
    have lps : fLen [.tuple (ps.map T)] = some (.int (ps.length : Int)) := by simp [zp]
    generalize encN (4 * ps.length) = v4 at hw4 em4 ne4
    refine sno (n1 := n4) (by simp [hw4, lps, em4, ne4, -x_mulA_i]) ?_
    refine sq (ρ1 := [some (.scr ns), some .town, x2, some (.d (encKs ks)), some (.d (encRs rs)), some (.d (encWds w)), some (.d (T t)), some (.d (.tuple (c.map encN))), some (.d (.tuple (ps.map T))), some (.d (.list SZ)), x10, x11, some (.d (.list CC)), x13, x14, x15, x16, x17, x18, some (.d (encWds (oneW t 4))), some (.d (encWds (oneW t 0)))]) (n1 := n4) (by
      have := lw0 x2 x10 x11 x13 x14 x15 x16 x17 x18 (some (.d (encWds (oneW t 4)))) x20
      simp only [e_sSet, e_cBt, e_aCons, e_cF, show (PyData.int 0) = PyData.int ((0 : Nat) : Int) from rfl, this, e_aNil, Res.bind_ok, e_asDs, e_dsCons, e_dsNil, Res.lift_some, Option.map_some, x_tup_lst, ofR_ok]
      rfl) ?_
    have hwz := hwid (oneW t 0)
    rw [hs0] at hwz
    have hwz' : Fn_width [.d (encKs ks), .d (encRs rs), .d (encWds (oneW t 0)), .d (T t)] n4 = .ok (.int 0) n4 := hwz
    have haz := hat (oneW t 0) 0
    have hrz : (rowOf (oneW t 0) 0 ps)[0]? = none := List.getElem?_eq_none (by rw [rowOf_len, hs0]; exact Nat.le_refl _)
    rw [hrz] at haz
    have haz' : Fn_at_column [.d (encKs ks), .d (encRs rs), .d (encWds (oneW t 0)), .d (T t), .d (.int 0)] n4 = .ok .none n4 := haz
    refine snoE (n1 := n4) (by
      simp only [e_bOr, e_cB, e_c2, e_cCall, e_aVar, e_aCons, e_cC, e_aNil, List.getElem?_cons_succ, List.getElem?_cons_zero, Res.bind_ok, List.length_cons, List.length_nil, Nat.reduceAdd, if_true, hwz', ne0, Res.lift_some]
      by_cases ht : t = []
      · have htz : (t.length != 0) = false := by simp [ht]
        simp [hz, htz]
      · have htz : (t.length != 0) = true := by simp [ht]
        simp [hz, htz, haz', opNotN, isN_n]) ⟨by omega, ?_⟩
    exact ⟨_, _, _, _, _, _, _, _, _, _, _, _, _, _, _, _, _, _, _, rfl⟩
  · rintro ρ n ⟨hn, x2, x3, x4, x5, x6, x7, x8, x9, x10, x11, x12, x13, x14, x15, x16, x17, x18, x19, x20, rfl⟩
    exact sret (n1 := n) rfl rfl
end W

namespace W
open PySem PySem.Spec PyProof.Rows L2 G
theorem all_mk (law : LawTrue 19 g_law) {l : PySem.W.OpenLaw} {w : World} {K : PySem.W.Frag} {h : Heap} {mg : Str → Option Value} {fa f_kinds_of f_is_in f_places_on f_leads_on f_leads_back f_rule_at f_is_cut_at f_cuts f_pieces f_piece_width f_width f_at_column f_column_of f_law_draw f_law_pick f_law_kinds f_law_items f_law_rules f_law_signs f_law_text f_law_widths f_law : Addr} (X : K.In h) (G : h.Ns mainGlobals mg) (hfa : mg "law" = some (.ref fa))
    {od_kinds_of an_kinds_of od_is_in an_is_in od_places_on an_places_on od_leads_on an_leads_on od_leads_back an_leads_back od_rule_at an_rule_at od_is_cut_at an_is_cut_at od_cuts an_cuts od_pieces an_pieces od_piece_width an_piece_width od_width an_width od_at_column an_at_column od_column_of an_column_of od_law_draw an_law_draw od_law_pick an_law_pick od_law_kinds an_law_kinds od_law_items an_law_items od_law_rules an_law_rules od_law_signs an_law_signs od_law_text an_law_text od_law_widths an_law_widths od_law an_law : Option Addr} {sl_kinds_of sl_is_in sl_places_on sl_leads_on sl_leads_back sl_rule_at sl_is_cut_at sl_cuts sl_pieces sl_piece_width sl_width sl_at_column sl_column_of sl_law_draw sl_law_pick sl_law_kinds sl_law_items sl_law_rules sl_law_signs sl_law_text sl_law_widths sl_law : Array (Option Value)} {oc_kinds_of kV_kinds_of dc_kinds_of pm_kinds_of cd_kinds_of ct_kinds_of oc_is_in kV_is_in dc_is_in pm_is_in cd_is_in ct_is_in oc_places_on kV_places_on dc_places_on pm_places_on cd_places_on ct_places_on oc_leads_on kV_leads_on dc_leads_on pm_leads_on cd_leads_on ct_leads_on oc_leads_back kV_leads_back dc_leads_back pm_leads_back cd_leads_back ct_leads_back oc_rule_at kV_rule_at dc_rule_at pm_rule_at cd_rule_at ct_rule_at oc_is_cut_at kV_is_cut_at dc_is_cut_at pm_is_cut_at cd_is_cut_at ct_is_cut_at oc_cuts kV_cuts dc_cuts pm_cuts cd_cuts ct_cuts oc_pieces kV_pieces dc_pieces pm_pieces cd_pieces ct_pieces oc_piece_width kV_piece_width dc_piece_width pm_piece_width cd_piece_width ct_piece_width oc_width kV_width dc_width pm_width cd_width ct_width oc_at_column kV_at_column dc_at_column pm_at_column cd_at_column ct_at_column oc_column_of kV_column_of dc_column_of pm_column_of cd_column_of ct_column_of oc_law_draw kV_law_draw dc_law_draw pm_law_draw cd_law_draw ct_law_draw oc_law_pick kV_law_pick dc_law_pick pm_law_pick cd_law_pick ct_law_pick oc_law_kinds kV_law_kinds dc_law_kinds pm_law_kinds cd_law_kinds ct_law_kinds oc_law_items kV_law_items dc_law_items pm_law_items cd_law_items ct_law_items oc_law_rules kV_law_rules dc_law_rules pm_law_rules cd_law_rules ct_law_rules oc_law_signs kV_law_signs dc_law_signs pm_law_signs cd_law_signs ct_law_signs oc_law_text kV_law_text dc_law_text pm_law_text cd_law_text ct_law_text oc_law_widths kV_law_widths dc_law_widths pm_law_widths cd_law_widths ct_law_widths oc_law kV_law dc_law pm_law cd_law ct_law : Value}
    (a_kinds_of : PySem.W.nsIn K mainGlobals "kinds_of" = some (some (.ref f_kinds_of))) (l_kinds_of : K.lookup f_kinds_of = some ⟨oc_kinds_of, od_kinds_of, .func (PySem.W.fnOf "kinds_of" "kinds_of" (defArgs s_kinds_of) (defBody s_kinds_of) (defScope s_kinds_of) .none kV_kinds_of dc_kinds_of pm_kinds_of an_kinds_of cd_kinds_of ct_kinds_of), sl_kinds_of⟩) (c_kinds_of : PySem.W.codeIn K cd_kinds_of "kinds_of" = true) (k_kinds_of : PySem.W.keepIn K (.ref f_kinds_of) = true)
    (a_is_in : PySem.W.nsIn K mainGlobals "is_in" = some (some (.ref f_is_in))) (l_is_in : K.lookup f_is_in = some ⟨oc_is_in, od_is_in, .func (PySem.W.fnOf "is_in" "is_in" (defArgs s_is_in) (defBody s_is_in) (defScope s_is_in) .none kV_is_in dc_is_in pm_is_in an_is_in cd_is_in ct_is_in), sl_is_in⟩) (c_is_in : PySem.W.codeIn K cd_is_in "is_in" = true) (k_is_in : PySem.W.keepIn K (.ref f_is_in) = true)
    (a_places_on : PySem.W.nsIn K mainGlobals "places_on" = some (some (.ref f_places_on))) (l_places_on : K.lookup f_places_on = some ⟨oc_places_on, od_places_on, .func (PySem.W.fnOf "places_on" "places_on" (defArgs s_places_on) (defBody s_places_on) (defScope s_places_on) .none kV_places_on dc_places_on pm_places_on an_places_on cd_places_on ct_places_on), sl_places_on⟩) (c_places_on : PySem.W.codeIn K cd_places_on "places_on" = true) (k_places_on : PySem.W.keepIn K (.ref f_places_on) = true)
    (a_leads_on : PySem.W.nsIn K mainGlobals "leads_on" = some (some (.ref f_leads_on))) (l_leads_on : K.lookup f_leads_on = some ⟨oc_leads_on, od_leads_on, .func (PySem.W.fnOf "leads_on" "leads_on" (defArgs s_leads_on) (defBody s_leads_on) (defScope s_leads_on) .none kV_leads_on dc_leads_on pm_leads_on an_leads_on cd_leads_on ct_leads_on), sl_leads_on⟩) (c_leads_on : PySem.W.codeIn K cd_leads_on "leads_on" = true) (k_leads_on : PySem.W.keepIn K (.ref f_leads_on) = true)
    (a_leads_back : PySem.W.nsIn K mainGlobals "leads_back" = some (some (.ref f_leads_back))) (l_leads_back : K.lookup f_leads_back = some ⟨oc_leads_back, od_leads_back, .func (PySem.W.fnOf "leads_back" "leads_back" (defArgs s_leads_back) (defBody s_leads_back) (defScope s_leads_back) .none kV_leads_back dc_leads_back pm_leads_back an_leads_back cd_leads_back ct_leads_back), sl_leads_back⟩) (c_leads_back : PySem.W.codeIn K cd_leads_back "leads_back" = true) (k_leads_back : PySem.W.keepIn K (.ref f_leads_back) = true)
    (a_rule_at : PySem.W.nsIn K mainGlobals "rule_at" = some (some (.ref f_rule_at))) (l_rule_at : K.lookup f_rule_at = some ⟨oc_rule_at, od_rule_at, .func (PySem.W.fnOf "rule_at" "rule_at" (defArgs s_rule_at) (defBody s_rule_at) (defScope s_rule_at) .none kV_rule_at dc_rule_at pm_rule_at an_rule_at cd_rule_at ct_rule_at), sl_rule_at⟩) (c_rule_at : PySem.W.codeIn K cd_rule_at "rule_at" = true) (k_rule_at : PySem.W.keepIn K (.ref f_rule_at) = true)
    (a_is_cut_at : PySem.W.nsIn K mainGlobals "is_cut_at" = some (some (.ref f_is_cut_at))) (l_is_cut_at : K.lookup f_is_cut_at = some ⟨oc_is_cut_at, od_is_cut_at, .func (PySem.W.fnOf "is_cut_at" "is_cut_at" (defArgs s_is_cut_at) (defBody s_is_cut_at) (defScope s_is_cut_at) .none kV_is_cut_at dc_is_cut_at pm_is_cut_at an_is_cut_at cd_is_cut_at ct_is_cut_at), sl_is_cut_at⟩) (c_is_cut_at : PySem.W.codeIn K cd_is_cut_at "is_cut_at" = true) (k_is_cut_at : PySem.W.keepIn K (.ref f_is_cut_at) = true)
    (a_cuts : PySem.W.nsIn K mainGlobals "cuts" = some (some (.ref f_cuts))) (l_cuts : K.lookup f_cuts = some ⟨oc_cuts, od_cuts, .func (PySem.W.fnOf "cuts" "cuts" (defArgs s_cuts) (defBody s_cuts) (defScope s_cuts) .none kV_cuts dc_cuts pm_cuts an_cuts cd_cuts ct_cuts), sl_cuts⟩) (c_cuts : PySem.W.codeIn K cd_cuts "cuts" = true) (k_cuts : PySem.W.keepIn K (.ref f_cuts) = true)
    (a_pieces : PySem.W.nsIn K mainGlobals "pieces" = some (some (.ref f_pieces))) (l_pieces : K.lookup f_pieces = some ⟨oc_pieces, od_pieces, .func (PySem.W.fnOf "pieces" "pieces" (defArgs s_pieces) (defBody s_pieces) (defScope s_pieces) .none kV_pieces dc_pieces pm_pieces an_pieces cd_pieces ct_pieces), sl_pieces⟩) (c_pieces : PySem.W.codeIn K cd_pieces "pieces" = true) (k_pieces : PySem.W.keepIn K (.ref f_pieces) = true)
    (a_piece_width : PySem.W.nsIn K mainGlobals "piece_width" = some (some (.ref f_piece_width))) (l_piece_width : K.lookup f_piece_width = some ⟨oc_piece_width, od_piece_width, .func (PySem.W.fnOf "piece_width" "piece_width" (defArgs s_piece_width) (defBody s_piece_width) (defScope s_piece_width) .none kV_piece_width dc_piece_width pm_piece_width an_piece_width cd_piece_width ct_piece_width), sl_piece_width⟩) (c_piece_width : PySem.W.codeIn K cd_piece_width "piece_width" = true) (k_piece_width : PySem.W.keepIn K (.ref f_piece_width) = true)
    (a_width : PySem.W.nsIn K mainGlobals "width" = some (some (.ref f_width))) (l_width : K.lookup f_width = some ⟨oc_width, od_width, .func (PySem.W.fnOf "width" "width" (defArgs s_width) (defBody s_width) (defScope s_width) .none kV_width dc_width pm_width an_width cd_width ct_width), sl_width⟩) (c_width : PySem.W.codeIn K cd_width "width" = true) (k_width : PySem.W.keepIn K (.ref f_width) = true)
    (a_at_column : PySem.W.nsIn K mainGlobals "at_column" = some (some (.ref f_at_column))) (l_at_column : K.lookup f_at_column = some ⟨oc_at_column, od_at_column, .func (PySem.W.fnOf "at_column" "at_column" (defArgs s_at_column) (defBody s_at_column) (defScope s_at_column) .none kV_at_column dc_at_column pm_at_column an_at_column cd_at_column ct_at_column), sl_at_column⟩) (c_at_column : PySem.W.codeIn K cd_at_column "at_column" = true) (k_at_column : PySem.W.keepIn K (.ref f_at_column) = true)
    (a_column_of : PySem.W.nsIn K mainGlobals "column_of" = some (some (.ref f_column_of))) (l_column_of : K.lookup f_column_of = some ⟨oc_column_of, od_column_of, .func (PySem.W.fnOf "column_of" "column_of" (defArgs s_column_of) (defBody s_column_of) (defScope s_column_of) .none kV_column_of dc_column_of pm_column_of an_column_of cd_column_of ct_column_of), sl_column_of⟩) (c_column_of : PySem.W.codeIn K cd_column_of "column_of" = true) (k_column_of : PySem.W.keepIn K (.ref f_column_of) = true)
    (a_law_draw : PySem.W.nsIn K mainGlobals "_law_draw" = some (some (.ref f_law_draw))) (l_law_draw : K.lookup f_law_draw = some ⟨oc_law_draw, od_law_draw, .func (PySem.W.fnOf "_law_draw" "_law_draw" (defArgs s_law_draw) (defBody s_law_draw) (defScope s_law_draw) .none kV_law_draw dc_law_draw pm_law_draw an_law_draw cd_law_draw ct_law_draw), sl_law_draw⟩) (c_law_draw : PySem.W.codeIn K cd_law_draw "_law_draw" = true) (k_law_draw : PySem.W.keepIn K (.ref f_law_draw) = true)
    (a_law_pick : PySem.W.nsIn K mainGlobals "_law_pick" = some (some (.ref f_law_pick))) (l_law_pick : K.lookup f_law_pick = some ⟨oc_law_pick, od_law_pick, .func (PySem.W.fnOf "_law_pick" "_law_pick" (defArgs s_law_pick) (defBody s_law_pick) (defScope s_law_pick) .none kV_law_pick dc_law_pick pm_law_pick an_law_pick cd_law_pick ct_law_pick), sl_law_pick⟩) (c_law_pick : PySem.W.codeIn K cd_law_pick "_law_pick" = true) (k_law_pick : PySem.W.keepIn K (.ref f_law_pick) = true)
    (a_law_kinds : PySem.W.nsIn K mainGlobals "_law_kinds" = some (some (.ref f_law_kinds))) (l_law_kinds : K.lookup f_law_kinds = some ⟨oc_law_kinds, od_law_kinds, .func (PySem.W.fnOf "_law_kinds" "_law_kinds" (defArgs s_law_kinds) (defBody s_law_kinds) (defScope s_law_kinds) .none kV_law_kinds dc_law_kinds pm_law_kinds an_law_kinds cd_law_kinds ct_law_kinds), sl_law_kinds⟩) (c_law_kinds : PySem.W.codeIn K cd_law_kinds "_law_kinds" = true) (k_law_kinds : PySem.W.keepIn K (.ref f_law_kinds) = true)
    (a_law_items : PySem.W.nsIn K mainGlobals "_law_items" = some (some (.ref f_law_items))) (l_law_items : K.lookup f_law_items = some ⟨oc_law_items, od_law_items, .func (PySem.W.fnOf "_law_items" "_law_items" (defArgs s_law_items) (defBody s_law_items) (defScope s_law_items) .none kV_law_items dc_law_items pm_law_items an_law_items cd_law_items ct_law_items), sl_law_items⟩) (c_law_items : PySem.W.codeIn K cd_law_items "_law_items" = true) (k_law_items : PySem.W.keepIn K (.ref f_law_items) = true)
    (a_law_rules : PySem.W.nsIn K mainGlobals "_law_rules" = some (some (.ref f_law_rules))) (l_law_rules : K.lookup f_law_rules = some ⟨oc_law_rules, od_law_rules, .func (PySem.W.fnOf "_law_rules" "_law_rules" (defArgs s_law_rules) (defBody s_law_rules) (defScope s_law_rules) .none kV_law_rules dc_law_rules pm_law_rules an_law_rules cd_law_rules ct_law_rules), sl_law_rules⟩) (c_law_rules : PySem.W.codeIn K cd_law_rules "_law_rules" = true) (k_law_rules : PySem.W.keepIn K (.ref f_law_rules) = true)
    (a_law_signs : PySem.W.nsIn K mainGlobals "_law_signs" = some (some (.ref f_law_signs))) (l_law_signs : K.lookup f_law_signs = some ⟨oc_law_signs, od_law_signs, .func (PySem.W.fnOf "_law_signs" "_law_signs" (defArgs s_law_signs) (defBody s_law_signs) (defScope s_law_signs) .none kV_law_signs dc_law_signs pm_law_signs an_law_signs cd_law_signs ct_law_signs), sl_law_signs⟩) (c_law_signs : PySem.W.codeIn K cd_law_signs "_law_signs" = true) (k_law_signs : PySem.W.keepIn K (.ref f_law_signs) = true)
    (a_law_text : PySem.W.nsIn K mainGlobals "_law_text" = some (some (.ref f_law_text))) (l_law_text : K.lookup f_law_text = some ⟨oc_law_text, od_law_text, .func (PySem.W.fnOf "_law_text" "_law_text" (defArgs s_law_text) (defBody s_law_text) (defScope s_law_text) .none kV_law_text dc_law_text pm_law_text an_law_text cd_law_text ct_law_text), sl_law_text⟩) (c_law_text : PySem.W.codeIn K cd_law_text "_law_text" = true) (k_law_text : PySem.W.keepIn K (.ref f_law_text) = true)
    (a_law_widths : PySem.W.nsIn K mainGlobals "_law_widths" = some (some (.ref f_law_widths))) (l_law_widths : K.lookup f_law_widths = some ⟨oc_law_widths, od_law_widths, .func (PySem.W.fnOf "_law_widths" "_law_widths" (defArgs s_law_widths) (defBody s_law_widths) (defScope s_law_widths) .none kV_law_widths dc_law_widths pm_law_widths an_law_widths cd_law_widths ct_law_widths), sl_law_widths⟩) (c_law_widths : PySem.W.codeIn K cd_law_widths "_law_widths" = true) (k_law_widths : PySem.W.keepIn K (.ref f_law_widths) = true)
    (a_law : PySem.W.nsIn K mainGlobals "law" = some (some (.ref f_law))) (l_law : K.lookup f_law = some ⟨oc_law, od_law, .func (PySem.W.fnOf "law" "law" (defArgs s_law) (defBody s_law) (defScope s_law) .none kV_law dc_law pm_law an_law cd_law ct_law), sl_law⟩) (c_law : PySem.W.codeIn K cd_law "law" = true) (k_law : PySem.W.keepIn K (.ref f_law) = true)
    (z_dict : PySem.W.nsIn K mainGlobals "dict" = some none)
    (z_enumerate : PySem.W.nsIn K mainGlobals "enumerate" = some none)
    (z_len : PySem.W.nsIn K mainGlobals "len" = some none)
    (z_max : PySem.W.nsIn K mainGlobals "max" = some none)
    (z_range : PySem.W.nsIn K mainGlobals "range" = some none)
    (z_set : PySem.W.nsIn K mainGlobals "set" = some none)
    (z_sorted : PySem.W.nsIn K mainGlobals "sorted" = some none)
    (z_sum : PySem.W.nsIn K mainGlobals "sum" = some none)
    (z_tuple : PySem.W.nsIn K mainGlobals "tuple" = some none)
    (z_zip : PySem.W.nsIn K mainGlobals "zip" = some none)
    {u_OTHER : Tok}
    (y_OTHER : PySem.W.nsIn K mainGlobals "OTHER" = some (some (.str ⟨#[79]⟩ u_OTHER))) :
    ∃ fd : FuncData, (∀ (s : Shared) (v : Value), BindsTo s fd ⟨[v], []⟩ [("_law_script", v)]) ∧ ∀ base : Heap, K.In base → base.Ns mainGlobals mg → FnOk l.prog w K mg base (L2.CX l.prog w) 9 fa fd ["_law_script"] (spLaw K) := by
  have e := hfa.symm.trans (PySem.W.mg_of X G a_law)
  cases e
  have A_kinds_of := def_at X G (x := "kinds_of") (st := s_kinds_of) (ps := ["kinds", "text"]) a_kinds_of l_kinds_of c_kinds_of k_kinds_of (fun _ _ _ _ _ _ us hl => match us, hl with | [_, _], _ => rfl)
  have A_is_in := def_at X G (x := "is_in") (st := s_is_in) (ps := ["item", "kind"]) a_is_in l_is_in c_is_in k_is_in (fun _ _ _ _ _ _ us hl => match us, hl with | [_, _], _ => rfl)
  have A_places_on := def_at X G (x := "places_on") (st := s_places_on) (ps := ["row", "items", "place"]) a_places_on l_places_on c_places_on k_places_on (fun _ _ _ _ _ _ us hl => match us, hl with | [_, _, _], _ => rfl)
  have A_leads_on := def_at X G (x := "leads_on") (st := s_leads_on) (ps := ["row", "items", "place"]) a_leads_on l_leads_on c_leads_on k_leads_on (fun _ _ _ _ _ _ us hl => match us, hl with | [_, _, _], _ => rfl)
  have A_leads_back := def_at X G (x := "leads_back") (st := s_leads_back) (ps := ["row", "items", "place"]) a_leads_back l_leads_back c_leads_back k_leads_back (fun _ _ _ _ _ _ us hl => match us, hl with | [_, _, _], _ => rfl)
  have A_rule_at := def_at X G (x := "rule_at") (st := s_rule_at) (ps := ["row", "rules", "place"]) a_rule_at l_rule_at c_rule_at k_rule_at (fun _ _ _ _ _ _ us hl => match us, hl with | [_, _, _], _ => rfl)
  have A_is_cut_at := def_at X G (x := "is_cut_at") (st := s_is_cut_at) (ps := ["row", "rules", "place"]) a_is_cut_at l_is_cut_at c_is_cut_at k_is_cut_at (fun _ _ _ _ _ _ us hl => match us, hl with | [_, _, _], _ => rfl)
  have A_cuts := def_at X G (x := "cuts") (st := s_cuts) (ps := ["kinds", "rules", "text"]) a_cuts l_cuts c_cuts k_cuts (fun _ _ _ _ _ _ us hl => match us, hl with | [_, _, _], _ => rfl)
  have A_pieces := def_at X G (x := "pieces") (st := s_pieces) (ps := ["kinds", "rules", "text"]) a_pieces l_pieces c_pieces k_pieces (fun _ _ _ _ _ _ us hl => match us, hl with | [_, _, _], _ => rfl)
  have A_piece_width := def_at X G (x := "piece_width") (st := s_piece_width) (ps := ["widths", "piece"]) a_piece_width l_piece_width c_piece_width k_piece_width (fun _ _ _ _ _ _ us hl => match us, hl with | [_, _], _ => rfl)
  have A_width := def_at X G (x := "width") (st := s_width) (ps := ["kinds", "rules", "widths", "text"]) a_width l_width c_width k_width (fun _ _ _ _ _ _ us hl => match us, hl with | [_, _, _, _], _ => rfl)
  have A_at_column := def_at X G (x := "at_column") (st := s_at_column) (ps := ["kinds", "rules", "widths", "text", "column"]) a_at_column l_at_column c_at_column k_at_column (fun _ _ _ _ _ _ us hl => match us, hl with | [_, _, _, _, _], _ => rfl)
  have A_column_of := def_at X G (x := "column_of") (st := s_column_of) (ps := ["kinds", "rules", "widths", "text", "place"]) a_column_of l_column_of c_column_of k_column_of (fun _ _ _ _ _ _ us hl => match us, hl with | [_, _, _, _, _], _ => rfl)
  have A_law_draw := def_at X G (x := "_law_draw") (st := s_law_draw) (ps := ["_law_script", "_law_town", "_law_many"]) a_law_draw l_law_draw c_law_draw k_law_draw (fun _ _ _ _ _ _ us hl => match us, hl with | [_, _, _], _ => rfl)
  have A_law_pick := def_at X G (x := "_law_pick") (st := s_law_pick) (ps := ["_law_script", "_law_town", "_law_some"]) a_law_pick l_law_pick c_law_pick k_law_pick (fun _ _ _ _ _ _ us hl => match us, hl with | [_, _, _], _ => rfl)
  have A_law_kinds := def_at X G (x := "_law_kinds") (st := s_law_kinds) (ps := ["_law_script", "_law_town"]) a_law_kinds l_law_kinds c_law_kinds k_law_kinds (fun _ _ _ _ _ _ us hl => match us, hl with | [_, _], _ => rfl)
  have A_law_items := def_at X G (x := "_law_items") (st := s_law_items) (ps := ["_law_script", "_law_town"]) a_law_items l_law_items c_law_items k_law_items (fun _ _ _ _ _ _ us hl => match us, hl with | [_, _], _ => rfl)
  have A_law_rules := def_at X G (x := "_law_rules") (st := s_law_rules) (ps := ["_law_script", "_law_town", "_law_most"]) a_law_rules l_law_rules c_law_rules k_law_rules (fun _ _ _ _ _ _ us hl => match us, hl with | [_, _, _], _ => rfl)
  have A_law_signs := def_at X G (x := "_law_signs") (st := s_law_signs) (ps := ["_law_script", "_law_town", "_law_most", "_law_some"]) a_law_signs l_law_signs c_law_signs k_law_signs (fun _ _ _ _ _ _ us hl => match us, hl with | [_, _, _, _], _ => rfl)
  have A_law_text := def_at X G (x := "_law_text") (st := s_law_text) (ps := ["_law_script", "_law_town", "_law_most"]) a_law_text l_law_text c_law_text k_law_text (fun _ _ _ _ _ _ us hl => match us, hl with | [_, _, _], _ => rfl)
  have A_law_widths := def_at X G (x := "_law_widths") (st := s_law_widths) (ps := ["_law_script", "_law_town"]) a_law_widths l_law_widths c_law_widths k_law_widths (fun _ _ _ _ _ _ us hl => match us, hl with | [_, _], _ => rfl)
  have A_law := def_at X G (x := "law") (st := s_law) (ps := ["_law_script"]) a_law l_law c_law k_law (fun _ _ _ _ _ _ us hl => match us, hl with | [_], _ => rfl)
  exact ⟨PySem.W.fnOf "law" "law" (defArgs s_law) (defBody s_law) (defScope s_law) .none kV_law dc_law pm_law an_law cd_law ct_law, fun s v => .of_eq rfl, fun base _ _ => ok_law ⟨_, _, A_kinds_of, _, _, A_is_in, _, _, A_places_on, _, _, A_leads_on, _, _, A_leads_back, _, _, A_rule_at, _, _, A_is_cut_at, _, _, A_cuts, _, _, A_pieces, _, _, A_piece_width, _, _, A_width, _, _, A_at_column, _, _, A_column_of, _, _, A_law_draw, _, _, A_law_pick, _, _, A_law_kinds, _, _, A_law_items, _, _, A_law_rules, _, _, A_law_signs, _, _, A_law_text, _, _, A_law_widths, _, _, A_law, PySem.W.mg_none_of X G z_dict, PySem.W.mg_none_of X G z_enumerate, PySem.W.mg_none_of X G z_len, PySem.W.mg_none_of X G z_max, PySem.W.mg_none_of X G z_range, PySem.W.mg_none_of X G z_set, PySem.W.mg_none_of X G z_sorted, PySem.W.mg_none_of X G z_sum, PySem.W.mg_none_of X G z_tuple, PySem.W.mg_none_of X G z_zip, _, PySem.W.mg_of X G y_OTHER⟩ law⟩
theorem walk {l : PySem.W.OpenLaw} {q : Program} {loose : List Str} {XP : (Str → Option Value) → Heap → Prop} {YP : World → Heap → Prop} {d : DefRec} {K : Params → PySem.W.Frag} (hn : l.most = some 63) (hdf : d.params.defaults = [])
    (hY : ∀ (w : World) (h : Heap), YP w h → (K w.params).In h)
    (F : ∀ (w : World) (mg : Str → Option Value) (fa : Addr) (h : Heap), (K w.params).In h → h.Ns mainGlobals mg → mg d.name = some (.ref fa) →
      ∃ fd : FuncData, (∀ (s : Shared) (u : Value), BindsTo s fd ⟨[u], []⟩ [("_law_script", u)]) ∧ ∀ base : Heap, (K w.params).In base → base.Ns mainGlobals mg → FnOk l.prog w (K w.params) mg base (L2.CX l.prog w) 9 fa fd ["_law_script"] (spLaw (K w.params))) :
    PySem.W.WalkO q loose XP YP l.row.toRowW d [] (fun f vs => PySem.call f vs) :=
  L2.walk_of (n := 63) (k := 9) (x := "_law_script") (CX := fun w => L2.CX l.prog w) (sp := fun w => spLaw (K w.params)) hn (by decide) hdf ⟨rfl, by decide, by decide⟩ hY F (fun _ _ a ns hl _ hS => ⟨a, ns, rfl, hS, hl, fun _ => rfl⟩) fun _ _ _ _ _ z => no_exc z
end W
open PySem PySem.W PyProof.Rows
set_option maxHeartbeats 0 in
theorem PySem.Challenge.cw_eyecuts_k36_whole_columns_holds : PySem.Challenge.rw_eyecuts_k36_whole_columns.Holds := by
  w_on; o_law; k_head; (case hw => w_witness2)
  k_fill
  refine W.walk (l := PySem.Challenge.rw_eyecuts_k36_whole_columns) rfl rfl (fun w h Y => PySem.W.kIn_of Y) ?F
  case F =>
    intro w mg fa h KX G hmg
    refine' W.all_mk W.law_true KX G hmg ?a_kinds_of ?l_kinds_of ?c_kinds_of ?k_kinds_of ?a_is_in ?l_is_in ?c_is_in ?k_is_in ?a_places_on ?l_places_on ?c_places_on ?k_places_on ?a_leads_on ?l_leads_on ?c_leads_on ?k_leads_on ?a_leads_back ?l_leads_back ?c_leads_back ?k_leads_back ?a_rule_at ?l_rule_at ?c_rule_at ?k_rule_at ?a_is_cut_at ?l_is_cut_at ?c_is_cut_at ?k_is_cut_at ?a_cuts ?l_cuts ?c_cuts ?k_cuts ?a_pieces ?l_pieces ?c_pieces ?k_pieces ?a_piece_width ?l_piece_width ?c_piece_width ?k_piece_width ?a_width ?l_width ?c_width ?k_width ?a_at_column ?l_at_column ?c_at_column ?k_at_column ?a_column_of ?l_column_of ?c_column_of ?k_column_of ?a_law_draw ?l_law_draw ?c_law_draw ?k_law_draw ?a_law_pick ?l_law_pick ?c_law_pick ?k_law_pick ?a_law_kinds ?l_law_kinds ?c_law_kinds ?k_law_kinds ?a_law_items ?l_law_items ?c_law_items ?k_law_items ?a_law_rules ?l_law_rules ?c_law_rules ?k_law_rules ?a_law_signs ?l_law_signs ?c_law_signs ?k_law_signs ?a_law_text ?l_law_text ?c_law_text ?k_law_text ?a_law_widths ?l_law_widths ?c_law_widths ?k_law_widths ?a_law ?l_law ?c_law ?k_law ?z_dict ?z_enumerate ?z_len ?z_max ?z_range ?z_set ?z_sorted ?z_sum ?z_tuple ?z_zip ?y_OTHER
    (case a_kinds_of => k_is); (case l_kinds_of => k_is); (case c_kinds_of => k_is); (case k_kinds_of => k_is); (case a_is_in => k_is); (case l_is_in => k_is); (case c_is_in => k_is); (case k_is_in => k_is); (case a_places_on => k_is); (case l_places_on => k_is); (case c_places_on => k_is); (case k_places_on => k_is); (case a_leads_on => k_is); (case l_leads_on => k_is); (case c_leads_on => k_is); (case k_leads_on => k_is); (case a_leads_back => k_is); (case l_leads_back => k_is); (case c_leads_back => k_is); (case k_leads_back => k_is); (case a_rule_at => k_is); (case l_rule_at => k_is); (case c_rule_at => k_is); (case k_rule_at => k_is); (case a_is_cut_at => k_is); (case l_is_cut_at => k_is); (case c_is_cut_at => k_is); (case k_is_cut_at => k_is); (case a_cuts => k_is); (case l_cuts => k_is); (case c_cuts => k_is); (case k_cuts => k_is); (case a_pieces => k_is); (case l_pieces => k_is); (case c_pieces => k_is); (case k_pieces => k_is); (case a_piece_width => k_is); (case l_piece_width => k_is); (case c_piece_width => k_is); (case k_piece_width => k_is); (case a_width => k_is); (case l_width => k_is); (case c_width => k_is); (case k_width => k_is); (case a_at_column => k_is); (case l_at_column => k_is); (case c_at_column => k_is); (case k_at_column => k_is); (case a_column_of => k_is); (case l_column_of => k_is); (case c_column_of => k_is); (case k_column_of => k_is); (case a_law_draw => k_is); (case l_law_draw => k_is); (case c_law_draw => k_is); (case k_law_draw => k_is); (case a_law_pick => k_is); (case l_law_pick => k_is); (case c_law_pick => k_is); (case k_law_pick => k_is); (case a_law_kinds => k_is); (case l_law_kinds => k_is); (case c_law_kinds => k_is); (case k_law_kinds => k_is); (case a_law_items => k_is); (case l_law_items => k_is); (case c_law_items => k_is); (case k_law_items => k_is); (case a_law_rules => k_is); (case l_law_rules => k_is); (case c_law_rules => k_is); (case k_law_rules => k_is); (case a_law_signs => k_is); (case l_law_signs => k_is); (case c_law_signs => k_is); (case k_law_signs => k_is); (case a_law_text => k_is); (case l_law_text => k_is); (case c_law_text => k_is); (case k_law_text => k_is); (case a_law_widths => k_is); (case l_law_widths => k_is); (case c_law_widths => k_is); (case k_law_widths => k_is); (case a_law => k_is); (case l_law => k_is); (case c_law => k_is); (case k_law => k_is); (case z_dict => k_is); (case z_enumerate => k_is); (case z_len => k_is); (case z_max => k_is); (case z_range => k_is); (case z_set => k_is); (case z_sorted => k_is); (case z_sum => k_is); (case z_tuple => k_is); (case z_zip => k_is); (case y_OTHER => k_is)

