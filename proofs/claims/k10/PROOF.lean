import PyProof.Rows.All
import Wide.All
import OpenK.AllK
import Wide.FinOn
import HandS.Base
import HandS.Call
import HandS.List
import HandS.Exc
import HandS.ForMost
import HandS.ForExc
import HandS.IsInst
import HandS.Wide
import HandS.WideBits
import HandS.TupAny
import HandS.TupLe
import HandS.Deep
import HandS.More
import PyProof.StrBlock2
import HandS.Style
import HandS.Zip
import HandS.TupLen
import PySem.Challenge.RW_messcasks_k10_one_ware_for_another
set_option Elab.async false
set_option linter.all false
set_option maxRecDepth 100000
set_option maxHeartbeats 4000000
/-! Mini: values, the mini heap, what they stand for, the judgements. -/
namespace Mi
open PySem L2

/-- values: tuples and texts by value, lists, dicts, objects by a number -/
inductive Val where
  | non | bl (b : Bool) | int (i : Int) | str (s : List Nat) | tup (xs : List Val) | fl (xs : List Val) | ref (n : Nat)
deriving Inhabited
mutual
def Val.eqb : Val → Val → Bool
  | .non, .non => true
  | .bl a, .bl b => a == b
  | .int a, .int b => a == b
  | .str a, .str b => a == b
  | .tup a, .tup b => Val.eqbs a b
  | .fl a, .fl b => Val.eqbs a b
  | .ref a, .ref b => a == b
  | _, _ => false
  termination_by structural x => x
def Val.eqbs : List Val → List Val → Bool
  | [], [] => true
  | x :: xs, y :: ys => Val.eqb x y && Val.eqbs xs ys
  | _, _ => false
  termination_by structural x => x
end
mutual
theorem Val.eqb_iff : ∀ (x y : Val), Val.eqb x y = true ↔ x = y
  | .non, y => by cases y <;> simp [Val.eqb]
  | .bl a, y => by cases y <;> simp [Val.eqb]
  | .int a, y => by cases y <;> simp [Val.eqb]
  | .str a, y => by cases y <;> simp [Val.eqb]
  | .ref a, y => by cases y <;> simp [Val.eqb]
  | .tup a, y => by cases y <;> simp [Val.eqb, Val.eqbs_iff a]
  | .fl a, y => by cases y <;> simp [Val.eqb, Val.eqbs_iff a]
theorem Val.eqbs_iff : ∀ (x y : List Val), Val.eqbs x y = true ↔ x = y
  | [], y => by cases y <;> simp [Val.eqbs]
  | x :: xs, y => by cases y <;> simp [Val.eqbs, Val.eqb_iff x, Val.eqbs_iff xs]
end
instance : DecidableEq Val := fun x y => if h : Val.eqb x y = true then isTrue ((Val.eqb_iff x y).1 h) else isFalse fun e => h ((Val.eqb_iff x y).2 e)
inductive Ob where
  | lst (xs : List Val)
  | dK (kvs : List (Val × Val))
  | dT (kvs : List (List Val × Val))
  | ins (C : Nat) (fs : List (Str × Val))
deriving Inhabited
abbrev MH := List Ob
abbrev En := List (Option Val)
inductive R (α : Type) where
  | ok (a : α) (h : MH) | ex (c : Nat) (h : MH) | bad
def R.bind {α β : Type} (r : R α) (f : α → MH → R β) : R β :=
  match r with
  | .ok a h => f a h
  | .ex c h => .ex c h
  | .bad => .bad
abbrev sOf (s : List Nat) : Str := ⟨s.toArray⟩
abbrev Mu := Nat → Option Addr
/-- the written part, the classes' addresses -/
structure G where
  K : PySem.W.Frag
  ca : Nat → Addr

/-- a list that nobody changes: the script, a list of the written part -/
def FzL (K : PySem.W.Frag) (H : Hp) (a : Addr) (xs : List V) : Prop :=
  (∃ o, H a = some (.frz o (.lst xs))) ∨
    ∃ (o : Obj) (its : Array Value) (n : Nat), K.lookup a = some o ∧ o.cls = .type "list" ∧ o.dict = none ∧ o.data = .seq its n ∧ its.size ≤ sizeLine ∧ Vals xs its.toList
theorem FzL.sql {K : PySem.W.Frag} {H : Hp} {a : Addr} {xs : List V} (x : FzL K H a xs) : SqL K H a xs := by
  rcases x with x | x
  · exact .inl (.inr x)
  · exact .inr x
/-- tuples and such lists stay -/
structure Kp (H H' : Hp) : Prop where
  tup : ∀ (a : Addr) (xs : List V), H a = some (HO.tup xs) → H' a = some (HO.tup xs)
  frz : ∀ (a : Addr) (o : Obj) (xs : List V), H a = some (HO.frz o (.lst xs)) → H' a = some (HO.frz o (.lst xs))
theorem Kp.refl {H : Hp} : Kp H H := ⟨fun _ _ z => z, fun _ _ _ z => z⟩
theorem Kp.fzl {K : PySem.W.Frag} {H H' : Hp} (k : Kp H H') {a : Addr} {xs : List V} (x : FzL K H a xs) : FzL K H' a xs := by
  rcases x with ⟨o, x⟩ | x
  · exact .inl ⟨o, k.frz _ _ _ x⟩
  · exact .inr x
mutual
inductive RV (K : PySem.W.Frag) (H : Hp) (m : Mu) : V → Val → Prop
  | non : RV K H m .non .non
  | bl (b : Bool) : RV K H m (.bl b) (.bl b)
  | int (i : Int) : RV K H m (.int i) (.int i)
  | str (s : List Nat) : (∀ c ∈ s, c < 1114112) → RV K H m (.str (sOf s)) (.str s)
  | tup {a : Addr} {vs : List V} {xs : List Val} : H a = some (.tup vs) → RVs K H m vs xs → RV K H m (.ref a) (.tup xs)
  | fl {a : Addr} {vs : List V} {xs : List Val} : FzL K H a vs → RVs K H m vs xs → RV K H m (.ref a) (.fl xs)
  | ref {n : Nat} {a : Addr} : m n = some a → RV K H m (.ref a) (.ref n)
inductive RVs (K : PySem.W.Frag) (H : Hp) (m : Mu) : List V → List Val → Prop
  | nil : RVs K H m [] []
  | cons {v : V} {vs : List V} {x : Val} {xs : List Val} : RV K H m v x → RVs K H m vs xs → RVs K H m (v :: vs) (x :: xs)
end

section
variable {K : PySem.W.Frag} {H H' : Hp} {m m' : Mu}
mutual
theorem RV.mono (hx : Kp H H') (hm : ∀ n a, m n = some a → m' n = some a) : ∀ {v : V} {x : Val}, RV K H m v x → RV K H' m' v x
  | _, _, .non => .non
  | _, _, .bl b => .bl b
  | _, _, .int i => .int i
  | _, _, .str s h => .str s h
  | _, _, .tup h r => .tup (hx.tup _ _ h) (RVs.mono hx hm r)
  | _, _, .fl h r => .fl (hx.fzl h) (RVs.mono hx hm r)
  | _, _, .ref e => .ref (hm _ _ e)
theorem RVs.mono (hx : Kp H H') (hm : ∀ n a, m n = some a → m' n = some a) : ∀ {vs : List V} {xs : List Val}, RVs K H m vs xs → RVs K H' m' vs xs
  | _, _, .nil => .nil
  | _, _, .cons r t => .cons (RV.mono hx hm r) (RVs.mono hx hm t)
end
theorem RVs.length : ∀ {vs : List V} {xs : List Val}, RVs K H m vs xs → vs.length = xs.length
  | _, _, .nil => rfl
  | _, _, .cons _ t => by simp [RVs.length t]
theorem RVs.get : ∀ {vs : List V} {xs : List Val} {i : Nat} {x : Val}, RVs K H m vs xs → xs[i]? = some x → ∃ v, vs[i]? = some v ∧ RV K H m v x
  | _, _, _, _, .nil, e => by simp at e
  | _, _, 0, _, .cons r _, e => by simp at e; subst e; exact ⟨_, rfl, r⟩
  | _, _, i + 1, x, .cons _ t, e => by
    obtain ⟨v, h1, h2⟩ := RVs.get (i := i) t (by simpa using e)
    exact ⟨v, by simpa using h1, h2⟩
theorem RVs.getV : ∀ {vs : List V} {xs : List Val} {i : Nat} {v : V}, RVs K H m vs xs → vs[i]? = some v → ∃ x, xs[i]? = some x ∧ RV K H m v x
  | _, _, _, _, .nil, e => by simp at e
  | _, _, 0, _, .cons r _, e => by simp at e; subst e; exact ⟨_, rfl, r⟩
  | _, _, i + 1, v, .cons _ t, e => by
    obtain ⟨x, h1, h2⟩ := RVs.getV (i := i) t (by simpa using e)
    exact ⟨x, by simpa using h1, h2⟩
theorem RVs.append : ∀ {vs ws : List V} {xs ys : List Val}, RVs K H m vs xs → RVs K H m ws ys → RVs K H m (vs ++ ws) (xs ++ ys)
  | _, _, _, _, .nil, s => s
  | _, _, _, _, .cons r t, s => .cons r (RVs.append t s)
theorem RVs.take : ∀ {vs : List V} {xs : List Val} (n : Nat), RVs K H m vs xs → RVs K H m (vs.take n) (xs.take n)
  | _, _, 0, _ => .nil
  | _, _, _ + 1, .nil => .nil
  | _, _, n + 1, .cons r t => .cons r (RVs.take n t)
theorem RVs.drop : ∀ {vs : List V} {xs : List Val} (n : Nat), RVs K H m vs xs → RVs K H m (vs.drop n) (xs.drop n)
  | _, _, 0, r => r
  | _, _, _ + 1, .nil => .nil
  | _, _, n + 1, .cons _ t => RVs.drop n t
theorem RVs.set {v : V} {x : Val} (r : RV K H m v x) : ∀ {vs : List V} {xs : List Val} (i : Nat), RVs K H m vs xs → RVs K H m (vs.set i v) (xs.set i x)
  | _, _, _, .nil => .nil
  | _, _, 0, .cons _ t => .cons r t
  | _, _, i + 1, .cons q t => .cons q (RVs.set r i t)
theorem RVs.eraseIdx : ∀ {vs : List V} {xs : List Val} (i : Nat), RVs K H m vs xs → RVs K H m (vs.eraseIdx i) (xs.eraseIdx i)
  | _, _, _, .nil => .nil
  | _, _, 0, .cons _ t => t
  | _, _, i + 1, .cons q t => .cons q (RVs.eraseIdx i t)
theorem RVs.reverse {vs : List V} {xs : List Val} (h : RVs K H m vs xs) : RVs K H m vs.reverse xs.reverse := by
  match h with
  | .nil => exact .nil
  | .cons r t => rw [List.reverse_cons, List.reverse_cons]; exact (RVs.reverse t).append (.cons r .nil)
theorem RVs.rep {vs : List V} {xs : List Val} (h : RVs K H m vs xs) : ∀ k : Nat, RVs K H m (List.replicate k vs).flatten (List.replicate k xs).flatten
  | 0 => .nil
  | k + 1 => by
    rw [List.replicate_succ, List.replicate_succ, List.flatten_cons, List.flatten_cons]
    exact h.append (RVs.rep h k)
theorem RVs.dropLast {vs : List V} {xs : List Val} (h : RVs K H m vs xs) : RVs K H m vs.dropLast xs.dropLast := by
  rw [List.dropLast_eq_take, List.dropLast_eq_take, h.length]
  exact h.take _
end

/-- keys of dicts -/
def keyOf : Val → Option Key
  | .int i => some (.inl i)
  | .str s => some (.inr (sOf s))
  | _ => none
inductive RK (K : PySem.W.Frag) (H : Hp) (m : Mu) : List (Key × V) → List (Val × Val) → Prop
  | nil : RK K H m [] []
  | cons {k : Key} {v : V} {kv : List (Key × V)} {x y : Val} {xs : List (Val × Val)} : keyOf x = some k → RV K H m v y → RK K H m kv xs → RK K H m ((k, v) :: kv) ((x, y) :: xs)
def keysOf : List Val → Option (List Key)
  | [] => some []
  | x :: xs => match keyOf x, keysOf xs with
    | some k, some ks => some (k :: ks)
    | _, _ => none
inductive RKT (K : PySem.W.Frag) (H : Hp) (m : Mu) : List (List Key × V) → List (List Val × Val) → Prop
  | nil : RKT K H m [] []
  | cons {k : List Key} {v : V} {kv : List (List Key × V)} {x : List Val} {y : Val} {xs : List (List Val × Val)} : keysOf x = some k → RV K H m v y → RKT K H m kv xs → RKT K H m ((k, v) :: kv) ((x, y) :: xs)
inductive RF (K : PySem.W.Frag) (H : Hp) (m : Mu) : List (Str × V) → List (Str × Val) → Prop
  | nil : RF K H m [] []
  | cons {k : Str} {v : V} {kv : List (Str × V)} {y : Val} {xs : List (Str × Val)} : RV K H m v y → RF K H m kv xs → RF K H m ((k, v) :: kv) ((k, y) :: xs)
section
variable {K : PySem.W.Frag} {H H' : Hp} {m m' : Mu}
theorem RK.mono (hx : Kp H H') (hm : ∀ n a, m n = some a → m' n = some a) {k : List (Key × V)} {x : List (Val × Val)} (r : RK K H m k x) : RK K H' m' k x := by
  induction r with
  | nil => exact .nil
  | cons e r _ ih => exact .cons e (r.mono hx hm) ih
theorem RKT.mono (hx : Kp H H') (hm : ∀ n a, m n = some a → m' n = some a) {k : List (List Key × V)} {x : List (List Val × Val)} (r : RKT K H m k x) : RKT K H' m' k x := by
  induction r with
  | nil => exact .nil
  | cons e r _ ih => exact .cons e (r.mono hx hm) ih
theorem RF.mono (hx : Kp H H') (hm : ∀ n a, m n = some a → m' n = some a) {k : List (Str × V)} {x : List (Str × Val)} (r : RF K H m k x) : RF K H' m' k x := by
  induction r with
  | nil => exact .nil
  | cons r _ ih => exact .cons (r.mono hx hm) ih
end

/-- what stands at a, as a mini object -/
def RO (g : G) (H : Hp) (m : Mu) (a : Addr) : Ob → Prop
  | .lst xs => ∃ vs, H a = some (.lst vs) ∧ RVs g.K H m vs xs
  | .dK kvs => ∃ ks, H a = some (.dK ks) ∧ RK g.K H m ks kvs
  | .dT kvs => ∃ ks, H a = some (.dT ks) ∧ RKT g.K H m ks kvs
  | .ins C fs => ∃ dx us, H a = some (.ins (g.ca C) dx us) ∧ RF g.K H m us fs
theorem RO.mono {g : G} {H H' : Hp} {m m' : Mu} {a : Addr} (hx : Kp H H') (hm : ∀ n a, m n = some a → m' n = some a) (ha : H' a = H a) {o : Ob} (r : RO g H m a o) : RO g H' m' a o := by
  cases o with
  | lst xs => obtain ⟨vs, e, r⟩ := r; exact ⟨vs, by rw [ha]; exact e, r.mono hx hm⟩
  | dK xs => obtain ⟨vs, e, r⟩ := r; exact ⟨vs, by rw [ha]; exact e, r.mono hx hm⟩
  | dT xs => obtain ⟨vs, e, r⟩ := r; exact ⟨vs, by rw [ha]; exact e, r.mono hx hm⟩
  | ins C fs => obtain ⟨dx, us, e, r⟩ := r; exact ⟨dx, us, by rw [ha]; exact e, r.mono hx hm⟩
/-- no tuple stands there -/
def NoTup (H : Hp) (a : Addr) : Prop := ∃ u, H a = some u ∧ (∀ xs, u ≠ .tup xs) ∧ ∀ o xs, u ≠ .frz o (.lst xs)
theorem RO.there {g : G} {H : Hp} {m : Mu} {a : Addr} {o : Ob} (r : RO g H m a o) : NoTup H a := by
  cases o with
  | lst xs => obtain ⟨vs, e, r⟩ := r; exact ⟨_, e, (by intro _ z; cases z), (by intro _ _ z; cases z)⟩
  | dK xs => obtain ⟨vs, e, r⟩ := r; exact ⟨_, e, (by intro _ z; cases z), (by intro _ _ z; cases z)⟩
  | dT xs => obtain ⟨vs, e, r⟩ := r; exact ⟨_, e, (by intro _ z; cases z), (by intro _ _ z; cases z)⟩
  | ins C fs => obtain ⟨dx, us, e, r⟩ := r; exact ⟨_, e, (by intro _ z; cases z), (by intro _ _ z; cases z)⟩

structure RepH (g : G) (m : Mu) (H : Hp) (h : MH) : Prop where
  dom : ∀ n a, m n = some a → n < h.length
  inj : ∀ n k a, m n = some a → m k = some a → n = k
  at_ : ∀ n o, h[n]? = some o → ∃ a, m n = some a ∧ RO g H m a o
theorem RepH.noTup {g : G} {m : Mu} {H : Hp} {h : MH} (r : RepH g m H h) {n : Nat} {a : Addr} (e : m n = some a) : NoTup H a := by
  have hl := r.dom n a e
  obtain ⟨b, e2, q⟩ := r.at_ n _ (List.getElem?_eq_getElem hl)
  rw [e] at e2; cases e2
  exact q.there

/-- the numbered objects may change, all else stays -/
structure Ext (m m' : Mu) (H H' : Hp) : Prop where
  le : ∀ n a, m n = some a → m' n = some a
  new : ∀ n a, m' n = some a → m n = some a ∨ H a = none
  keep : ∀ b o, H b = some o → (∀ n, m n ≠ some b) → H' b = some o
theorem Ext.refl {m : Mu} {H : Hp} : Ext m m H H := ⟨fun _ _ e => e, fun _ _ e => .inl e, fun _ _ e _ => e⟩
theorem Ext.trans {m1 m2 m3 : Mu} {H1 H2 H3 : Hp} (a : Ext m1 m2 H1 H2) (b : Ext m2 m3 H2 H3) (hh : ∀ b, H2 b = none → H1 b = none) : Ext m1 m3 H1 H3 where
  le := fun n x e => b.le n x (a.le n x e)
  new := fun n x e => by
    rcases b.new n x e with q | q
    · exact a.new n x q
    · exact .inr (hh x q)
  keep := fun c o e q => b.keep c o (a.keep c o e q) fun n z => by
    rcases a.new n c z with w | w
    · exact q n w
    · rw [e] at w; cases w
/-- what was tracked is tracked -/
theorem Ext.free {g : G} {m m' : Mu} {H H' : Hp} {h' : MH} (x : Ext m m' H H') (r : RepH g m' H' h') : ∀ b, H' b = none → H b = none := fun b q => by
  cases e : H b with
  | none => rfl
  | some o =>
    by_cases hb : ∃ n, m n = some b
    · obtain ⟨n, hn⟩ := hb
      obtain ⟨u, e2, _⟩ := r.noTup (x.le n b hn)
      rw [q] at e2; cases e2
    · have := x.keep b o e fun n z => hb ⟨n, z⟩
      rw [q] at this; cases this
theorem Ext.tr {g : G} {m1 m2 m3 : Mu} {H1 H2 H3 : Hp} {h2 : MH} (a : Ext m1 m2 H1 H2) (r : RepH g m2 H2 h2) (b : Ext m2 m3 H2 H3) : Ext m1 m3 H1 H3 := a.trans b (a.free r)
theorem Ext.sqt {g : G} {m m' : Mu} {H H' : Hp} {h : MH} (x : Ext m m' H H') (r : RepH g m H h) : Kp H H' := ⟨fun a xs q => by
    refine x.keep a _ q fun n z => ?_
    obtain ⟨u, e, n1, _⟩ := r.noTup z
    rw [q] at e; cases e; exact n1 _ rfl, fun a o xs q => by
    refine x.keep a _ q fun n z => ?_
    obtain ⟨u, e, _, n2⟩ := r.noTup z
    rw [q] at e; cases e; exact n2 _ _ rfl⟩
theorem Ext.rv {g : G} {m m' : Mu} {H H' : Hp} {h : MH} (x : Ext m m' H H') (r : RepH g m H h) {v : V} {y : Val} (q : RV g.K H m v y) : RV g.K H' m' v y := q.mono (x.sqt r) x.le
theorem Ext.rvs {g : G} {m m' : Mu} {H H' : Hp} {h : MH} (x : Ext m m' H H') (r : RepH g m H h) {v : List V} {y : List Val} (q : RVs g.K H m v y) : RVs g.K H' m' v y := q.mono (x.sqt r) x.le

/-- the slots -/
structure REnv (K : PySem.W.Frag) (H : Hp) (m : Mu) (σ : St) (ρ : En) : Prop where
  len : σ.length = ρ.length
  at_ : ∀ (i : Nat) (x : Val), ρ[i]? = some (some x) → ∃ v, σ[i]? = some (some v) ∧ RV K H m v x
theorem Ext.env {g : G} {m m' : Mu} {H H' : Hp} {h : MH} (x : Ext m m' H H') (r : RepH g m H h) {σ : St} {ρ : En} (q : REnv g.K H m σ ρ) : REnv g.K H' m' σ ρ :=
  ⟨q.len, fun i y e => let ⟨v, h1, h2⟩ := q.at_ i y e; ⟨v, h1, x.rv r h2⟩⟩
theorem REnv.set {K : PySem.W.Frag} {H : Hp} {m : Mu} {σ : St} {ρ : En} (q : REnv K H m σ ρ) {v : V} {x : Val} (r : RV K H m v x) (i : Nat) : REnv K H m (σ.set i (some v)) (ρ.set i (some x)) := by
  refine ⟨by simp [q.len], fun j y e => ?_⟩
  by_cases hj : i = j
  · subst hj
    have hl : i < ρ.length := by
      rcases Nat.lt_or_ge i ρ.length with h | h
      · exact h
      · rw [List.getElem?_eq_none (by simpa using h)] at e; cases e
    rw [List.getElem?_set_self hl] at e
    cases e
    exact ⟨v, by rw [List.getElem?_set_self (by rw [q.len]; exact hl)], r⟩
  · rw [List.getElem?_set_ne hj] at e
    rw [List.getElem?_set_ne hj]
    exact q.at_ j y e

/-! ### what is wanted behind a result -/
/-- an operand: a value, or a list just made that has no number -/
inductive O where
  | v (x : Val) | n (xs : List Val)
/-- at the start H0, behind H -/
abbrev Rel (α β : Type) := Hp → Hp → Mu → β → α → Prop
def rO (g : G) : Rel O V := fun H0 H m v o => match o with
  | .v x => RV g.K H m v x
  | .n xs => ∃ a vs, v = .ref a ∧ H a = some (.lst vs) ∧ (∀ n, m n ≠ some a) ∧ H0 a = none ∧ RVs g.K H m vs xs
inductive rOs (g : G) (H0 H : Hp) (m : Mu) : List V → List O → Prop
  | nil : rOs g H0 H m [] []
  | cons {v : V} {vs : List V} {x : O} {xs : List O} : rO g H0 H m v x → rOs g H0 H m vs xs → rOs g H0 H m (v :: vs) (x :: xs)
abbrev rB : Rel Bool Bool := fun _ _ _ v x => v = x
abbrev rL (g : G) : Rel (List Val) (List V) := fun _ H m v x => RVs g.K H m v x
/-- the start may be taken earlier -/
def Back {α β : Type} (rel : Rel α β) : Prop := ∀ (H0 H0' H : Hp) (m : Mu) (v : β) (x : α), (∀ b, H0' b = none → H0 b = none) → rel H0' H m v x → rel H0 H m v x
theorem back_O {g : G} : Back (rO g) := fun H0 H0' H m v x f r => by
  cases x with
  | v x => exact r
  | n xs => obtain ⟨a, vs, e1, e2, e3, e4, e5⟩ := r; exact ⟨a, vs, e1, e2, e3, f a e4, e5⟩
theorem back_Os {g : G} : Back (rOs g) := fun H0 H0' H m v x f r => by
  induction r with
  | nil => exact .nil
  | cons h _ ih => exact .cons (back_O _ _ _ _ _ _ f h) ih
theorem back_B : Back rB := fun _ _ _ _ _ _ _ r => r
theorem back_L {g : G} : Back (rL g) := fun _ _ _ _ _ _ _ r => r
theorem Ext.ro {g : G} {m m' : Mu} {H0 H H' : Hp} {h : MH} (x : Ext m m' H H') (r : RepH g m H h) {v : V} {y : O} (q : rO g H0 H m v y) : rO g H0 H' m' v y := by
  cases y with
  | v y => exact x.rv r q
  | n ys =>
    obtain ⟨a, vs, e1, e2, e3, e4, e5⟩ := q
    refine ⟨a, vs, e1, x.keep _ _ e2 e3, fun n z => ?_, e4, x.rvs r e5⟩
    rcases x.new n a z with q | q
    · exact e3 n q
    · rw [e2] at q; cases q
theorem Ext.ros {g : G} {m m' : Mu} {H0 H H' : Hp} {h : MH} (x : Ext m m' H H') (r : RepH g m H h) {v : List V} {y : List O} (q : rOs g H0 H m v y) : rOs g H0 H' m' v y := by
  induction q with
  | nil => exact .nil
  | cons h _ ih => exact .cons (x.ro r h) ih

/-- from the start m0, Hs -/
def Ct {α β : Type} (g : G) (W : WX) (rel : Rel α β) (m0 : Mu) (Hs : Hp) (r : R α) (σ : St) (Q : β → Hp → Prop) : Prop :=
  match r with
  | .ok x h' => ∀ m' H' v, Ext m0 m' Hs H' → RepH g m' H' h' → rel Hs H' m' v x → Q v H'
  | .ex c h' => ∀ m' H', Ext m0 m' Hs H' → RepH g m' H' h' → W (.ref (g.ca c)) none σ H'
  | .bad => False
section
variable {α β α' β' : Type} {g : G} {W : WX} {rel : Rel α β} {rel' : Rel α' β'} {m m' : Mu} {σ : St} {Hs H' : Hp} {h : MH}
theorem Ct.later {r : R α} {Q : β → Hp → Prop} (bk : Back rel) (x : Ext m m' Hs H') (q : RepH g m' H' h) (c : Ct g W rel m Hs r σ Q) : Ct g W rel m' H' r σ Q := by
  cases r with
  | ok y h' => exact fun m2 H2 v e r2 rv => c m2 H2 v (x.tr q e) r2 (bk _ _ _ _ _ _ (x.free q) rv)
  | ex y h' => exact fun m2 H2 e r2 => c m2 H2 (x.tr q e) r2
  | bad => exact c
theorem Ct.imp {r : R α} {Q Q' : β → Hp → Prop} (c : Ct g W rel m Hs r σ Q) (i : ∀ v H', Q v H' → Q' v H') : Ct g W rel m Hs r σ Q' := by
  cases r with
  | ok y h' => exact fun m2 H2 v e r2 rv => i _ _ (c m2 H2 v e r2 rv)
  | ex y h' => exact c
  | bad => exact c
theorem Ct.bind {r : R α} {f : α → MH → R α'} {Q : β' → Hp → Prop} (c : Ct g W rel' m Hs (r.bind f) σ Q) :
    Ct g W rel m Hs r σ fun v H1 => ∃ m1 x h1, Ext m m1 Hs H1 ∧ RepH g m1 H1 h1 ∧ rel Hs H1 m1 v x ∧ Ct g W rel' m Hs (f x h1) σ Q := by
  cases r with
  | ok y h' => exact fun m2 H2 v e r2 rv => ⟨m2, y, h', e, r2, rv, c⟩
  | ex y h' => exact c
  | bad => exact c
end

theorem Ct.step {α β α' β' : Type} {g : G} {W : WX} {rel : Rel α β} {rel' : Rel α' β'} {m m' : Mu} {σ : St} {Hs H' : Hp} {h : MH} {r : R α} {f : α → MH → R α'} {Q : β' → Hp → Prop} (x : Ext m m' Hs H') (q : RepH g m' H' h) (c : Ct g W rel' m Hs (r.bind f) σ Q) :
    Ct g W rel m' H' r σ fun v H1 => ∃ m1 x h1, Ext m' m1 H' H1 ∧ Ext m m1 Hs H1 ∧ RepH g m1 H1 h1 ∧ rel H' H1 m1 v x ∧ Ct g W rel' m Hs (f x h1) σ Q := by
  cases r with
  | ok y h' => exact fun m2 H2 v e r2 rv => ⟨m2, y, h', e, x.tr q e, r2, rv, c⟩
  | ex y h' => exact fun m2 H2 e r2 => c m2 H2 (x.tr q e) r2
  | bad => exact c

abbrev D := En → MH → R O
abbrev DA := En → MH → R (List O)
abbrev DB := En → MH → R Bool
def TVv {α β : Type} (g : G) (W : WX) (rel : Rel α β) (d : En → MH → R α) : St → Hp → (β → Hp → Prop) → Prop :=
  fun σ H Q => ∃ m ρ h, RepH g m H h ∧ REnv g.K H m σ ρ ∧ Ct g W rel m H (d ρ h) σ Q
abbrev TEv (g : G) (W : WX) (d : D) : TE := TVv g W (rO g) d
abbrev TAv (g : G) (W : WX) (d : DA) : TA := TVv g W (rOs g) d
abbrev TTv (g : G) (W : WX) (d : DB) : TT := TVv g W rB d
/-- the sequence of two -/
theorem TVv.bind {α β α' β' : Type} {g : G} {W : WX} {rel : Rel α β} {rel' : Rel α' β'} {d : En → MH → R α} {f : En → α → MH → R α'} {σ : St} {H : Hp} {Q : β' → Hp → Prop}
    (t : TVv g W rel' (fun ρ h => (d ρ h).bind (f ρ)) σ H Q) :
    TVv g W rel d σ H fun v H1 => ∃ m0 m1 ρ x h1, Ext m0 m1 H H1 ∧ RepH g m1 H1 h1 ∧ REnv g.K H1 m1 σ ρ ∧ rel H H1 m1 v x ∧ Ct g W rel' m0 H (f ρ x h1) σ Q := by
  obtain ⟨m, ρ, h, rh, re, c⟩ := t
  exact ⟨m, ρ, h, rh, re, (Ct.bind (rel := rel) c).imp fun v H1 ⟨m1, x, h1, e, r1, rv, c1⟩ => ⟨m, m1, ρ, x, h1, e, r1, e.env rh re, rv, c1⟩⟩

abbrev gx (X : Cx) (ca : Nat → Addr) : G := ⟨X.K, ca⟩
def SE (X : Cx) (ca : Nat → Addr) (W : WX) (e : Expr) (d : D) : Prop := PE X e (TEv (gx X ca) W d)
def ST (X : Cx) (ca : Nat → Addr) (W : WX) (e : Expr) (d : DB) : Prop := PT X e (TTv (gx X ca) W d)
def SA (X : Cx) (ca : Nat → Addr) (W : WX) (es : List Expr) (d : DA) : Prop := PA X es (TAv (gx X ca) W d)
section
variable {X : Cx}
theorem pe_w {e : Expr} {t t' : TE} (h : PE X e t) (i : ∀ σ H Q, t' σ H Q → t σ H Q) : PE X e t' := ⟨fun pins s σ H Q I q => h.run pins s σ H Q I (i σ H Q q)⟩
theorem pt_w {e : Expr} {t t' : TT} (h : PT X e t) (i : ∀ σ H Q, t' σ H Q → t σ H Q) : PT X e t' := ⟨fun pins s σ H Q I q => h.run pins s σ H Q I (i σ H Q q)⟩
theorem pa_w {e : List Expr} {t t' : TA} (h : PA X e t) (i : ∀ σ H Q, t' σ H Q → t σ H Q) : PA X e t' := ⟨fun p pins s σ H Q I q => h.run p pins s σ H Q I (i σ H Q q)⟩
theorem ps_w {e : Stmt} {t t' : TS} (h : PS X e t) (i : ∀ D σ H, t' D σ H → t D σ H) : PS X e t' := ⟨fun pins s σ H D I q => h.run pins s σ H D I (i D σ H q)⟩
theorem pss_w {e : List Stmt} {t t' : TS} (h : PSs X e t) (i : ∀ D σ H, t' D σ H → t D σ H) : PSs X e t' := ⟨fun pins s σ H D I q => h.run pins s σ H D I (i D σ H q)⟩
end

/-! ### new objects -/
def Mu.add (m : Mu) (n : Nat) (a : Addr) : Mu := fun k => if k = n then some a else m k
theorem Mu.add_same {m : Mu} {n : Nat} {a : Addr} : m.add n a n = some a := if_pos rfl
theorem Mu.add_ne {m : Mu} {n k : Nat} {a : Addr} (h : k ≠ n) : m.add n a k = m k := if_neg h
section
variable {g : G} {m : Mu} {H : Hp} {h : MH}
theorem RepH.fresh (r : RepH g m H h) : m h.length = none := by
  cases e : m h.length with
  | none => rfl
  | some a => exact absurd (r.dom _ _ e) (Nat.lt_irrefl _)
theorem RepH.ne (r : RepH g m H h) {p : Addr} (hp : H p = none) {n : Nat} {a : Addr} (e : m n = some a) : a ≠ p := fun z => by
  obtain ⟨u, q, _⟩ := r.noTup e
  rw [z, hp] at q; cases q
/-- an untracked address gets an object: not numbered -/
theorem Ext.laid {p : Addr} {o : HO} (hp : H p = none) : Ext m m H (upd H p o) :=
  ⟨fun _ _ e => e, fun _ _ e => .inl e, fun b u e _ => by rw [upd_ne (ne_of_none e hp)]; exact e⟩
theorem RepH.laid (r : RepH g m H h) {p : Addr} {o : HO} (hp : H p = none) : RepH g m (upd H p o) h :=
  ⟨r.dom, r.inj, fun n u e => let ⟨a, e1, q⟩ := r.at_ n u e
    ⟨a, e1, q.mono ((Ext.laid (m := m) hp).sqt r) (fun _ _ z => z) (upd_ne (r.ne hp e1))⟩⟩
/-- .. numbered -/
theorem Ext.num {p : Addr} {o : HO} (r : RepH g m H h) (hp : H p = none) : Ext m (m.add h.length p) H (upd H p o) := by
  refine ⟨fun n a e => ?_, fun n a e => ?_, fun b u e _ => by rw [upd_ne (ne_of_none e hp)]; exact e⟩
  · rw [Mu.add_ne]; exact e
    intro z; rw [z, r.fresh] at e; cases e
  · by_cases hn : n = h.length
    · subst hn; rw [Mu.add_same] at e; cases e; exact .inr hp
    · rw [Mu.add_ne hn] at e; exact .inl e
/-- an object that stands unnumbered (a new one) is numbered -/
theorem Ext.numd {p : Addr} (r : RepH g m H h) {m0 : Mu} {H0 : Hp} (x : Ext m0 m H0 H) (hp : H0 p = none) : Ext m0 (m.add h.length p) H0 H := by
  refine ⟨fun n a e => ?_, fun n a e => ?_, x.keep⟩
  · rw [Mu.add_ne]; exact x.le n a e
    intro z; have := x.le n a e; rw [z, r.fresh] at this; cases this
  · by_cases hn : n = h.length
    · subst hn; rw [Mu.add_same] at e; cases e; exact .inr hp
    · rw [Mu.add_ne hn] at e; exact x.new n a e
theorem RepH.numd (r : RepH g m H h) {p : Addr} {o : Ob} (hp : ∀ n, m n ≠ some p) (q : RO g H (m.add h.length p) p o) : RepH g (m.add h.length p) H (h ++ [o]) := by
  refine ⟨fun n a e => ?_, fun n k a e e2 => ?_, fun n u e => ?_⟩
  · by_cases hn : n = h.length
    · subst hn; simp
    · rw [Mu.add_ne hn] at e; have := r.dom n a e; simp; omega
  · by_cases hn : n = h.length
    · by_cases hk : k = h.length
      · rw [hn, hk]
      · subst hn; rw [Mu.add_same] at e; cases e; rw [Mu.add_ne hk] at e2; exact absurd e2 (hp k)
    · by_cases hk : k = h.length
      · subst hk; rw [Mu.add_same] at e2; cases e2; rw [Mu.add_ne hn] at e; exact absurd e (hp n)
      · rw [Mu.add_ne hn] at e; rw [Mu.add_ne hk] at e2; exact r.inj n k a e e2
  · by_cases hn : n < h.length
    · rw [List.getElem?_append_left hn] at e
      obtain ⟨a, e1, q1⟩ := r.at_ n u e
      refine ⟨a, by rw [Mu.add_ne (Nat.ne_of_lt hn)]; exact e1, q1.mono Kp.refl (fun k b z => ?_) rfl⟩
      rw [Mu.add_ne]; exact z
      exact Nat.ne_of_lt (r.dom k b z)
    · have hn2 : n = h.length := by
        rcases Nat.lt_or_ge n (h.length + 1) with z | z
        · omega
        · rw [List.getElem?_eq_none (by simpa using z)] at e; cases e
      subst hn2
      rw [List.getElem?_append_right (Nat.le_refl _)] at e
      simp at e
      subst e
      exact ⟨p, Mu.add_same, q⟩
/-- an object of number n is changed -/
theorem Ext.upd {n : Nat} {a : Addr} {o : HO} (e : m n = some a) : Ext m m H (upd H a o) :=
  ⟨fun _ _ z => z, fun _ _ z => .inl z, fun b u z q => by
    rw [upd_ne]; exact z
    intro w; exact q n (by rw [w]; exact e)⟩
theorem RepH.upd (r : RepH g m H h) {n : Nat} {a : Addr} {o : HO} {u : Ob} (e : m n = some a) (q : RO g (L2.upd H a o) m a u) : RepH g m (L2.upd H a o) (h.set n u) := by
  refine ⟨fun k b z => by rw [List.length_set]; exact r.dom k b z, r.inj, fun k w z => ?_⟩
  by_cases hk : n = k
  · subst hk
    rw [List.getElem?_set_self (r.dom n a e)] at z
    cases z
    exact ⟨a, e, q⟩
  · rw [List.getElem?_set_ne hk] at z
    obtain ⟨b, e1, q1⟩ := r.at_ k w z
    refine ⟨b, e1, q1.mono ((Ext.upd (o := o) e).sqt r) (fun _ _ z => z) (upd_ne ?_)⟩
    intro z2; exact hk (r.inj n k b (by rw [z2]; exact e) e1)
end
end Mi

/-! Mini: expressions. -/
namespace Mi
open PySem L2

section
variable {g : G} {W : WX} {m : Mu} {σ : St} {H H0 : Hp} {h : MH}
theorem TVv.imp {α β : Type} {rel : Rel α β} {d : En → MH → R α} {Q Q' : β → Hp → Prop} (t : TVv g W rel d σ H Q) (i : ∀ v H', Q v H' → Q' v H') : TVv g W rel d σ H Q' := by
  obtain ⟨m, ρ, h, rh, re, c⟩ := t
  exact ⟨m, ρ, h, rh, re, c.imp i⟩
theorem Ct.val {m0 : Mu} {Hs : Hp} {x : Val} {v : V} {Q : VK} (c : Ct g W (rO g) m0 Hs (.ok (.v x) h) σ Q) (e : Ext m0 m Hs H) (r : RepH g m H h) (q : RV g.K H m v x) : Q v H := c m H v e r q
theorem Ct.new {m0 : Mu} {Hs : Hp} {xs : List Val} {vs : List V} {Q : VK} (c : Ct g W (rO g) m0 Hs (.ok (.n xs) h) σ Q) (e : Ext m0 m Hs H) (r : RepH g m H h) (q : RVs g.K H m vs xs) : ∀ p, H p = none → Q (.ref p) (upd H p (.lst vs)) := fun p hp =>
  c m _ _ (e.tr r (Ext.laid hp)) (r.laid hp) ⟨p, vs, rfl, upd_same, fun n e => r.ne hp e rfl, e.free r p hp, (Ext.laid hp).rvs r q⟩
theorem Ct.tup {m0 : Mu} {Hs : Hp} {xs : List Val} {vs : List V} {Q : VK} (c : Ct g W (rO g) m0 Hs (.ok (.v (.tup xs)) h) σ Q) (e : Ext m0 m Hs H) (r : RepH g m H h) (q : RVs g.K H m vs xs) : ∀ p, H p = none → Q (.ref p) (upd H p (.tup vs)) := fun p hp =>
  c m _ _ (e.tr r (Ext.laid hp)) (r.laid hp) (RV.tup upd_same ((Ext.laid hp).rvs r q))
end

/-! ### what an operand holds -/
inductive LK where | mu | fz | tp
def seqO (h : MH) : O → Option (LK × List Val)
  | .n xs => some (.mu, xs)
  | .v (.tup xs) => some (.tp, xs)
  | .v (.fl xs) => some (.fz, xs)
  | .v (.ref n) => match h[n]? with
    | some (.lst xs) => some (.mu, xs)
    | _ => none
  | _ => none
def LKOk (K : PySem.W.Frag) (H : Hp) (a : Addr) (vs : List V) : LK → Prop
  | .mu => H a = some (.lst vs)
  | .fz => FzL K H a vs
  | .tp => H a = some (.tup vs)
theorem LKOk.sq {K : PySem.W.Frag} {H : Hp} {a : Addr} {vs : List V} {k : LK} (x : LKOk K H a vs k) : SqL K H a vs ∨ SqT K H a vs := by
  cases k with
  | mu => exact .inl (SqL.of x)
  | fz => exact .inl (FzL.sql x)
  | tp => exact .inr (SqT.of x)
theorem LKOk.sql {K : PySem.W.Frag} {H : Hp} {a : Addr} {vs : List V} {k : LK} (x : LKOk K H a vs k) (hk : k ≠ .tp) : SqL K H a vs := by
  cases k with
  | mu => exact SqL.of x
  | fz => exact FzL.sql x
  | tp => exact absurd rfl hk
theorem seqO_ok {g : G} {m : Mu} {H H0 : Hp} {h : MH} {v : V} {o : O} {k : LK} {xs : List Val} (r : RepH g m H h) (q : rO g H0 H m v o) (e : seqO h o = some (k, xs)) :
    ∃ a vs, v = .ref a ∧ LKOk g.K H a vs k ∧ RVs g.K H m vs xs := by
  cases o with
  | n ys =>
    simp only [seqO, Option.some.injEq, Prod.mk.injEq] at e
    obtain ⟨rfl, rfl⟩ := e
    obtain ⟨a, vs, e1, e2, _, _, e5⟩ := q
    exact ⟨a, vs, e1, e2, e5⟩
  | v x =>
    cases x with
    | tup ys =>
      simp only [seqO, Option.some.injEq, Prod.mk.injEq] at e
      obtain ⟨rfl, rfl⟩ := e
      cases q with
      | tup h1 h2 => exact ⟨_, _, rfl, h1, h2⟩
    | fl ys =>
      simp only [seqO, Option.some.injEq, Prod.mk.injEq] at e
      obtain ⟨rfl, rfl⟩ := e
      cases q with
      | fl h1 h2 => exact ⟨_, _, rfl, h1, h2⟩
    | ref n =>
      simp only [seqO] at e
      cases q with
      | ref hm =>
        split at e
        · rename_i ys hy
          simp only [Option.some.injEq, Prod.mk.injEq] at e
          obtain ⟨rfl, rfl⟩ := e
          obtain ⟨a, e1, vs, e2, e3⟩ := r.at_ _ _ hy
          rw [hm] at e1; cases e1
          exact ⟨_, vs, rfl, e2, e3⟩
        · cases e
    | _ => simp [seqO] at e
theorem rO.int {g : G} {m : Mu} {H H0 : Hp} {v : V} {i : Int} (q : rO g H0 H m v (.v (.int i))) : v = .int i := by cases q; rfl
theorem rO.bl {g : G} {m : Mu} {H H0 : Hp} {v : V} {i : Bool} (q : rO g H0 H m v (.v (.bl i))) : v = .bl i := by cases q; rfl
theorem rO.str {g : G} {m : Mu} {H H0 : Hp} {v : V} {i : List Nat} (q : rO g H0 H m v (.v (.str i))) : v = .str (sOf i) := by cases q; rfl
theorem rO.strv {g : G} {m : Mu} {H H0 : Hp} {v : V} {i : List Nat} (q : rO g H0 H m v (.v (.str i))) : ∀ c ∈ i, c < 1114112 := by cases q; assumption
theorem rO.non {g : G} {m : Mu} {H H0 : Hp} {v : V} (q : rO g H0 H m v (.v .non)) : v = .non := by cases q; rfl

/-! ### names, constants -/
def dVar (i : Nat) : D := fun ρ h => match ρ[i]? with
  | some (some x) => .ok (.v x) h
  | _ => .bad
def dC (x : Val) : D := fun _ h => .ok (.v x) h
section
variable {X : Cx} {ca : Nat → Addr} {W : WX} {a b c e : Expr} {da db dc d : D} {pos : Pos}
theorem se_var (i : Nat) {x : Str} (hN : X.N[i]? = some x := by rfl) (hv : Vis X.env.scope x := by first | exact Or.inl rfl | exact Or.inr (Or.inl rfl) | exact Or.inr (Or.inr rfl)) (hd : (x == ("__debug__" : Str)) = false := by decide +kernel)
    (hcd : (x == ("__classdict__" : Str)) = false := by decide +kernel) : SE X ca W (.Name x pos) (dVar i) :=
  pe_w (pe_var hN hv hd hcd) fun σ H Q ⟨m, ρ, h, rh, re, c⟩ => by
    unfold dVar at c
    split at c
    · rename_i x e
      obtain ⟨v, e1, rv⟩ := re.at_ i x e
      exact ⟨v, e1, Ct.val c Ext.refl rh rv⟩
    · exact c.elim
theorem se_c {x : Val} {v : V} {e : Expr} (hp : PE X e (tC v)) (hr : ∀ H m, RV X.K H m v x) : SE X ca W e (dC x) :=
  pe_w hp fun σ H Q ⟨m, ρ, h, rh, re, c⟩ => Ct.val c Ext.refl rh (hr H m)
theorem se_int {i : Int} {j : Nat} : SE X ca W (.Constant (.int i) j pos) (dC (.int i)) := se_c pe_int fun _ _ => .int i
theorem se_bl {i : Bool} {j : Nat} : SE X ca W (.Constant (.bool i) j pos) (dC (.bl i)) := se_c pe_bl fun _ _ => .bl i
theorem se_non {j : Nat} : SE X ca W (.Constant .none j pos) (dC .non) := se_c pe_non fun _ _ => .non
theorem se_str (s : List Nat) {x : Str} {j : Nat} (hx : x = sOf s := by decide +kernel) (hv : s.all (fun c => decide (c < 1114112)) = true := by decide +kernel) : SE X ca W (.Constant (.str x) j pos) (dC (.str s)) := se_c pe_str fun _ _ => by
  rw [hx]
  exact .str s fun c hc => of_decide_eq_true (List.all_eq_true.mp hv c hc)
theorem se_glob {x : Str} {u : Value} {v : V} (y : Val) (hm : X.mg x = some u) (r : RelV v u) (hr : ∀ H m, RV X.K H m v y) (hg : Gl X x := by rfl) (hd : (x == ("__debug__" : Str)) = false := by decide +kernel) : SE X ca W (.Name x pos) (dC y) :=
  se_c (pe_glob hg hm r hd) hr
theorem SE.congr {d d' : D} (h : SE X ca W e d) (q : ∀ ρ h, d' ρ h = d ρ h) : SE X ca W e d' :=
  pe_w h fun σ H Q ⟨m, ρ, h, rh, re, c⟩ => ⟨m, ρ, h, rh, re, by rw [← q]; exact c⟩

/-! ### two-place operations -/
def dOp (f : O → O → MH → R O) (da db : D) : D := fun ρ h => (da ρ h).bind fun x h1 => (db ρ h1).bind fun y h2 => f x y h2
def FOk (g : G) (W : WX) (f : O → O → MH → R O) (r : R2) : Prop :=
  ∀ (m0 m : Mu) (σ : St) (Hs H0 H1 H : Hp) (h : MH) (v u : V) (x y : O) (Q : VK), Ext m0 m Hs H → RepH g m H h → rO g H0 H m v x → rO g H1 H m u y → Ct g W (rO g) m0 Hs (f x y h) σ Q → r v u H Q
theorem tv_op {g : G} {f : O → O → MH → R O} {r : R2} (ho : FOk g W f r) {σ : St} {H : Hp} {Q : VK} (t : TEv g W (dOp f da db) σ H Q) : tOp r (TEv g W da) (TEv g W db) σ H Q := by
  refine TVv.imp (TVv.bind (rel := rO g) (f := fun ρ x h1 => (db ρ h1).bind fun y h2 => f x y h2) t) ?_
  rintro v H1 ⟨m0, m1, ρ, x, h1, fr, r1, e1, rv, c⟩
  refine ⟨m1, ρ, h1, r1, e1, (Ct.step (rel := rO g) fr r1 c).imp ?_⟩
  rintro u H2 ⟨m2, y, h2, ex, fr2, r2, rv2, c2⟩
  exact ho m0 m2 σ H H H1 H2 h2 v u x y Q fr2 r2 (ex.ro r1 rv) rv2 c2
theorem se_op {op : Operator} {f : O → O → MH → R O} {r : R2} (hr : OpR X (binaryOp op) r) (ho : FOk (gx X ca) W f r) (ha : SE X ca W a da) (hb : SE X ca W b db) : SE X ca W (.BinOp a op b pos) (dOp f da db) :=
  pe_w (pe_op hr ha hb) fun σ H Q t => tv_op ho t
theorem se_cmp {op : CmpOp} {f : O → O → MH → R O} {r : R2} (hr : OpR X (compareOp op) r) (ho : FOk (gx X ca) W f r) (ha : SE X ca W a da) (hb : SE X ca W b db) (hm : behindInMarks op b = false := by first | exact nomark _ | rfl) : SE X ca W (.Compare a [op] [b] pos) (dOp f da db) :=
  pe_w (pe_cmpR hr ha hb hm) fun σ H Q t => tv_op ho t
/-- an operand that is a truth, as a test -/
def asB (o : O) (h : MH) : R Bool := match o with
  | .v (.bl b) => .ok b h
  | _ => .bad
def dT (d : D) : DB := fun ρ h => (d ρ h).bind asB
theorem asB_ok {g : G} {W : WX} {m0 m : Mu} {σ : St} {H H0 : Hp} {h : MH} {v : V} {o : O} {Q : Bool → Hp → Prop} {Hs : Hp} (e : Ext m0 m Hs H) (r : RepH g m H h) (q : rO g H0 H m v o) (c : Ct g W rB m0 Hs (asB o h) σ Q) : ∃ k, v = .bl k ∧ Q k H := by
  unfold asB at c
  split at c
  · exact ⟨_, rO.bl q, c m H _ e r rfl⟩
  · exact c.elim
theorem tv_T {g : G} {t : TE} (i : ∀ σ H Q, TEv g W d σ H Q → t σ H Q) {σ : St} {H : Hp} {Q : Bool → Hp → Prop} (q : TTv g W (dT d) σ H Q) : tTest t σ H Q := by
  refine i σ H _ (TVv.imp (TVv.bind (rel := rO g) (f := fun _ => asB) q) ?_)
  rintro v H1 ⟨m0, m1, ρ, x, h1, fr, r1, e1, rv, c⟩
  exact asB_ok fr r1 rv c
theorem st_cmp {op : CmpOp} {f : O → O → MH → R O} {r : R2} (hr : OpR X (compareOp op) r) (ho : FOk (gx X ca) W f r) (ha : SE X ca W a da) (hb : SE X ca W b db) (hm : behindInMarks op b = false := by first | exact nomark _ | rfl) : ST X ca W (.Compare a [op] [b] pos) (dT (dOp f da db)) :=
  pt_w (pt_cmpR hr ha hb hm) fun σ H Q t => tv_T (fun σ H Q t => tv_op ho t) t
theorem st_val (he : SE X ca W e d) (hi : ∀ whole, isTrue e X.env whole = (do let v ← whole; standAt e.pos; holding [v] (truthy v)) := by intro _; rfl) : ST X ca W e (dT d) :=
  pt_w (pt_val he hi) fun σ H Q t => tv_T (t := TEv (gx X ca) W d) (fun σ H Q t => t) t
/-- a < b < c -/
def dCh (f f' : O → O → MH → R O) (da db dc : D) : D := fun ρ h => (da ρ h).bind fun x h1 => (db ρ h1).bind fun y h2 => (f x y h2).bind fun z h3 => match z with
  | .v (.bl true) => (dc ρ h3).bind fun w h4 => f' y w h4
  | .v (.bl false) => .ok (.v (.bl false)) h3
  | _ => .bad
theorem tv_ch {g : G} {f f' : O → O → MH → R O} {r r' : R2} (ho : FOk g W f r) (ho' : FOk g W f' r') {σ : St} {H : Hp} {Q : VK} (t : TEv g W (dCh f f' da db dc) σ H Q) : tChain r r' (TEv g W da) (TEv g W db) (TEv g W dc) σ H Q := by
  refine TVv.imp (TVv.bind (rel := rO g) (f := fun ρ x h1 => (db ρ h1).bind fun y h2 => (f x y h2).bind fun z h3 => match z with
  | .v (.bl true) => (dc ρ h3).bind fun w h4 => f' y w h4
  | .v (.bl false) => .ok (.v (.bl false)) h3
  | _ => .bad) t) ?_
  rintro v H1 ⟨m0, m1, ρ, x, h1, fr, r1, e1, rv, c⟩
  refine ⟨m1, ρ, h1, r1, e1, (Ct.step (rel := rO g) fr r1 c).imp ?_⟩
  rintro u H2 ⟨m2, y, h2, ex, fr2, r2, rv2, c2⟩
  refine ho m2 m2 σ H2 H H1 H2 h2 v u x y _ Ext.refl r2 (ex.ro r1 rv) rv2 ((Ct.step (rel := rO g) fr2 r2 c2).imp ?_)
  rintro z H3 ⟨m3, zz, h3, ex3, fr3, r3, rv3, c3⟩
  split at c3
  · cases rO.bl rv3
    refine ⟨true, rfl, ?_⟩
    rw [if_pos rfl]
    refine ⟨m3, ρ, h3, r3, ex3.env r2 (ex.env r1 e1), (Ct.step (rel := rO g) fr3 r3 c3).imp ?_⟩
    rintro w H4 ⟨m4, ww, h4, ex4, fr4, r4, rv4, c4⟩
    exact ho' m0 m4 σ H H1 H3 H4 h4 u w y ww _ fr4 r4 (ex4.ro r3 (ex3.ro r2 rv2)) rv4 c4
  · cases rO.bl rv3
    refine ⟨false, rfl, ?_⟩
    rw [if_neg Bool.false_ne_true]
    exact Ct.val c3 fr3 r3 (.bl false)
  · exact c3.elim
theorem se_ch {op op' : CmpOp} {f f' : O → O → MH → R O} {r r' : R2} (hr : OpR X (compareOp op) r) (hr' : OpR X (compareOp op') r') (ho : FOk (gx X ca) W f r) (ho' : FOk (gx X ca) W f' r') (ha : SE X ca W a da) (hb : SE X ca W b db) (hc : SE X ca W c dc)
    (hm : lastMarks [op, op'] [b, c] = false := by with_unfolding_all rfl) : SE X ca W (.Compare a [op, op'] [b, c] pos) (dCh f f' da db dc) :=
  pe_w (pe_chain hr hr' ha hb hc hm) fun σ H Q t => tv_ch ho ho' t
theorem st_ch {op op' : CmpOp} {f f' : O → O → MH → R O} {r r' : R2} (hr : OpR X (compareOp op) r) (hr' : OpR X (compareOp op') r') (ho : FOk (gx X ca) W f r) (ho' : FOk (gx X ca) W f' r') (ha : SE X ca W a da) (hb : SE X ca W b db) (hc : SE X ca W c dc)
    (hm : lastMarks [op, op'] [b, c] = false := by with_unfolding_all rfl) : ST X ca W (.Compare a [op, op'] [b, c] pos) (dT (dCh f f' da db dc)) :=
  pt_w (pt_chain hr hr' ha hb hc hm) fun σ H Q t => tv_T (fun σ H Q t => tv_ch ho ho' t) t

/-! ### and, or, not, if -/
variable {ta tb : DB} {rest : List Expr}
def SW (X : Cx) (ca : Nat → Addr) (W : WX) (e : Expr) (d : DB) : Prop := PW X e (TTv (gx X ca) W d)
theorem pw_w {e : Expr} {t t' : TT} (h : PW X e t) (i : ∀ σ H Q, t' σ H Q → t σ H Q) : PW X e t' := ⟨fun wh pins s σ H Q I q => h.run wh pins s σ H Q I (i σ H Q q)⟩
def bAnd (ta tb : DB) : DB := fun ρ h => (ta ρ h).bind fun b h1 => if b = true then tb ρ h1 else .ok false h1
def bOr (ta tb : DB) : DB := fun ρ h => (ta ρ h).bind fun b h1 => if b = true then .ok true h1 else tb ρ h1
def bNot (ta : DB) : DB := fun ρ h => (ta ρ h).bind fun b h1 => .ok (!b) h1
theorem SW.st (h : SW X ca W e ta) : ST X ca W e ta := h.pt
theorem sw_and1 (ha : ST X ca W a ta) : SW X ca W (.BoolOp .And [a] pos) ta := pw_and1 ha
theorem sw_or1 (ha : ST X ca W a ta) : SW X ca W (.BoolOp .Or [a] pos) ta := pw_or1 ha
theorem Ct.okB {g : G} {m0 m : Mu} {σ : St} {H : Hp} {h : MH} {k : Bool} {Hs : Hp} {Q : Bool → Hp → Prop} (c : Ct g W rB m0 Hs (.ok k h) σ Q) (e : Ext m0 m Hs H) (r : RepH g m H h) : Q k H := c m H k e r rfl
theorem sw_and (ha : ST X ca W a ta) (hb : SW X ca W (.BoolOp .And (b :: rest) pos) tb) : SW X ca W (.BoolOp .And (a :: b :: rest) pos) (bAnd ta tb) :=
  pw_w (pw_and ha hb) fun σ H Q t => by
    refine TVv.imp (TVv.bind (rel := rB) (f := fun ρ b h1 => if b = true then tb ρ h1 else .ok false h1) t) ?_
    rintro v H1 ⟨m0, m1, ρ, x, h1, fr, r1, e1, rfl, c⟩
    cases v with
    | true => rw [if_pos rfl]; rw [if_pos rfl] at c; exact ⟨m1, ρ, h1, r1, e1, c.later back_B fr r1⟩
    | false => rw [if_neg Bool.false_ne_true]; rw [if_neg Bool.false_ne_true] at c; exact Ct.okB c fr r1
theorem sw_or (ha : ST X ca W a ta) (hb : SW X ca W (.BoolOp .Or (b :: rest) pos) tb) : SW X ca W (.BoolOp .Or (a :: b :: rest) pos) (bOr ta tb) :=
  pw_w (pw_or ha hb) fun σ H Q t => by
    refine TVv.imp (TVv.bind (rel := rB) (f := fun ρ b h1 => if b = true then .ok true h1 else tb ρ h1) t) ?_
    rintro v H1 ⟨m0, m1, ρ, x, h1, fr, r1, e1, rfl, c⟩
    cases v with
    | true => rw [if_pos rfl]; rw [if_pos rfl] at c; exact Ct.okB c fr r1
    | false => rw [if_neg Bool.false_ne_true]; rw [if_neg Bool.false_ne_true] at c; exact ⟨m1, ρ, h1, r1, e1, c.later back_B fr r1⟩
theorem st_not (ha : ST X ca W a ta) : ST X ca W (.UnaryOp .Not a pos) (bNot ta) :=
  pt_w (L2.pt_not ha) fun σ H Q t => by
    refine TVv.imp (TVv.bind (rel := rB) (f := fun ρ b h1 => .ok (!b) h1) t) ?_
    rintro v H1 ⟨m0, m1, ρ, x, h1, fr, r1, e1, rfl, c⟩
    exact Ct.okB c fr r1
/-- .. as values -/
def dAnd (da db : D) : D := fun ρ h => (da ρ h).bind fun o h1 => match o with
  | .v (.bl true) => db ρ h1
  | .v (.bl false) => .ok (.v (.bl false)) h1
  | _ => .bad
def dOr (da db : D) : D := fun ρ h => (da ρ h).bind fun o h1 => match o with
  | .v (.bl true) => .ok (.v (.bl true)) h1
  | .v (.bl false) => db ρ h1
  | _ => .bad
def dNot (da : D) : D := fun ρ h => (da ρ h).bind fun o h1 => match o with
  | .v (.bl b) => .ok (.v (.bl (!b))) h1
  | _ => .bad
theorem se_one {op : BoolOp} (ha : SE X ca W a da) : SE X ca W (.BoolOp op [a] pos) da := pe_one ha
theorem se_and (ha : SE X ca W a da) (hb : SE X ca W (.BoolOp .And (b :: rest) pos) db) : SE X ca W (.BoolOp .And (a :: b :: rest) pos) (dAnd da db) :=
  pe_w (pe_and ha hb) fun σ H Q t => by
    refine TVv.imp (TVv.bind (rel := rO (gx X ca)) (f := fun ρ o h1 => match o with
  | .v (.bl true) => db ρ h1
  | .v (.bl false) => .ok (.v (.bl false)) h1
  | _ => .bad) t) ?_
    rintro v H1 ⟨m0, m1, ρ, x, h1, fr, r1, e1, rv, c⟩
    split at c
    · cases rO.bl rv
      exact ⟨true, rfl, by rw [if_pos rfl]; exact ⟨m1, ρ, h1, r1, e1, c.later back_O fr r1⟩⟩
    · cases rO.bl rv
      exact ⟨false, rfl, by rw [if_neg Bool.false_ne_true]; exact Ct.val c fr r1 (.bl _)⟩
    · exact c.elim
theorem se_or (ha : SE X ca W a da) (hb : SE X ca W (.BoolOp .Or (b :: rest) pos) db) : SE X ca W (.BoolOp .Or (a :: b :: rest) pos) (dOr da db) :=
  pe_w (pe_or ha hb) fun σ H Q t => by
    refine TVv.imp (TVv.bind (rel := rO (gx X ca)) (f := fun ρ o h1 => match o with
  | .v (.bl true) => .ok (.v (.bl true)) h1
  | .v (.bl false) => db ρ h1
  | _ => .bad) t) ?_
    rintro v H1 ⟨m0, m1, ρ, x, h1, fr, r1, e1, rv, c⟩
    split at c
    · cases rO.bl rv
      exact ⟨true, rfl, by rw [if_pos rfl]; exact Ct.val c fr r1 (.bl _)⟩
    · cases rO.bl rv
      exact ⟨false, rfl, by rw [if_neg Bool.false_ne_true]; exact ⟨m1, ρ, h1, r1, e1, c.later back_O fr r1⟩⟩
    · exact c.elim
theorem se_not (ha : SE X ca W a da) : SE X ca W (.UnaryOp .Not a pos) (dNot da) :=
  pe_w (L2.pe_not ha) fun σ H Q t => by
    refine TVv.imp (TVv.bind (rel := rO (gx X ca)) (rel' := rO (gx X ca)) (f := fun ρ o h1 => match o with
  | .v (.bl b) => .ok (.v (.bl (!b))) h1
  | _ => .bad) t) ?_
    rintro v H1 ⟨m0, m1, ρ, x, h1, fr, r1, e1, rv, c⟩
    split at c
    · cases rO.bl rv
      exact ⟨_, rfl, Ct.val c fr r1 (.bl _)⟩
    · exact c.elim
def dIf (t : DB) (da db : D) : D := fun ρ h => (t ρ h).bind fun b h1 => if b = true then da ρ h1 else db ρ h1
theorem se_if {c : Expr} (hc : ST X ca W c ta) (ha : SE X ca W a da) (hb : SE X ca W b db) : SE X ca W (.IfExp c a b pos) (dIf ta da db) :=
  pe_w (pe_ifExp hc ha hb) fun σ H Q t => by
    refine TVv.imp (TVv.bind (rel := rB) (f := fun ρ b h1 => if b = true then da ρ h1 else db ρ h1) t) ?_
    rintro v H1 ⟨m0, m1, ρ, x, h1, fr, r1, e1, rfl, c⟩
    cases v with
    | true => rw [if_pos rfl]; rw [if_pos rfl] at c; exact ⟨m1, ρ, h1, r1, e1, c.later back_O fr r1⟩
    | false => rw [if_neg Bool.false_ne_true]; rw [if_neg Bool.false_ne_true] at c; exact ⟨m1, ρ, h1, r1, e1, c.later back_O fr r1⟩
/-- one operand -/
def dU (f : O → MH → R O) (da : D) : D := fun ρ h => (da ρ h).bind f
def FOk1 (g : G) (W : WX) (f : O → MH → R O) (r : V → Hp → VK → Prop) : Prop :=
  ∀ (m0 m : Mu) (σ : St) (Hs H0 H : Hp) (h : MH) (v : V) (x : O) (Q : VK), Ext m0 m Hs H → RepH g m H h → rO g H0 H m v x → Ct g W (rO g) m0 Hs (f x h) σ Q → r v H Q
theorem tv_U {g : G} {f : O → MH → R O} {r : V → Hp → VK → Prop} (ho : FOk1 g W f r) {σ : St} {H : Hp} {Q : VK} (t : TEv g W (dU f da) σ H Q) : TEv g W da σ H fun x H1 => r x H1 Q := by
  refine TVv.imp (TVv.bind (rel := rO g) (f := fun _ => f) t) ?_
  rintro v H1 ⟨m0, m1, ρ, x, h1, fr, r1, e1, rv, c⟩
  exact ho m0 m1 σ H H H1 h1 v x Q fr r1 rv c
theorem se_un {op : UnaryOp} {f : O → MH → R O} {r : V → Hp → VK → Prop} (hr : UnR X (unaryOp op) r) (ho : FOk1 (gx X ca) W f r) (ha : SE X ca W a da) : SE X ca W (.UnaryOp op a pos) (dU f da) :=
  pe_w (pe_un hr ha) fun σ H Q t => tv_U ho t
def fIsN (o : O) (h : MH) : R O := match o with
  | .v .non => .ok (.v (.bl true)) h
  | _ => .ok (.v (.bl false)) h
def fNotN (o : O) (h : MH) : R O := match o with
  | .v .non => .ok (.v (.bl false)) h
  | _ => .ok (.v (.bl true)) h
theorem isN_rO {g : G} {H0 H : Hp} {m : Mu} {v : V} {o : O} (q : rO g H0 H m v o) : decide (v = .non) = (match o with | .v .non => true | _ => false) := by
  cases o with
  | n xs => obtain ⟨a, vs, rfl, _⟩ := q; rfl
  | v x => cases q <;> rfl
theorem fIsN_ok {g : G} : FOk1 g W fIsN (fun x H Q => Q (.bl (decide (x = .non))) H) := fun m0 m σ Hs H0 H h v x Q fr r q c => by
  show Q (.bl (decide (v = .non))) H
  rw [isN_rO q]
  cases x with
  | n xs => exact Ct.val c fr r (.bl _)
  | v x => cases x <;> exact Ct.val c fr r (.bl _)
theorem fNotN_ok {g : G} : FOk1 g W fNotN (fun x H Q => Q (.bl (!decide (x = .non))) H) := fun m0 m σ Hs H0 H h v x Q fr r q c => by
  show Q (.bl (!decide (v = .non))) H
  rw [isN_rO q]
  cases x with
  | n xs => exact Ct.val c fr r (.bl _)
  | v x => cases x <;> exact Ct.val c fr r (.bl _)
theorem se_isN {j : Nat} {p : Pos} (ha : SE X ca W a da) : SE X ca W (.Compare a [.Is] [.Constant .none j p] pos) (dU fIsN da) :=
  pe_w (pe_cmp (pc_isN ha)) fun σ H Q t => tv_U fIsN_ok t
theorem se_notN {j : Nat} {p : Pos} (ha : SE X ca W a da) : SE X ca W (.Compare a [.IsNot] [.Constant .none j p] pos) (dU fNotN da) :=
  pe_w (pe_cmp (pc_notN ha)) fun σ H Q t => tv_U fNotN_ok t
theorem st_isN {j : Nat} {p : Pos} (ha : SE X ca W a da) : ST X ca W (.Compare a [.Is] [.Constant .none j p] pos) (dT (dU fIsN da)) :=
  pt_w (pt_cmp (pc_isN ha)) fun σ H Q t => tv_T (fun σ H Q t => tv_U fIsN_ok t) t
theorem st_notN {j : Nat} {p : Pos} (ha : SE X ca W a da) : ST X ca W (.Compare a [.IsNot] [.Constant .none j p] pos) (dT (dU fNotN da)) :=
  pt_w (pt_cmp (pc_notN ha)) fun σ H Q t => tv_T (fun σ H Q t => tv_U fNotN_ok t) t

/-! ### argument lists, displays -/
def aNil : DA := fun _ h => .ok [] h
def aCons (d : D) (t : DA) : DA := fun ρ h => (d ρ h).bind fun o h1 => (t ρ h1).bind fun os h2 => .ok (o :: os) h2
variable {es : List Expr} {ds : DA}
theorem sa_nil : SA X ca W [] aNil := pa_w pa_nil fun σ H Q ⟨m, ρ, h, rh, re, c⟩ => c m H [] Ext.refl rh .nil
theorem sa_cons (ha : SE X ca W e d) (hr : SA X ca W es ds) (hs : starEach (e :: es) X.env = (false, eval e X.env) :: starEach es X.env := by rfl) : SA X ca W (e :: es) (aCons d ds) :=
  pa_w (pa_cons ha hr hs) fun σ H Q t => by
    refine TVv.imp (TVv.bind (rel := rO (gx X ca)) (f := fun ρ o h1 => (ds ρ h1).bind fun os h2 => .ok (o :: os) h2) t) ?_
    rintro v H1 ⟨m0, m1, ρ, x, h1, fr, r1, e1, rv, c⟩
    refine ⟨m1, ρ, h1, r1, e1, (Ct.step (rel := rOs (gx X ca)) fr r1 c).imp ?_⟩
    rintro vs H2 ⟨m2, xs, h2, ex, fr2, r2, rv2, c2⟩
    exact c2 m2 H2 (v :: vs) fr2 r2 (.cons (ex.ro r1 rv) (back_Os _ _ _ _ _ _ (fr.free r1) rv2))
end
end Mi

/-! Mini: the operations. -/
namespace Mi
open PySem L2

theorem sl_eq : sizeLine = 16777216 := sizeLine_eq
/-! ### + - * // % ** -/
def fAdd (x y : O) (h : MH) : R O := match x, y with
  | .v (.int i), .v (.int j) => .ok (.v (.int (i + j))) h
  | .v (.str a), .v (.str b) => if a.length + b.length ≤ 16777216 then .ok (.v (.str (a ++ b))) h else .bad
  | _, _ => match seqO h x, seqO h y with
    | some (.mu, xs), some (.mu, ys) => if xs.length + ys.length ≤ 16777216 then .ok (.n (xs ++ ys)) h else .bad
    | some (.tp, xs), some (.tp, ys) => if xs.length + ys.length ≤ 16777216 then .ok (.v (.tup (xs ++ ys))) h else .bad
    | _, _ => .bad
abbrev rAddAll (K : PySem.W.Frag) : R2 := fun x y H Q => (∃ i j, x = .int i ∧ y = .int j ∧ Q (.int (i + j)) H) ∨ (∃ i j, x = .str i ∧ y = .str j ∧ i.length + j.length ≤ sizeLine ∧ Q (.str (i ++ j)) H) ∨ rCat x y H Q ∨ rCatA K x y H Q
theorem op_addAll {X : Cx} : OpR X (binaryOp .Add) (rAddAll X.K) := OpR.or op_add (OpR.or op_add_str (OpR.or op_cat op_catA))
theorem sOf_append (a b : List Nat) : sOf a ++ sOf b = sOf (a ++ b) := by
  show (⟨a.toArray ++ b.toArray⟩ : Str) = ⟨(a ++ b).toArray⟩
  simp
theorem sOf_length (a : List Nat) : (sOf a).length = a.length := by simp [sOf, Str.length]
theorem fAdd_ok {g : G} {W : WX} : FOk g W fAdd (rAddAll g.K) := by
  intro m0 m σ Hs H0 H1 H h v u x y Q fr r q1 q2 c
  unfold fAdd at c
  split at c
  · cases rO.int q1; cases rO.int q2
    exact .inl ⟨_, _, rfl, rfl, Ct.val c fr r (.int _)⟩
  · have w1 := q1
    have w2 := q2
    cases rO.str q1; cases rO.str q2
    split at c
    · rename_i a b hz
      refine .inr (.inl ⟨_, _, rfl, rfl, by rw [sOf_length, sOf_length, sl_eq]; exact hz, ?_⟩)
      rw [sOf_append]
      exact Ct.val c fr r (.str _ fun k hk => (List.mem_append.mp hk).elim (rO.strv w1 k) (rO.strv w2 k))
    · exact c.elim
  · split at c
    · rename_i xs ys ex ey
      split at c
      · rename_i hz
        obtain ⟨a, vs, rfl, la, ra⟩ := seqO_ok r q1 ex
        obtain ⟨b, us, rfl, lb, rb⟩ := seqO_ok r q2 ey
        refine .inr (.inr (.inl ⟨a, b, vs, us, rfl, rfl, la, lb, by rw [ra.length, rb.length, sl_eq]; exact hz, Ct.new c fr r (ra.append rb)⟩))
      · exact c.elim
    · rename_i xs ys ex ey
      split at c
      · rename_i hz
        obtain ⟨a, vs, rfl, la, ra⟩ := seqO_ok r q1 ex
        obtain ⟨b, us, rfl, lb, rb⟩ := seqO_ok r q2 ey
        have la' : H a = some (.tup vs) := la
        have lb' : H b = some (.tup us) := lb
        refine .inr (.inr (.inr ⟨a, b, vs, us, rfl, rfl, SqT.of la', SqT.of lb', by rw [ra.length, rb.length, sl_eq]; exact hz, fun e => ?_, fun _ e => ?_, fun _ _ => Ct.tup c fr r (ra.append rb)⟩))
        · subst e; cases ra; exact Ct.val c fr r (.tup lb' rb)
        · subst e; cases rb; rw [List.append_nil] at c; exact Ct.val c fr r (.tup la' ra)
      · exact c.elim
    · exact c.elim
def fSub (x y : O) (h : MH) : R O := match x, y with
  | .v (.int i), .v (.int j) => .ok (.v (.int (i - j))) h
  | _, _ => .bad
theorem fSub_ok {g : G} {W : WX} : FOk g W fSub (rI0 fun i j => .int (i - j)) := by
  intro m0 m σ Hs H0 H1 H h v u x y Q fr r q1 q2 c
  unfold fSub at c
  split at c
  · cases rO.int q1; cases rO.int q2; exact ⟨_, _, rfl, rfl, Ct.val c fr r (.int _)⟩
  · exact c.elim
/-- text times number -/
abbrev rMulS : R2 := fun x y H Q => ∃ (a : List Nat) (n : Int), x = .str (sOf a) ∧ y = .int n ∧ -(2 ^ 63) ≤ n ∧ n < 2 ^ 63 ∧ a.length * n.toNat ≤ 16777216 ∧ Q (.str (sOf (List.replicate n.toNat a).flatten)) H
theorem fold_rep (a : List Nat) : ∀ (k : Nat) (acc : List Nat), List.foldl (fun x1 x2 => x1 ++ x2) acc.toArray (List.replicate k a.toArray) = (acc ++ (List.replicate k a).flatten).toArray
  | 0, acc => by simp
  | k + 1, acc => by
    rw [List.replicate_succ, List.foldl_cons, List.replicate_succ, List.flatten_cons, ← List.append_assoc, ← fold_rep a k (acc ++ a)]
    simp
theorem txt_mul (a : List Nat) (n : Int) : Txt.mul (sOf a) n = sOf (List.replicate n.toNat a).flatten := by
  unfold Txt.mul
  split
  · rename_i hn
    have e : n.toNat = 0 := by omega
    rw [e]; rfl
  · split
    · rename_i hn hb
      rw [sOf_length] at hb
      have hb' : n = 1 ∨ a.length = 0 := by simpa using hb
      rcases hb' with e | e
      · subst e; simp
      · have : a = [] := List.eq_nil_of_length_eq_zero e
        subst this
        have e2 : ∀ k, (List.replicate k ([] : List Nat)).flatten = [] := fun k => by simp
        rw [e2]
    · have e := fold_rep a n.toNat []
      simp only [List.nil_append] at e
      show (⟨(List.replicate n.toNat a.toArray).foldl (fun x1 x2 => x1 ++ x2) #[]⟩ : Str) = _
      rw [e]
theorem op_mulS {X : Cx} : OpR X (binaryOp .Mult) rMulS := by
  intro pins s σ H x y v u Q I rx ry h
  obtain ⟨a, n, rfl, rfl, h1, h2, hz, q⟩ := h
  obtain ⟨t, rfl⟩ := rx
  obtain ⟨t', rfl⟩ := ry
  have hl : (sOf a).length = a.length := sOf_length a
  have ok : MulOk (sOf a) n := by
    refine ⟨?_, ?_, ?_⟩
    · have e1 : decide (n < -(2 ^ 63 : Int)) = false := decide_eq_false (by omega)
      have e2 : decide (n ≥ (2 ^ 63 : Int)) = false := decide_eq_false (by omega)
      rw [e1, e2]; rfl
    · intro hn hb hc
      rw [hl] at hc
      have e : ((a.length * n.toNat : Nat) : Int) = (a.length : Int) * n := by
        rw [Int.natCast_mul, Int.toNat_of_nonneg (by omega)]
      have h5 : (a.length : Int) * n ≤ 16777216 := by
        rw [← e]
        exact Int.ofNat_le.mpr hz
      have h6 : (a.length : Int) ≤ (2 ^ 63 - 1) / n := by
        rw [Int.le_ediv_iff_mul_le (by omega)]
        have : (16777216 : Int) ≤ 2 ^ 63 - 1 := by decide
        omega
      omega
    · intro _ _
      rw [hl]
      exact notLongL (n := a.length * n.toNat) (by rw [sl_eq]; exact hz)
  refine PySem.SB.mul ok fun t' k => ?_
  rw [txt_mul]
  exact ⟨.str _, H, I.tok _, ⟨_, rfl⟩, q⟩
def fMul (x y : O) (h : MH) : R O := match x, y with
  | .v (.int i), .v (.int j) => if (-18446744073709551616 < i ∧ i < 18446744073709551616) ∨ (-18446744073709551616 < j ∧ j < 18446744073709551616) then .ok (.v (.int (i * j))) h else .bad
  | .v (.str a), .v (.int n) => if -9223372036854775808 ≤ n ∧ n < 9223372036854775808 ∧ a.length * n.toNat ≤ 16777216 then .ok (.v (.str (List.replicate n.toNat a).flatten)) h else .bad
  | _, .v (.int n) => match seqO h x with
    | some (.mu, xs) => if -9223372036854775808 ≤ n ∧ n < 9223372036854775808 ∧ xs.length * n.toNat ≤ 16777216 then .ok (.n (List.replicate n.toNat xs).flatten) h else .bad
    | _ => .bad
  | _, _ => .bad
abbrev rMulAll : R2 := fun x y H Q => rI CMul (fun i j => .int (i * j)) x y H Q ∨ rMulS x y H Q ∨ rRep x y H Q
theorem op_mulAll {X : Cx} : OpR X (binaryOp .Mult) rMulAll := OpR.or op_mul (OpR.or op_mulS op_rep)
theorem fMul_ok {g : G} {W : WX} : FOk g W fMul rMulAll := by
  intro m0 m σ Hs H0 H1 H h v u x y Q fr r q1 q2 c
  unfold fMul at c
  split at c
  · cases rO.int q1; cases rO.int q2
    split at c
    · rename_i hz
      exact .inl ⟨_, _, rfl, rfl, hz, Ct.val c fr r (.int _)⟩
    · exact c.elim
  · have w1 := q1
    cases rO.str q1; cases rO.int q2
    split at c
    · rename_i hz
      refine .inr (.inl ⟨_, _, rfl, rfl, hz.1, hz.2.1, hz.2.2, Ct.val c fr r (.str _ fun k hk => ?_)⟩)
      obtain ⟨l, h1, h2⟩ := List.mem_flatten.mp hk
      rw [(List.mem_replicate.mp h1).2] at h2
      exact rO.strv w1 k h2
    · exact c.elim
  · cases rO.int q2
    split at c
    · rename_i ex
      obtain ⟨a, vs, rfl, la, ra⟩ := seqO_ok r q1 ex
      split at c
      · rename_i hz
        exact .inr (.inr ⟨a, _, vs, rfl, rfl, la, hz.1, hz.2.1, by rw [ra.length, sl_eq]; exact hz.2.2, Ct.new c fr r (ra.rep _)⟩)
      · exact c.elim
    · exact c.elim
  · exact c.elim
def fMod (x y : O) (h : MH) : R O := match x, y with
  | .v (.int i), .v (.int j) => if 0 < j then .ok (.v (.int (i % j))) h else .bad
  | _, _ => .bad
theorem fMod_ok {g : G} {W : WX} : FOk g W fMod (rI (fun _ j => 0 < j) fun i j => .int (i % j)) := by
  intro m0 m σ Hs H0 H1 H h v u x y Q fr r q1 q2 c
  unfold fMod at c
  split at c
  · cases rO.int q1; cases rO.int q2
    split at c
    · exact ⟨_, _, rfl, rfl, by assumption, Ct.val c fr r (.int _)⟩
    · exact c.elim
  · exact c.elim
theorem log2_64 {j : Int} (h0 : 0 < j) (h : j < 18446744073709551616) : j.natAbs.log2 < 9000 := by
  have h1 : j.natAbs < 2 ^ 64 := by omega
  have h2 : j.natAbs.log2 < 64 := (Nat.log2_lt (by omega)).2 h1
  omega
def fFdiv (x y : O) (h : MH) : R O := match x, y with
  | .v (.int i), .v (.int j) => if 0 < j ∧ j < 18446744073709551616 then .ok (.v (.int (i / j))) h else .bad
  | _, _ => .bad
theorem fFdiv_ok {g : G} {W : WX} : FOk g W fFdiv (rI CDivW fun i j => .int (i / j)) := by
  intro m0 m σ Hs H0 H1 H h v u x y Q fr r q1 q2 c
  unfold fFdiv at c
  split at c
  · cases rO.int q1; cases rO.int q2
    split at c
    · rename_i hz
      exact ⟨_, _, rfl, rfl, ⟨hz.1, log2_64 hz.1 hz.2⟩, Ct.val c fr r (.int _)⟩
    · exact c.elim
  · exact c.elim
def fPow (x y : O) (h : MH) : R O := match x, y with
  | .v (.int i), .v (.int j) => if 0 ≤ j ∧ j ≤ 1000000 ∧ i.natAbs < 18446744073709551616 then .ok (.v (.int (i ^ j.toNat))) h else .bad
  | _, _ => .bad
theorem fPow_ok {g : G} {W : WX} : FOk g W fPow (rI CPow fun i j => .int (i ^ j.toNat)) := by
  intro m0 m σ Hs H0 H1 H h v u x y Q fr r q1 q2 c
  unfold fPow at c
  split at c
  · cases rO.int q1; cases rO.int q2
    split at c
    · rename_i hz
      exact ⟨_, _, rfl, rfl, hz, Ct.val c fr r (.int _)⟩
    · exact c.elim
  · exact c.elim
def fNeg (x : O) (h : MH) : R O := match x with
  | .v (.int i) => .ok (.v (.int (-i))) h
  | _ => .bad
theorem fNeg_ok {g : G} {W : WX} : FOk1 g W fNeg (rU fun i => .int (-i)) := by
  intro m0 m σ Hs H0 H h v x Q fr r q c
  unfold fNeg at c
  split at c
  · cases rO.int q; exact ⟨_, rfl, Ct.val c fr r (.int _)⟩
  · exact c.elim

/-! ### data -/
def optAll {α β : Type} (f : α → Option β) : List α → Option (List β)
  | [] => some []
  | x :: xs => match f x, optAll f xs with
    | some d, some ds => some (d :: ds)
    | _, _ => none
def datS : Val → Option PyData
  | .non => some .none
  | .bl b => some (.bool b)
  | .int i => some (.int i)
  | .str s => some (.str (sOf s))
  | _ => none
def dat (h : MH) : Nat → Val → Option PyData
  | 0, x => datS x
  | n + 1, .tup xs => (optAll (dat h n) xs).map .tuple
  | n + 1, .fl xs => (optAll (dat h n) xs).map .list
  | n + 1, .ref k => match h[k]? with
    | some (.lst xs) => (optAll (dat h n) xs).map .list
    | _ => none
  | _ + 1, x => datS x
def datO (h : MH) (n : Nat) : O → Option PyData
  | .v x => dat h n x
  | .n xs => (optAll (dat h n) xs).map .list
theorem strOk_of {s : List Nat} (h : ∀ c ∈ s, c < 1114112) : PyData.strOk (sOf s) = true := by
  simp [PyData.strOk, sOf]
  exact h
theorem datS_ok {g : G} {m : Mu} {H : Hp} {v : V} {x : Val} {d : PyData} (q : RV g.K H m v x) (e : datS x = some d) : Dp g.K H v d ∧ d.canLay0 = true ∧ d.depth ≤ 0 := by
  cases q with
  | non => simp [datS] at e; subst e; exact ⟨.non, rfl, by simp [PyData.depth]⟩
  | bl b => simp [datS] at e; subst e; exact ⟨.bl b, rfl, by simp [PyData.depth]⟩
  | int b => simp [datS] at e; subst e; exact ⟨.int b, rfl, by simp [PyData.depth]⟩
  | str b hb => simp [datS] at e; subst e; exact ⟨.str _, strOk_of hb, by simp [PyData.depth]⟩
  | tup _ _ => simp [datS] at e
  | fl _ _ => simp [datS] at e
  | ref _ => simp [datS] at e
theorem datAll_ok {g : G} {m : Mu} {H : Hp} {f : Val → Option PyData} {n : Nat} (hf : ∀ (v : V) (x : Val) (d : PyData), RV g.K H m v x → f x = some d → Dp g.K H v d ∧ d.canLay0 = true ∧ d.depth ≤ n) :
    ∀ (vs : List V) (xs : List Val) (ds : List PyData), RVs g.K H m vs xs → optAll f xs = some ds → DpAll g.K H vs ds ∧ PyData.canLayAll0 ds = true ∧ PyData.depthAll ds ≤ n
  | _, _, ds, .nil, e => by
    simp [optAll] at e; subst e
    exact ⟨.nil, rfl, by simp [PyData.depthAll]⟩
  | _, _, ds, .cons r t, e => by
    simp only [optAll] at e
    split at e
    · rename_i d1 d2 e1 e2
      simp at e; subst e
      obtain ⟨a1, a2, a3⟩ := hf _ _ _ r e1
      obtain ⟨b1, b2, b3⟩ := datAll_ok hf _ _ _ t e2
      exact ⟨.cons a1 b1, by simp [PyData.canLayAll0, a2, b2], by simp only [PyData.depthAll]; exact Nat.max_le.mpr ⟨a3, b3⟩⟩
    · cases e
theorem dat_ok {g : G} {m : Mu} {H : Hp} {h : MH} (r : RepH g m H h) : ∀ (n : Nat) (v : V) (x : Val) (d : PyData), RV g.K H m v x → dat h n x = some d → Dp g.K H v d ∧ d.canLay0 = true ∧ d.depth ≤ n
  | 0, v, x, d, q, e => by
    have e' : datS x = some d := by cases x <;> simpa [dat] using e
    exact datS_ok q e'
  | n + 1, v, x, d, q, e => by
    have ih := fun v x d => dat_ok r n v x d
    cases q with
    | non => obtain ⟨a, b, c⟩ := datS_ok (g := g) (m := m) (H := H) .non e; exact ⟨a, b, by omega⟩
    | bl k => obtain ⟨a, b, c⟩ := datS_ok (g := g) (m := m) (H := H) (.bl k) e; exact ⟨a, b, by omega⟩
    | int k => obtain ⟨a, b, c⟩ := datS_ok (g := g) (m := m) (H := H) (.int k) e; exact ⟨a, b, by omega⟩
    | str k hk => obtain ⟨a, b, c⟩ := datS_ok (g := g) (m := m) (H := H) (.str k hk) e; exact ⟨a, b, by omega⟩
    | tup h1 h2 =>
      simp only [dat, Option.map_eq_some_iff] at e
      obtain ⟨ds, e1, rfl⟩ := e
      obtain ⟨a, b, c⟩ := datAll_ok ih _ _ _ h2 e1
      exact ⟨.tup (SqT.of h1) a, by simpa [PyData.canLay0] using b, by simp only [PyData.depth]; omega⟩
    | fl h1 h2 =>
      simp only [dat, Option.map_eq_some_iff] at e
      obtain ⟨ds, e1, rfl⟩ := e
      obtain ⟨a, b, c⟩ := datAll_ok ih _ _ _ h2 e1
      exact ⟨.lst h1.sql a, by simpa [PyData.canLay0] using b, by simp only [PyData.depth]; omega⟩
    | ref hm =>
      simp only [dat] at e
      split at e
      · rename_i ys hy
        simp only [Option.map_eq_some_iff] at e
        obtain ⟨ds, e1, rfl⟩ := e
        obtain ⟨p, e2, vs, e3, e4⟩ := r.at_ _ _ hy
        rw [hm] at e2; cases e2
        obtain ⟨a, b, c⟩ := datAll_ok ih _ _ _ e4 e1
        exact ⟨.lst (SqL.of e3) a, by simpa [PyData.canLay0] using b, by simp only [PyData.depth]; omega⟩
      · cases e
theorem datO_ok {g : G} {m : Mu} {H H0 : Hp} {h : MH} (r : RepH g m H h) {v : V} {x : O} {d : PyData} {n : Nat} (hn : n ≤ 60) (q : rO g H0 H m v x) (e : datO h n x = some d) : Dp g.K H v d ∧ SeqAt.shaped d = true := by
  cases x with
  | v x =>
    obtain ⟨a, b, c⟩ := dat_ok r n v x d q e
    exact ⟨a, by simp [SeqAt.shaped, b]; omega⟩
  | n xs =>
    obtain ⟨p, vs, rfl, e2, _, _, e5⟩ := q
    simp only [datO, Option.map_eq_some_iff] at e
    obtain ⟨ds, e1, rfl⟩ := e
    obtain ⟨a, b, c⟩ := datAll_ok (fun v x d => dat_ok r n v x d) _ _ _ e5 e1
    refine ⟨.lst (SqL.of e2) a, ?_⟩
    have c' : (PyData.list ds).depth ≤ 64 := by simp only [PyData.depth]; omega
    have b' : (PyData.list ds).canLay0 = true := by simpa [PyData.canLay0] using b
    simp [SeqAt.shaped, b', c']

/-! ### == != < <= > >= -/
def scEq : O → O → Option Bool
  | .v (.int i), .v (.int j) => some (decide (i = j))
  | .v (.str a), .v (.str b) => some (decide (a = b))
  | .v (.bl a), .v (.bl b) => some (decide (a = b))
  | .v .non, .v .non => some true
  | _, _ => none
def eqB (x y : O) (h : MH) : Option Bool := match scEq x y with
  | some k => some k
  | none => match datO h 16 x, datO h 16 y with
    | some d, some e => some (PyData.eqv d e)
    | _, _ => none
def fEq (x y : O) (h : MH) : R O := match eqB x y h with
  | some k => .ok (.v (.bl k)) h
  | none => .bad
def fNe (x y : O) (h : MH) : R O := match eqB x y h with
  | some k => .ok (.v (.bl (!k))) h
  | none => .bad
theorem sOf_inj {a b : List Nat} : sOf a = sOf b ↔ a = b := by simp [sOf]
theorem eqB_ok {g : G} {m : Mu} {H H0 H1 : Hp} {h : MH} (r : RepH g m H h) {v u : V} {x y : O} {k : Bool} (q1 : rO g H0 H m v x) (q2 : rO g H1 H m u y) (e : eqB x y h = some k) :
    (scal v u = true ∧ k = decide (v = u)) ∨ ∃ d e, Dp g.K H v d ∧ Dp g.K H u e ∧ SeqAt.shaped d = true ∧ SeqAt.shaped e = true ∧ k = PyData.eqv d e := by
  unfold eqB at e
  split at e
  · rename_i k' e1
    simp at e; subst e
    unfold scEq at e1
    split at e1
    · simp at e1; subst e1; cases rO.int q1; cases rO.int q2; exact .inl ⟨rfl, by simp⟩
    · simp at e1; subst e1; cases rO.str q1; cases rO.str q2; exact .inl ⟨rfl, by simp⟩
    · simp at e1; subst e1; cases rO.bl q1; cases rO.bl q2; exact .inl ⟨rfl, by simp⟩
    · simp at e1; subst e1; cases rO.non q1; cases rO.non q2; exact .inl ⟨rfl, by simp⟩
    · cases e1
  · split at e
    · rename_i d1 d2 e1 e2
      simp at e; subst e
      obtain ⟨a1, a2⟩ := datO_ok r (by decide) q1 e1
      obtain ⟨b1, b2⟩ := datO_ok r (by decide) q2 e2
      exact .inr ⟨_, _, a1, b1, a2, b2, rfl⟩
    · cases e
abbrev rEqAll (K : PySem.W.Frag) : R2 := fun x y H Q => rEq x y H Q ∨ rEqD K x y H Q
abbrev rNeAll (K : PySem.W.Frag) : R2 := fun x y H Q => rNe x y H Q ∨ rNeD K x y H Q
theorem op_eqAll {X : Cx} (hu : X.A.units + 64 < cLine) : OpR X (compareOp .Eq) (rEqAll X.K) := OpR.or op_eq (op_eqD hu)
theorem op_neAll {X : Cx} (hu : X.A.units + 64 < cLine) : OpR X (compareOp .NotEq) (rNeAll X.K) := OpR.or op_ne (op_neD hu)
theorem fEq_ok {g : G} {W : WX} : FOk g W fEq (rEqAll g.K) := by
  intro m0 m σ Hs H0 H1 H h v u x y Q fr r q1 q2 c
  unfold fEq at c
  split at c
  · rename_i k ek
    rcases eqB_ok r q1 q2 ek with ⟨a, rfl⟩ | ⟨d, e, a, b, c1, c2, rfl⟩
    · exact .inl ⟨a, Ct.val c fr r (.bl _)⟩
    · exact .inr ⟨d, e, a, b, c1, c2, Ct.val c fr r (.bl _)⟩
  · exact c.elim
theorem fNe_ok {g : G} {W : WX} : FOk g W fNe (rNeAll g.K) := by
  intro m0 m σ Hs H0 H1 H h v u x y Q fr r q1 q2 c
  unfold fNe at c
  split at c
  · rename_i k ek
    rcases eqB_ok r q1 q2 ek with ⟨a, rfl⟩ | ⟨d, e, a, b, c1, c2, rfl⟩
    · exact .inl ⟨a, Ct.val c fr r (.bl _)⟩
    · exact .inr ⟨d, e, a, b, c1, c2, Ct.val c fr r (.bl _)⟩
  · exact c.elim
def fLt (x y : O) (h : MH) : R O := match x, y with
  | .v (.int i), .v (.int j) => .ok (.v (.bl (decide (i < j)))) h
  | .v (.str a), .v (.str b) => .ok (.v (.bl (decide (a < b)))) h
  | _, _ => .bad
abbrev rLtAll : R2 := fun x y H Q => rI0 (fun i j => .bl (decide (i < j))) x y H Q ∨ ∃ i j, x = .str i ∧ y = .str j ∧ Q (.bl (decide (i.cps.toList < j.cps.toList))) H
theorem op_ltAll {X : Cx} : OpR X (compareOp .Lt) rLtAll := OpR.or op_lt op_lt_str
theorem fLt_ok {g : G} {W : WX} : FOk g W fLt rLtAll := by
  intro m0 m σ Hs H0 H1 H h v u x y Q fr r q1 q2 c
  unfold fLt at c
  split at c
  · cases rO.int q1; cases rO.int q2; exact .inl ⟨_, _, rfl, rfl, Ct.val c fr r (.bl _)⟩
  · cases rO.str q1; cases rO.str q2; exact .inr ⟨_, _, rfl, rfl, by simpa using Ct.val c fr r (.bl _)⟩
  · exact c.elim
def fLe (x y : O) (h : MH) : R O := match x, y with
  | .v (.int i), .v (.int j) => .ok (.v (.bl (decide (i ≤ j)))) h
  | .v (.str a), .v (.str b) => .ok (.v (.bl (!decide (b < a)))) h
  | _, _ => .bad
abbrev rLeAll : R2 := fun x y H Q => rI0 (fun i j => .bl (decide (i ≤ j))) x y H Q ∨ ∃ i j, x = .str i ∧ y = .str j ∧ Q (.bl (!decide (j.cps.toList < i.cps.toList))) H
theorem op_leAll {X : Cx} : OpR X (compareOp .LtE) rLeAll := OpR.or op_le op_le_str
theorem fLe_ok {g : G} {W : WX} : FOk g W fLe rLeAll := by
  intro m0 m σ Hs H0 H1 H h v u x y Q fr r q1 q2 c
  unfold fLe at c
  split at c
  · cases rO.int q1; cases rO.int q2; exact .inl ⟨_, _, rfl, rfl, Ct.val c fr r (.bl _)⟩
  · cases rO.str q1; cases rO.str q2; exact .inr ⟨_, _, rfl, rfl, by simpa using Ct.val c fr r (.bl _)⟩
  · exact c.elim
def fGt (x y : O) (h : MH) : R O := match x, y with
  | .v (.int i), .v (.int j) => .ok (.v (.bl (decide (j < i)))) h
  | _, _ => .bad
def fGe (x y : O) (h : MH) : R O := match x, y with
  | .v (.int i), .v (.int j) => .ok (.v (.bl (decide (j ≤ i)))) h
  | _, _ => .bad
theorem fGt_ok {g : G} {W : WX} : FOk g W fGt (rI0 fun i j => .bl (decide (j < i))) := by
  intro m0 m σ Hs H0 H1 H h v u x y Q fr r q1 q2 c
  unfold fGt at c
  split at c
  · cases rO.int q1; cases rO.int q2; exact ⟨_, _, rfl, rfl, Ct.val c fr r (.bl _)⟩
  · exact c.elim
theorem fGe_ok {g : G} {W : WX} : FOk g W fGe (rI0 fun i j => .bl (decide (j ≤ i))) := by
  intro m0 m σ Hs H0 H1 H h v u x y Q fr r q1 q2 c
  unfold fGe at c
  split at c
  · cases rO.int q1; cases rO.int q2; exact ⟨_, _, rfl, rfl, Ct.val c fr r (.bl _)⟩
  · exact c.elim
end Mi

/-! Mini: displays, items, cuts, calls. -/
namespace Mi
open PySem L2

/-! ### numbers for new lists -/
def num : O → MH → Val × MH
  | .v x, h => (x, h)
  | .n xs, h => (.ref h.length, h ++ [.lst xs])
theorem num_ok {g : G} {m0 m : Mu} {Hs H : Hp} {h : MH} {v : V} {o : O} (x : Ext m0 m Hs H) (r : RepH g m H h) (q : rO g Hs H m v o) :
    ∃ m', (∀ n a, m n = some a → m' n = some a) ∧ Ext m0 m' Hs H ∧ RepH g m' H (num o h).2 ∧ RV g.K H m' v (num o h).1 := by
  cases o with
  | v y => exact ⟨m, fun _ _ e => e, x, r, q⟩
  | n xs =>
    obtain ⟨a, vs, rfl, e2, e3, e4, e5⟩ := q
    have le : ∀ n b, m n = some b → m.add h.length a n = some b := fun n b e => by
      rw [Mu.add_ne]; exact e
      exact Nat.ne_of_lt (r.dom n b e)
    exact ⟨m.add h.length a, le, x.numd r e4, r.numd (o := .lst xs) e3 ⟨vs, e2, e5.mono Kp.refl le⟩, .ref Mu.add_same⟩
/-- the slots behind more numbers -/
theorem REnv.le {K : PySem.W.Frag} {H : Hp} {m m' : Mu} {σ : St} {ρ : En} (q : REnv K H m σ ρ) (le : ∀ n a, m n = some a → m' n = some a) : REnv K H m' σ ρ :=
  ⟨q.len, fun i y e => let ⟨v, h1, h2⟩ := q.at_ i y e; ⟨v, h1, h2.mono Kp.refl le⟩⟩

abbrev DV := En → MH → R (List Val)
def vNil : DV := fun _ h => .ok [] h
def vCons (d : D) (t : DV) : DV := fun ρ h => (d ρ h).bind fun o h1 => (t ρ (num o h1).2).bind fun xs h2 => .ok ((num o h1).1 :: xs) h2
def SV (X : Cx) (ca : Nat → Addr) (W : WX) (es : List Expr) (d : DV) : Prop := PA X es (TVv (gx X ca) W (rL (gx X ca)) d)
section
variable {X : Cx} {ca : Nat → Addr} {W : WX} {a b e : Expr} {es : List Expr} {da db d : D} {ds : DV} {as : DA} {pos : Pos}
theorem sv_nil : SV X ca W [] vNil := pa_w pa_nil fun σ H Q ⟨m, ρ, h, rh, re, c⟩ => c m H [] Ext.refl rh .nil
theorem sv_cons (ha : SE X ca W e d) (hr : SV X ca W es ds) (hs : starEach (e :: es) X.env = (false, eval e X.env) :: starEach es X.env := by rfl) : SV X ca W (e :: es) (vCons d ds) :=
  pa_w (pa_cons ha hr hs) fun σ H Q t => by
    refine TVv.imp (TVv.bind (rel := rO (gx X ca)) (f := fun ρ o h1 => (ds ρ (num o h1).2).bind fun xs h2 => .ok ((num o h1).1 :: xs) h2) t) ?_
    rintro v H1 ⟨m0, m1, ρ, x, h1, fr, r1, e1, rv, c⟩
    obtain ⟨m2, le, fr2, r2, rv2⟩ := num_ok fr r1 rv
    refine ⟨m2, ρ, _, r2, e1.le le, (Ct.step (rel := rL (gx X ca)) fr2 r2 c).imp ?_⟩
    rintro vs H2 ⟨m3, xs, h2, ex, fr3, r3, rv3, c2⟩
    exact c2 m3 H2 (v :: vs) fr3 r3 (.cons (ex.rv r2 rv2) rv3)

/-! ### displays -/
def dTup (t : DV) : D := fun ρ h => (t ρ h).bind fun xs h1 => if xs.length ≤ 16777216 then .ok (.v (.tup xs)) h1 else .bad
def dLst (t : DV) : D := fun ρ h => (t ρ h).bind fun xs h1 => if xs.length ≤ 16777216 then .ok (.n xs) h1 else .bad
theorem se_tup {k : Nat} (h : SV X ca W es ds) : SE X ca W (.Tuple es k pos) (dTup ds) :=
  pe_w (pe_tup h) fun σ H Q t => by
    refine TVv.imp (TVv.bind (rel := rL (gx X ca)) (rel' := rO (gx X ca)) (f := fun ρ xs h1 => if xs.length ≤ 16777216 then .ok (.v (.tup xs)) h1 else .bad) t) ?_
    rintro vs H1 ⟨m0, m1, ρ, xs, h1, fr, r1, e1, rv, c⟩
    split at c
    · rename_i hz
      exact ⟨by rw [RVs.length rv, sl_eq]; exact hz, Ct.tup c fr r1 rv⟩
    · exact c.elim
theorem se_lst (h : SV X ca W es ds) : SE X ca W (.List es pos) (dLst ds) :=
  pe_w (pe_lst h) fun σ H Q t => by
    refine TVv.imp (TVv.bind (rel := rL (gx X ca)) (rel' := rO (gx X ca)) (f := fun ρ xs h1 => if xs.length ≤ 16777216 then .ok (.n xs) h1 else .bad) t) ?_
    rintro vs H1 ⟨m0, m1, ρ, xs, h1, fr, r1, e1, rv, c⟩
    split at c
    · rename_i hz
      exact ⟨by rw [RVs.length rv, sl_eq]; exact hz, Ct.new c fr r1 rv⟩
    · exact c.elim

/-! ### items -/
def keyEq : Val → Val → Bool
  | .int i, .int j => decide (i = j)
  | .str a, .str b => decide (a = b)
  | _, _ => false
def keysEq : List Val → List Val → Bool
  | [], [] => true
  | x :: xs, y :: ys => keyEq x y && keysEq xs ys
  | _, _ => false
def isKey : Val → Bool
  | .int _ => true
  | .str _ => true
  | _ => false
/-- what a dict has under a key: none where it is no dict or no key -/
def dgetO (h : MH) (x : O) (y : Val) : Option (Option Val) := match x with
  | .v (.ref n) => match h[n]? with
    | some (.dK kvs) => if isKey y then some ((kvs.find? fun p => keyEq p.1 y).map (·.2)) else none
    | some (.dT kvs) => match y with
      | .tup ks => if ks.all isKey then some ((kvs.find? fun p => keysEq p.1 ks).map (·.2)) else none
      | _ => none
    | _ => none
  | _ => none
theorem key_of {K : PySem.W.Frag} {H : Hp} {m : Mu} {v : V} {y : Val} (q : RV K H m v y) (hk : isKey y = true) : ∃ k, keyOf y = some k ∧ v = kV k := by
  cases q with
  | int i => exact ⟨_, rfl, rfl⟩
  | str s _ => exact ⟨_, rfl, rfl⟩
  | _ => simp [isKey] at hk
theorem key_eq {x y : Val} {k l : Key} (e1 : keyOf x = some k) (e2 : keyOf y = some l) : decide (k = l) = keyEq x y := by
  cases x <;> simp [keyOf] at e1 <;> cases y <;> simp [keyOf] at e2 <;> subst e1 <;> subst e2 <;> simp [keyEq, sOf_inj]
theorem rk_find {K : PySem.W.Frag} {H : Hp} {m : Mu} {y : Val} {l : Key} (e2 : keyOf y = some l) : ∀ {ks : List (Key × V)} {kvs : List (Val × Val)}, RK K H m ks kvs →
    (valV ks l = none ∧ (kvs.find? fun p => keyEq p.1 y) = none) ∨ ∃ v p, valV ks l = some v ∧ (kvs.find? fun p => keyEq p.1 y) = some p ∧ RV K H m v p.2
  | _, _, .nil => .inl ⟨rfl, rfl⟩
  | _, _, .cons (k := k) (x := x) (y := z) ek rv t => by
    have h := key_eq ek e2
    by_cases hd : k = l
    · rw [decide_eq_true hd] at h
      refine .inr ⟨_, (x, z), ?_, ?_, rv⟩
      · simp [valV, hd]
      · rw [List.find?_cons, ← h]
    · rw [decide_eq_false hd] at h
      rcases rk_find e2 t with ⟨a, b⟩ | ⟨v, p, a, b, c⟩
      · refine .inl ⟨?_, ?_⟩
        · unfold valV at a ⊢; rw [List.find?_cons]; simp only [decide_eq_false hd]; exact a
        · rw [List.find?_cons, ← h]; exact b
      · refine .inr ⟨v, p, ?_, ?_, c⟩
        · unfold valV at a ⊢; rw [List.find?_cons]; simp only [decide_eq_false hd]; exact a
        · rw [List.find?_cons, ← h]; exact b
theorem keys_of {K : PySem.W.Frag} {H : Hp} {m : Mu} : ∀ {vs : List V} {ys : List Val}, RVs K H m vs ys → ys.all isKey = true → ∃ ks, keysOf ys = some ks ∧ vs = ks.map kV
  | _, _, .nil, _ => ⟨[], rfl, rfl⟩
  | _, _, .cons r t, h => by
    simp only [List.all_cons, Bool.and_eq_true] at h
    obtain ⟨k, e1, e2⟩ := key_of r h.1
    obtain ⟨ks, e3, e4⟩ := keys_of t h.2
    exact ⟨k :: ks, by simp [keysOf, e1, e3], by rw [e2, e4]; rfl⟩
theorem keys_eq : ∀ {xs ys : List Val} {ks ls : List Key}, keysOf xs = some ks → keysOf ys = some ls → decide (ks = ls) = keysEq xs ys
  | [], [], _, _, e1, e2 => by simp [keysOf] at e1 e2; subst e1; subst e2; rfl
  | [], y :: ys, _, _, e1, e2 => by
    simp only [keysOf] at e2; split at e2
    · simp [keysOf] at e1; simp at e2; subst e1; subst e2; simp [keysEq]
    · cases e2
  | x :: xs, [], _, _, e1, e2 => by
    simp only [keysOf] at e1; split at e1
    · simp [keysOf] at e2; simp at e1; subst e1; subst e2; simp [keysEq]
    · cases e1
  | x :: xs, y :: ys, _, _, e1, e2 => by
    simp only [keysOf] at e1 e2
    split at e1
    · split at e2
      · simp at e1 e2; subst e1; subst e2
        rename_i a1 a2 b1 b2
        have h1 := key_eq (by assumption : keyOf x = _) (by assumption : keyOf y = _)
        have h2 := keys_eq (by assumption : keysOf xs = _) (by assumption : keysOf ys = _)
        rw [keysEq, ← h1, ← h2]
        simp [Bool.decide_and]
      · cases e2
    · cases e1
theorem rkt_find {K : PySem.W.Frag} {H : Hp} {m : Mu} {y : List Val} {l : List Key} (e2 : keysOf y = some l) : ∀ {ks : List (List Key × V)} {kvs : List (List Val × Val)}, RKT K H m ks kvs →
    (valV ks l = none ∧ (kvs.find? fun p => keysEq p.1 y) = none) ∨ ∃ v p, valV ks l = some v ∧ (kvs.find? fun p => keysEq p.1 y) = some p ∧ RV K H m v p.2
  | _, _, .nil => .inl ⟨rfl, rfl⟩
  | _, _, .cons (k := k) (x := x) (y := z) ek rv t => by
    have h := keys_eq ek e2
    by_cases hd : k = l
    · rw [decide_eq_true hd] at h
      refine .inr ⟨_, (x, z), ?_, ?_, rv⟩
      · simp [valV, hd]
      · rw [List.find?_cons, ← h]
    · rw [decide_eq_false hd] at h
      rcases rkt_find e2 t with ⟨a, b⟩ | ⟨v, p, a, b, c⟩
      · refine .inl ⟨?_, ?_⟩
        · unfold valV at a ⊢; rw [List.find?_cons]; simp only [decide_eq_false hd]; exact a
        · rw [List.find?_cons, ← h]; exact b
      · refine .inr ⟨v, p, ?_, ?_, c⟩
        · unfold valV at a ⊢; rw [List.find?_cons]; simp only [decide_eq_false hd]; exact a
        · rw [List.find?_cons, ← h]; exact b
theorem dget_ok {g : G} {m : Mu} {H H0 : Hp} {h : MH} {v u : V} {x : O} {y : Val} {o : Option Val} (r : RepH g m H h) (q : rO g H0 H m v x) (q2 : RV g.K H m u y) (e : dgetO h x y = some o) :
    ∃ a w, v = .ref a ∧ DGet H a u w ∧ ((w = none ∧ o = none) ∨ ∃ w' z, w = some w' ∧ o = some z ∧ RV g.K H m w' z) := by
  unfold dgetO at e
  split at e
  · rename_i n
    cases q with
    | ref hm =>
      split at e
      · rename_i kvs hk
        obtain ⟨a, e1, ks, e2, e3⟩ := r.at_ _ _ hk
        rw [hm] at e1; cases e1
        split at e
        · rename_i hy
          simp at e; subst e
          obtain ⟨l, e4, rfl⟩ := key_of q2 hy
          refine ⟨_, _, rfl, DGet.k e2, ?_⟩
          rcases rk_find e4 e3 with ⟨a1, a2⟩ | ⟨w, p, a1, a2, a3⟩
          · exact .inl ⟨a1, by rw [a2]; rfl⟩
          · exact .inr ⟨w, p.2, a1, by rw [a2]; rfl, a3⟩
        · cases e
      · rename_i kvs hk
        obtain ⟨a, e1, ks, e2, e3⟩ := r.at_ _ _ hk
        rw [hm] at e1; cases e1
        split at e
        · rename_i ys
          split at e
          · rename_i hy
            simp at e; subst e
            cases q2 with
            | tup h1 h2 =>
              obtain ⟨l, e4, rfl⟩ := keys_of h2 hy
              refine ⟨_, _, rfl, DGet.t e2 h1, ?_⟩
              rcases rkt_find e4 e3 with ⟨a1, a2⟩ | ⟨w, p, a1, a2, a3⟩
              · exact .inl ⟨a1, by rw [a2]; rfl⟩
              · exact .inr ⟨w, p.2, a1, by rw [a2]; rfl, a3⟩
          · cases e
        · cases e
      · cases e
  · cases e
/-- x[y] -/
def fIx (x y : O) (h : MH) : R O := match x, y with
  | .v (.str s), .v (.int i) => if s.length ≤ 16777216 then match atI s i with
    | some c => .ok (.v (.str [c])) h
    | none => .bad
    else .bad
  | x, .v y => match seqO h x, y with
    | some (_, xs), .int i => match atI xs i with
      | some z => .ok (.v z) h
      | none => .bad
    | _, _ => match dgetO h x y with
      | some (some z) => .ok (.v z) h
      | _ => .bad
  | _, _ => .bad
abbrev rIxD : R2 := fun x y H Q => ∃ a v, x = .ref a ∧ DGet H a y (some v) ∧ Q v H
theorem ix_dict {X : Cx} (hu : X.A.units + 1 < cLine) : IxR X rIxD := by
  intro value slice pins s σ H x y v u Q I rx ry q hs
  obtain ⟨a, w, rfl, g, q⟩ := q
  obtain rfl : v = Value.ref a := rx
  exact PyProof.Rows.tail_any (dict_typeIs I g) PySem.F.slot_dict_getitem.lookup (d_getItem hu I g ry fun w' s3 I3 rw' => ⟨w, H, I3, rw', q⟩) hs
abbrev rIxAll (K : PySem.W.Frag) : R2 := fun x y H Q => rIx K x y H Q ∨ rIxD x y H Q
theorem ix_all {X : Cx} (hu : X.A.units + 1 < cLine) : IxR X (rIxAll X.K) := IxR.or ix_seq (ix_dict hu)
theorem atI_rvs {K : PySem.W.Frag} {H : Hp} {m : Mu} {vs : List V} {xs : List Val} (r : RVs K H m vs xs) {i : Int} {x : Val} (e : atI xs i = some x) : ∃ v, atI vs i = some v ∧ RV K H m v x := by
  unfold atI at e ⊢
  rw [r.length]
  cases hk : ixN xs.length i with
  | none => rw [hk] at e; cases e
  | some j =>
    rw [hk] at e
    exact r.get e
theorem atI_map {α : Type} {xs : List α} {i : Int} {x : α} (e : atI xs i = some x) : x ∈ xs := by
  unfold atI at e
  cases hk : ixN xs.length i with
  | none => rw [hk] at e; cases e
  | some j => rw [hk] at e; exact List.mem_of_getElem? e
theorem fIx_ok {g : G} {W : WX} : FOk g W fIx (rIxAll g.K) := by
  intro m0 m σ Hs H0 H1 H h v u x y Q fr r q1 q2 c
  have dpart : ∀ (y : Val), RV g.K H m u y → Ct g W (rO g) m0 Hs (match dgetO h x y with
      | some (some z) => .ok (.v z) h
      | _ => .bad) σ Q → rIxAll g.K v u H Q := fun y q2 c => by
    split at c
    · rename_i z e
      obtain ⟨a, w, rfl, e2, ⟨_, z2⟩ | ⟨w', z', rfl, e4, e5⟩⟩ := dget_ok r q1 q2 e
      · cases z2
      · cases e4
        exact .inr ⟨a, w', rfl, e2, Ct.val c fr r e5⟩
    · exact c.elim
  unfold fIx at c
  split at c
  · have w1 := q1
    cases rO.str q1; cases rO.int q2
    split at c
    · split at c
      · rename_i s i hz _ k e
        refine .inl (.inr (.inr ⟨_, _, k, rfl, rfl, by rw [sOf_length, sl_eq]; exact hz, by simpa using e, Ct.val c fr r (.str [k] fun d hd => ?_)⟩))
        have : d = k := by simpa using hd
        subst this
        exact rO.strv w1 _ (atI_map e)
      · exact c.elim
    · exact c.elim
  · split at c
    · have ex := (by assumption : seqO h _ = some (_, _))
      obtain ⟨a, vs, rfl, la, ra⟩ := seqO_ok r q1 ex
      cases rO.int q2
      split at c
      · rename_i z e
        obtain ⟨w, e1, e2⟩ := atI_rvs ra e
        rcases la.sq with s1 | s1
        · exact .inl (.inl ⟨a, vs, _, w, rfl, rfl, s1, e1, Ct.val c fr r e2⟩)
        · exact .inl (.inr (.inl ⟨a, vs, _, w, rfl, rfl, s1, e1, Ct.val c fr r e2⟩))
      · exact c.elim
    · exact dpart _ q2 c
  · exact c.elim
section
variable {X : Cx} {ca : Nat → Addr} {W : WX} {a b e : Expr} {da db d : D} {pos : Pos}
theorem se_ix (hu : X.A.units + 1 < cLine) (ha : SE X ca W a da) (hb : SE X ca W b db) (hs : PlainIx b := by intro _ _; rfl) : SE X ca W (.Subscript a b pos) (dOp fIx da db) :=
  pe_w (pe_ix (ix_all hu) ha hb hs) fun σ H Q t => tv_op fIx_ok t

/-! ### cuts -/
abbrev DO := En → MH → R (Option Int)
abbrev rOpt : Rel (Option Int) (Option Int) := fun _ _ _ v x => v = x
def oNone : DO := fun _ h => .ok none h
def oSome (d : D) : DO := fun ρ h => (d ρ h).bind fun o h1 => match o with
  | .v (.int i) => .ok (some i) h1
  | _ => .bad
def SOp (X : Cx) (ca : Nat → Addr) (W : WX) (e : Option Expr) (d : DO) : Prop := PO X e (TVv (gx X ca) W rOpt d)
theorem po_w {X : Cx} {e : Option Expr} {t t' : TO} (h : PO X e t) (i : ∀ σ H Q, t' σ H Q → t σ H Q) : PO X e t' := ⟨fun pins s σ H Q I q => h.run pins s σ H Q I (i σ H Q q)⟩
theorem so_none : SOp X ca W none oNone := po_w po_none fun σ H Q ⟨m, ρ, h, rh, re, c⟩ => c m H none Ext.refl rh rfl
theorem so_some (ha : SE X ca W e d) : SOp X ca W (some e) (oSome d) :=
  po_w (po_some ha) fun σ H Q t => by
    refine TVv.imp (TVv.bind (rel := rO (gx X ca)) (rel' := rOpt) (f := fun ρ o h1 => match o with
  | .v (.int i) => .ok (some i) h1
  | _ => .bad) t) ?_
    rintro v H1 ⟨m0, m1, ρ, x, h1, fr, r1, e1, rv, c⟩
    split at c
    · cases rO.int rv
      exact ⟨_, rfl, c m1 H1 _ fr r1 rfl⟩
    · exact c.elim
def cutL {α : Type} (xs : List α) (lo hi : Option Int) : List α := (xs.drop (HT.sIx xs.length 0 lo)).take (HT.sIx xs.length xs.length hi - HT.sIx xs.length 0 lo)
def fSl (x : O) (lo hi : Option Int) (h : MH) : R O := match x with
  | .v (.str s) => if s.length ≤ 16777216 then .ok (.v (.str (cutL s lo hi))) h else .bad
  | x => match seqO h x with
    | some (.tp, xs) => .ok (.v (.tup (cutL xs lo hi))) h
    | some (_, xs) => .ok (.n (cutL xs lo hi)) h
    | none => .bad
def dSl (d : D) (lo hi : DO) : D := fun ρ h => (d ρ h).bind fun x h1 => (lo ρ h1).bind fun l h2 => (hi ρ h2).bind fun u h3 => fSl x l u h3
abbrev rSlAll (K : PySem.W.Frag) : V → Option Int → Option Int → Hp → VK → Prop := fun x lo hi H Q => rSlL K x lo hi H Q ∨ rSlA K x lo hi H Q ∨ rSlS x lo hi H Q
theorem cut_rvs {K : PySem.W.Frag} {H : Hp} {m : Mu} {vs : List V} {xs : List Val} (r : RVs K H m vs xs) (lo hi : Option Int) : RVs K H m (cutV vs lo hi) (cutL xs lo hi) := by
  unfold cutV cutL
  rw [r.length]
  exact (r.drop _).take _
theorem cut_str (s : List Nat) (lo hi : Option Int) : cutS (sOf s) lo hi = sOf (cutL s lo hi) := by
  unfold cutS cutL
  rw [sOf_length]
theorem se_sl {lo hi : Option Expr} {dl dh : DO} {p2 : Pos} (ha : SE X ca W a da) (hl : SOp X ca W lo dl) (hh : SOp X ca W hi dh) : SE X ca W (.Subscript a (.Slice lo hi none p2) pos) (dSl da dl dh) :=
  pe_w (pe_slice (SlR.or sl_list (SlR.or sl_tupA sl_str)) ha hl hh) fun σ H Q t => by
    refine TVv.imp (TVv.bind (rel := rO (gx X ca)) (f := fun ρ x h1 => (dl ρ h1).bind fun l h2 => (dh ρ h2).bind fun u h3 => fSl x l u h3) t) ?_
    rintro v H1 ⟨m0, m1, ρ, x, h1, fr, r1, e1, rv, c⟩
    refine ⟨m1, ρ, h1, r1, e1, (Ct.step (rel := rOpt) fr r1 c).imp ?_⟩
    rintro l H2 ⟨m2, _, h2, ex, fr2, r2, rfl, c2⟩
    refine ⟨m2, ρ, h2, r2, ex.env r1 e1, (Ct.step (rel := rOpt) fr2 r2 c2).imp ?_⟩
    rintro u H3 ⟨m3, _, h3, ex3, fr3, r3, rfl, c3⟩
    have rv3 := ex3.ro r2 (ex.ro r1 rv)
    unfold fSl at c3
    split at c3
    · have w1 := rv3
      cases rO.str rv3
      split at c3
      · rename_i s hz
        refine .inr (.inr ⟨_, rfl, by rw [sOf_length, sl_eq]; exact hz, ?_⟩)
        rw [cut_str]
        exact Ct.val c3 fr3 r3 (.str _ fun k hk => rO.strv w1 k (List.mem_of_mem_drop (List.mem_of_mem_take hk)))
      · exact c3.elim
    · split at c3
      · rename_i xs ex
        obtain ⟨a, vs, rfl, la, ra⟩ := seqO_ok r3 rv3 ex
        have la' : H3 a = some (.tup vs) := la
        refine .inr (.inl ⟨a, vs, rfl, SqT.of la', fun ⟨z1, z2⟩ => ?_, fun _ => Ct.tup c3 fr3 r3 (cut_rvs ra _ _)⟩)
        have e2 : cutL xs l u = xs := by
          unfold cutL
          rw [← ra.length, z1, z2, ra.length]
          simp
        rw [e2] at c3
        exact Ct.val c3 fr3 r3 (.tup la' ra)
      · rename_i k xs hk ex
        obtain ⟨a, vs, rfl, la, ra⟩ := seqO_ok r3 rv3 ex
        exact .inl ⟨a, vs, rfl, la.sql (fun z => hk (by rw [z])), Ct.new c3 fr3 r3 (cut_rvs ra _ _)⟩
      · exact c3.elim
end
end
end Mi

/-! Mini: statements, loops, comprehensions. -/
namespace Mi
open PySem L2

inductive Out where
  | nx (ρ : En) (h : MH) | rt (x : Val) (h : MH) | bk (ρ : En) (h : MH) | ct (ρ : En) (h : MH) | ex (c : Nat) (ρ : En) (h : MH) | bad
abbrev SD := En → MH → Out
def R.out {α : Type} (r : R α) (ρ : En) (k : α → MH → Out) : Out := match r with
  | .ok x h => k x h
  | .ex c h => .ex c ρ h
  | .bad => .bad
def CtS (g : G) (W : WX) (m0 : Mu) (Hs : Hp) (o : Out) (D : Ends) : Prop := match o with
  | .nx ρ' h' => ∀ m' σ' H', Ext m0 m' Hs H' → RepH g m' H' h' → REnv g.K H' m' σ' ρ' → D.nx σ' H'
  | .rt x h' => ∀ m' H' v, Ext m0 m' Hs H' → RepH g m' H' h' → RV g.K H' m' v x → D.rt v H'
  | .bk ρ' h' => ∀ m' σ' H', Ext m0 m' Hs H' → RepH g m' H' h' → REnv g.K H' m' σ' ρ' → D.bk σ' H'
  | .ct ρ' h' => ∀ m' σ' H', Ext m0 m' Hs H' → RepH g m' H' h' → REnv g.K H' m' σ' ρ' → D.ct σ' H'
  | .ex c ρ' h' => ∀ m' σ' H', Ext m0 m' Hs H' → RepH g m' H' h' → REnv g.K H' m' σ' ρ' → W (.ref (g.ca c)) none σ' H'
  | .bad => False
def TSv (g : G) (W : WX) (s : SD) : TS := fun D σ H => ∃ m ρ h, RepH g m H h ∧ REnv g.K H m σ ρ ∧ CtS g W m H (s ρ h) D
section
variable {g : G} {W : WX} {m m' : Mu} {Hs H' : Hp} {h : MH}
theorem CtS.later {o : Out} {D : Ends} (x : Ext m m' Hs H') (q : RepH g m' H' h) (c : CtS g W m Hs o D) : CtS g W m' H' o D := by
  cases o with
  | nx ρ k => exact fun m2 σ2 H2 e => c m2 σ2 H2 (x.tr q e)
  | rt y k => exact fun m2 H2 v e => c m2 H2 v (x.tr q e)
  | bk ρ k => exact fun m2 σ2 H2 e => c m2 σ2 H2 (x.tr q e)
  | ct ρ k => exact fun m2 σ2 H2 e => c m2 σ2 H2 (x.tr q e)
  | ex y ρ k => exact fun m2 σ2 H2 e => c m2 σ2 H2 (x.tr q e)
  | bad => exact c
theorem CtS.out {α β : Type} {rel : Rel α β} {r : R α} {ρ : En} {σ : St} {k : α → MH → Out} {D : Ends} {H : Hp} (x : Ext m m' Hs H) (q : RepH g m' H h) (e : REnv g.K H m' σ ρ) (c : CtS g W m Hs (r.out ρ k) D) :
    Ct g W rel m' H r σ fun v H1 => ∃ m1 y h1, Ext m' m1 H H1 ∧ Ext m m1 Hs H1 ∧ RepH g m1 H1 h1 ∧ REnv g.K H1 m1 σ ρ ∧ rel H H1 m1 v y ∧ CtS g W m Hs (k y h1) D := by
  cases r with
  | ok y h' => exact fun m2 H2 v ex r2 rv => ⟨m2, y, h', ex, x.tr q ex, r2, ex.env q e, rv, c⟩
  | ex y h' => exact fun m2 H2 ex r2 => c m2 σ H2 (x.tr q ex) r2 (ex.env q e)
  | bad => exact c
theorem TSv.out {α β : Type} {rel : Rel α β} {d : En → MH → R α} {k : En → α → MH → Out} {D : Ends} {σ : St} {H : Hp} (t : TSv g W (fun ρ h => (d ρ h).out ρ (k ρ)) D σ H) :
    TVv g W rel d σ H fun v H1 => ∃ m0 m1 ρ x h1, Ext m0 m1 H H1 ∧ RepH g m1 H1 h1 ∧ REnv g.K H1 m1 σ ρ ∧ rel H H1 m1 v x ∧ CtS g W m0 H (k ρ x h1) D := by
  obtain ⟨m, ρ, h, rh, re, c⟩ := t
  exact ⟨m, ρ, h, rh, re, (CtS.out (rel := rel) Ext.refl rh re c).imp fun v H1 ⟨m1, y, h1, _, e2, r1, e1, rv, c1⟩ => ⟨m, m1, ρ, y, h1, e2, r1, e1, rv, c1⟩⟩
end
def SS (X : Cx) (ca : Nat → Addr) (W : WX) (s : Stmt) (d : SD) : Prop := PS X s (TSv (gx X ca) W d)
def SSs (X : Cx) (ca : Nat → Addr) (W : WX) (s : List Stmt) (d : SD) : Prop := PSs X s (TSv (gx X ca) W d)

def sNil : SD := fun ρ h => .nx ρ h
def sSeq (a b : SD) : SD := fun ρ h => match a ρ h with
  | .nx ρ' h' => b ρ' h'
  | o => o
def sRet (d : D) : SD := fun ρ h => (d ρ h).out ρ fun o h1 => .rt (num o h1).1 (num o h1).2
def sRetN : SD := fun _ h => .rt .non h
def sExpr (d : D) : SD := fun ρ h => (d ρ h).out ρ fun _ h1 => .nx ρ h1
def sSet (i : Nat) (d : D) : SD := fun ρ h => (d ρ h).out ρ fun o h1 => .nx (ρ.set i (some (num o h1).1)) (num o h1).2
def sIf (t : DB) (a b : SD) : SD := fun ρ h => (t ρ h).out ρ fun k h1 => if k = true then a ρ h1 else b ρ h1
def sBreak : SD := fun ρ h => .bk ρ h
def sCont : SD := fun ρ h => .ct ρ h
section
variable {X : Cx} {ca : Nat → Addr} {W : WX} {e : Expr} {d : D} {t : DB} {s : Stmt} {rest : List Stmt} {a b : SD} {pos : Pos}
theorem ss_nil : SSs X ca W [] sNil := pss_w pss_nil fun D σ H ⟨m, ρ, h, rh, re, c⟩ => c m σ H Ext.refl rh re
theorem tv_seq {g : G} {D : Ends} {σ : St} {H : Hp} (q : TSv g W (sSeq a b) D σ H) : tSeq (TSv g W a) (TSv g W b) D σ H := by
  obtain ⟨m, ρ, h, rh, re, c⟩ := q
  refine ⟨m, ρ, h, rh, re, ?_⟩
  show CtS g W m H (a ρ h) { D with nx := TSv g W b D }
  have c' : CtS g W m H (match a ρ h with
  | .nx ρ' h' => b ρ' h'
  | o => o) D := c
  cases hq : a ρ h with
  | nx ρ1 h1 =>
    rw [hq] at c'
    exact fun m2 σ2 H2 ex r2 e2 => ⟨m2, ρ1, h1, r2, e2, CtS.later ex r2 c'⟩
  | rt x k => rw [hq] at c'; exact c'
  | bk x k => rw [hq] at c'; exact c'
  | ct x k => rw [hq] at c'; exact c'
  | ex x y k => rw [hq] at c'; exact c'
  | bad => rw [hq] at c'; exact c'
theorem ss_cons (h1 : SS X ca W s a) (h2 : SSs X ca W rest b) : SSs X ca W (s :: rest) (sSeq a b) := pss_w (pss_cons h1 h2) fun D σ H q => tv_seq q
theorem ss_one (h1 : SS X ca W s a) : SSs X ca W [s] a := pss_one h1
theorem ss_ret (h : SE X ca W e d) : SS X ca W (.Return (some e) pos) (sRet d) :=
  ps_w (ps_ret h) fun D σ H t => by
    refine TVv.imp (TSv.out (rel := rO (gx X ca)) (k := fun ρ o h1 => .rt (num o h1).1 (num o h1).2) t) ?_
    rintro v H1 ⟨m0, m1, ρ, x, h1, fr, r1, e1, rv, c⟩
    obtain ⟨m2, le, fr2, r2, rv2⟩ := num_ok fr r1 rv
    exact c m2 H1 v fr2 r2 rv2
theorem ss_retN : SS X ca W (.Return none pos) sRetN := ps_w ps_retN fun D σ H ⟨m, ρ, h, rh, re, c⟩ => c m H _ Ext.refl rh .non
theorem ss_expr (h : SE X ca W e d) (hs : swapsWith e none pos.line X.env = pure false := by rfl) : SS X ca W (.Expr e pos) (sExpr d) :=
  ps_w (ps_expr h hs) fun D σ H t => by
    refine TVv.imp (TSv.out (rel := rO (gx X ca)) (k := fun ρ o h1 => .nx ρ h1) t) ?_
    rintro v H1 ⟨m0, m1, ρ, x, h1, fr, r1, e1, rv, c⟩
    exact c m1 σ H1 fr r1 e1
theorem ss_doc {x : Str} {j : Nat} {p : Pos} : SS X ca W (.Expr (.Constant (.str x) j p) pos) sNil := ps_w ps_doc fun D σ H ⟨m, ρ, h, rh, re, c⟩ => c m σ H Ext.refl rh re
theorem ss_set (i : Nat) {x : Str} {p : Pos} (h : SE X ca W e d) (hN : X.N.Nodup) (hi : X.N[i]? = some x := by rfl) (hx : Loc X.env.scope x := by first | exact .inl rfl | exact .inr rfl) (hs : swapsWith e (some (.Name x p)) pos.line X.env = pure false := by rfl)
    (hf : X.fn x = true ∨ X.env.scope.names.lookup x = some .local := by first | exact .inl rfl | exact .inr rfl) : SS X ca W (.Assign [.Name x p] e pos) (sSet i d) :=
  ps_w (ps_set hN hi hx h hs hf) fun D σ H t => by
    refine TVv.imp (TSv.out (rel := rO (gx X ca)) (k := fun ρ o h1 => .nx (ρ.set i (some (num o h1).1)) (num o h1).2) t) ?_
    rintro v H1 ⟨m0, m1, ρ, x, h1, fr, r1, e1, rv, c⟩
    obtain ⟨m2, le, fr2, r2, rv2⟩ := num_ok fr r1 rv
    exact c m2 _ H1 fr2 r2 ((e1.le le).set rv2 i)
theorem ss_if {c : Expr} {ba bb : List Stmt} (hc : ST X ca W c t) (ha : SSs X ca W ba a) (hb : SSs X ca W bb b) : SS X ca W (.If c ba bb pos) (sIf t a b) :=
  ps_w (ps_if hc ha hb) fun D σ H q => by
    refine TVv.imp (TSv.out (rel := rB) (k := fun ρ k h1 => if k = true then a ρ h1 else b ρ h1) q) ?_
    rintro v H1 ⟨m0, m1, ρ, x, h1, fr, r1, e1, rfl, c⟩
    cases v with
    | true => rw [if_pos rfl]; rw [if_pos rfl] at c; exact ⟨m1, ρ, h1, r1, e1, c.later fr r1⟩
    | false => rw [if_neg Bool.false_ne_true]; rw [if_neg Bool.false_ne_true] at c; exact ⟨m1, ρ, h1, r1, e1, c.later fr r1⟩
theorem ss_pass : SS X ca W (.Pass pos) sNil := ps_w ps_pass fun D σ H ⟨m, ρ, h, rh, re, c⟩ => c m σ H Ext.refl rh re
theorem ss_break : SS X ca W (.Break pos) sBreak := ps_w ps_break fun D σ H ⟨m, ρ, h, rh, re, c⟩ => c m σ H Ext.refl rh re
theorem ss_cont : SS X ca W (.Continue pos) sCont := ps_w ps_continue fun D σ H ⟨m, ρ, h, rh, re, c⟩ => c m σ H Ext.refl rh re
/-- name op= e -/
def sAug (i : Nat) (f : O → O → MH → R O) (d : D) : SD := fun ρ h => ((dVar i ρ h).bind fun x h1 => (d ρ h1).bind fun y h2 => f x y h2).out ρ fun o h3 => .nx (ρ.set i (some (num o h3).1)) (num o h3).2
end

/-! ### targets -/
inductive NT where
  | nm (i : Nat) | tp (is : List Nat)
def setN : List Nat → List Val → En → Option En
  | [], [], ρ => some ρ
  | i :: is, x :: xs, ρ => setN is xs (ρ.set i (some x))
  | _, _, _ => none
def setV : List Nat → List V → St → St
  | i :: is, v :: vs, σ => setV is vs (σ.set i (some v))
  | _, _, σ => σ
def NT.run : NT → Val → En → Option En
  | .nm i, x, ρ => some (ρ.set i (some x))
  | .tp is, .tup xs, ρ => setN is xs ρ
  | .tp _, _, _ => none
def NT.slots : NT → List Nat
  | .nm i => [i]
  | .tp is => is
def TGN : NT → TG
  | .nm i => fun v σ H Q => Q (σ.set i (some v)) H
  | .tp is => fun v σ H Q => ∃ a vs, v = .ref a ∧ H a = some (.tup vs) ∧ vs.length = is.length ∧ Q (setV is vs σ) H
theorem wipe_set {σ : St} {v : Option V} : ∀ {vs : List Nat} {i : Nat}, i ∈ vs → wipe (σ.set i v) vs = wipe σ vs
  | w :: ws, i, hi => by
    show (wipe (σ.set i v) ws).set w none = (wipe σ ws).set w none
    by_cases h : i ∈ ws
    · rw [wipe_set h]
    · have e : i = w := by
        rcases List.mem_cons.mp hi with z | z
        · exact z
        · exact absurd z h
      subst e
      have g : ∀ (us : List Nat), i ∉ us → wipe (σ.set i v) us = (wipe σ us).set i v := fun us => by
        induction us with
        | nil => intro _; rfl
        | cons u us ih =>
          intro hn
          show (wipe (σ.set i v) us).set u none = ((wipe σ us).set u none).set i v
          rw [ih (fun z => hn (List.mem_cons_of_mem _ z)), List.set_comm _ _ (fun z => hn (by rw [z]; exact List.mem_cons_self))]
      rw [g ws h, List.set_set]
theorem setN_ok {K : PySem.W.Frag} {H : Hp} {m : Mu} : ∀ {is : List Nat} {xs : List Val} {vs : List V} {ρ ρ' : En} {σ : St}, RVs K H m vs xs → REnv K H m σ ρ → setN is xs ρ = some ρ' →
    vs.length = is.length ∧ REnv K H m (setV is vs σ) ρ' ∧ ∀ ws, (∀ i ∈ is, i ∈ ws) → wipe (setV is vs σ) ws = wipe σ ws
  | [], _, _, _, _, _, .nil, e, h => by
    simp [setN] at h; subst h
    exact ⟨rfl, e, fun _ _ => rfl⟩
  | [], _, _, _, _, _, .cons _ _, e, h => by simp [setN] at h
  | _ :: _, _, _, _, _, _, .nil, e, h => by simp [setN] at h
  | i :: is, _, _, _, _, _, .cons r t, e, h => by
    have h' := h
    simp only [setN] at h'
    obtain ⟨a, b, c⟩ := setN_ok t (e.set r i) h'
    refine ⟨by simp [a], b, fun ws hw => ?_⟩
    show wipe (setV is _ (_ : St)) ws = _
    rw [c ws fun j hj => hw j (List.mem_cons_of_mem _ hj)]
    exact wipe_set (hw i List.mem_cons_self)
theorem tgn_ok {K : PySem.W.Frag} {H : Hp} {m : Mu} {nt : NT} {x : Val} {v : V} {ρ ρ' : En} {σ : St} {Q : St → Hp → Prop} (r : RV K H m v x) (e : REnv K H m σ ρ) (h : nt.run x ρ = some ρ')
    (q : ∀ σ', REnv K H m σ' ρ' → (∀ ws, (∀ i ∈ nt.slots, i ∈ ws) → wipe σ' ws = wipe σ ws) → Q σ' H) : TGN nt v σ H Q := by
  cases nt with
  | nm i =>
    simp only [NT.run, Option.some.injEq] at h
    subst h
    exact q _ (e.set r i) fun ws hw => wipe_set (hw i List.mem_cons_self)
  | tp is =>
    cases r with
    | tup h1 h2 =>
      obtain ⟨a, b, c⟩ := setN_ok h2 e h
      exact ⟨_, _, rfl, h1, a, q _ b c⟩
    | _ => simp [NT.run] at h
def SN (X : Cx) (target : Expr) (nt : NT) : Prop := PG X target (TGN nt)
section
variable {X : Cx} {pos : Pos}
theorem sn_nm (i : Nat) {x : Str} (hN : X.N.Nodup) (hi : X.N[i]? = some x := by rfl) (hx : Loc X.env.scope x := by first | exact .inl rfl | exact .inr rfl) (hf : X.fn x = true ∨ X.env.scope.names.lookup x = some .local := by first | exact .inl rfl | exact .inr rfl) : SN X (.Name x pos) (.nm i) :=
  pg_name hN hi hx hf
/-- the targets of a tuple, by their slots -/
def SNs (X : Cx) (es : List Expr) (is : List Nat) : Prop := PGs X es fun vs σ H Q => vs.length = is.length ∧ Q (setV is vs σ) H
theorem sns_nil : SNs X [] [] := by
  refine ⟨fun pins s σ H vs us Q I r h => pgs_nil.run pins s σ H vs us Q I r ?_⟩
  obtain ⟨a, b⟩ := h
  have : vs = [] := List.eq_nil_of_length_eq_zero a
  subst this
  exact ⟨rfl, b⟩
theorem sns_cons {e : Expr} {es : List Expr} {i : Nat} {is : List Nat} (h1 : SN X e (.nm i)) (h2 : SNs X es is) (hs : (assignEach (e :: es) X.env).map (·.2) = assign e X.env :: (assignEach es X.env).map (·.2) := by rfl) : SNs X (e :: es) (i :: is) := by
  refine ⟨fun pins s σ H vs us Q I r h => (pgs_cons h1 h2 hs).run pins s σ H vs us Q I r ?_⟩
  obtain ⟨a, b⟩ := h
  cases vs with
  | nil => simp at a
  | cons v vs => exact ⟨v, vs, rfl, by simpa using a, b⟩
theorem sn_tp {es : List Expr} {is : List Nat} {k : Nat} (hc : X.calm = true) (h : SNs X es is) (hn : (assignEach es X.env).length = is.length := by rfl) (hst : (assignEach es X.env).findIdx? (·.1) = none := by rfl) : SN X (.Tuple es k pos) (.tp is) := by
  refine ⟨fun pins s σ H v u Q I r hq => (pg_tup hc h hn hst).run pins s σ H v u Q I r ?_⟩
  obtain ⟨a, vs, rfl, e, l, q⟩ := hq
  exact ⟨a, vs, rfl, SqT.of e, l, l, q⟩
end

/-! ### assignments by targets -/
abbrev TD := Val → En → MH → Out
def CtG (g : G) (m0 : Mu) (Hs : Hp) (o : Out) (Q : St → Hp → Prop) : Prop := match o with
  | .nx ρ' h' => ∀ m' σ' H', Ext m0 m' Hs H' → RepH g m' H' h' → REnv g.K H' m' σ' ρ' → Q σ' H'
  | _ => False
def TGv (g : G) (t : TD) : TG := fun v σ H Q => ∃ m ρ h x, RepH g m H h ∧ REnv g.K H m σ ρ ∧ RV g.K H m v x ∧ CtG g m H (t x ρ h) Q
def SG (X : Cx) (ca : Nat → Addr) (target : Expr) (t : TD) : Prop := PG X target (TGv (gx X ca) t)
theorem pg_w {X : Cx} {e : Expr} {t t' : TG} (h : PG X e t) (i : ∀ v σ H Q, t' v σ H Q → t v σ H Q) : PG X e t' := ⟨fun pins s σ H v u Q I r q => h.run pins s σ H v u Q I r (i v σ H Q q)⟩
def tdN (nt : NT) : TD := fun x ρ h => match nt.run x ρ with
  | some ρ' => .nx ρ' h
  | none => .bad
section
variable {X : Cx} {ca : Nat → Addr} {W : WX} {e : Expr} {d da di : D} {pos : Pos}
theorem sg_n {tg : Expr} {nt : NT} (h : SN X tg nt) : SG X ca tg (tdN nt) := pg_w h fun v σ H Q ⟨m, ρ, h, x, rh, re, rv, c⟩ => by
  unfold tdN at c
  cases hq : nt.run x ρ with
  | none => rw [hq] at c; exact c.elim
  | some ρ' => rw [hq] at c; exact tgn_ok rv re hq fun σ' e' _ => c m σ' H Ext.refl rh e'
/-- target = e -/
def sAsg (d : D) (t : TD) : SD := fun ρ h => (d ρ h).out ρ fun o h1 => match t (num o h1).1 ρ (num o h1).2 with
  | .nx ρ' h' => .nx ρ' h'
  | _ => .bad
theorem ss_asg {tg : Expr} {t : TD} (he : SE X ca W e d) (hg : SG X ca tg t) (hs : swapsWithSole [tg] e pos.line X.env = pure false := by rfl) (hw : swappedStores [tg] e X.env = pure none := by rfl)
    (h1 : (assignEach [tg] X.env).map (·.2) = [assign tg X.env] := by rfl) : SS X ca W (.Assign [tg] e pos) (sAsg d t) :=
  ps_w (ps_asg he hg hs hw h1) fun D σ H q => by
    refine TVv.imp (TSv.out (rel := rO (gx X ca)) (k := fun ρ o h1 => match t (num o h1).1 ρ (num o h1).2 with
  | .nx ρ' h' => .nx ρ' h'
  | _ => .bad) q) ?_
    rintro v H1 ⟨m0, m1, ρ, x, h1, fr, r1, e1, rv, c⟩
    obtain ⟨m2, le, fr2, r2, rv2⟩ := num_ok fr r1 rv
    refine ⟨m2, ρ, _, _, r2, e1.le le, rv2, ?_⟩
    cases hq : t (num x h1).1 ρ (num x h1).2 with
    | nx ρ' h' => rw [hq] at c; exact fun m3 σ3 H3 ex r3 e3 => c m3 σ3 H3 (fr2.tr r2 ex) r3 e3
    | _ => rw [hq] at c; exact c.elim
/-- a, b = x, y -/
def sPar (is : List Nat) (ds : DV) : SD := fun ρ h => (ds ρ h).out ρ fun xs h1 => match setN is xs ρ with
  | some ρ' => .nx ρ' h1
  | none => .bad
def SVo (X : Cx) (ca : Nat → Addr) (W : WX) (es : List Expr) (d : DV) : Prop := SV X ca W es d
theorem ss_par {i j : Nat} {x y : Str} {a b : Expr} {ds : DV} {px py pt : Pos} {kt k2 : Nat} {pt2 : Pos} (ha : SV X ca W [a, b] ds) (hc : X.calm = true) (hN : X.N.Nodup) (hi : X.N[i]? = some x := by rfl) (hj : X.N[j]? = some y := by rfl) (hij : i ≠ j := by decide)
    (hx : X.env.scope.names.lookup x = some .local := by rfl) (hy : X.env.scope.names.lookup y = some .local := by rfl)
    (hw : swappedStores [.Tuple [.Name x px, .Name y py] kt pt] (.Tuple [a, b] k2 pt2) X.env = pure (some [x, y]) := by rfl)
    (hs : swapsWithSole [.Tuple [.Name x px, .Name y py] kt pt] (.Tuple [a, b] k2 pt2) pos.line X.env = pure false := by rfl) :
    SS X ca W (.Assign [.Tuple [.Name x px, .Name y py] kt pt] (.Tuple [a, b] k2 pt2) pos) (sPar [i, j] ds) :=
  ps_w (ps_par hc hN hi hj hij hx hy ha hw hs) fun D σ H q => by
    refine TVv.imp (TSv.out (rel := rL (gx X ca)) (k := fun ρ xs h1 => match setN [i, j] xs ρ with
  | some ρ' => .nx ρ' h1
  | none => .bad) q) ?_
    rintro vs H1 ⟨m0, m1, ρ, xs, h1, fr, r1, e1, rv, c⟩
    cases hq : setN [i, j] xs ρ with
    | none => rw [hq] at c; exact c.elim
    | some ρ' =>
      rw [hq] at c
      obtain ⟨l, b, _⟩ := setN_ok rv e1 hq
      match vs, l with
      | [v, w], _ => exact ⟨v, w, rfl, c m1 _ H1 fr r1 b⟩
theorem ss_par3 {i j l : Nat} {x y z : Str} {a b c : Expr} {ds : DV} {px py pz pt : Pos} {kt k2 : Nat} {pt2 : Pos} (ha : SV X ca W [a, b, c] ds) (hc : X.calm = true) (hN : X.N.Nodup) (hi : X.N[i]? = some x := by rfl) (hj : X.N[j]? = some y := by rfl) (hl : X.N[l]? = some z := by rfl) (hij : i ≠ j := by decide) (hil : i ≠ l := by decide) (hjl : j ≠ l := by decide)
    (hx : X.env.scope.names.lookup x = some .local := by rfl) (hy : X.env.scope.names.lookup y = some .local := by rfl) (hz : X.env.scope.names.lookup z = some .local := by rfl)
    (hw : swappedStores [.Tuple [.Name x px, .Name y py, .Name z pz] kt pt] (.Tuple [a, b, c] k2 pt2) X.env = pure (some [x, y, z]) := by rfl)
    (hs : swapsWithSole [.Tuple [.Name x px, .Name y py, .Name z pz] kt pt] (.Tuple [a, b, c] k2 pt2) pos.line X.env = pure false := by rfl) :
    SS X ca W (.Assign [.Tuple [.Name x px, .Name y py, .Name z pz] kt pt] (.Tuple [a, b, c] k2 pt2) pos) (sPar [i, j, l] ds) :=
  ps_w (ps_par3 hc hN hi hj hl hij hil hjl hx hy hz ha hw hs) fun D σ H q => by
    refine TVv.imp (TSv.out (rel := rL (gx X ca)) (k := fun ρ xs h1 => match setN [i, j, l] xs ρ with
  | some ρ' => .nx ρ' h1
  | none => .bad) q) ?_
    rintro vs H1 ⟨m0, m1, ρ, xs, h1, fr, r1, e1, rv, c⟩
    cases hq : setN [i, j, l] xs ρ with
    | none => rw [hq] at c; exact c.elim
    | some ρ' =>
      rw [hq] at c
      obtain ⟨l', b', _⟩ := setN_ok rv e1 hq
      match vs, l' with
      | [v, w, u], _ => exact ⟨v, w, u, rfl, c m1 _ H1 fr r1 b'⟩
end
end Mi

/-! Mini: loops, comprehensions, stores, calls of own defs. -/
namespace Mi
open PySem L2

/-! ### x[i] = v -/
def putD (kvs : List (Val × Val)) (k v : Val) : List (Val × Val) :=
  if (kvs.any fun p => keyEq p.1 k) = true then kvs.map (fun p => if keyEq p.1 k = true then (p.1, v) else p) else kvs ++ [(k, v)]
def putT (kvs : List (List Val × Val)) (k : List Val) (v : Val) : List (List Val × Val) :=
  if (kvs.any fun p => keysEq p.1 k) = true then kvs.map (fun p => if keysEq p.1 k = true then (p.1, v) else p) else kvs ++ [(k, v)]
def fSetIx (x y z : Val) (h : MH) : Option MH := match x with
  | .ref n => match h[n]? with
    | some (.lst xs) => match y with
      | .int i => match ixN xs.length i with
        | some j => some (h.set n (.lst (xs.set j z)))
        | none => none
      | _ => none
    | some (.dK kvs) => if isKey y = true ∧ kvs.length < 16777216 then some (h.set n (.dK (putD kvs y z))) else none
    | some (.dT kvs) => match y with
      | .tup ks => if ks.all isKey = true ∧ kvs.length < 16777216 then some (h.set n (.dT (putT kvs ks z))) else none
      | _ => none
    | _ => none
  | _ => none
theorem rk_length {K : PySem.W.Frag} {H : Hp} {m : Mu} {ks : List (Key × V)} {kvs : List (Val × Val)} (r : RK K H m ks kvs) : ks.length = kvs.length := by
  induction r with
  | nil => rfl
  | cons _ _ _ ih => simp [ih]
theorem rkt_length {K : PySem.W.Frag} {H : Hp} {m : Mu} {ks : List (List Key × V)} {kvs : List (List Val × Val)} (r : RKT K H m ks kvs) : ks.length = kvs.length := by
  induction r with
  | nil => rfl
  | cons _ _ _ ih => simp [ih]
theorem rk_any {K : PySem.W.Frag} {H : Hp} {m : Mu} {y : Val} {l : Key} (e2 : keyOf y = some l) {ks : List (Key × V)} {kvs : List (Val × Val)} (r : RK K H m ks kvs) : (ks.any fun kv => decide (kv.1 = l)) = (kvs.any fun p => keyEq p.1 y) := by
  induction r with
  | nil => rfl
  | cons ek _ _ ih => rw [List.any_cons, List.any_cons, ih, key_eq ek e2]
theorem rkt_any {K : PySem.W.Frag} {H : Hp} {m : Mu} {y : List Val} {l : List Key} (e2 : keysOf y = some l) {ks : List (List Key × V)} {kvs : List (List Val × Val)} (r : RKT K H m ks kvs) : (ks.any fun kv => decide (kv.1 = l)) = (kvs.any fun p => keysEq p.1 y) := by
  induction r with
  | nil => rfl
  | cons ek _ _ ih => rw [List.any_cons, List.any_cons, ih, keys_eq ek e2]
theorem RK.append {K : PySem.W.Frag} {H : Hp} {m : Mu} {ks : List (Key × V)} {kvs : List (Val × Val)} (r : RK K H m ks kvs) {ks' : List (Key × V)} {kvs' : List (Val × Val)} (r' : RK K H m ks' kvs') : RK K H m (ks ++ ks') (kvs ++ kvs') := by
  induction r with
  | nil => exact r'
  | cons a b _ ih => exact .cons a b ih
theorem RKT.append {K : PySem.W.Frag} {H : Hp} {m : Mu} {ks : List (List Key × V)} {kvs : List (List Val × Val)} (r : RKT K H m ks kvs) {ks' : List (List Key × V)} {kvs' : List (List Val × Val)} (r' : RKT K H m ks' kvs') : RKT K H m (ks ++ ks') (kvs ++ kvs') := by
  induction r with
  | nil => exact r'
  | cons a b _ ih => exact .cons a b ih
theorem putD_ok {K : PySem.W.Frag} {H : Hp} {m : Mu} {y z : Val} {l : Key} {w : V} (e2 : keyOf y = some l) (rz : RV K H m w z) {ks : List (Key × V)} {kvs : List (Val × Val)} (r : RK K H m ks kvs) : RK K H m (putK ks l w) (putD kvs y z) := by
  unfold putK putD
  rw [rk_any e2 r]
  split
  · rename_i h0
    clear h0
    induction r with
    | nil => exact .nil
    | @cons k v kv x y' xs ek rv t ih =>
      rw [List.map_cons, List.map_cons]
      have h := key_eq ek e2
      by_cases hd : k = l
      · rw [if_pos hd]; rw [decide_eq_true hd] at h; rw [if_pos h.symm]; exact .cons ek rz ih
      · rw [if_neg hd]; rw [decide_eq_false hd] at h; rw [if_neg (by rw [← h]; decide)]; exact .cons ek rv ih
  · exact r.append (.cons e2 rz .nil)
theorem putT_ok {K : PySem.W.Frag} {H : Hp} {m : Mu} {y : List Val} {z : Val} {l : List Key} {w : V} (e2 : keysOf y = some l) (rz : RV K H m w z) {ks : List (List Key × V)} {kvs : List (List Val × Val)} (r : RKT K H m ks kvs) : RKT K H m (putK ks l w) (putT kvs y z) := by
  unfold putK putT
  rw [rkt_any e2 r]
  split
  · rename_i h0
    clear h0
    induction r with
    | nil => exact .nil
    | @cons k v kv x y' xs ek rv t ih =>
      rw [List.map_cons, List.map_cons]
      have h := keys_eq ek e2
      by_cases hd : k = l
      · rw [if_pos hd]; rw [decide_eq_true hd] at h; rw [if_pos h.symm]; exact .cons ek rz ih
      · rw [if_neg hd]; rw [decide_eq_false hd] at h; rw [if_neg (by rw [← h]; decide)]; exact .cons ek rv ih
  · exact r.append (.cons e2 rz .nil)
abbrev rSetAll : TSet := fun o i v H Q => rSetL o i v H Q ∨ ∃ a H', o = .ref a ∧ DPut H a i v H' ∧ Q H'
theorem set_all {X : Cx} (hu : X.A.units + 1 < cLine) : PSet X rSetAll := by
  intro pins s σ H o i v ov iv u Q I ro ri rv h
  rcases h with h | ⟨a, H', rfl, g, q⟩
  · exact set_list pins s σ H o i v ov iv u Q I ro ri rv h
  · obtain rfl : ov = Value.ref a := ro
    exact d_setItem hu I g ri rv fun s' I' => ⟨H', I', q⟩
theorem fSetIx_ok {g : G} {m0 m : Mu} {Hs H : Hp} {h h' : MH} {v u w : V} {x y z : Val} (fr : Ext m0 m Hs H) (r : RepH g m H h) (qx : RV g.K H m v x) (qy : RV g.K H m u y) (qz : RV g.K H m w z) (e : fSetIx x y z h = some h') {Q : Hp → Prop}
    (q : ∀ H', Ext m0 m Hs H' → RepH g m H' h' → (∀ v x, RV g.K H m v x → RV g.K H' m v x) → Q H') : rSetAll v u w H Q := by
  unfold fSetIx at e
  split at e
  · rename_i n
    cases qx with
    | ref hm =>
      rename_i a
      have fin : ∀ (o : HO) (b : Ob), RO g (upd H a o) m a b → h.set n b = h' → Q (upd H a o) := fun o b ro eh => by
        have x2 : Ext m m H (upd H a o) := Ext.upd hm
        exact q _ (fr.tr r x2) (by rw [← eh]; exact r.upd hm ro) fun v x rv => x2.rv r rv
      have mo : ∀ (o : HO), Kp H (upd H a o) := fun o => (Ext.upd (o := o) hm).sqt r
      split at e
      · rename_i xs hk
        obtain ⟨b, e1, vs, e2, e3⟩ := r.at_ _ _ hk
        rw [hm] at e1; cases e1
        split at e
        · rename_i i
          split at e
          · rename_i j hj
            simp at e
            cases qy
            exact .inl ⟨a, vs, i, j, rfl, rfl, e2, by rw [e3.length]; exact hj, fin _ (.lst (xs.set j z)) ⟨_, upd_same, ((e3.set qz j).mono (mo _) fun _ _ z => z)⟩ e⟩
          · cases e
        · cases e
      · rename_i kvs hk
        obtain ⟨b, e1, ks, e2, e3⟩ := r.at_ _ _ hk
        rw [hm] at e1; cases e1
        split at e
        · rename_i hy
          simp at e
          obtain ⟨l, e4, rfl⟩ := key_of qy hy.1
          exact .inr ⟨a, _, rfl, DPut.k e2 (by rw [rk_length e3, sl_eq]; exact hy.2), fin _ (.dK (putD kvs y z)) ⟨_, upd_same, (putD_ok e4 qz e3).mono (mo _) fun _ _ z => z⟩ e⟩
        · cases e
      · rename_i kvs hk
        obtain ⟨b, e1, ks, e2, e3⟩ := r.at_ _ _ hk
        rw [hm] at e1; cases e1
        split at e
        · rename_i ys
          split at e
          · rename_i hy
            simp at e
            cases qy with
            | tup h1 h2 =>
              obtain ⟨l, e4, rfl⟩ := keys_of h2 hy.1
              exact .inr ⟨a, _, rfl, DPut.t e2 h1 (by rw [rkt_length e3, sl_eq]; exact hy.2), fin _ (.dT (putT kvs ys z)) ⟨_, upd_same, (putT_ok e4 qz e3).mono (mo _) fun _ _ z => z⟩ e⟩
          · cases e
        · cases e
      · cases e
  · cases e
def tdSub (da di : D) : TD := fun z ρ h => match da ρ h with
  | .ok (.v x) h1 => match di ρ h1 with
    | .ok (.v y) h2 => match fSetIx x y z h2 with
      | some h3 => .nx ρ h3
      | none => .bad
    | _ => .bad
  | _ => .bad
/-- nothing is raised -/
abbrev W0 : WX := fun _ _ _ _ => False
section
variable {X : Cx} {ca : Nat → Addr} {W : WX} {a b e : Expr} {d da di : D} {pos : Pos}
theorem sg_sub (hu : X.A.units + 1 < cLine) (ha : SE X ca W a da) (hb : SE X ca W b di)
    (hh : ∀ v, assign (.Subscript a b pos) X.env v = (do
      let ov ← holding [v] (eval a X.env)
      let iv ← holding [v, ov] (eval b X.env)
      standAt pos
      holding [v, ov, iv] (setItem ov iv v)
      release [v, ov, iv] []) := by intro _; rfl) : SG X ca (.Subscript a b pos) (tdSub da di) :=
  pg_w (pg_sub ha hb (set_all hu) hh) fun v σ H Q ⟨m, ρ, h, z, rh, re, rz, c⟩ => by
    unfold tdSub at c
    refine ⟨m, ρ, h, rh, re, ?_⟩
    cases h1 : da ρ h with
    | bad => rw [h1] at c; exact c.elim
    | ex k hh => rw [h1] at c; exact c.elim
    | ok o h1' =>
      rw [h1] at c
      cases o with
      | n xs => exact c.elim
      | v x =>
        simp only at c
        intro m1 H1 v1 fr1 r1 rv1
        refine ⟨m1, ρ, h1', r1, fr1.env rh re, ?_⟩
        cases h2 : di ρ h1' with
        | bad => rw [h2] at c; exact c.elim
        | ex k hh => rw [h2] at c; exact c.elim
        | ok o2 h2' =>
          rw [h2] at c
          cases o2 with
          | n xs => exact c.elim
          | v y =>
            simp only at c
            intro m2 H2 v2 fr2 r2 rv2
            cases h3 : fSetIx x y z h2' with
            | none => rw [h3] at c; exact c.elim
            | some h4 =>
              rw [h3] at c
              have fr02 := fr1.tr r1 fr2
              refine fSetIx_ok fr02 r2 (fr2.rv r1 rv1) rv2 (fr02.rv rh rz) h3 fun H' x' r' mv => ?_
              exact c m2 σ H' x' r' ⟨re.len, fun i y e => let ⟨v, q1, q2⟩ := (fr02.env rh re).at_ i y e; ⟨v, q1, mv _ _ q2⟩⟩

/-! ### loops -/
structure Sv (g : G) (J : It) (m0 : Mu) (H0 : Hp) (xs : List Val) (lv : MH → Bool) : Prop where
  stop : ∀ i m H h, Ext m0 m H0 H → RepH g m H h → lv h = true → xs.length ≤ i → J.stop i H
  go : ∀ i m H h x, Ext m0 m H0 H → RepH g m H h → lv h = true → xs[i]? = some x → J.go i H ∧ ∀ v H', J.yld i H v H' → Ext m m H H' ∧ RepH g m H' h ∧ RV g.K H' m v x
abbrev DI := En → MH → R (List Val × (MH → Bool))
abbrev rI' (g : G) : Rel (List Val × (MH → Bool)) It := fun _ H m J p => Sv g J m H p.1 p.2
def SI (X : Cx) (ca : Nat → Addr) (W : WX) (tg e : Expr) (d : DI) : Prop := PI X tg e (TVv (gx X ca) W (rI' (gx X ca)) d)
theorem pi_w {tg e : Expr} {t t' : TI} (h : PI X tg e t) (i : ∀ σ H Q, t' σ H Q → t σ H Q) : PI X tg e t' := ⟨fun pins s σ H Q I q => h.run pins s σ H Q I (i σ H Q q)⟩
def forL (nt : NT) (body : SD) (lv : MH → Bool) : List Val → En → MH → Out
  | [], ρ, h => if lv h = true then .nx ρ h else .bad
  | x :: xs, ρ, h => if lv h = true then match nt.run x ρ with
    | some ρ1 => match body ρ1 h with
      | .nx ρ2 h2 => forL nt body lv xs ρ2 h2
      | .ct ρ2 h2 => forL nt body lv xs ρ2 h2
      | .bk ρ2 h2 => .nx ρ2 h2
      | o => o
    | none => .bad
    else .bad
def sFor (di : DI) (nt : NT) (body : SD) : SD := fun ρ h => (di ρ h).out ρ fun p h1 => forL nt body p.2 p.1 ρ h1
theorem ss_for {tg iter : Expr} {body : List Stmt} {di : DI} {nt : NT} {sb : SD} (hp : PassesOwn (model X.prog X.w) X.A X.env X.xe) (hc : X.calm = true) (hi : SI X ca W tg iter di) (hg : SN X tg nt) (hb : SSs X ca W body sb)
    (hs : ∀ x, foldedSetIterable iter X.env x = pure x := by intro _; rfl) : SS X ca W (.For tg iter body [] pos) (sFor di nt sb) :=
  ps_w (ps_for hp hc hi hg hb hs) fun D σ H t => by
    refine TVv.imp (TSv.out (rel := rI' (gx X ca)) (k := fun ρ p h1 => forL nt sb p.2 p.1 ρ h1) t) ?_
    rintro J H1 ⟨m0, m1, ρ, ⟨xs, lv⟩, h1, fr, r1, e1, sv, c⟩
    refine ⟨fun i k σ' H' => k = xs.length - i ∧ i ≤ xs.length ∧ ∃ m' ρ' h', Ext m1 m' H1 H' ∧ RepH (gx X ca) m' H' h' ∧ REnv X.K H' m' σ' ρ' ∧ CtS (gx X ca) W m0 H (forL nt sb lv (xs.drop i) ρ' h') D,
      ⟨xs.length, by simp, by simp, m1, ρ, h1, Ext.refl, r1, e1, by simpa using c⟩, ?_⟩
    rintro i k σ' H' ⟨rfl, hi', m2, ρ2, h2, x2, r2, e2, c2⟩
    by_cases hlt : i < xs.length
    · have hx : xs[i]? = some xs[i] := List.getElem?_eq_getElem hlt
      rw [List.drop_eq_getElem_cons hlt] at c2
      simp only [forL] at c2
      split at c2
      · rename_i hlv
        obtain ⟨gg, yy⟩ := sv.go i m2 H' h2 xs[i] x2 r2 hlv hx
        refine .inr ⟨gg, fun σ3 H3 => ∃ m' ρ' h', Ext m1 m' H1 H3 ∧ RepH (gx X ca) m' H3 h' ∧ REnv X.K H3 m' σ3 ρ' ∧ CtS (gx X ca) W m0 H (forL nt sb lv (xs.drop (i + 1)) ρ' h') D, fun σ3 H3 n3 => ⟨xs.length - (i + 1), by omega, rfl, hlt, n3⟩, fun v H3 y => ?_⟩
        obtain ⟨x3, r3, rv3⟩ := yy v H3 y
        have e3 := x3.env r2 e2
        cases hr : nt.run xs[i] ρ2 with
        | none => rw [hr] at c2; exact c2.elim
        | some ρ3 =>
          rw [hr] at c2
          refine tgn_ok rv3 e3 hr fun σ4 e4 _ => ?_
          refine ⟨m2, ρ3, h2, r3, e4, ?_⟩
          have x13 := x2.tr r2 x3
          have x03 := fr.tr r1 x13
          simp only at c2
          cases hbo : sb ρ3 h2 with
          | nx ρ5 h5 => rw [hbo] at c2; exact fun m5 σ5 H5 e5 r5 n5 => ⟨m5, ρ5, h5, x13.tr r3 e5, r5, n5, c2⟩
          | ct ρ5 h5 => rw [hbo] at c2; exact fun m5 σ5 H5 e5 r5 n5 => ⟨m5, ρ5, h5, x13.tr r3 e5, r5, n5, c2⟩
          | bk ρ5 h5 => rw [hbo] at c2; exact fun m5 σ5 H5 e5 r5 n5 => c2 m5 σ5 H5 (x03.tr r3 e5) r5 n5
          | rt w h5 => rw [hbo] at c2; exact fun m5 H5 v5 e5 r5 n5 => c2 m5 H5 v5 (x03.tr r3 e5) r5 n5
          | ex w ρ5 h5 => rw [hbo] at c2; exact fun m5 σ5 H5 e5 r5 n5 => c2 m5 σ5 H5 (x03.tr r3 e5) r5 n5
          | bad => rw [hbo] at c2; exact c2.elim
      · exact c2.elim
    · rw [List.drop_eq_nil_of_le (by omega)] at c2
      simp only [forL] at c2
      split at c2
      · rename_i hlv
        exact .inl ⟨sv.stop i m2 H' h2 x2 r2 hlv (Nat.le_of_not_lt hlt), c2 m2 σ' H' (fr.tr r1 x2) r2 e2⟩
      · exact c2.elim
def whileL (t : DB) (body : SD) : Nat → En → MH → Out
  | 0, _, _ => .bad
  | n + 1, ρ, h => (t ρ h).out ρ fun k h1 => if k = true then match body ρ h1 with
      | .nx ρ2 h2 => whileL t body n ρ2 h2
      | .ct ρ2 h2 => whileL t body n ρ2 h2
      | .bk ρ2 h2 => .nx ρ2 h2
      | o => o
    else .nx ρ h1
def sWhile (n : Nat) (t : DB) (body : SD) : SD := whileL t body n
theorem ss_while (n : Nat) {c : Expr} {body : List Stmt} {t : DB} {sb : SD} (hp : PassesOwn (model X.prog X.w) X.A X.env X.xe) (hc : ST X ca W c t) (hb : SSs X ca W body sb) : SS X ca W (.While c body [] pos) (sWhile n t sb) :=
  ps_w (ps_while hp hc hb) fun D σ H ⟨m0, ρ0, h0, rh0, re0, c0⟩ => by
    refine ⟨fun k σ' H' => ∃ m ρ h, Ext m0 m H H' ∧ RepH (gx X ca) m H' h ∧ REnv X.K H' m σ' ρ ∧ CtS (gx X ca) W m0 H (whileL t sb k ρ h) D, ⟨n, m0, ρ0, h0, Ext.refl, rh0, re0, c0⟩, ?_⟩
    rintro k σ1 H1 ⟨m1, ρ1, h1, x1, r1, e1, c1⟩
    cases k with
    | zero => exact c1.elim
    | succ k =>
      refine ⟨m1, ρ1, h1, r1, e1, (CtS.out (rel := rB) x1 r1 e1 c1).imp ?_⟩
      rintro b H2 ⟨m2, _, h2, x12, x02, r2, e2, rfl, c2⟩
      cases b with
      | false => rw [if_neg Bool.false_ne_true]; rw [if_neg Bool.false_ne_true] at c2; exact c2 m2 σ1 H2 x02 r2 e2
      | true =>
        rw [if_pos rfl]; rw [if_pos rfl] at c2
        refine ⟨fun σ3 H3 => ∃ m ρ h, Ext m0 m H H3 ∧ RepH (gx X ca) m H3 h ∧ REnv X.K H3 m σ3 ρ ∧ CtS (gx X ca) W m0 H (whileL t sb k ρ h) D, fun σ3 H3 n3 => ⟨k, Nat.lt_succ_self _, n3⟩, m2, ρ1, h2, r2, e2, ?_⟩
        cases hbo : sb ρ1 h2 with
        | nx ρ5 h5 => rw [hbo] at c2; exact fun m5 σ5 H5 e5 r5 n5 => ⟨m5, ρ5, h5, x02.tr r2 e5, r5, n5, c2⟩
        | ct ρ5 h5 => rw [hbo] at c2; exact fun m5 σ5 H5 e5 r5 n5 => ⟨m5, ρ5, h5, x02.tr r2 e5, r5, n5, c2⟩
        | bk ρ5 h5 => rw [hbo] at c2; exact fun m5 σ5 H5 e5 r5 n5 => c2 m5 σ5 H5 (x02.tr r2 e5) r5 n5
        | rt w h5 => rw [hbo] at c2; exact fun m5 H5 v5 e5 r5 n5 => c2 m5 H5 v5 (x02.tr r2 e5) r5 n5
        | ex w ρ5 h5 => rw [hbo] at c2; exact fun m5 σ5 H5 e5 r5 n5 => c2 m5 σ5 H5 (x02.tr r2 e5) r5 n5
        | bad => rw [hbo] at c2; exact c2.elim

/-! ### comprehensions -/
theorem Ext.put {m0 m : Mu} {H0 H : Hp} {D : Addr} {o : HO} (x : Ext m0 m H0 H) (h0 : H0 D = none) (hn : ∀ n, m n ≠ some D) : Ext m0 m H0 (L2.upd H D o) :=
  ⟨x.le, x.new, fun b u e q => by
    rw [L2.upd_ne (ne_of_none e h0)]
    exact x.keep b u e q⟩
theorem Kp.of_lst {H : Hp} {D : Addr} {o : HO} {vs : List V} (d : H D = some (.lst vs)) : Kp H (L2.upd H D o) := by
  refine ⟨fun a xs z => ?_, fun a o xs z => ?_⟩
  · rw [L2.upd_ne]; exact z
    intro w; rw [w, d] at z; cases z
  · rw [L2.upd_ne]; exact z
    intro w; rw [w, d] at z; cases z
theorem RepH.put {g : G} {m : Mu} {H : Hp} {h : MH} {D : Addr} {vs ws : List V} (r : RepH g m H h) (hd : H D = some (.lst vs)) (hn : ∀ n, m n ≠ some D) : RepH g m (L2.upd H D (.lst ws)) h :=
  ⟨r.dom, r.inj, fun n u e => by
    obtain ⟨a, e1, q⟩ := r.at_ n u e
    refine ⟨a, e1, q.mono ⟨fun b xs z => ?_, fun b o xs z => ?_⟩ (fun _ _ z => z) (L2.upd_ne fun w => hn n (by rw [← w]; exact e1))⟩
    · rw [L2.upd_ne]; exact z
      intro w; rw [w, hd] at z; cases z
    · rw [L2.upd_ne]; exact z
      intro w; rw [w, hd] at z; cases z⟩
def R.get {α β : Type} (r : R α) (f : α → MH → R β) : R β := match r with
  | .ok a h => f a h
  | _ => .bad
def wipeE (ρ : En) : List Nat → En
  | [] => ρ
  | v :: vs => (wipeE ρ vs).set v none
def compL (nt : NT) (tst : DB) (elt : D) (lv : MH → Bool) : List Val → En → MH → R (List Val)
  | [], _, h => if lv h = true then .ok [] h else .bad
  | x :: xs, ρ, h => if lv h = true then match nt.run x ρ with
    | some ρ1 => (tst ρ1 h).get fun b h1 => if b = true then (elt ρ1 h1).get fun o h2 => (compL nt tst elt lv xs ρ (num o h2).2).get fun ys h3 => .ok ((num o h2).1 :: ys) h3
      else compL nt tst elt lv xs ρ h1
    | none => .bad
    else .bad
def dComp (own : List Nat) (di : DI) (nt : NT) (tst : DB) (elt : D) : D := fun ρ h => (di ρ h).bind fun p h1 => if p.1.length ≤ 16777216 then (compL nt tst elt p.2 p.1 (wipeE ρ own) h1).get fun ys h2 => .ok (.n ys) h2 else .bad
def tYesB : DB := fun _ h => .ok true h
theorem wipe_env {K : PySem.W.Frag} {H : Hp} {m : Mu} {σ : St} {ρ : En} (e : REnv K H m σ ρ) : ∀ vs, REnv K H m (wipe σ vs) (wipeE ρ vs)
  | [] => e
  | v :: vs => by
    have ih := wipe_env e vs
    refine ⟨?_, fun i x q => ?_⟩
    · show ((wipe σ vs).set v none).length = ((wipeE ρ vs).set v none).length
      rw [List.length_set, List.length_set, ih.len]
    · have q' : ((wipeE ρ vs).set v none)[i]? = some (some x) := q
      by_cases hi : v = i
      · subst hi
        by_cases hl : v < (wipeE ρ vs).length
        · rw [List.getElem?_set_self hl] at q'; cases q'
        · rw [List.getElem?_eq_none (by simpa using hl)] at q'; cases q'
      · rw [List.getElem?_set_ne hi] at q'
        obtain ⟨w, h1, h2⟩ := ih.at_ i x q'
        exact ⟨w, by show ((wipe σ vs).set v none)[i]? = _; rw [List.getElem?_set_ne hi]; exact h1, h2⟩
end
/-- a block's rule: for every block -/
abbrev InBlk (X : Cx) (scope : Scope) (P : Cx → Prop) : Prop := ∀ (s : Shared) (H : Hp) (C : Addr) (cl : List (Str × Addr)) (fp : List Addr), P (X.blk s H scope (compEnvC scope cl C X.env) fp)
def STs (X : Cx) (ca : Nat → Addr) (W : WX) (ifs : List Expr) (d : DB) : Prop := PTs X ifs (TTv (gx X ca) W d)
section
variable {X : Cx} {ca : Nat → Addr} {W : WX}
theorem pts_w {ifs : List Expr} {t t' : TT} (h : PTs X ifs t) (i : ∀ σ H Q, t' σ H Q → t σ H Q) : PTs X ifs t' := ⟨fun pins s σ H Q I q => h.run pins s σ H Q I (i σ H Q q)⟩
theorem sts_nil : STs X ca W [] tYesB := pts_w pts_nil fun σ H Q ⟨m, ρ, h, rh, re, c⟩ => c m H true Ext.refl rh rfl
theorem sts_one {c : Expr} {d : DB} (h : ST X ca W c d) : STs X ca W [c] d := pts_one h
/-- the reading of a comprehension's loop -/
theorem tv_comp {g : G} {own : List Nat} {di : DI} {nt : NT} {tst : DB} {elt : D} (hsl : ∀ i ∈ nt.slots, i ∈ own) {σ : St} {H : Hp} {Q : VK} (t : TEv g W (dComp own di nt tst elt) σ H Q) :
    tLc (TVv g W (rI' g) di) (TGN nt) (TTv g W0 tst) (TEv g W0 elt) own σ H Q := by
  refine TVv.imp (TVv.bind (rel := rI' g) (rel' := rO g) (f := fun ρ p h1 => if p.1.length ≤ 16777216 then (compL nt tst elt p.2 p.1 (wipeE ρ own) h1).get fun ys h2 => .ok (.n ys) h2 else .bad) t) ?_
  rintro J H1 ⟨m0, m1, ρ, ⟨xs, lv⟩, h1, fr, r1, e1, sv, c⟩
  intro D hD
  simp only at c
  split at c
  · rename_i hz
    cases hq : compL nt tst elt lv xs (wipeE ρ own) h1 with
    | bad => rw [hq] at c; exact c.elim
    | ex k hh => rw [hq] at c; exact c.elim
    | ok zs h9 =>
      rw [hq] at c
      have c : Ct g W (rO g) m0 H (.ok (.n zs) h9) σ Q := c
      have x1 : Ext m1 m1 H1 (upd H1 D (.lst [])) := Ext.laid hD
      have hD0 : H D = none := fr.free r1 D hD
      have ew := wipe_env e1 own
      -- the rest of the source, what is made so far
      refine ⟨fun i k H' => k = xs.length - i ∧ i ≤ xs.length ∧ ∃ m' h' acc vs ys, Ext m1 m' H1 H' ∧ RepH g m' H' h' ∧ H' D = some (.lst vs) ∧ (∀ n, m' n ≠ some D) ∧ RVs g.K H' m' vs acc ∧ acc.length ≤ i ∧ zs = acc ++ ys ∧ compL nt tst elt lv (xs.drop i) (wipeE ρ own) h' = .ok ys h9,
        ⟨xs.length, by simp, by simp, m1, h1, [], [], zs, x1, r1.laid hD, upd_same, fun n e => r1.ne hD e rfl, .nil, by simp, by simp, by simpa using hq⟩, ?_⟩
      rintro i k H' ⟨rfl, hi', m2, h2, acc, vs, ys, x2, r2, d2, n2, ra, la, rfl, c2⟩
      by_cases hlt : i < xs.length
      · have hx : xs[i]? = some xs[i] := List.getElem?_eq_getElem hlt
        rw [List.drop_eq_getElem_cons hlt] at c2
        simp only [compL] at c2
        split at c2
        · rename_i hlv
          obtain ⟨gg, yy⟩ := sv.go i m2 H' h2 xs[i] x2 r2 hlv hx
          refine .inr ⟨gg, fun H3 => ∃ m' h' acc' vs' ys', Ext m1 m' H1 H3 ∧ RepH g m' H3 h' ∧ H3 D = some (.lst vs') ∧ (∀ n, m' n ≠ some D) ∧ RVs g.K H3 m' vs' acc' ∧ acc'.length ≤ i + 1 ∧ acc ++ ys = acc' ++ ys' ∧ compL nt tst elt lv (xs.drop (i + 1)) (wipeE ρ own) h' = .ok ys' h9,
            fun H3 n3 => ⟨xs.length - (i + 1), by omega, rfl, hlt, n3⟩, fun v H3 y => ?_⟩
          obtain ⟨x3, r3, rv3⟩ := yy v H3 y
          have d3 : H3 D = some (.lst vs) := x3.keep _ _ d2 n2
          have x13 := x2.tr r2 x3
          have e3 : REnv g.K H3 m2 (wipe σ own) (wipeE ρ own) := (x13.env r1 ew)
          cases hr : nt.run xs[i] (wipeE ρ own) with
          | none => rw [hr] at c2; cases c2
          | some ρ3 =>
            rw [hr] at c2
            simp only at c2
            refine tgn_ok rv3 e3 hr fun σ4 e4 w4 => ⟨?_, ?_⟩
            · rw [w4 own hsl]
              have idem : ∀ (us : List Nat) (τ : St), wipe (wipe τ us) us = wipe τ us := fun us τ => by
                have key : ∀ (as bs : List Nat), wipe (wipe τ bs) as = wipe (wipe τ as) bs := by
                  intro as bs
                  apply List.ext_getElem?
                  intro j
                  have l1 : ∀ (us : List Nat) (τ : St) (j : Nat), (wipe τ us)[j]? = if j ∈ us then (if j < τ.length then some none else none) else τ[j]? := by
                    intro us
                    induction us with
                    | nil => intro τ j; simp [wipe]
                    | cons u us ih =>
                      intro τ j
                      show ((wipe τ us).set u none)[j]? = _
                      rw [List.getElem?_set, ih, wipe_length]
                      by_cases hju : u = j
                      · subst hju; simp
                      · have : j ≠ u := fun z => hju z.symm
                        simp [hju, this]
                  rw [l1, l1, l1, l1, wipe_length, wipe_length]
                  by_cases ha : j ∈ as <;> by_cases hb : j ∈ bs <;> simp [ha, hb]
                have l1 : ∀ (us : List Nat) (τ : St) (j : Nat), (wipe τ us)[j]? = if j ∈ us then (if j < τ.length then some none else none) else τ[j]? := by
                  intro us
                  induction us with
                  | nil => intro τ j; simp [wipe]
                  | cons u us ih =>
                    intro τ j
                    show ((wipe τ us).set u none)[j]? = _
                    rw [List.getElem?_set, ih, wipe_length]
                    by_cases hju : u = j
                    · subst hju; simp
                    · have : j ≠ u := fun z => hju z.symm
                      simp [hju, this]
                apply List.ext_getElem?
                intro j
                rw [l1, l1, wipe_length]
                by_cases ha : j ∈ us <;> simp [ha]
              exact idem own σ
            · refine ⟨m2, ρ3, h2, r3, e4, ?_⟩
              cases ht : tst ρ3 h2 with
              | bad => rw [ht] at c2; cases c2
              | ex k hh => rw [ht] at c2; cases c2
              | ok b h4 =>
                rw [ht] at c2
                have c2 : (if b = true then (elt ρ3 h4).get fun o h2 => (compL nt tst elt lv (xs.drop (i + 1)) (wipeE ρ own) (num o h2).2).get fun ys h3 => .ok ((num o h2).1 :: ys) h3
                  else compL nt tst elt lv (xs.drop (i + 1)) (wipeE ρ own) h4) = .ok ys h9 := c2
                intro m4 H4 b4 x4 r4 eb
                rw [show b4 = b from eb]
                have x14 := x13.tr r3 x4
                have d4 : H4 D = some (.lst vs) := x4.keep _ _ d3 n2
                have n4 : ∀ n, m4 n ≠ some D := fun n z => by
                  rcases x4.new n D z with q | q
                  · exact n2 n q
                  · rw [d3] at q; cases q
                have ra4 : RVs g.K H4 m4 vs acc := x4.rvs r3 (x3.rvs r2 ra)
                cases b with
                | false =>
                  rw [if_neg Bool.false_ne_true] at c2 ⊢
                  exact ⟨m4, h4, acc, vs, ys, x14, r4, d4, n4, ra4, by omega, rfl, c2⟩
                | true =>
                  rw [if_pos rfl] at c2 ⊢
                  refine ⟨m4, ρ3, h4, r4, x4.env r3 e4, ?_⟩
                  cases he : elt ρ3 h4 with
                  | bad => rw [he] at c2; cases c2
                  | ex k hh => rw [he] at c2; cases c2
                  | ok o h5 =>
                    rw [he] at c2
                    have c2 : ((compL nt tst elt lv (xs.drop (i + 1)) (wipeE ρ own) (num o h5).2).get fun ys h3 => .ok ((num o h5).1 :: ys) h3) = .ok ys h9 := c2
                    intro m5 H5 v5 x5 r5 rv5
                    have d5 : H5 D = some (.lst vs) := x5.keep _ _ d4 n4
                    have n5 : ∀ n, m5 n ≠ some D := fun n z => by
                      rcases x5.new n D z with q | q
                      · exact n4 n q
                      · rw [d4] at q; cases q
                    obtain ⟨m6, le6, x6, r6, rv6⟩ := num_ok x5 r5 rv5
                    have ra6 : RVs g.K H5 m6 vs acc := (x5.rvs r4 ra4).mono Kp.refl le6
                    have n6 : ∀ n, m6 n ≠ some D := fun n z => by
                      rcases x6.new n D z with q | q
                      · exact n4 n q
                      · rw [d4] at q; cases q
                    cases hcc : compL nt tst elt lv (xs.drop (i + 1)) (wipeE ρ own) (num o h5).2 with
                    | bad => rw [hcc] at c2; cases c2
                    | ex k hh => rw [hcc] at c2; cases c2
                    | ok ys2 h7 =>
                      rw [hcc] at c2
                      have c2 : R.ok ((num o h5).1 :: ys2) h7 = .ok ys h9 := c2
                      injection c2 with c3 c4
                      subst c3 c4
                      refine ⟨vs, d5, by rw [ra.length, sl_eq]; omega, ?_⟩
                      have x16 := x14.tr r4 x6
                      have hup : Kp H5 (upd H5 D (.lst (vs ++ [v5]))) := Kp.of_lst d5
                      exact ⟨m6, _, acc ++ [(num o h5).1], vs ++ [v5], ys2, x16.put hD n6, r6.put d5 n6, upd_same, n6, (ra6.append (.cons rv6 .nil)).mono hup (fun _ _ z => z), by simp; omega, by simp, hcc⟩
        · cases c2
      · rw [List.drop_eq_nil_of_le (by omega)] at c2
        simp only [compL] at c2
        split at c2
        · rename_i hlv
          injection c2 with c3 c4
          subst c3 c4
          refine .inl ⟨sv.stop i m2 H' h2 x2 r2 hlv (Nat.le_of_not_lt hlt), ?_⟩
          rw [List.append_nil] at c
          exact c m2 H' _ (fr.tr r1 x2) r2 ⟨D, vs, rfl, d2, n2, hD0, ra⟩
        · cases c2
  · exact c.elim
end
end Mi

/-! Mini: what loops walk; comprehensions as expressions; own defs. -/
namespace Mi
open PySem L2

def live (o : O) (xs : List Val) (h : MH) : Bool := match o with
  | .v (.ref n) => match h[n]? with
    | some (.lst ys) => decide (ys = xs)
    | _ => false
  | _ => true
def SqK (K : PySem.W.Frag) (H : Hp) (a : Addr) (vs : List V) : LK → Prop
  | .tp => SqT K H a vs
  | _ => SqL K H a vs
theorem seq_live {g : G} {m1 : Mu} {H0 H1 : Hp} {h1 : MH} {v : V} {o : O} {k : LK} {xs : List Val} (r1 : RepH g m1 H1 h1) (q : rO g H0 H1 m1 v o) (e : seqO h1 o = some (k, xs)) :
    ∃ a, v = .ref a ∧ ∀ m H h, Ext m1 m H1 H → RepH g m H h → live o xs h = true → ∃ vs, SqK g.K H a vs k ∧ RVs g.K H m vs xs := by
  cases o with
  | n ys =>
    simp only [seqO, Option.some.injEq, Prod.mk.injEq] at e
    obtain ⟨rfl, rfl⟩ := e
    obtain ⟨a, vs, rfl, e2, e3, _, e5⟩ := q
    exact ⟨a, rfl, fun m H h x r _ => ⟨vs, SqL.of (x.keep _ _ e2 e3), x.rvs r1 e5⟩⟩
  | v y =>
    cases q with
    | tup h1' h2 =>
      simp only [seqO, Option.some.injEq, Prod.mk.injEq] at e
      obtain ⟨rfl, rfl⟩ := e
      exact ⟨_, rfl, fun m H h x r _ => ⟨_, SqT.of ((x.sqt r1).tup _ _ h1'), x.rvs r1 h2⟩⟩
    | fl h1' h2 =>
      simp only [seqO, Option.some.injEq, Prod.mk.injEq] at e
      obtain ⟨rfl, rfl⟩ := e
      exact ⟨_, rfl, fun m H h x r _ => ⟨_, FzL.sql ((x.sqt r1).fzl h1'), x.rvs r1 h2⟩⟩
    | @ref nn aa hm =>
      refine ⟨_, rfl, fun m H h x r hl => ?_⟩
      have hm' := x.le _ _ hm
      have hk : k ≠ .tp := by
        simp only [seqO] at e
        split at e
        · simp at e; rw [← e.1]; intro z; cases z
        · cases e
      have fin : ∀ vs, SqL g.K H aa vs → SqK g.K H aa vs k := fun vs z => by cases k <;> first | exact z | exact absurd rfl hk
      simp only [live] at hl
      split at hl
      · rename_i ys hy
        obtain ⟨b, e1, vs, e2, e3⟩ := r.at_ _ _ hy
        rw [hm'] at e1; cases e1
        rw [of_decide_eq_true hl] at e3
        exact ⟨vs, fin vs (SqL.of e2), e3⟩
      · cases hl
    | _ => simp [seqO] at e
section
variable {g : G} {m1 : Mu} {H1 : Hp} {a b : Addr} {xs ys : List Val} {lv lv2 : MH → Bool}
/-- a sequence that can be read as long as it lives -/
def Lives (g : G) (m1 : Mu) (H1 : Hp) (a : Addr) (xs : List Val) (lv : MH → Bool) (k : LK) : Prop := ∀ m H h, Ext m1 m H1 H → RepH g m H h → lv h = true → ∃ vs, SqK g.K H a vs k ∧ RVs g.K H m vs xs
theorem sv_list {k : LK} (hk : k ≠ .tp) (L : Lives g m1 H1 a xs lv k) : Sv g (Itl g.K a) m1 H1 xs lv := by
  have sq : ∀ {H vs}, SqK g.K H a vs k → SqL g.K H a vs := fun z => by cases k <;> first | exact z | exact absurd rfl hk
  refine ⟨fun i m H h x r l hi => ?_, fun i m H h y x r l hy => ?_⟩
  · obtain ⟨vs, s, rv⟩ := L m H h x r l
    exact ⟨vs, sq s, by rw [rv.length]; exact hi⟩
  · obtain ⟨vs, s, rv⟩ := L m H h x r l
    obtain ⟨w, e1, e2⟩ := rv.get hy
    refine ⟨⟨vs, w, sq s, e1⟩, fun v H' y => ?_⟩
    obtain ⟨rfl, f⟩ := y
    have := f vs (sq s)
    rw [e1] at this; cases this
    exact ⟨Ext.refl, r, e2⟩
theorem sv_tup (L : Lives g m1 H1 a xs lv .tp) : Sv g (Itt g.K a) m1 H1 xs lv := by
  refine ⟨fun i m H h x r l hi => ?_, fun i m H h y x r l hy => ?_⟩
  · obtain ⟨vs, s, rv⟩ := L m H h x r l
    exact ⟨vs, s, by rw [rv.length]; exact hi⟩
  · obtain ⟨vs, s, rv⟩ := L m H h x r l
    obtain ⟨w, e1, e2⟩ := rv.get hy
    refine ⟨⟨vs, w, s, e1⟩, fun v H' y => ?_⟩
    obtain ⟨rfl, f⟩ := y
    have := f vs s
    rw [e1] at this; cases this
    exact ⟨Ext.refl, r, e2⟩
def enumF (n : Nat) : List Val → List Val
  | [] => []
  | x :: xs => .tup [.int n, x] :: enumF (n + 1) xs
theorem enumF_get : ∀ {xs : List Val} {n i : Nat} {y : Val}, (enumF n xs)[i]? = some y → ∃ x, xs[i]? = some x ∧ y = .tup [.int ((n + i : Nat) : Int), x]
  | [], _, _, _, h => by simp [enumF] at h
  | x :: xs, n, 0, y, h => by simp [enumF] at h; exact ⟨x, rfl, h.symm⟩
  | x :: xs, n, i + 1, y, h => by
    simp only [enumF, List.getElem?_cons_succ] at h
    obtain ⟨z, e1, e2⟩ := enumF_get h
    exact ⟨z, by simpa using e1, by rw [e2]; simp [Nat.add_assoc, Nat.add_comm 1 i]⟩
theorem enumF_length : ∀ {xs : List Val} {n : Nat}, (enumF n xs).length = xs.length
  | [], _ => rfl
  | x :: xs, n => by simp [enumF, enumF_length (xs := xs)]
theorem sv_enum {k : LK} (hk : k ≠ .tp) (L : Lives g m1 H1 a xs lv k) : Sv g (Ite g.K a) m1 H1 (enumF 0 xs) lv := by
  have sq : ∀ {H vs}, SqK g.K H a vs k → SqL g.K H a vs := fun z => by cases k <;> first | exact z | exact absurd rfl hk
  refine ⟨fun i m H h x r l hi => ?_, fun i m H h y x r l hy => ?_⟩
  · obtain ⟨vs, s, rv⟩ := L m H h x r l
    exact ⟨vs, sq s, by rw [rv.length, ← enumF_length (n := 0)]; exact hi⟩
  · obtain ⟨vs, s, rv⟩ := L m H h x r l
    obtain ⟨z, e0, rfl⟩ := enumF_get hy
    obtain ⟨w, e1, e2⟩ := rv.get e0
    refine ⟨⟨vs, w, sq s, e1⟩, fun v H' y => ?_⟩
    obtain ⟨T, x', rfl, hT, rfl, f⟩ := y
    have := f vs (sq s)
    rw [e1] at this; cases this
    refine ⟨Ext.laid hT, r.laid hT, .tup upd_same ?_⟩
    rw [Nat.zero_add]
    exact .cons (.int _) (.cons ((Ext.laid (m := m) hT).rv r e2) .nil)
def zipF : List Val → List Val → List Val
  | x :: xs, y :: ys => .tup [x, y] :: zipF xs ys
  | _, _ => []
theorem zipF_get : ∀ {xs ys : List Val} {i : Nat} {z : Val}, (zipF xs ys)[i]? = some z → ∃ x y, xs[i]? = some x ∧ ys[i]? = some y ∧ z = .tup [x, y]
  | [], _, _, _, h => by simp [zipF] at h
  | _ :: _, [], _, _, h => by simp [zipF] at h
  | x :: xs, y :: ys, 0, z, h => by simp [zipF] at h; exact ⟨x, y, rfl, rfl, h.symm⟩
  | x :: xs, y :: ys, i + 1, z, h => by
    simp only [zipF, List.getElem?_cons_succ] at h
    obtain ⟨a, b, e1, e2, e3⟩ := zipF_get h
    exact ⟨a, b, by simpa using e1, by simpa using e2, e3⟩
theorem zipF_length : ∀ {xs ys : List Val}, (zipF xs ys).length = min xs.length ys.length
  | [], _ => by simp [zipF]
  | _ :: _, [] => by simp [zipF]
  | x :: xs, y :: ys => by simp [zipF, zipF_length (xs := xs)]
theorem sv_zip {k k2 : LK} (hk : k ≠ .tp) (hk2 : k2 ≠ .tp) (L : Lives g m1 H1 a xs lv k) (Lb : Lives g m1 H1 b ys lv2 k2) : Sv g (Itz g.K a b) m1 H1 (zipF xs ys) (fun h => lv h && lv2 h) := by
  have sq : ∀ {H vs}, SqK g.K H a vs k → SqL g.K H a vs := fun z => by cases k <;> first | exact z | exact absurd rfl hk
  have sq2 : ∀ {H vs}, SqK g.K H b vs k2 → SqL g.K H b vs := fun z => by cases k2 <;> first | exact z | exact absurd rfl hk2
  refine ⟨fun i m H h x r l hi => ?_, fun i m H h y x r l hy => ?_⟩
  · simp only [Bool.and_eq_true] at l
    obtain ⟨vs, s, rv⟩ := L m H h x r l.1
    obtain ⟨us, s2, rv2⟩ := Lb m H h x r l.2
    refine ⟨vs, us, sq s, sq2 s2, ?_⟩
    rw [zipF_length] at hi
    rw [rv.length, rv2.length]
    omega
  · simp only [Bool.and_eq_true] at l
    obtain ⟨vs, s, rv⟩ := L m H h x r l.1
    obtain ⟨us, s2, rv2⟩ := Lb m H h x r l.2
    obtain ⟨z1, z2, e1, e2, rfl⟩ := zipF_get hy
    obtain ⟨w, f1, f2⟩ := rv.get e1
    obtain ⟨w2, f3, f4⟩ := rv2.get e2
    refine ⟨⟨vs, us, w, w2, sq s, sq2 s2, f1, f3⟩, fun v H' y => ?_⟩
    obtain ⟨T, x', y', rfl, hT, rfl, f, f'⟩ := y
    have q1 := f vs (sq s)
    have q2 := f' us (sq2 s2)
    rw [f1] at q1; cases q1
    rw [f3] at q2; cases q2
    exact ⟨Ext.laid hT, r.laid hT, .tup upd_same (.cons ((Ext.laid (m := m) hT).rv r f2) (.cons ((Ext.laid (m := m) hT).rv r f4) .nil))⟩
theorem sv_zipT (L : Lives g m1 H1 a xs lv .tp) (Lb : Lives g m1 H1 b ys lv2 .tp) : Sv g (RZ.ItzT g.K a b) m1 H1 (zipF xs ys) (fun h => lv h && lv2 h) := by
  refine ⟨fun i m H h x r l hi => ?_, fun i m H h y x r l hy => ?_⟩
  · simp only [Bool.and_eq_true] at l
    obtain ⟨vs, s, rv⟩ := L m H h x r l.1
    obtain ⟨us, s2, rv2⟩ := Lb m H h x r l.2
    refine ⟨vs, us, s, s2, ?_⟩
    rw [zipF_length] at hi
    rw [rv.length, rv2.length]
    omega
  · simp only [Bool.and_eq_true] at l
    obtain ⟨vs, s, rv⟩ := L m H h x r l.1
    obtain ⟨us, s2, rv2⟩ := Lb m H h x r l.2
    obtain ⟨z1, z2, e1, e2, rfl⟩ := zipF_get hy
    obtain ⟨w, f1, f2⟩ := rv.get e1
    obtain ⟨w2, f3, f4⟩ := rv2.get e2
    refine ⟨⟨vs, us, w, w2, s, s2, f1, f3⟩, fun v H' y => ?_⟩
    obtain ⟨T, x', y', rfl, hT, rfl, f, f'⟩ := y
    have q1 := f vs s
    have q2 := f' us s2
    rw [f1] at q1; cases q1
    rw [f3] at q2; cases q2
    exact ⟨Ext.laid hT, r.laid hT, .tup upd_same (.cons ((Ext.laid (m := m) hT).rv r f2) (.cons ((Ext.laid (m := m) hT).rv r f4) .nil))⟩
def rngF (lo : Int) : Nat → List Val
  | 0 => []
  | n + 1 => .int lo :: rngF (lo + 1) n
theorem rngF_length : ∀ {n : Nat} {lo : Int}, (rngF lo n).length = n
  | 0, _ => rfl
  | n + 1, lo => by simp [rngF, rngF_length (n := n)]
theorem rngF_get : ∀ {n : Nat} {lo : Int} {i : Nat} {y : Val}, (rngF lo n)[i]? = some y → i < n ∧ y = .int (lo + i)
  | 0, _, _, _, h => by simp [rngF] at h
  | n + 1, lo, 0, y, h => by simp [rngF] at h; exact ⟨Nat.succ_pos _, by rw [← h]; simp⟩
  | n + 1, lo, i + 1, y, h => by
    simp only [rngF, List.getElem?_cons_succ] at h
    obtain ⟨a, b⟩ := rngF_get h
    exact ⟨by omega, by rw [b]; congr 1; omega⟩
theorem sv_rng {lo : Int} {n : Nat} : Sv g (Itr lo n) m1 H1 (rngF lo n) (fun _ => true) := by
  refine ⟨fun i m H h x r l hi => ?_, fun i m H h y x r l hy => ?_⟩
  · rw [rngF_length] at hi; exact hi
  · obtain ⟨a, rfl⟩ := rngF_get hy
    refine ⟨a, fun v H' y => ?_⟩
    obtain ⟨rfl, rfl⟩ := y
    exact ⟨Ext.refl, r, .int _⟩
theorem sv_str {s : List Nat} (hs : ∀ c ∈ s, c < 1114112) : Sv g (Its (sOf s)) m1 H1 (s.map fun c => .str [c]) (fun _ => true) := by
  refine ⟨fun i m H h x r l hi => ?_, fun i m H h y x r l hy => ?_⟩
  · simpa [Its, sOf] using hi
  · rw [List.getElem?_map] at hy
    cases hc : s[i]? with
    | none => rw [hc] at hy; cases hy
    | some c =>
      rw [hc] at hy
      simp at hy; subst hy
      have hlt := (List.getElem?_eq_some_iff.mp hc).1
      refine ⟨by simpa [Its, sOf] using hlt, fun v H' y => ?_⟩
      obtain ⟨rfl, c', e, rfl⟩ := y
      have : c' = c := by simp [hc] at e; exact e.symm
      subst this
      exact ⟨Ext.refl, r, .str [c'] fun d hd => by
        have : d = c' := by simpa using hd
        subst this
        exact hs d (List.mem_of_getElem? hc)⟩
end

def itV (o : O) (h1 : MH) : R (List Val × (MH → Bool)) := match o with
  | .v (.str s) => .ok (s.map fun c => .str [c], fun _ => true) h1
  | o => match seqO h1 o with
    | some (_, xs) => .ok (xs, live o xs) h1
    | none => .bad
def diV (d : D) : DI := fun ρ h => (d ρ h).bind itV
def diR1 (d : D) : DI := fun ρ h => (d ρ h).bind fun o h1 => match o with
  | .v (.int j) => if -4611686018427387904 ≤ j ∧ j < 4611686018427387904 then .ok (rngF 0 j.toNat, fun _ => true) h1 else .bad
  | _ => .bad
def diR2 (da db : D) : DI := fun ρ h => (da ρ h).bind fun o h1 => (db ρ h1).bind fun o2 h2 => match o, o2 with
  | .v (.int i), .v (.int j) => if -4611686018427387904 ≤ i ∧ i < 4611686018427387904 ∧ -4611686018427387904 ≤ j ∧ j < 4611686018427387904 then .ok (rngF i (j - i).toNat, fun _ => true) h2 else .bad
  | _, _ => .bad
def diE (d : D) : DI := fun ρ h => (d ρ h).bind fun o h1 => match seqO h1 o with
  | some (.mu, xs) => .ok (enumF 0 xs, live o xs) h1
  | some (.fz, xs) => .ok (enumF 0 xs, live o xs) h1
  | _ => .bad
def isTp : LK → Bool
  | .tp => true
  | _ => false
def diZ (da db : D) : DI := fun ρ h => (da ρ h).bind fun o h1 => (db ρ h1).bind fun o2 h2 => match seqO h2 o, seqO h2 o2 with
  | some (k, xs), some (k2, ys) => if isTp k = isTp k2 then .ok (zipF xs ys, fun h => live o xs h && live o2 ys h) h2 else .bad
  | _, _ => .bad
section
variable {X : Cx} {ca : Nat → Addr} {W : WX} {e e2 : Expr} {d da db : D} {p pos : Pos}
theorem back_I {g : G} : Back (rI' g) := fun _ _ _ _ _ _ _ r => r
theorem pi_or {X : Cx} {tg e : Expr} {t t' : TI} (h : PI X tg e t) (h' : PI X tg e t') : PI X tg e (fun σ H R => t σ H R ∨ t' σ H R) :=
  ⟨fun pins s σ H R I q => q.elim (h.run pins s σ H R I) (h'.run pins s σ H R I)⟩
theorem si_v {tg : Expr} (he : SE X ca W e d) : SI X ca W tg e (diV d) :=
  pi_w (pi_or (pi_list he) (pi_or (pi_tup he) (pi_str he))) fun σ H Q ⟨m, ρ, h, rh, re, c⟩ => by
    have c : Ct (gx X ca) W (rI' (gx X ca)) m H ((d ρ h).bind itV) σ Q := c
    cases hd : d ρ h with
    | bad => rw [hd] at c; exact c.elim
    | ex k hh => exact .inl ⟨m, ρ, h, rh, re, by rw [hd] at c ⊢; exact c⟩
    | ok o h1 =>
      rw [hd] at c
      have c : Ct (gx X ca) W (rI' (gx X ca)) m H (itV o h1) σ Q := c
      unfold itV at c
      split at c
      · rename_i s
        refine .inr (.inr ⟨m, ρ, h, rh, re, ?_⟩)
        rw [hd]
        intro m1 H1 v x1 r1 rv
        have w1 := rv
        cases rO.str rv
        exact ⟨_, rfl, c m1 H1 _ x1 r1 (sv_str (rO.strv w1))⟩
      · split at c
        · rename_i k xs hs
          by_cases hk : k = .tp
          · subst hk
            refine .inr (.inl ⟨m, ρ, h, rh, re, ?_⟩)
            rw [hd]
            intro m1 H1 v x1 r1 rv
            obtain ⟨a, rfl, L⟩ := seq_live r1 rv hs
            have L' : Lives (gx X ca) m1 H1 a xs (live o xs) .tp := L
            obtain ⟨a', vs, e1, la, ra⟩ := seqO_ok r1 rv hs
            cases e1
            exact ⟨a, rfl, ⟨vs, SqT.of la⟩, c m1 H1 _ x1 r1 (sv_tup L')⟩
          · refine .inl ⟨m, ρ, h, rh, re, ?_⟩
            rw [hd]
            intro m1 H1 v x1 r1 rv
            obtain ⟨a, rfl, L⟩ := seq_live r1 rv hs
            have L' : Lives (gx X ca) m1 H1 a xs (live o xs) k := L
            obtain ⟨a', vs, e1, la, ra⟩ := seqO_ok r1 rv hs
            cases e1
            exact ⟨a, rfl, ⟨vs, la.sql hk⟩, c m1 H1 _ x1 r1 (sv_list hk L')⟩
        · exact c.elim
theorem si_r1 {tg : Expr} (hm : X.mg "range" = none) (he : SE X ca W e d) (hg : Gl X "range" := by rfl) (hs : starEach [e] X.env = [(false, eval e X.env)] := by rfl) : SI X ca W tg (.Call (.Name "range" p) [e] [] pos) (diR1 d) :=
  pi_w (pi_range1 hg hm (pa_cons he pa_nil hs) hs) fun σ H Q t => by
    refine TVv.imp (TVv.bind (rel := rO (gx X ca)) (rel' := rI' (gx X ca)) (f := fun ρ o h1 => match o with
  | .v (.int j) => if -4611686018427387904 ≤ j ∧ j < 4611686018427387904 then .ok (rngF 0 j.toNat, fun _ => true) h1 else .bad
  | _ => .bad) t) ?_
    rintro v H1 ⟨m0, m1, ρ, x, h1, fr, r1, e1, rv, c⟩
    split at c
    · cases rO.int rv
      split at c
      · rename_i hz
        exact ⟨_, rfl, hz.1, hz.2, c m1 H1 _ fr r1 sv_rng⟩
      · exact c.elim
    · exact c.elim
theorem si_r2 {tg : Expr} (hm : X.mg "range" = none) (ha : SE X ca W e da) (hb : SE X ca W e2 db) (hg : Gl X "range" := by rfl) (hs : starEach [e, e2] X.env = [(false, eval e X.env), (false, eval e2 X.env)] := by rfl) (hs2 : starEach [e2] X.env = [(false, eval e2 X.env)] := by rfl) :
    SI X ca W tg (.Call (.Name "range" p) [e, e2] [] pos) (diR2 da db) :=
  pi_w (pi_range2 hg hm (pa_cons ha (pa_cons hb pa_nil hs2) (by rw [hs, hs2])) hs hs2) fun σ H Q t => by
    refine TVv.imp (TVv.bind (rel := rO (gx X ca)) (rel' := rI' (gx X ca)) (f := fun ρ o h1 => (db ρ h1).bind fun o2 h2 => match o, o2 with
  | .v (.int i), .v (.int j) => if -4611686018427387904 ≤ i ∧ i < 4611686018427387904 ∧ -4611686018427387904 ≤ j ∧ j < 4611686018427387904 then .ok (rngF i (j - i).toNat, fun _ => true) h2 else .bad
  | _, _ => .bad) t) ?_
    rintro v H1 ⟨m0, m1, ρ, x, h1, fr, r1, e1, rv, c⟩
    refine ⟨m1, ρ, h1, r1, e1, (Ct.step (rel := rO (gx X ca)) fr r1 c).imp ?_⟩
    rintro u H2 ⟨m2, y, h2, ex, fr2, r2, rv2, c2⟩
    have rv' := ex.ro r1 rv
    split at c2
    · cases rO.int rv'; cases rO.int rv2
      split at c2
      · rename_i hz
        exact ⟨_, _, rfl, hz, c2 m2 H2 _ fr2 r2 sv_rng⟩
      · exact c2.elim
    · exact c2.elim
theorem si_en {elts : List Expr} {kk : Nat} {tpos : Pos} (hm : X.mg "enumerate" = none) (he : SE X ca W e d) (hg : Gl X "enumerate" := by rfl) (hs : starEach [e] X.env = [(false, eval e X.env)] := by rfl) : SI X ca W (.Tuple elts kk tpos) (.Call (.Name "enumerate" p) [e] [] pos) (diE d) :=
  pi_w (pi_enum hg hm (pa_cons he pa_nil hs) hs) fun σ H Q t => by
    refine TVv.imp (TVv.bind (rel := rO (gx X ca)) (rel' := rI' (gx X ca)) (f := fun ρ o h1 => match seqO h1 o with
  | some (.mu, xs) => .ok (enumF 0 xs, live o xs) h1
  | some (.fz, xs) => .ok (enumF 0 xs, live o xs) h1
  | _ => .bad) t) ?_
    rintro v H1 ⟨m0, m1, ρ, x, h1, fr, r1, e1, rv, c⟩
    have fin : ∀ (k : LK) (xs : List Val), k ≠ .tp → seqO h1 x = some (k, xs) → Ct (gx X ca) W (rI' (gx X ca)) m0 H (.ok (enumF 0 xs, live x xs) h1) σ Q → ∃ a ys, [v] = [.ref a] ∧ SqL X.K H1 a ys ∧ Q (Ite X.K a) H1 := fun k xs hk hs c => by
      obtain ⟨a, rfl, L⟩ := seq_live r1 rv hs
      have L' : Lives (gx X ca) m1 H1 a xs (live x xs) k := L
      obtain ⟨a', vs, e1, la, ra⟩ := seqO_ok r1 rv hs
      cases e1
      exact ⟨a, vs, rfl, la.sql hk, c m1 H1 _ fr r1 (sv_enum hk L')⟩
    split at c
    · rename_i xs hx
      exact fin .mu xs (by intro z; cases z) hx c
    · rename_i xs hx
      exact fin .fz xs (by intro z; cases z) hx c
    · exact c.elim
theorem si_z {elts : List Expr} {kk : Nat} {tpos : Pos} (hm : X.mg "zip" = none) (ha : SE X ca W e da) (hb : SE X ca W e2 db) (hg : Gl X "zip" := by rfl) (hs : starEach [e, e2] X.env = (false, eval e X.env) :: starEach [e2] X.env := by rfl) (hs2 : starEach [e2] X.env = (false, eval e2 X.env) :: starEach [] X.env := by rfl) (hpl : (backTo pos (starEach [e2] X.env)).any (·.1) = false := by rfl) :
    SI X ca W (.Tuple elts kk tpos) (.Call (.Name "zip" p) [e, e2] [] pos) (diZ da db) :=
  pi_w (RZ.pi_zipA hg hm (pa_cons ha (pa_cons hb pa_nil hs2) hs) hs hpl) fun σ H Q t => by
    refine TVv.imp (TVv.bind (rel := rO (gx X ca)) (rel' := rI' (gx X ca)) (f := fun ρ o h1 => (db ρ h1).bind fun o2 h2 => match seqO h2 o, seqO h2 o2 with
  | some (k, xs), some (k2, ys) => if isTp k = isTp k2 then .ok (zipF xs ys, fun h => live o xs h && live o2 ys h) h2 else .bad
  | _, _ => .bad) t) ?_
    rintro v H1 ⟨m0, m1, ρ, x, h1, fr, r1, e1, rv, c⟩
    refine ⟨m1, ρ, h1, r1, e1, (Ct.step (rel := rO (gx X ca)) fr r1 c).imp ?_⟩
    rintro u H2 ⟨m2, y, h2, ex, fr2, r2, rv2, c2⟩
    have rv' := ex.ro r1 rv
    split at c2
    · rename_i k xs k2 ys hs1 hs2
      split at c2
      · rename_i hk
        obtain ⟨a, rfl, L⟩ := seq_live r2 rv' hs1
        obtain ⟨b, rfl, Lb⟩ := seq_live r2 rv2 hs2
        have L' : Lives (gx X ca) m2 H2 a xs (live x xs) k := L
        have L2' : Lives (gx X ca) m2 H2 b ys (live y ys) k2 := Lb
        obtain ⟨a', vs, e1, la, ra⟩ := seqO_ok r2 rv' hs1
        obtain ⟨b', us, e2, lb, rb⟩ := seqO_ok r2 rv2 hs2
        cases e1; cases e2
        refine ⟨a, b, vs, us, rfl, ?_⟩
        cases k with
        | tp =>
          cases k2 with
          | tp => exact .inr ⟨SqT.of la, SqT.of lb, c2 m2 H2 _ fr2 r2 (sv_zipT L' L2')⟩
          | mu => cases hk
          | fz => cases hk
        | mu =>
          cases k2 with
          | tp => cases hk
          | mu => exact .inl ⟨la.sql (by intro z; cases z), lb.sql (by intro z; cases z), c2 m2 H2 _ fr2 r2 (sv_zip (by intro z; cases z) (by intro z; cases z) L' L2')⟩
          | fz => exact .inl ⟨la.sql (by intro z; cases z), lb.sql (by intro z; cases z), c2 m2 H2 _ fr2 r2 (sv_zip (by intro z; cases z) (by intro z; cases z) L' L2')⟩
        | fz =>
          cases k2 with
          | tp => cases hk
          | mu => exact .inl ⟨la.sql (by intro z; cases z), lb.sql (by intro z; cases z), c2 m2 H2 _ fr2 r2 (sv_zip (by intro z; cases z) (by intro z; cases z) L' L2')⟩
          | fz => exact .inl ⟨la.sql (by intro z; cases z), lb.sql (by intro z; cases z), c2 m2 H2 _ fr2 r2 (sv_zip (by intro z; cases z) (by intro z; cases z) L' L2')⟩
      · exact c2.elim
    · exact c2.elim

/-! ### comprehensions -/
theorem se_comp {elt tg iter : Expr} {ifs : List Expr} {scope : Scope} {own : List (Str × Nat)} {di : DI} {nt : NT} {tst : DB} {de : D} (hc : X.calm = true) (hN : X.N.Nodup) (ok : BlkOk X.N X.env.scope scope own) (hsl : ∀ i ∈ nt.slots, i ∈ own.map (·.2)) (hi : SI X ca W tg iter di)
    (hg : InBlk X scope fun Y => SN Y tg nt) (ht : InBlk X scope fun Y => STs Y ca W0 ifs tst) (he : InBlk X scope fun Y => SE Y ca W0 elt de) (hs : ∀ x, foldedSetIterable iter X.env x = pure x := by intro _; rfl) :
    SE X ca W (.ListComp elt [⟨tg, iter, ifs, 0⟩] scope pos) (dComp (own.map (·.2)) di nt tst de) :=
  pe_w (pe_lc (tt := TTv (gx X ca) W0 tst) (te := TEv (gx X ca) W0 de) hc hN hi ok hg ht he hs) fun σ H Q t => tv_comp hsl t
/-- name = [..] on one line -/
theorem ss_setComp (i : Nat) {y : Str} {py : Pos} {elt tg iter : Expr} {ifs : List Expr} {scope : Scope} {own : List (Str × Nat)} {spos : Pos} {di : DI} {nt : NT} {tst : DB} {de : D} (hc : X.calm = true) (hN : X.N.Nodup) (ok : BlkOk X.N X.env.scope scope own) (hsl : ∀ i ∈ nt.slots, i ∈ own.map (·.2)) (hi : SI X ca W tg iter di)
    (hg : InBlk X scope fun Y => SN Y tg nt) (ht : InBlk X scope fun Y => STs Y ca W0 ifs tst) (he : InBlk X scope fun Y => SE Y ca W0 elt de)
    (hsw : swapsWith (.ListComp elt [⟨tg, iter, ifs, 0⟩] scope pos) (some (.Name y py)) spos.line X.env = pure true) (hy : X.N[i]? = some y := by rfl) (hyl : X.env.scope.names.lookup y = some .local := by rfl) (hs : ∀ x, foldedSetIterable iter X.env x = pure x := by intro _; rfl) :
    SS X ca W (.Assign [.Name y py] (.ListComp elt [⟨tg, iter, ifs, 0⟩] scope pos) spos) (sSet i (dComp (own.map (·.2)) di nt tst de)) :=
  ps_w (ps_setLc (tt := TTv (gx X ca) W0 tst) (te := TEv (gx X ca) W0 de) hc hN hy hyl hsw hi ok hg ht he hs) fun D σ H t => by
    refine tv_comp (W := W) hsl ?_
    refine TVv.imp (TSv.out (rel := rO (gx X ca)) (k := fun ρ o h1 => .nx (ρ.set i (some (num o h1).1)) (num o h1).2) t) ?_
    rintro v H1 ⟨m0, m1, ρ, x, h1, fr, r1, e1, rv, c⟩
    obtain ⟨m2, le, fr2, r2, rv2⟩ := num_ok fr r1 rv
    exact c m2 _ H1 fr2 r2 ((e1.le le).set rv2 i)
end
end Mi

/-! Mini: own defs, their calls, the law's end. -/
namespace Mi
open PySem L2

abbrev DF := List Val → MH → R Val
/-- a def's run over its slots -/
def runB (n : Nat) (body : SD) : DF := fun xs h => match body (xs.map some ++ List.replicate (n - xs.length) none) h with
  | .nx _ h' => .ok .non h'
  | .rt x h' => .ok x h'
  | .ex c _ h' => .ex c h'
  | _ => .bad
def CtF (g : G) (m0 : Mu) (Hs : Hp) (r : R Val) (Q : VK) (E : XK) : Prop := match r with
  | .ok x h' => ∀ m' H' v, Ext m0 m' Hs H' → RepH g m' H' h' → RV g.K H' m' v x → Q v H'
  | .ex c h' => ∀ m' H', Ext m0 m' Hs H' → RepH g m' H' h' → E (.ref (g.ca c)) none H'
  | .bad => False
/-- the promise: it does what fn does -/
def spE (g : G) (n : Nat) (fn : DF) : Sp := fun vs H Q E => ∃ m h xs, RepH g m H h ∧ RVs g.K H m vs xs ∧ xs.length = n ∧ CtF g m H (fn xs h) Q E
/-- a def that keeps its promise wherever nothing is being shown -/
structure FnG (P : Program) (w : World) (K : PySem.W.Frag) (mg : Str → Option Value) (base : Heap) (k : Nat) (f : Addr) (fd : FuncData) (ps : List Str) (sp : Sp) : Prop where
  len : ∀ vs H Q E, sp vs H Q E → vs.length = ps.length
  run : ∀ (A : Around) (outer : List PySem.Env) (s : Shared) (H : Hp) (args : Args) (us : List Value) (vs : List V) (Q : VK) (E : XK), A.guards = some [] → Room k A →
    Env0 P w K mg base A outer s H → BindsTo s fd args (ps.zip us) → Vals vs us → sp vs H Q E → codeAny (model P w) A (.call (.ref f) args) (CR (L2.CX P w) outer P w H s Q E) s
section
variable {P : Program} {w : World} {K : PySem.W.Frag} {mg : Str → Option Value} {base : Heap}
theorem start_env {g : G} {H : Hp} {m : Mu} {vs : List V} {xs : List Val} (N : List Str) (r : RVs g.K H m vs xs) : REnv g.K H m (L2.start N vs) (xs.map some ++ List.replicate (N.length - xs.length) none) := by
  refine ⟨by simp [L2.start, r.length], fun i x e => ?_⟩
  unfold L2.start
  by_cases hi : i < xs.length
  · rw [List.getElem?_append_left (by simpa using hi), List.getElem?_map] at e
    cases hx : xs[i]? with
    | none => rw [hx] at e; cases e
    | some y =>
      rw [hx] at e
      simp at e; subst e
      obtain ⟨v, h1, h2⟩ := r.get hx
      refine ⟨v, ?_, h2⟩
      rw [List.getElem?_append_left (by simpa [r.length] using hi), List.getElem?_map, h1]
      rfl
  · rw [List.getElem?_append_right (by simpa using hi), List.getElem?_replicate] at e
    split at e <;> cases e
abbrev WE1 (E : XK) : WX := fun c d _ H => E c d H
/-- THE RULE of a def -/
theorem fnG_of {x qual : Str} {st : Stmt} {f : Addr} {fd : FuncData} {N ps : List Str} {k : Nat} {ca : Nat → Addr} {sd : SD} (F : Fun K x qual st f fd) (S : FnScope N ps (defScope st))
    (body : ∀ (cdv : Value) (A : Around) (outer : List PySem.Env) (s : Shared) (H : Hp) (E : XK), (A.deeper (PyProof.Rows.envOfC qual (defScope st) s.heap.objs.size f cdv)).guards = some [] → Room k (A.deeper (PyProof.Rows.envOfC qual (defScope st) s.heap.objs.size f cdv)) →
      SSs (cxOf (L2.CX P w) P w K mg base N qual (defScope st) f cdv A outer s H E) ca (WE1 E) (defBody st) sd) :
    FnG P w K mg base (k + 1) f fd ps (spE ⟨K, ca⟩ ps.length (runB N.length sd)) := by
  have len : ∀ vs H Q E, spE ⟨K, ca⟩ ps.length (runB N.length sd) vs H Q E → vs.length = ps.length := fun vs H Q E ⟨m, h, xs, r, rv, l, c⟩ => by rw [rv.length, l]
  obtain ⟨oc, od, kV, doc, pm, an, cdv, ct, osl, rfl, lk, hcd⟩ := F.ex
  refine ⟨len, fun A outer s H args us vs Q E hg hr e0 hb rvals hsp => ?_⟩
  have vlen := len _ _ _ _ hsp
  have inK : K.In s.heap := e0.mod.kin.keeps fun b o q => (e0.bs b o q).1
  have noLim : s.heap.NoLimit := e0.mod.nolimit.keeps fun b o q => (e0.bs b o q).1
  have kinds : ∀ y ∈ ps.zip us, (defScope st).names.lookup y.1 = some .local ∨ ((defScope st).names.lookup y.1 = some .cell ∧ ((cellsFrom (s.heap.objs.size + 1) (defScope st).names []).lookup y.1).isSome = true) := by
    rintro ⟨nm, v⟩ hy
    have hm : nm ∈ ps := (List.of_mem_zip hy).1
    exact (S.par nm hm).imp (fun q => q) fun q => ⟨q, PySem.W.cellsFrom_some _ _ _ (.inl q)⟩
  apply codeAny_call_function hr.depth (inK _ _ lk) rfl S.co S.gen rfl (PySem.W.codeRec_of inK hcd)
  apply hb
  apply wpAny_newFunctionEnv_cells S.kind kinds
  intro env henv s1 inc
  subst henv
  refine ⟨noLim.keeps inc.toInCall.keep, codeAny_func ?_⟩
  have I1 : Inv (cxOf (L2.CX P w) P w K mg base N qual (defScope st) f cdv A outer s H E) [] (L2.start N vs) H s1 := inv_start S hr.hd e0 vlen rvals inc
  obtain ⟨m, h, xs, rh, rv, lx, c⟩ := hsp
  have B := body cdv A outer s H E hg (hr.deeper _)
  have want : TSv ⟨K, ca⟩ (WE1 E) sd { nx := fun _ H' => Q .non H', rt := Q } (L2.start N vs) H := by
    refine ⟨m, _, h, rh, start_env N rv, ?_⟩
    have c : CtF ⟨K, ca⟩ m H (match sd (xs.map some ++ List.replicate (N.length - xs.length) none) h with
  | .nx _ h' => .ok .non h'
  | .rt x h' => .ok x h'
  | .ex c _ h' => .ex c h'
  | _ => .bad) Q E := c
    cases hq : sd (xs.map some ++ List.replicate (N.length - xs.length) none) h with
    | nx ρ h' => rw [hq] at c; exact fun m2 σ2 H2 e r2 _ => c m2 H2 _ e r2 .non
    | rt y h' => rw [hq] at c; exact fun m2 H2 v e r2 q => c m2 H2 v e r2 q
    | ex y ρ h' => rw [hq] at c; exact fun m2 σ2 H2 e r2 _ => c m2 H2 e r2
    | bk ρ h' => rw [hq] at c; exact c.elim
    | ct ρ h' => rw [hq] at c; exact c.elim
    | bad => rw [hq] at c; exact c.elim
  apply wpAny_mono (B.run [] s1 (L2.start N vs) H _ I1 want)
  · intro fl s' hs
    cases fl with
    | ret u =>
      obtain ⟨v, σ', H', J, rq, q⟩ := hs
      exact ⟨v, H', J.os, J.bare, J.base, J.hok, rq, q⟩
    | next =>
      obtain ⟨σ', H', J, q⟩ := hs
      exact ⟨V.non, H', J.os, J.bare, J.base, J.hok, rfl, q⟩
    | brk => obtain ⟨_, _, _, q⟩ := hs; exact q.elim
    | cont => obtain ⟨_, _, _, q⟩ := hs; exact q.elim
  · exact fun _ _ q => q
end

/-! ### calls -/
/-- a def of the module, as callers know it -/
def Cal (P : Program) (w : World) (K : PySem.W.Frag) (mg : Str → Option Value) (base : Heap) (ca : Nat → Addr) (k : Nat) (x : Str) (n : Nat) (fn : DF) : Prop :=
  ∃ (f : Addr) (fd : FuncData) (ps : List Str), FnG P w K mg base k f fd ps (spE ⟨K, ca⟩ n fn) ∧ mg x = some (.ref f) ∧ PySem.W.keepIn K (.ref f) = true ∧ Binds K fd ps []
theorem Cal.mono {P : Program} {w : World} {K : PySem.W.Frag} {mg : Str → Option Value} {base : Heap} {ca : Nat → Addr} {j k : Nat} {x : Str} {n : Nat} {fn : DF} (c : Cal P w K mg base ca j x n fn) (h : j ≤ k) : Cal P w K mg base ca k x n fn := by
  obtain ⟨f, fd, ps, F, a, b, d⟩ := c
  exact ⟨f, fd, ps, ⟨F.len, fun A outer s H args us vs Q E hg hr => F.run A outer s H args us vs Q E hg (hr.mono h)⟩, a, b, d⟩
def liftV (r : R Val) : R O := match r with
  | .ok x h => .ok (.v x) h
  | .ex c h => .ex c h
  | .bad => .bad
def dCall (n : Nat) (fn : DF) (ds : DV) : D := fun ρ h => (ds ρ h).bind fun xs h1 => if xs.length = n then liftV (fn xs h1) else .bad
section
variable {X : Cx} {ca : Nat → Addr} {W : WX} {x : Str} {p pos : Pos} {e : Expr} {es : List Expr} {ds : DV} {k n : Nat} {fn : DF}
theorem run_fnG {f : Addr} {fd : FuncData} {ps : List Str} {sp : Sp} {E : St → XK} {pins : List (Addr × Obj)} {σ : St} {H : Hp} {s : Shared} {Q : VK} {us : List Value} {vs : List V} (F : FnG X.prog X.w X.K X.mg X.base k f fd ps sp) (hg : X.A.guards = some []) (hr : Room k X.A) (hb : Binds X.K fd ps [])
    (hx : PassesAt (L2.CX X.prog X.w) X σ (E σ)) (I : Inv X pins σ H s) (r : Vals vs us) (h : sp vs H Q (E σ)) : wpAny (model X.prog X.w) X.A (call (.ref f) us) (EP X pins σ Q) X.xe s := by
  have l : us.length = ps.length := by rw [← r.length]; exact F.len _ _ _ _ h
  have bd := hb s us I.kIn (by simpa using l)
  simp only [List.append_nil] at bd
  apply wpAny_call
  apply codeAny_mono (F.run X.A X.stack s H ⟨us, []⟩ us vs Q (E σ) hg hr I.env0 bd r h)
  intro q s' hq
  match q, hq with
  | .error z, hq => exact hx pins H s z s' I hq
  | .ok (.ret u), hq => exact I.after hq
  | .ok .next, hq => exact hq.elim
  | .ok .brk, hq => exact hq.elim
  | .ok .cont, hq => exact hq.elim
/-- what is raised goes on to the wish W -/
def Pas (X : Cx) (W : WX) : Prop := ∀ σ, PassesAt (L2.CX X.prog X.w) X σ (WE W σ)
theorem ct_call {g : G} {m0 m : Mu} {σ : St} {Hs H : Hp} {h1 : MH} {Q : VK} {xs : List Val} {vs : List V} (fr : Ext m0 m Hs H) (r1 : RepH g m H h1) (rv : RVs g.K H m vs xs) (hn : xs.length = n) (c : Ct g W (rO g) m0 Hs (liftV (fn xs h1)) σ Q) : spE g n fn vs H Q (WE W σ) := by
  refine ⟨m, h1, xs, r1, rv, hn, ?_⟩
  cases hq : fn xs h1 with
  | ok y h' => rw [hq] at c; exact fun m2 H2 v e r2 q => c m2 H2 v (fr.tr r1 e) r2 q
  | ex y h' => rw [hq] at c; exact fun m2 H2 e r2 => c m2 H2 (fr.tr r1 e) r2
  | bad => rw [hq] at c; exact c.elim
/-- f(e, ..) -/
theorem se_call (C : Cal X.prog X.w X.K X.mg X.base ca k x n fn) (hg : X.A.guards = some []) (hr : Room k X.A) (tk : Pas X W) (ha : SV X ca W (e :: es) ds) (hl : (e :: es).length = n := by rfl) (gl : Gl X x := by rfl)
    (hdb : (x == ("__debug__" : Str)) = false := by decide +kernel) (he : starEach (e :: es) X.env = (false, eval e X.env) :: starEach es X.env := by rfl) (hpl : (backTo pos (starEach es X.env)).any (·.1) = false := by rfl) :
    SE X ca W (.Call (.Name x p) (e :: es) [] pos) (dCall n fn ds) := by
  obtain ⟨f, fd, ps, F, hm, hk, hb⟩ := C
  refine pe_w (t := tCallS (spE (gx X ca) n fn) (WE W) (TVv (gx X ca) W (rL (gx X ca)) ds)) ⟨fun pins s σ H Q I h => ?_⟩ fun σ H Q t => ?_
  · apply wpAny_Call_Name_kw
    apply ld_glob I gl hm _ hdb
    apply PySem.W.callWith_K (h₀ := X.base) I.ok.mod.kin hk _ he hpl
    apply thn (ha.run pos pins s σ H _ I h)
    rintro us s1 ⟨vs, H1, I1, r, q⟩
    exact ⟨I1.kIn, run_fnG F hg hr hb (tk σ) I1 r q⟩
  · obtain ⟨m, ρ, h, rh, re, c⟩ := t
    refine ⟨m, ρ, h, rh, re, ?_⟩
    have c : Ct (gx X ca) W (rO (gx X ca)) m H ((ds ρ h).bind fun xs h1 => if xs.length = n then liftV (fn xs h1) else .bad) σ Q := c
    cases hq : ds ρ h with
    | bad => rw [hq] at c; exact c.elim
    | ex a b => rw [hq] at c; exact c
    | ok xs h1 =>
      rw [hq] at c
      have c : Ct (gx X ca) W (rO (gx X ca)) m H (if xs.length = n then liftV (fn xs h1) else .bad) σ Q := c
      split at c
      · rename_i hn
        exact fun m1 H1 vs x1 r1 rv => ct_call x1 r1 rv hn c
      · exact c.elim
/-- f() -/
theorem se_call0 (C : Cal X.prog X.w X.K X.mg X.base ca k x 0 fn) (hg : X.A.guards = some []) (hr : Room k X.A) (tk : Pas X W) (gl : Gl X x := by rfl) (hdb : (x == ("__debug__" : Str)) = false := by decide +kernel) :
    SE X ca W (.Call (.Name x p) [] [] pos) (dCall 0 fn vNil) := by
  obtain ⟨f, fd, ps, F, hm, hk, hb⟩ := C
  refine pe_w (t := fun σ H Q => spE (gx X ca) 0 fn [] H Q (WE W σ)) ⟨fun pins s σ H Q I h => ?_⟩ fun σ H Q t => ?_
  · apply wpAny_Call_Name_kw
    apply ld_glob I gl hm _ hdb
    exact PySem.W.callWith_K0 I.kIn hk (run_fnG (us := []) F hg hr hb (tk σ) I .nil h)
  · obtain ⟨m, ρ, h, rh, re, c⟩ := t
    have c : Ct (gx X ca) W (rO (gx X ca)) m H (liftV (fn [] h)) σ Q := c
    exact ct_call Ext.refl rh .nil rfl c
end
end Mi

/-! Mini: the law's end. -/
namespace Mi
open PySem L2
open PyProof.Rows (IntsAre AllBare)

theorem rep_nil {g : G} {H : Hp} : RepH g (fun _ => none) H [] where
  dom := fun _ _ e => nomatch e
  inj := fun _ _ _ e => nomatch e
  at_ := fun n o e => by simp at e
theorem rvs_ints {K : PySem.W.Frag} {H : Hp} {m : Mu} : ∀ ns : List Int, RVs K H m (ns.map V.int) (ns.map Val.int)
  | [] => .nil
  | n :: ns => .cons (.int n) (rvs_ints ns)
theorem lawG {P : Program} {w : World} {K : PySem.W.Frag} {mg mb : Str → Option Value} {k : Nat} {fa a : Addr} {fd : FuncData} {x : Str} {ca : Nat → Addr} {fn : DF} {s1 : Shared} {vs : List Value} {ns : List Int}
    (KX : K.In s1.heap) (hns : s1.heap.Ns mainGlobals mg) (hb : s1.heap.Ns builtinsNs mb) (hbb : ∀ x : Str, x ≠ "__name__" → mb x = bootBuiltins x) (hlim : s1.heap.NoLimit) (hgen : s1.gens = #[])
    (ha : s1.heap.get? a = some { cls := .type "list", data := .seq vs.toArray }) (hi : IntsAre vs ns) (hl : ns.length ≤ sizeLine) (hr : Room k callerA)
    (F : ∀ base : Heap, K.In base → base.Ns mainGlobals mg → FnG P w K mg base k fa fd [x] (spE ⟨K, ca⟩ 1 fn)) (hbind : ∀ (s : Shared) (u : Value), BindsTo s fd ⟨[u], []⟩ [(x, u)])
    (hfn : ∃ h', fn [.fl (ns.map Val.int)] [] = .ok (.bl true) h') :
    codeAny (model P w) callerA (.call (.ref fa) ⟨[.ref a], []⟩) (fun r s' => r = .ok (.ret (.bool true)) ∧ OldK s1.heap s'.heap ∧ s'.os = s1.os ∧ AllBare s'.gens) s1 := by
  have rv := vals_ints hi
  have lenV := hi.length
  have main : ∀ H : Hp, (∀ b u, H b = some u → b = a ∧ ∃ o xs, u = .frz o (.lst xs)) → FzL K H a (ns.map V.int) → HOk P w H s1.heap → (H a ≠ none → K.lookup a = none) →
      codeAny (model P w) callerA (.call (.ref fa) ⟨[.ref a], []⟩) (fun r s' => r = .ok (.ret (.bool true)) ∧ OldK s1.heap s'.heap ∧ s'.os = s1.os ∧ AllBare s'.gens) s1 := by
    intro H only hS hok hK
    -- what stays visible beside the script
    have vis : ∀ {b : Addr} {o : Obj}, s1.heap.get? b = some o → H b = none → (hidT s1.heap H).get? b = some o := fun e n => hidT_get e n
    have isD : ∀ {b : Addr} {o : Obj} {es : Array DictEntry} {ep : Nat}, s1.heap.get? b = some o → o.data = .dict es ep → H b = none := by
      intro b o es ep e d
      cases q : H b with
      | none => rfl
      | some u =>
        obtain ⟨rfl, _⟩ := only b u q
        rw [ha] at e; cases e
        simp at d
    have nsT : ∀ {b : Addr} {m : Str → Option Value}, s1.heap.Ns b m → (hidT s1.heap H).Ns b m := fun {b m} ⟨o, es, ep, e, d, z⟩ => ⟨o, es, ep, vis e (isD e d), d, z⟩
    have kT : K.In (hidT s1.heap H) := by
      intro b o e
      refine vis (KX b o e) ?_
      cases q : H b with
      | none => rfl
      | some u =>
        obtain ⟨rfl, _⟩ := only b u q
        have := hK (by rw [q]; simp)
        rw [this] at e; cases e
    have md : Mod K mg (hidT s1.heap H) := ⟨kT, nsT hns, ⟨mb, nsT hb, hbb⟩, hlim.elim fun mc z => ⟨mc, nsT z.1, z.2⟩⟩
    have e0 : Env0 P w K mg (hidT s1.heap H) callerA [] s1 H :=
      ⟨rfl, md, fun b o e => of_hidT e, Nat.le_of_eq (hidT_size _ _), trivial, (fun b hb => nomatch hb), hok, AllBare.of_eq hgen⟩
    have promise : spE ⟨K, ca⟩ 1 fn [.ref a] H (fun v _ => v = .bl true) (fun _ _ _ => False) := by
      obtain ⟨h', e⟩ := hfn
      refine ⟨fun _ => none, [], _, rep_nil, .cons (.fl hS (rvs_ints ns)) .nil, rfl, ?_⟩
      rw [e]
      intro m' H' v x1 r1 q
      cases q; rfl
    apply codeAny_mono ((F _ kT (nsT hns)).run callerA [] s1 H ⟨[.ref a], []⟩ [.ref a] [.ref a] _ _ rfl hr e0 (hbind s1 (.ref a)) (.cons rfl .nil) promise)
    intro r s' h
    match r, h with
    | .error e, h =>
      have h : L2.CX P w [] H s1 (fun _ _ _ => False) e s' := h
      obtain ⟨_, _, _, _, _, _, _, _, _, _, _, _, z⟩ := h
      exact z.elim
    | .ok .next, h => exact h.elim
    | .ok .brk, h => exact h.elim
    | .ok .cont, h => exact h.elim
    | .ok (.ret u), h =>
      obtain ⟨v, H', os, bare, un, hok', ru, q⟩ := h
      have q : v = .bl true := q
      subst q
      obtain rfl : u = Value.bool true := ru
      refine ⟨rfl, OldK.of_keep fun b o e => ?_, os, bare⟩
      cases q : H b with
      | none => exact un.keep b o e q (fun z => nomatch z) (fun z => nomatch z)
      | some u =>
        obtain ⟨rfl, ob, xs, rfl⟩ := only b u q
        obtain ⟨e1, _⟩ := hok b _ q
        obtain ⟨e2, _⟩ := hok' b _ (un.frzs b ob _ q)
        rw [e] at e1; cases e1
        exact e2
  cases hk : K.lookup a with
  | some o =>
    have e := KX a o hk
    rw [ha] at e; cases e
    exact main (fun _ => none) (fun b u z => nomatch z) (.inr ⟨_, vs.toArray, _, hk, rfl, rfl, rfl, by simpa [lenV] using hl, by simpa using rv⟩) (fun b u z => nomatch z) (fun z => absurd rfl z)
  | none =>
    have at_a : (fun b => if b = a then some (HO.frz { cls := .type "list", data := .seq vs.toArray } (.lst (ns.map V.int))) else none) a = some (HO.frz { cls := .type "list", data := .seq vs.toArray } (.lst (ns.map V.int))) := if_pos rfl
    refine main (fun b => if b = a then some (.frz { cls := .type "list", data := .seq vs.toArray } (.lst (ns.map V.int))) else none) (fun b u z => ?_) (.inl ⟨_, at_a⟩) (fun b u z => ?_) (fun _ => hk)
    · by_cases hb : b = a
      · simp only [if_pos hb] at z; cases z; exact ⟨hb, _, _, rfl⟩
      · simp only [if_neg hb] at z; cases z
    · by_cases hb : b = a
      · simp only [if_pos hb] at z; cases z
        subst hb
        exact ⟨ha, by rw [List.length_map]; exact hl, vs, _, rv, ha⟩
      · simp only [if_neg hb] at z; cases z
/-- the walk's end -/
theorem walkG {l : PySem.W.OpenLaw} {n k : Nat} {q : Program} {loose : List Str} {XP : (Str → Option Value) → Heap → Prop} {YP : World → Heap → Prop} {d : DefRec} {K : Params → PySem.W.Frag} {x : Str} {fn : DF}
    (hn : l.most = some n) (hn2 : n ≤ sizeLine) (hdf : d.params.defaults = []) (hr : Room k callerA)
    (hY : ∀ (w : World) (h : Heap), YP w h → (K w.params).In h)
    (F : ∀ (w : World) (mg : Str → Option Value) (fa : Addr) (h : Heap), (K w.params).In h → h.Ns mainGlobals mg → mg d.name = some (.ref fa) →
      ∃ (fd : FuncData) (ca : Nat → Addr), (∀ (s : Shared) (u : Value), BindsTo s fd ⟨[u], []⟩ [(x, u)]) ∧
        ∀ base : Heap, (K w.params).In base → base.Ns mainGlobals mg → FnG l.prog w (K w.params) mg base k fa fd [x] (spE ⟨K w.params, ca⟩ 1 fn))
    (hfn : ∀ ns : List Int, ns.length ≤ n → ∃ h', fn [.fl (ns.map Val.int)] [] = .ok (.bl true) h') :
    PySem.W.WalkO q loose XP YP l.row.toRowW d [] (fun f vs => PySem.call f vs) := by
  apply Att.attach_call hn hdf
  intro w s0 s1 mg mb fa o pm cd doc a vs ns G Y ho hd hcd hmg hobj hints hlen hg
  have KX := hY w _ Y
  obtain ⟨fd, ca, hb, hF⟩ := F w mg fa _ KX G.T.g hmg
  exact lawG KX G.T.g G.T.b G.T.builtins G.T.nolimit hg hobj hints (Nat.le_trans hlen hn2) hr hF hb (hfn ns hlen)
end Mi

/-! Mini: built-in functions. -/
namespace Mi
open PySem L2

def COk (g : G) (W : WX) (f : List O → MH → R O) (r : List V → Hp → VK → Prop) : Prop :=
  ∀ (m0 m : Mu) (σ : St) (Hs H0 H : Hp) (h : MH) (vs : List V) (os : List O) (Q : VK), Ext m0 m Hs H → RepH g m H h → rOs g H0 H m vs os → Ct g W (rO g) m0 Hs (f os h) σ Q → r vs H Q
def dB (f : List O → MH → R O) (ds : DA) : D := fun ρ h => (ds ρ h).bind f
theorem rOs.one {g : G} {H0 H : Hp} {m : Mu} {vs : List V} {o : O} (q : rOs g H0 H m vs [o]) : ∃ v, vs = [v] ∧ rO g H0 H m v o := by
  cases q with
  | cons a b => cases b; exact ⟨_, rfl, a⟩
theorem rOs.two {g : G} {H0 H : Hp} {m : Mu} {vs : List V} {o o2 : O} (q : rOs g H0 H m vs [o, o2]) : ∃ v u, vs = [v, u] ∧ rO g H0 H m v o ∧ rO g H0 H m u o2 := by
  cases q with
  | cons a b =>
    obtain ⟨u, rfl, c⟩ := rOs.one b
    exact ⟨_, u, rfl, a, c⟩
section
variable {X : Cx} {ca : Nat → Addr} {W : WX} {x : Str} {p pos : Pos} {e : Expr} {es : List Expr} {ds : DA} {f : List O → MH → R O} {r : List V → Hp → VK → Prop} {id T : String}
theorem tv_B {g : G} (ho : COk g W f r) {σ : St} {H : Hp} {Q : VK} (t : TEv g W (dB f ds) σ H Q) : tCB r (TAv g W ds) σ H Q := by
  refine TVv.imp (TVv.bind (rel := rOs g) (f := fun _ => f) t) ?_
  rintro v H1 ⟨m0, m1, ρ, x, h1, fr, r1, e1, rv, c⟩
  exact ho m0 m1 σ H H H1 h1 v x Q fr r1 rv c
/-- a built-in function called by its name -/
theorem se_bi (hc : CallR X (.builtin id) r) (ho : COk (gx X ca) W f r) (hm : X.mg x = none) (ha : SA X ca W (e :: es) ds) (hv : bootBuiltins x = some (.builtin id) := by decide +kernel) (hg : Gl X x := by rfl) (hn : x ≠ "__name__" := by decide +kernel) (hdb : (x == ("__debug__" : Str)) = false := by decide +kernel)
    (he : starEach (e :: es) X.env = (false, eval e X.env) :: starEach es X.env := by rfl) (hpl : (backTo pos (starEach es X.env)).any (·.1) = false := by rfl) : SE X ca W (.Call (.Name x p) (e :: es) [] pos) (dB f ds) :=
  pe_w (pe_callB hc hg hm hv ha hn hdb he hpl) fun σ H Q t => tv_B ho t
theorem se_ty (hc : CallR X (.type T) r) (ho : COk (gx X ca) W f r) (hm : X.mg x = none) (ha : SA X ca W (e :: es) ds) (hv : bootBuiltins x = some (.type T) := by decide +kernel) (hg : Gl X x := by rfl) (hn : x ≠ "__name__" := by decide +kernel) (hdb : (x == ("__debug__" : Str)) = false := by decide +kernel)
    (he : starEach (e :: es) X.env = (false, eval e X.env) :: starEach es X.env := by rfl) (hpl : (backTo pos (starEach es X.env)).any (·.1) = false := by rfl) : SE X ca W (.Call (.Name x p) (e :: es) [] pos) (dB f ds) :=
  pe_w (pe_callTy hc hg hm hv ha hn hdb he hpl) fun σ H Q t => tv_B ho t
end
/-! ### len -/
def bLen (os : List O) (h : MH) : R O := match os with
  | [.v (.str s)] => if s.length ≤ 16777216 then .ok (.v (.int s.length)) h else .bad
  | [o] => match seqO h o with
    | some (_, xs) => .ok (.v (.int xs.length)) h
    | none => match o with
      | .v (.ref n) => match h[n]? with
        | some (.dK kvs) => .ok (.v (.int kvs.length)) h
        | some (.dT kvs) => .ok (.v (.int kvs.length)) h
        | _ => .bad
      | _ => .bad
  | _ => .bad
abbrev rLenAll (K : PySem.W.Frag) : List V → Hp → VK → Prop := fun xs H Q => (∃ x n, xs = [x] ∧ LenV K x H n ∧ Q (.int n) H) ∨ (∃ a kvs, xs = [V.ref a] ∧ H a = some (.dK kvs) ∧ Q (.int kvs.length) H) ∨ rLenT xs H Q
theorem cr_len {X : Cx} : CallR X (.builtin "len") (rLenAll X.K) := CallR.or call_len (CallR.or call_lenD call_len_dT)
theorem bLen_ok {g : G} {W : WX} : COk g W bLen (rLenAll g.K) := by
  intro m0 m σ Hs H0 H h vs os Q fr r rs c
  unfold bLen at c
  split at c
  · obtain ⟨v, rfl, q⟩ := rs.one
    cases rO.str q
    split at c
    · rename_i hz
      exact .inl ⟨_, _, rfl, ⟨by rw [sOf_length, sl_eq]; exact hz, (sOf_length _).symm⟩, Ct.val c fr r (.int _)⟩
    · exact c.elim
  · obtain ⟨v, rfl, q⟩ := rs.one
    split at c
    · rename_i k xs ex
      obtain ⟨a, vs, rfl, la, ra⟩ := seqO_ok r q ex
      refine .inl ⟨_, xs.length, rfl, ?_, Ct.val c fr r (.int _)⟩
      rcases la.sq with s | s
      · exact .inl ⟨vs, s, ra.length.symm⟩
      · exact .inr ⟨vs, s, ra.length.symm⟩
    · split at c
      · cases q with
        | ref hm =>
          split at c
          · rename_i kvs hk
            obtain ⟨b, e1, ks, e2, e3⟩ := r.at_ _ _ hk
            rw [hm] at e1; cases e1
            have hl : ks.length = kvs.length := by
              clear hk c e2
              induction e3 with
              | nil => rfl
              | cons _ _ _ ih => simp [ih]
            exact .inr (.inl ⟨_, ks, rfl, e2, by rw [hl]; exact Ct.val c fr r (.int _)⟩)
          · rename_i kvs hk
            obtain ⟨b, e1, ks, e2, e3⟩ := r.at_ _ _ hk
            rw [hm] at e1; cases e1
            have hl : ks.length = kvs.length := by
              clear hk c e2
              induction e3 with
              | nil => rfl
              | cons _ _ _ ih => simp [ih]
            exact .inr (.inr ⟨_, ks, rfl, e2, by rw [hl]; exact Ct.val c fr r (.int _)⟩)
          · exact c.elim
      · exact c.elim
  · exact c.elim
/-! ### numbers -/
def bAbs (os : List O) (h : MH) : R O := match os with
  | [.v (.int i)] => .ok (.v (.int (if i < 0 then -i else i))) h
  | _ => .bad
theorem bAbs_ok {g : G} {W : WX} : COk g W bAbs (fun xs H Q => ∃ i, xs = [.int i] ∧ Q (.int (if i < 0 then -i else i)) H) := by
  intro m0 m σ Hs H0 H h vs os Q fr r rs c
  unfold bAbs at c
  split at c
  · obtain ⟨v, rfl, q⟩ := rs.one
    cases rO.int q
    exact ⟨_, rfl, Ct.val c fr r (.int _)⟩
  · exact c.elim
def bInt (os : List O) (h : MH) : R O := match os with
  | [.v (.int i)] => .ok (.v (.int i)) h
  | [.v (.bl b)] => .ok (.v (.int (if b then 1 else 0))) h
  | _ => .bad
theorem bInt_ok {g : G} {W : WX} : COk g W bInt (fun xs H Q => (∃ i, xs = [.int i] ∧ Q (.int i) H) ∨ ∃ k, xs = [.bl k] ∧ Q (.int (if k then 1 else 0)) H) := by
  intro m0 m σ Hs H0 H h vs os Q fr r rs c
  unfold bInt at c
  split at c
  · obtain ⟨v, rfl, q⟩ := rs.one
    cases rO.int q
    exact .inl ⟨_, rfl, Ct.val c fr r (.int _)⟩
  · obtain ⟨v, rfl, q⟩ := rs.one
    cases rO.bl q
    exact .inr ⟨_, rfl, Ct.val c fr r (.int _)⟩
  · exact c.elim
def bMax (os : List O) (h : MH) : R O := match os with
  | [.v (.int i), .v (.int j)] => .ok (.v (.int (if j > i then j else i))) h
  | _ => .bad
theorem bMax_ok {g : G} {W : WX} : COk g W bMax (fun xs H Q => ∃ i j, xs = [.int i, .int j] ∧ Q (.int (if j > i then j else i)) H) := by
  intro m0 m σ Hs H0 H h vs os Q fr r rs c
  unfold bMax at c
  split at c
  · obtain ⟨v, u, rfl, q, q2⟩ := rs.two
    cases rO.int q; cases rO.int q2
    exact ⟨_, _, rfl, Ct.val c fr r (.int _)⟩
  · exact c.elim
def bMin (os : List O) (h : MH) : R O := match os with
  | [.v (.int i), .v (.int j)] => .ok (.v (.int (if j < i then j else i))) h
  | _ => .bad
theorem bMin_ok {g : G} {W : WX} : COk g W bMin (fun xs H Q => ∃ i j, xs = [.int i, .int j] ∧ Q (.int (if j < i then j else i)) H) := by
  intro m0 m σ Hs H0 H h vs os Q fr r rs c
  unfold bMin at c
  split at c
  · obtain ⟨v, u, rfl, q, q2⟩ := rs.two
    cases rO.int q; cases rO.int q2
    exact ⟨_, _, rfl, Ct.val c fr r (.int _)⟩
  · exact c.elim
def bDivmod (os : List O) (h : MH) : R O := match os with
  | [.v (.int i), .v (.int j)] => if 0 < j ∧ j < 18446744073709551616 then .ok (.v (.tup [.int (i / j), .int (i % j)])) h else .bad
  | _ => .bad
theorem bDivmod_ok {g : G} {W : WX} : COk g W bDivmod (fun xs H Q => ∃ i j, xs = [.int i, .int j] ∧ CDivP i j ∧ ∀ p, H p = none → Q (.ref p) (upd H p (.tup [.int (i / j), .int (i % j)]))) := by
  intro m0 m σ Hs H0 H h vs os Q fr r rs c
  unfold bDivmod at c
  split at c
  · obtain ⟨v, u, rfl, q, q2⟩ := rs.two
    cases rO.int q; cases rO.int q2
    split at c
    · rename_i hz
      exact ⟨_, _, rfl, ⟨hz.1, PyProof.noPylong_of_log2 (log2_64 hz.1 hz.2)⟩, Ct.tup c fr r (.cons (.int _) (.cons (.int _) .nil))⟩
    · exact c.elim
  · exact c.elim
/-! ### lists -/
def bList (os : List O) (h : MH) : R O := match os with
  | [o] => match seqO h o with
    | some (_, xs) => .ok (.n xs) h
    | none => .bad
  | _ => .bad
theorem bList_ok {g : G} {W : WX} : COk g W bList (fun xs H Q => ∃ p ys, xs = [.ref p] ∧ (SqL g.K H p ys ∨ SqT g.K H p ys) ∧ ∀ l, H l = none → Q (.ref l) (upd H l (.lst ys))) := by
  intro m0 m σ Hs H0 H h vs os Q fr r rs c
  unfold bList at c
  split at c
  · obtain ⟨v, rfl, q⟩ := rs.one
    split at c
    · rename_i k xs ex
      obtain ⟨a, vs, rfl, la, ra⟩ := seqO_ok r q ex
      exact ⟨a, vs, rfl, la.sq, Ct.new c fr r ra⟩
    · exact c.elim
  · exact c.elim
def bTuple (os : List O) (h : MH) : R O := match os with
  | [o] => match seqO h o with
    | some (_, xs) => .ok (.v (.tup xs)) h
    | none => .bad
  | _ => .bad
theorem bTuple_ok {g : G} {W : WX} : COk g W bTuple (fun xs H Q => ∃ p ys, xs = [.ref p] ∧ ((SqL g.K H p ys ∧ ∀ l, H l = none → Q (.ref l) (upd H l (.tup ys))) ∨ (SqT g.K H p ys ∧ Q (.ref p) H))) := by
  intro m0 m σ Hs H0 H h vs os Q fr r rs c
  unfold bTuple at c
  split at c
  · obtain ⟨v, rfl, q⟩ := rs.one
    split at c
    · rename_i k xs ex
      obtain ⟨a, vs, rfl, la, ra⟩ := seqO_ok r q ex
      refine ⟨a, vs, rfl, ?_⟩
      cases k with
      | tp => exact .inr ⟨SqT.of la, Ct.val c fr r (.tup la ra)⟩
      | mu => exact .inl ⟨SqL.of la, Ct.tup c fr r ra⟩
      | fz => exact .inl ⟨FzL.sql la, Ct.tup c fr r ra⟩
    · exact c.elim
  · exact c.elim
/-- the list of truths, of numbers, of texts -/
def blsOf : List Val → Option (List Bool)
  | [] => some []
  | .bl b :: xs => match blsOf xs with
    | some bs => some (b :: bs)
    | none => none
  | _ => none
def intsOf : List Val → Option (List Int)
  | [] => some []
  | .int b :: xs => match intsOf xs with
    | some bs => some (b :: bs)
    | none => none
  | _ => none
def strsOf : List Val → Option (List (List Nat))
  | [] => some []
  | .str b :: xs => match strsOf xs with
    | some bs => some (b :: bs)
    | none => none
  | _ => none
theorem rvs_bls {K : PySem.W.Frag} {H : Hp} {m : Mu} : ∀ {vs : List V} {xs : List Val} {bs : List Bool}, RVs K H m vs xs → blsOf xs = some bs → vs = bs.map V.bl
  | _, _, _, .nil, e => by simp [blsOf] at e; subst e; rfl
  | _, x :: xs, _, .cons r t, e => by
    cases r with
    | bl b =>
      simp only [blsOf] at e
      split at e
      · rename_i bs' e1
        simp at e; subst e
        rw [rvs_bls t e1]; rfl
      · cases e
    | _ => simp [blsOf] at e
theorem rvs_intsOf {K : PySem.W.Frag} {H : Hp} {m : Mu} : ∀ {vs : List V} {xs : List Val} {bs : List Int}, RVs K H m vs xs → intsOf xs = some bs → vs = bs.map V.int
  | _, _, _, .nil, e => by simp [intsOf] at e; subst e; rfl
  | _, x :: xs, _, .cons r t, e => by
    cases r with
    | int b =>
      simp only [intsOf] at e
      split at e
      · rename_i bs' e1
        simp at e; subst e
        rw [rvs_intsOf t e1]; rfl
      · cases e
    | _ => simp [intsOf] at e
theorem rvs_strs {K : PySem.W.Frag} {H : Hp} {m : Mu} : ∀ {vs : List V} {xs : List Val} {bs : List (List Nat)}, RVs K H m vs xs → strsOf xs = some bs → vs = (bs.map sOf).map V.str ∧ ∀ s ∈ bs, ∀ c ∈ s, c < 1114112
  | _, _, _, .nil, e => by simp [strsOf] at e; subst e; exact ⟨rfl, by simp⟩
  | _, x :: xs, _, .cons r t, e => by
    cases r with
    | str b hb =>
      simp only [strsOf] at e
      split at e
      · rename_i bs' e1
        simp at e; subst e
        obtain ⟨a, d⟩ := rvs_strs t e1
        refine ⟨by rw [a]; rfl, fun s hs => ?_⟩
        rcases List.mem_cons.mp hs with rfl | hs
        · exact hb
        · exact d s hs
      · cases e
    | _ => simp [strsOf] at e
/-- a list (no tuple) -/
def lstO (h : MH) (o : O) : Option (List Val) := match seqO h o with
  | some (.mu, xs) => some xs
  | some (.fz, xs) => some xs
  | _ => none
theorem lstO_ok {g : G} {m : Mu} {H H0 : Hp} {h : MH} {v : V} {o : O} {xs : List Val} (r : RepH g m H h) (q : rO g H0 H m v o) (e : lstO h o = some xs) : ∃ a vs, v = .ref a ∧ SqL g.K H a vs ∧ RVs g.K H m vs xs := by
  unfold lstO at e
  split at e
  · rename_i ys hs
    simp at e; subst e
    obtain ⟨a, vs, rfl, la, ra⟩ := seqO_ok r q hs
    exact ⟨a, vs, rfl, la.sql (by intro z; cases z), ra⟩
  · rename_i ys hs
    simp at e; subst e
    obtain ⟨a, vs, rfl, la, ra⟩ := seqO_ok r q hs
    exact ⟨a, vs, rfl, la.sql (by intro z; cases z), ra⟩
  · cases e
def bAll (os : List O) (h : MH) : R O := match os with
  | [o] => match (lstO h o).bind blsOf with
    | some bs => .ok (.v (.bl (bs.all id))) h
    | none => .bad
  | _ => .bad
def bAny (os : List O) (h : MH) : R O := match os with
  | [o] => match (lstO h o).bind blsOf with
    | some bs => .ok (.v (.bl (bs.any id))) h
    | none => .bad
  | _ => .bad
def bSum (os : List O) (h : MH) : R O := match os with
  | [o] => match (lstO h o).bind intsOf with
    | some bs => .ok (.v (.int bs.sum)) h
    | none => .bad
  | _ => .bad
theorem bAll_ok {g : G} {W : WX} : COk g W bAll (rAll g.K) := by
  intro m0 m σ Hs H0 H h vs os Q fr r rs c
  unfold bAll at c
  split at c
  · obtain ⟨v, rfl, q⟩ := rs.one
    split at c
    · rename_i bs e
      obtain ⟨xs, e1, e2⟩ := Option.bind_eq_some_iff.mp e
      obtain ⟨a, vs, rfl, la, ra⟩ := lstO_ok r q e1
      exact ⟨a, bs, rfl, by rw [← rvs_bls ra e2]; exact la, Ct.val c fr r (.bl _)⟩
    · exact c.elim
  · exact c.elim
theorem bAny_ok {g : G} {W : WX} : COk g W bAny (rAny g.K) := by
  intro m0 m σ Hs H0 H h vs os Q fr r rs c
  unfold bAny at c
  split at c
  · obtain ⟨v, rfl, q⟩ := rs.one
    split at c
    · rename_i bs e
      obtain ⟨xs, e1, e2⟩ := Option.bind_eq_some_iff.mp e
      obtain ⟨a, vs, rfl, la, ra⟩ := lstO_ok r q e1
      exact ⟨a, bs, rfl, by rw [← rvs_bls ra e2]; exact la, Ct.val c fr r (.bl _)⟩
    · exact c.elim
  · exact c.elim
theorem bSum_ok {g : G} {W : WX} : COk g W bSum (rSum g.K) := by
  intro m0 m σ Hs H0 H h vs os Q fr r rs c
  unfold bSum at c
  split at c
  · obtain ⟨v, rfl, q⟩ := rs.one
    split at c
    · rename_i bs e
      obtain ⟨xs, e1, e2⟩ := Option.bind_eq_some_iff.mp e
      obtain ⟨a, vs, rfl, la, ra⟩ := lstO_ok r q e1
      exact ⟨a, bs, rfl, by rw [← rvs_intsOf ra e2]; exact la, Ct.val c fr r (.int _)⟩
    · exact c.elim
  · exact c.elim
/-! ### isinstance -/
inductive Ty where | int | bool | str | non | tup | lst | dct
deriving DecidableEq
def Ty.name : Ty → String
  | .int => "int" | .bool => "bool" | .str => "str" | .non => "NoneType" | .tup => "tuple" | .lst => "list" | .dct => "dict"
def Ty.sub : Ty → Ty → Bool
  | .bool, .int => true
  | a, b => decide (a = b)
theorem ty_kit (a b : Ty) : kitB a.name b.name = some (a.sub b) := by
  cases a <;> cases b <;> decide +kernel
def tyO (h : MH) : O → Option Ty
  | .n _ => some .lst
  | .v .non => some .non
  | .v (.bl _) => some .bool
  | .v (.int _) => some .int
  | .v (.str _) => some .str
  | .v (.tup _) => some .tup
  | .v (.fl _) => some .lst
  | .v (.ref n) => match h[n]? with
    | some (.lst _) => some .lst
    | some (.dK _) => some .dct
    | some (.dT _) => some .dct
    | _ => none
theorem tyO_ok {g : G} {m : Mu} {H H0 : Hp} {h : MH} {v : V} {o : O} {t : Ty} (r : RepH g m H h) (q : rO g H0 H m v o) (e : tyO h o = some t) : TyX g.K H v (.type t.name) := by
  cases o with
  | n xs =>
    simp [tyO] at e; subst e
    obtain ⟨a, vs, rfl, e2, _⟩ := q
    exact .base (.lst e2)
  | v x =>
    cases q with
    | non => simp [tyO] at e; subst e; exact .base .non
    | bl b => simp [tyO] at e; subst e; exact .base (.bl b)
    | int i => simp [tyO] at e; subst e; exact .base (.int i)
    | str s _ => simp [tyO] at e; subst e; exact .base (.str _)
    | tup h1 _ => simp [tyO] at e; subst e; exact .base (.tup h1)
    | fl h1 _ =>
      simp [tyO] at e; subst e
      rcases h1 with ⟨o, z⟩ | ⟨o, its, n, z1, z2, _⟩
      · exact .base (.frz z)
      · exact .kList z1 z2
    | ref hm =>
      simp only [tyO] at e
      split at e
      · rename_i hk
        obtain ⟨b, e1, ks, e2, e3⟩ := r.at_ _ _ hk
        rw [hm] at e1; cases e1
        simp at e; subst e; exact .base (.lst e2)
      · rename_i hk
        obtain ⟨b, e1, ks, e2, e3⟩ := r.at_ _ _ hk
        rw [hm] at e1; cases e1
        simp at e; subst e; exact .base (.dK e2)
      · rename_i hk
        obtain ⟨b, e1, ks, e2, e3⟩ := r.at_ _ _ hk
        rw [hm] at e1; cases e1
        simp at e; subst e; exact .base (.dT e2)
      · cases e
def fIsi (t : Ty) (o : O) (h : MH) : R O := match tyO h o with
  | some u => .ok (.v (.bl (u.sub t))) h
  | none => .bad
def fIsi2 (t t2 : Ty) (o : O) (h : MH) : R O := match tyO h o with
  | some u => .ok (.v (.bl (u.sub t || u.sub t2))) h
  | none => .bad
section
variable {X : Cx} {ca : Nat → Addr} {W : WX} {p p2 p3 p4 pos : Pos} {e : Expr} {d : D} {x y : Str}
/-- isinstance(e, T) -/
theorem se_isi (t : Ty) (hm : X.mg "isinstance" = none) (hmT : X.mg x = none) (he : SE X ca W e d) (hvT : bootBuiltins x = some (.type t.name) := by decide +kernel) (hg : Gl X "isinstance" := by rfl) (hgT : Gl X x := by rfl) (hnT : x ≠ "__name__" := by decide +kernel) (hdT : (x == ("__debug__" : Str)) = false := by decide +kernel)
    (h1 : starEach [e, .Name x p2] X.env = (false, eval e X.env) :: starEach [.Name x p2] X.env := by rfl) (h2 : starEach [.Name x p2] X.env = (false, eval (.Name x p2) X.env) :: starEach [] X.env := by rfl) (hpl : (backTo pos (starEach [.Name x p2] X.env)).any (·.1) = false := by rfl) :
    SE X ca W (.Call (.Name "isinstance" p) [e, .Name x p2] [] pos) (dU (fIsi t) d) :=
  pe_w (pe_callB call_isi hg hm (by decide +kernel) (pa_cons he (pa_cons (pe_bltn (v := .ty t.name) hgT hmT hvT rfl hnT hdT) pa_nil h2) h1) (by decide) (by decide) h1 hpl) fun σ H Q q => by
    refine TVv.imp (TVv.bind (rel := rO (gx X ca)) (f := fun _ => fIsi t) q) ?_
    rintro v H1 ⟨m0, m1, ρ, z, h1, fr, r1, e1, rv, c⟩
    unfold fIsi at c
    split at c
    · rename_i u hu
      exact ⟨v, _, _, _, _, rfl, .ty _, tyO_ok r1 rv hu, kit_ty (ty_kit u t), Ct.val c fr r1 (.bl _)⟩
    · exact c.elim
/-- isinstance(e, (T, U)) -/
theorem se_isi2 (t t2 : Ty) (hm : X.mg "isinstance" = none) (hmT : X.mg x = none) (hmU : X.mg y = none) (he : SE X ca W e d) (hvT : bootBuiltins x = some (.type t.name) := by decide +kernel) (hvU : bootBuiltins y = some (.type t2.name) := by decide +kernel) (hg : Gl X "isinstance" := by rfl) (hgT : Gl X x := by rfl) (hgU : Gl X y := by rfl)
    (hnT : x ≠ "__name__" := by decide +kernel) (hdT : (x == ("__debug__" : Str)) = false := by decide +kernel) (hnU : y ≠ "__name__" := by decide +kernel) (hdU : (y == ("__debug__" : Str)) = false := by decide +kernel) {k : Nat}
    (h1 : starEach [e, .Tuple [.Name x p2, .Name y p3] k p4] X.env = (false, eval e X.env) :: starEach [.Tuple [.Name x p2, .Name y p3] k p4] X.env := by rfl) (h2 : starEach [.Tuple [.Name x p2, .Name y p3] k p4] X.env = (false, eval (.Tuple [.Name x p2, .Name y p3] k p4) X.env) :: starEach [] X.env := by rfl)
    (h3 : starEach [.Name x p2, .Name y p3] X.env = (false, eval (.Name x p2) X.env) :: starEach [.Name y p3] X.env := by rfl) (h4 : starEach [.Name y p3] X.env = (false, eval (.Name y p3) X.env) :: starEach [] X.env := by rfl) (hpl : (backTo pos (starEach [.Tuple [.Name x p2, .Name y p3] k p4] X.env)).any (·.1) = false := by rfl) :
    SE X ca W (.Call (.Name "isinstance" p) [e, .Tuple [.Name x p2, .Name y p3] k p4] [] pos) (dU (fIsi2 t t2) d) :=
  pe_w (pe_callB call_isiT hg hm (by decide +kernel) (pa_cons he (pa_cons (pe_tup (pa_cons (pe_bltn (v := .ty t.name) hgT hmT hvT rfl hnT hdT) (pa_cons (pe_bltn (v := .ty t2.name) hgU hmU hvU rfl hnU hdU) pa_nil h4) h3)) pa_nil h2) h1) (by decide) (by decide) h1 hpl) fun σ H Q q => by
    refine TVv.imp (TVv.bind (rel := rO (gx X ca)) (f := fun _ => fIsi2 t t2) q) ?_
    rintro v H1 ⟨m0, m1, ρ, z, h1, fr, r1, e1, rv, c⟩
    refine ⟨by show 2 ≤ sizeLine; decide, fun tp htp => ?_⟩
    unfold fIsi2 at c
    split at c
    · rename_i u hu
      have x1 : Ext m1 m1 H1 (upd H1 tp (.tup [.ty t.name, .ty t2.name])) := Ext.laid htp
      have r2 := r1.laid (o := .tup [.ty t.name, .ty t2.name]) htp
      refine ⟨v, tp, _, _, _, _, rfl, upd_same, .cons (.ty _) (.cons (.ty _) .nil), tyO_ok r2 (x1.ro r1 rv) hu, ?_, Ct.val c (fr.tr r1 x1) r2 (.bl _)⟩
      refine kitAny_cons (kit_ty (ty_kit u t)) (fun hf => ?_) (fun ht => by rw [ht]; rfl)
      refine kitAny_cons (kit_ty (ty_kit u t2)) (fun hf2 => ?_) (fun ht => by rw [hf, ht]; rfl)
      rw [hf, hf2]; rfl
    · exact c.elim
end
end Mi

/-! Mini: tuples of any targets; name op= e. -/
namespace Mi
open PySem L2

def runT : List TD → List Val → En → MH → Out
  | [], [], ρ, h => .nx ρ h
  | t :: ts, x :: xs, ρ, h => match t x ρ h with
    | .nx ρ1 h1 => runT ts xs ρ1 h1
    | _ => .bad
  | _, _, _, _ => .bad
def TGsv (g : G) (ts : List TD) : TGs := fun vs σ H Q => vs.length = ts.length ∧ ∃ m ρ h xs, RepH g m H h ∧ REnv g.K H m σ ρ ∧ RVs g.K H m vs xs ∧ CtG g m H (runT ts xs ρ h) Q
def SGs (X : Cx) (ca : Nat → Addr) (es : List Expr) (ts : List TD) : Prop := PGs X es (TGsv (gx X ca) ts)
theorem pgs_w {X : Cx} {es : List Expr} {t t' : TGs} (h : PGs X es t) (i : ∀ v σ H Q, t' v σ H Q → t v σ H Q) : PGs X es t' := ⟨fun pins s σ H v u Q I r q => h.run pins s σ H v u Q I r (i v σ H Q q)⟩
theorem CtG.later {g : G} {m m' : Mu} {Hs H' : Hp} {h : MH} {o : Out} {Q : St → Hp → Prop} (x : Ext m m' Hs H') (q : RepH g m' H' h) (c : CtG g m Hs o Q) : CtG g m' H' o Q := by
  cases o with
  | nx ρ k => exact fun m2 σ2 H2 e => c m2 σ2 H2 (x.tr q e)
  | _ => exact c
def tdT (ts : List TD) : TD := fun x ρ h => match x with
  | .tup xs => if xs.length = ts.length then runT ts xs ρ h else .bad
  | _ => .bad
section
variable {X : Cx} {ca : Nat → Addr} {W : WX} {e : Expr} {es : List Expr} {t : TD} {ts : List TD} {d : D} {pos : Pos}
theorem sgs_nil : SGs X ca [] [] := pgs_w pgs_nil fun v σ H Q ⟨l, m, ρ, h, xs, rh, re, rv, c⟩ => by
  have : v = [] := List.eq_nil_of_length_eq_zero l
  subst this
  cases rv
  exact ⟨rfl, c m σ H Ext.refl rh re⟩
theorem sgs_cons (h1 : SG X ca e t) (h2 : SGs X ca es ts) (hs : (assignEach (e :: es) X.env).map (·.2) = assign e X.env :: (assignEach es X.env).map (·.2) := by rfl) : SGs X ca (e :: es) (t :: ts) :=
  pgs_w (pgs_cons h1 h2 hs) fun vs σ H Q ⟨l, m, ρ, h, xs, rh, re, rv, c⟩ => by
    cases rv with
    | nil => simp at l
    | @cons v vs x xs r1 r2 =>
      refine ⟨v, vs, rfl, m, ρ, h, x, rh, re, r1, ?_⟩
      simp only [runT] at c
      cases hq : t x ρ h with
      | nx ρ1 h1 =>
        rw [hq] at c
        intro m2 σ2 H2 x2 rr2 e2
        exact ⟨by simpa using l, m2, ρ1, h1, xs, rr2, e2, x2.rvs rh r2, CtG.later x2 rr2 c⟩
      | _ => rw [hq] at c; exact c.elim
theorem sg_t {k : Nat} (hc : X.calm = true) (h : SGs X ca es ts) (hn : (assignEach es X.env).length = ts.length := by rfl) (hst : (assignEach es X.env).findIdx? (·.1) = none := by rfl) : SG X ca (.Tuple es k pos) (tdT ts) :=
  pg_w (pg_tup hc h hn hst) fun v σ H Q ⟨m, ρ, h, x, rh, re, rv, c⟩ => by
    unfold tdT at c
    split at c
    · cases rv with
      | tup h1 h2 =>
        split at c
        · rename_i hl
          exact ⟨_, _, rfl, SqT.of h1, by rw [h2.length]; exact hl, by rw [h2.length]; exact hl, m, ρ, h, _, rh, re, h2, c⟩
        · exact c.elim
    · exact c.elim
/-- name op= e, numbers and texts -/
theorem tv_aug {g : G} {i : Nat} {f : O → O → MH → R O} {r : R2} (ho : FOk g W f r) {D : Ends} {σ : St} {H : Hp} (q : TSv g W (sAug i f d) D σ H) : tAug i (TEv g W d) r D σ H := by
  obtain ⟨m, ρ, h, rh, re, c⟩ := q
  have c : CtS g W m H (((dVar i ρ h).bind fun x h1 => (d ρ h1).bind fun y h2 => f x y h2).out ρ fun o h3 => .nx (ρ.set i (some (num o h3).1)) (num o h3).2) D := c
  unfold dVar at c
  cases hx : ρ[i]? with
  | none => rw [hx] at c; exact c.elim
  | some ox =>
    cases ox with
    | none => rw [hx] at c; exact c.elim
    | some x =>
      rw [hx] at c
      obtain ⟨v, e1, rv⟩ := re.at_ i x hx
      refine ⟨v, e1, m, ρ, h, rh, re, ?_⟩
      have c : CtS g W m H (((d ρ h).bind fun y h2 => f (.v x) y h2).out ρ fun o h3 => .nx (ρ.set i (some (num o h3).1)) (num o h3).2) D := c
      have c2 := (Ct.bind (rel := rO g) (CtS.out (rel := rO g) (σ := σ) Ext.refl rh re c))
      refine c2.imp ?_
      rintro u H1 ⟨m1, y, h1, x1, r1, rv1, c3⟩
      refine ho m m1 σ H H H H1 h1 v u (.v x) y _ x1 r1 (x1.ro rh (show rO g H H m v (.v x) from rv)) rv1 (c3.imp ?_)
      rintro z H2 ⟨m2, o, h2, x12, x02, r2, e2, rv2, c4⟩
      obtain ⟨m3, le, fr3, r3, rv3⟩ := num_ok x02 r2 rv2
      exact c4 m3 _ H2 fr3 r3 ((e2.le le).set rv3 i)
theorem ss_aug (i : Nat) {x : Str} {op : Operator} {f : O → O → MH → R O} {r : R2} {p : Pos} (hr : OpR X (inplaceOp op) r) (ho : FOk (gx X ca) W f r) (h : SE X ca W e d) (hN : X.N.Nodup) (hi : X.N[i]? = some x := by rfl) (hx : Loc X.env.scope x := by first | exact .inl rfl | exact .inr rfl)
    (hf : X.fn x = true ∨ X.env.scope.names.lookup x = some .local := by first | exact .inl rfl | exact .inr rfl) : SS X ca W (.AugAssign (.Name x p) op e pos) (sAug i f d) :=
  ps_w (ps_aug hN hi hx h hr hf) fun D σ H t => tv_aug ho t
end
def fAddI (x y : O) (h : MH) : R O := match x, y with
  | .v (.int i), .v (.int j) => .ok (.v (.int (i + j))) h
  | .v (.str a), .v (.str b) => if a.length + b.length ≤ 16777216 then .ok (.v (.str (a ++ b))) h else .bad
  | _, _ => .bad
abbrev rAddI : R2 := fun x y H Q => rI0 (fun i j => .int (i + j)) x y H Q ∨ ∃ i j, x = .str i ∧ y = .str j ∧ i.length + j.length ≤ sizeLine ∧ Q (.str (i ++ j)) H
theorem iop_addAll {X : Cx} : OpR X (inplaceOp .Add) rAddI := OpR.or iop_add iop_add_str
theorem fAddI_ok {g : G} {W : WX} : FOk g W fAddI rAddI := by
  intro m0 m σ Hs H0 H1 H h v u x y Q fr r q1 q2 c
  unfold fAddI at c
  split at c
  · cases rO.int q1; cases rO.int q2
    exact .inl ⟨_, _, rfl, rfl, Ct.val c fr r (.int _)⟩
  · have w1 := q1
    have w2 := q2
    cases rO.str q1; cases rO.str q2
    split at c
    · rename_i a b hz
      refine .inr ⟨_, _, rfl, rfl, by rw [sOf_length, sOf_length, sl_eq]; exact hz, ?_⟩
      rw [sOf_append]
      exact Ct.val c fr r (.str _ fun k hk => (List.mem_append.mp hk).elim (rO.strv w1 k) (rO.strv w2 k))
    · exact c.elim
  · exact c.elim
end Mi

/-! Mini: what every def has. -/
namespace Mi
open PySem L2
section
variable {P : Program} {w : World} {K : PySem.W.Frag} {mg : Str → Option Value} {base : Heap} {N : List Str} {qual : Str} {scope : Scope} {f : Addr} {cd : Value} {A : Around} {outer : List PySem.Env} {s : Shared} {H : Hp} {E : XK}
theorem tk_of : Pas (cxOf (L2.CX P w) P w K mg base N qual scope f cd A outer s H E) (WE1 E) := fun σ => passAt (takes_of rfl rfl rfl rfl) σ
theorem po_of : PassesOwn (model P w) (cxOf (L2.CX P w) P w K mg base N qual scope f cd A outer s H E).A (cxOf (L2.CX P w) P w K mg base N qual scope f cd A outer s H E).env (cxOf (L2.CX P w) P w K mg base N qual scope f cd A outer s H E).xe := passes_of rfl
end
theorem pas0 {X : Cx} : Pas X W0 := fun σ _ _ _ _ _ _ c => by
  obtain ⟨_, _, _, _, _, _, _, _, _, _, _, _, z⟩ := c
  exact z.elim
end Mi

/-! Mini: what the defs come to, by wishes. -/
namespace Mi
open PySem L2

class Cn (α : Type) : Type where
  f : α
abbrev XP := Nat → MH → Prop
abbrev NoX : XP := fun _ _ => False
def bnd {α β : Type} (r : R α) [f : Cn (α → MH → R β)] : R β := r.bind f.f
def wpR {α : Type} (r : R α) [P : Cn (α → MH → Prop)] [X : Cn XP] : Prop := match r with
  | .ok a h => P.f a h
  | .ex c h => X.f c h
  | .bad => False
structure Kt where
  nx : En → MH → Prop
  rt : Val → MH → Prop
  bk : En → MH → Prop
  ct : En → MH → Prop
  ex : Nat → En → MH → Prop
def wpS (o : Out) [K : Cn Kt] : Prop := match o with
  | .nx ρ h => K.f.nx ρ h
  | .rt x h => K.f.rt x h
  | .bk ρ h => K.f.bk ρ h
  | .ct ρ h => K.f.ct ρ h
  | .ex c ρ h => K.f.ex c ρ h
  | .bad => False
def wgo [P : Cn (En → MH → Prop)] (ρ : En) (h : MH) : Prop := P.f ρ h
def wIf (b : Bool) [A : Cn Prop] [B : Cn Prop] : Prop := if b = true then A.f else B.f
def wNd (c : Prop) [A : Cn Prop] : Prop := c ∧ A.f

theorem wgo_go (P : En → MH → Prop) (ρ : En) (h : MH) : @wgo ⟨P⟩ ρ h = P ρ h := rfl
theorem wIf_t (A B : Prop) : @wIf true ⟨A⟩ ⟨B⟩ = A := by simp [wIf]
theorem wIf_f (A B : Prop) : @wIf false ⟨A⟩ ⟨B⟩ = B := by simp [wIf]
theorem wIf_ite (b : Bool) (A B : Prop) : @wIf b ⟨A⟩ ⟨B⟩ ↔ ((b = true → A) ∧ (b = false → B)) := by cases b <;> simp [wIf]
theorem wIf_d {c : Prop} [Decidable c] {A B : Prop} (a : c → A) (b : ¬c → B) : @wIf (decide c) ⟨A⟩ ⟨B⟩ := by
  by_cases h : c <;> simp [wIf, h, a, b]
theorem wIf_b {c : Bool} {A B : Prop} (a : c = true → A) (b : c = false → B) : @wIf c ⟨A⟩ ⟨B⟩ := (wIf_ite _ _ _).2 ⟨a, b⟩
theorem wNd_t (A : Prop) : @wNd True ⟨A⟩ = A := by simp [wNd]
theorem wNd_i {c A : Prop} (a : c) (b : A) : @wNd c ⟨A⟩ := ⟨a, b⟩

theorem wpR_ok {α : Type} (a : α) (h : MH) (P : α → MH → Prop) (X : XP) : @wpR _ (.ok a h) ⟨P⟩ ⟨X⟩ = P a h := rfl
theorem wpR_ex {α : Type} (c : Nat) (h : MH) (P : α → MH → Prop) (X : XP) : @wpR _ (.ex c h) ⟨P⟩ ⟨X⟩ = X c h := rfl
theorem wpR_bind {α β : Type} (r : R α) (f : α → MH → R β) (P : β → MH → Prop) (X : XP) : @wpR _ (@bnd _ _ r ⟨f⟩) ⟨P⟩ ⟨X⟩ = @wpR _ r ⟨(fun a h => @wpR _ (f a h) ⟨P⟩ ⟨X⟩)⟩ ⟨X⟩ := by cases r <;> rfl
theorem bind_ok {α β : Type} (a : α) (h : MH) (f : α → MH → R β) : @bnd _ _ (R.ok a h) ⟨f⟩ = f a h := rfl
theorem bnd_fun {α β : Type} {r : R α} {f g : α → MH → R β} (e : ∀ a h, f a h = g a h) : @bnd _ _ r ⟨f⟩ = @bnd _ _ r ⟨g⟩ := by
  rw [show f = g from funext fun a => funext fun h => e a h]
theorem wpR_fun {α : Type} {r : R α} {f g : α → MH → Prop} {X : XP} (e : ∀ a h, f a h = g a h) : @wpR _ r ⟨f⟩ ⟨X⟩ = @wpR _ r ⟨g⟩ ⟨X⟩ := by
  rw [show f = g from funext fun a => funext fun h => e a h]
theorem wpR_mono {α : Type} {r : R α} {P P' : α → MH → Prop} {X X' : XP} (w : @wpR _ r ⟨P⟩ ⟨X⟩) (i : ∀ a h, P a h → P' a h) (j : ∀ c h, X c h → X' c h) : @wpR _ r ⟨P'⟩ ⟨X'⟩ := by
  cases r with
  | ok a h => exact i _ _ w
  | ex c h => exact j _ _ w
  | bad => exact w.elim
/-- no exception: to any wish -/
theorem wpR_to {α : Type} {r : R α} {P P' : α → MH → Prop} {X : XP} (w : @wpR _ r ⟨P⟩ ⟨NoX⟩) (i : ∀ a h, P a h → P' a h) : @wpR _ r ⟨P'⟩ ⟨X⟩ := wpR_mono w i fun _ _ z => z.elim
theorem wpR_ite {α : Type} (c : Prop) [Decidable c] (r : R α) (P : α → MH → Prop) (X : XP) : @wpR _ (if c then r else .bad) ⟨P⟩ ⟨X⟩ = @wNd c ⟨(@wpR _ r ⟨P⟩ ⟨X⟩)⟩ := by
  by_cases h : c <;> simp [h, wNd, wpR]
theorem wpS_mono {o : Out} {K K' : Kt} (w : @wpS o ⟨K⟩) (a : ∀ ρ h, K.nx ρ h → K'.nx ρ h) (b : ∀ x h, K.rt x h → K'.rt x h) (c : ∀ ρ h, K.bk ρ h → K'.bk ρ h) (d : ∀ ρ h, K.ct ρ h → K'.ct ρ h) (e : ∀ n ρ h, K.ex n ρ h → K'.ex n ρ h) : @wpS o ⟨K'⟩ := by
  cases o with
  | nx _ _ => exact a _ _ w
  | rt _ _ => exact b _ _ w
  | bk _ _ => exact c _ _ w
  | ct _ _ => exact d _ _ w
  | ex _ _ _ => exact e _ _ _ w
  | bad => exact w.elim
theorem wpS_out {α : Type} (r : R α) (ρ : En) (k : α → MH → Out) (K : Kt) : @wpS (r.out ρ k) ⟨K⟩ = @wpR _ r ⟨(fun x h => @wpS (k x h) ⟨K⟩)⟩ ⟨(fun c h => K.ex c ρ h)⟩ := by cases r <;> rfl
/-! expressions -/
theorem dVar_0 (x : Val) (ρ : En) (h : MH) : dVar 0 (some x :: ρ) h = .ok (.v x) h := rfl
theorem dVar_s (i : Nat) (x : Option Val) (ρ : En) (h : MH) : dVar (i + 1) (x :: ρ) h = dVar i ρ h := by simp [dVar]
theorem dC_ap (x : Val) (ρ : En) (h : MH) : dC x ρ h = .ok (.v x) h := rfl
theorem dOp_ap (f : O → O → MH → R O) (a b : D) (ρ : En) (h : MH) : dOp f a b ρ h = @bnd _ _ (a ρ h) ⟨fun x h1 => @bnd _ _ (b ρ h1) ⟨fun y h2 => f x y h2⟩⟩ := rfl
theorem dU_ap (f : O → MH → R O) (a : D) (ρ : En) (h : MH) : dU f a ρ h = @bnd _ _ (a ρ h) ⟨f⟩ := rfl
theorem dB_ap (f : List O → MH → R O) (ds : DA) (ρ : En) (h : MH) : dB f ds ρ h = @bnd _ _ (ds ρ h) ⟨f⟩ := rfl
theorem aNil_ap (ρ : En) (h : MH) : aNil ρ h = .ok [] h := rfl
theorem aCons_ap (d : D) (t : DA) (ρ : En) (h : MH) : aCons d t ρ h = @bnd _ _ (d ρ h) ⟨fun o h1 => @bnd _ _ (t ρ h1) ⟨fun os h2 => .ok (o :: os) h2⟩⟩ := rfl
theorem vNil_ap (ρ : En) (h : MH) : vNil ρ h = .ok [] h := rfl
def numK {β : Type} (o : O) (h : MH) [k : Cn (Val → MH → R β)] : R β := k.f (num o h).1 (num o h).2
theorem numK_v {β : Type} (x : Val) (h : MH) (k : Val → MH → R β) : @numK _ (.v x) h ⟨k⟩ = k x h := rfl
theorem numK_n {β : Type} (xs : List Val) (h : MH) (k : Val → MH → R β) : @numK _ (.n xs) h ⟨k⟩ = k (.ref h.length) (h ++ [.lst xs]) := rfl
theorem vCons_ap (d : D) (t : DV) (ρ : En) (h : MH) : vCons d t ρ h = @bnd _ _ (d ρ h) ⟨fun o h1 => @numK _ o h1 ⟨fun x h1 => @bnd _ _ (t ρ h1) ⟨fun xs h2 => .ok (x :: xs) h2⟩⟩⟩ := rfl
theorem dTup_ap (t : DV) (ρ : En) (h : MH) : dTup t ρ h = @bnd _ _ (t ρ h) ⟨fun xs h1 => if xs.length ≤ 16777216 then .ok (.v (.tup xs)) h1 else .bad⟩ := rfl
theorem dLst_ap (t : DV) (ρ : En) (h : MH) : dLst t ρ h = @bnd _ _ (t ρ h) ⟨fun xs h1 => if xs.length ≤ 16777216 then .ok (.n xs) h1 else .bad⟩ := rfl
def asBool {β : Type} (o : O) [k : Cn (Bool → R β)] : R β := match o with
  | .v (.bl b) => k.f b
  | _ => .bad
theorem asBool_v {β : Type} (b : Bool) (k : Bool → R β) : @asBool _ (.v (.bl b)) ⟨k⟩ = k b := rfl
theorem dT_ap (d : D) (ρ : En) (h : MH) : dT d ρ h = @bnd _ _ (d ρ h) ⟨fun o h1 => @asBool _ o ⟨fun b => .ok b h1⟩⟩ := by
  show @bnd _ _ (d ρ h) ⟨asB⟩ = _
  congr 1
theorem ifR_t {β : Type} (a b : R β) : (if true = true then a else b) = a := rfl
theorem ifR_f {β : Type} (a b : R β) : (if false = true then a else b) = b := rfl
/-- branches of an R, one alone to be looked at -/
def brR {β : Type} (b : Bool) [x : Cn (R β)] [y : Cn (R β)] : R β := if b = true then x.f else y.f
theorem brR_t {β : Type} (x y : R β) : @brR _ true ⟨x⟩ ⟨y⟩ = x := rfl
theorem brR_f {β : Type} (x y : R β) : @brR _ false ⟨x⟩ ⟨y⟩ = y := rfl
theorem wpR_br {β : Type} (b : Bool) (x y : R β) (P : β → MH → Prop) (X : XP) : @wpR _ (@brR _ b ⟨x⟩ ⟨y⟩) ⟨P⟩ ⟨X⟩ = @wIf b ⟨(@wpR _ x ⟨P⟩ ⟨X⟩)⟩ ⟨(@wpR _ y ⟨P⟩ ⟨X⟩)⟩ := by cases b <;> simp [brR, wIf]
theorem dIf_ap (t : DB) (a b : D) (ρ : En) (h : MH) : dIf t a b ρ h = @bnd _ _ (t ρ h) ⟨fun k h1 => @brR _ k ⟨(a ρ h1)⟩ ⟨(b ρ h1)⟩⟩ := rfl
theorem bAnd_ap (a b : DB) (ρ : En) (h : MH) : bAnd a b ρ h = @bnd _ _ (a ρ h) ⟨fun k h1 => @brR _ k ⟨(b ρ h1)⟩ ⟨(.ok false h1)⟩⟩ := rfl
theorem bOr_ap (a b : DB) (ρ : En) (h : MH) : bOr a b ρ h = @bnd _ _ (a ρ h) ⟨fun k h1 => @brR _ k ⟨(.ok true h1)⟩ ⟨(b ρ h1)⟩⟩ := rfl
theorem bNot_ap (a : DB) (ρ : En) (h : MH) : bNot a ρ h = @bnd _ _ (a ρ h) ⟨fun k h1 => .ok (!k) h1⟩ := rfl
theorem dAnd_ap (a b : D) (ρ : En) (h : MH) : dAnd a b ρ h = @bnd _ _ (a ρ h) ⟨fun o h1 => @asBool _ o ⟨fun k => @brR _ k ⟨(b ρ h1)⟩ ⟨(.ok (.v (.bl false)) h1)⟩⟩⟩ := by
  refine bnd_fun fun o h1 => ?_
  cases o with
  | n _ => rfl
  | v x =>
    cases x <;> try rfl
    rename_i k
    cases k <;> rfl
theorem dOr_ap (a b : D) (ρ : En) (h : MH) : dOr a b ρ h = @bnd _ _ (a ρ h) ⟨fun o h1 => @asBool _ o ⟨fun k => @brR _ k ⟨(.ok (.v (.bl true)) h1)⟩ ⟨(b ρ h1)⟩⟩⟩ := by
  refine bnd_fun fun o h1 => ?_
  cases o with
  | n _ => rfl
  | v x =>
    cases x <;> try rfl
    rename_i k
    cases k <;> rfl
theorem dNot_ap (a : D) (ρ : En) (h : MH) : dNot a ρ h = @bnd _ _ (a ρ h) ⟨fun o h1 => @asBool _ o ⟨fun k => .ok (.v (.bl (!k))) h1⟩⟩ := by
  rfl
theorem dCh_ap (f f' : O → O → MH → R O) (a b c : D) (ρ : En) (h : MH) : dCh f f' a b c ρ h = @bnd _ _ (a ρ h) ⟨fun x h1 => @bnd _ _ (b ρ h1) ⟨fun y h2 => @bnd _ _ (f x y h2) ⟨fun z h3 => @asBool _ z ⟨fun k => @brR _ k ⟨(@bnd _ _ (c ρ h3) ⟨fun w h4 => f' y w h4⟩)⟩ ⟨(.ok (.v (.bl false)) h3)⟩⟩⟩⟩⟩ := by
  refine bnd_fun fun x h1 => bnd_fun fun y h2 => bnd_fun fun z h3 => ?_
  cases z with
  | n _ => rfl
  | v x =>
    cases x <;> try rfl
    rename_i k
    cases k <;> rfl
def callV (n : Nat) (fn : DF) (xs : List Val) (h : MH) : R O := if xs.length = n then liftV (fn xs h) else .bad
theorem dCall_ap (n : Nat) (fn : DF) (ds : DV) (ρ : En) (h : MH) : dCall n fn ds ρ h = @bnd _ _ (ds ρ h) ⟨fun xs h1 => callV n fn xs h1⟩ := rfl
theorem wpR_lift (r : R Val) (P : O → MH → Prop) (X : XP) : @wpR _ (liftV r) ⟨P⟩ ⟨X⟩ = @wpR _ r ⟨(fun x h => P (.v x) h)⟩ ⟨X⟩ := by cases r <;> rfl
theorem wpR_call0 (fn : DF) (h : MH) (P : O → MH → Prop) (X : XP) : @wpR _ (callV 0 fn [] h) ⟨P⟩ ⟨X⟩ = @wpR _ (fn [] h) ⟨(fun x h => P (.v x) h)⟩ ⟨X⟩ := wpR_lift _ _ _
theorem wpR_call1 (fn : DF) (a : Val) (h : MH) (P : O → MH → Prop) (X : XP) : @wpR _ (callV 1 fn [a] h) ⟨P⟩ ⟨X⟩ = @wpR _ (fn [a] h) ⟨(fun x h => P (.v x) h)⟩ ⟨X⟩ := wpR_lift _ _ _
theorem wpR_call2 (fn : DF) (a b : Val) (h : MH) (P : O → MH → Prop) (X : XP) : @wpR _ (callV 2 fn [a, b] h) ⟨P⟩ ⟨X⟩ = @wpR _ (fn [a, b] h) ⟨(fun x h => P (.v x) h)⟩ ⟨X⟩ := wpR_lift _ _ _
theorem wpR_call3 (fn : DF) (a b c : Val) (h : MH) (P : O → MH → Prop) (X : XP) : @wpR _ (callV 3 fn [a, b, c] h) ⟨P⟩ ⟨X⟩ = @wpR _ (fn [a, b, c] h) ⟨(fun x h => P (.v x) h)⟩ ⟨X⟩ := wpR_lift _ _ _
theorem wpR_call4 (fn : DF) (a b c d : Val) (h : MH) (P : O → MH → Prop) (X : XP) : @wpR _ (callV 4 fn [a, b, c, d] h) ⟨P⟩ ⟨X⟩ = @wpR _ (fn [a, b, c, d] h) ⟨(fun x h => P (.v x) h)⟩ ⟨X⟩ := wpR_lift _ _ _
theorem wpR_call5 (fn : DF) (a b c d e : Val) (h : MH) (P : O → MH → Prop) (X : XP) : @wpR _ (callV 5 fn [a, b, c, d, e] h) ⟨P⟩ ⟨X⟩ = @wpR _ (fn [a, b, c, d, e] h) ⟨(fun x h => P (.v x) h)⟩ ⟨X⟩ := wpR_lift _ _ _
theorem wpR_call6 (fn : DF) (a b c d e f : Val) (h : MH) (P : O → MH → Prop) (X : XP) : @wpR _ (callV 6 fn [a, b, c, d, e, f] h) ⟨P⟩ ⟨X⟩ = @wpR _ (fn [a, b, c, d, e, f] h) ⟨(fun x h => P (.v x) h)⟩ ⟨X⟩ := wpR_lift _ _ _
/-! numbers -/
theorem fAdd_ii (i j : Int) (h : MH) : fAdd (.v (.int i)) (.v (.int j)) h = .ok (.v (.int (i + j))) h := rfl
theorem fAdd_ss (a b : List Nat) (h : MH) : fAdd (.v (.str a)) (.v (.str b)) h = if a.length + b.length ≤ 16777216 then .ok (.v (.str (a ++ b))) h else .bad := rfl
theorem fAddI_ii (i j : Int) (h : MH) : fAddI (.v (.int i)) (.v (.int j)) h = .ok (.v (.int (i + j))) h := rfl
theorem fAddI_ss (a b : List Nat) (h : MH) : fAddI (.v (.str a)) (.v (.str b)) h = if a.length + b.length ≤ 16777216 then .ok (.v (.str (a ++ b))) h else .bad := rfl
theorem fSub_ii (i j : Int) (h : MH) : fSub (.v (.int i)) (.v (.int j)) h = .ok (.v (.int (i - j))) h := rfl
theorem fMul_ii (i j : Int) (h : MH) : fMul (.v (.int i)) (.v (.int j)) h = if (-18446744073709551616 < i ∧ i < 18446744073709551616) ∨ (-18446744073709551616 < j ∧ j < 18446744073709551616) then .ok (.v (.int (i * j))) h else .bad := rfl
theorem fMod_ii (i j : Int) (h : MH) : fMod (.v (.int i)) (.v (.int j)) h = if 0 < j then .ok (.v (.int (i % j))) h else .bad := rfl
theorem fFdiv_ii (i j : Int) (h : MH) : fFdiv (.v (.int i)) (.v (.int j)) h = if 0 < j ∧ j < 18446744073709551616 then .ok (.v (.int (i / j))) h else .bad := rfl
theorem fNeg_i (i : Int) (h : MH) : fNeg (.v (.int i)) h = .ok (.v (.int (-i))) h := rfl
theorem fLt_ii (i j : Int) (h : MH) : fLt (.v (.int i)) (.v (.int j)) h = .ok (.v (.bl (decide (i < j)))) h := rfl
theorem fLe_ii (i j : Int) (h : MH) : fLe (.v (.int i)) (.v (.int j)) h = .ok (.v (.bl (decide (i ≤ j)))) h := rfl
theorem fGt_ii (i j : Int) (h : MH) : fGt (.v (.int i)) (.v (.int j)) h = .ok (.v (.bl (decide (j < i)))) h := rfl
theorem fGe_ii (i j : Int) (h : MH) : fGe (.v (.int i)) (.v (.int j)) h = .ok (.v (.bl (decide (j ≤ i)))) h := rfl
theorem fEq_ii (i j : Int) (h : MH) : fEq (.v (.int i)) (.v (.int j)) h = .ok (.v (.bl (decide (i = j)))) h := rfl
theorem fNe_ii (i j : Int) (h : MH) : fNe (.v (.int i)) (.v (.int j)) h = .ok (.v (.bl (!decide (i = j)))) h := rfl
theorem fEq_ss (a b : List Nat) (h : MH) : fEq (.v (.str a)) (.v (.str b)) h = .ok (.v (.bl (decide (a = b)))) h := rfl
theorem fNe_ss (a b : List Nat) (h : MH) : fNe (.v (.str a)) (.v (.str b)) h = .ok (.v (.bl (!decide (a = b)))) h := rfl
theorem fEq_bb (a b : Bool) (h : MH) : fEq (.v (.bl a)) (.v (.bl b)) h = .ok (.v (.bl (decide (a = b)))) h := rfl
theorem fNe_bb (a b : Bool) (h : MH) : fNe (.v (.bl a)) (.v (.bl b)) h = .ok (.v (.bl (!decide (a = b)))) h := rfl
theorem bAbs_i (i : Int) (h : MH) : bAbs [.v (.int i)] h = .ok (.v (.int (if i < 0 then -i else i))) h := rfl
theorem bInt_i (i : Int) (h : MH) : bInt [.v (.int i)] h = .ok (.v (.int i)) h := rfl
theorem bInt_b (b : Bool) (h : MH) : bInt [.v (.bl b)] h = .ok (.v (.int (if b then 1 else 0))) h := rfl
theorem bMax_ii (i j : Int) (h : MH) : bMax [.v (.int i), .v (.int j)] h = .ok (.v (.int (if j > i then j else i))) h := rfl
theorem bMin_ii (i j : Int) (h : MH) : bMin [.v (.int i), .v (.int j)] h = .ok (.v (.int (if j < i then j else i))) h := rfl
theorem bDivmod_ii (i j : Int) (h : MH) : bDivmod [.v (.int i), .v (.int j)] h = if 0 < j ∧ j < 18446744073709551616 then .ok (.v (.tup [.int (i / j), .int (i % j)])) h else .bad := rfl
/-! rows -/
theorem seqO_n (xs : List Val) (h : MH) : seqO h (.n xs) = some (.mu, xs) := rfl
theorem seqO_tp (xs : List Val) (h : MH) : seqO h (.v (.tup xs)) = some (.tp, xs) := rfl
theorem seqO_fl (xs : List Val) (h : MH) : seqO h (.v (.fl xs)) = some (.fz, xs) := rfl
theorem seqO_ref {h : MH} {n : Nat} {xs : List Val} (e : h[n]? = some (.lst xs)) : seqO h (.v (.ref n)) = some (.mu, xs) := by simp [seqO, e]
def seqK {β : Type} (h : MH) (o : O) [k : Cn (LK → List Val → R β)] : R β := match seqO h o with
  | some (l, xs) => k.f l xs
  | none => .bad
theorem seqK_n {β : Type} (xs : List Val) (h : MH) (k : LK → List Val → R β) : @seqK _ h (.n xs) ⟨k⟩ = k .mu xs := rfl
theorem seqK_tp {β : Type} (xs : List Val) (h : MH) (k : LK → List Val → R β) : @seqK _ h (.v (.tup xs)) ⟨k⟩ = k .tp xs := rfl
theorem seqK_fl {β : Type} (xs : List Val) (h : MH) (k : LK → List Val → R β) : @seqK _ h (.v (.fl xs)) ⟨k⟩ = k .fz xs := rfl
theorem seqK_ref {β : Type} {h : MH} {n : Nat} {xs : List Val} (e : h[n]? = some (.lst xs)) (k : LK → List Val → R β) : @seqK _ h (.v (.ref n)) ⟨k⟩ = k .mu xs := by simp [seqK, seqO, e]
theorem bLen_tp (xs : List Val) (h : MH) : bLen [.v (.tup xs)] h = .ok (.v (.int xs.length)) h := rfl
theorem bLen_fl (xs : List Val) (h : MH) : bLen [.v (.fl xs)] h = .ok (.v (.int xs.length)) h := rfl
theorem bLen_n (xs : List Val) (h : MH) : bLen [.n xs] h = .ok (.v (.int xs.length)) h := rfl
theorem bLen_ref {h : MH} {n : Nat} {xs : List Val} (e : h[n]? = some (.lst xs)) : bLen [.v (.ref n)] h = .ok (.v (.int xs.length)) h := by simp [bLen, seqO, e]
theorem bLen_s (s : List Nat) (h : MH) : bLen [.v (.str s)] h = if s.length ≤ 16777216 then .ok (.v (.int s.length)) h else .bad := rfl
theorem bList_q (o : O) (h : MH) : bList [o] h = @seqK _ h o ⟨fun _ xs => .ok (.n xs) h⟩ := by
  cases e : seqO h o <;> simp [bList, seqK, e]
theorem bTuple_q (o : O) (h : MH) : bTuple [o] h = @seqK _ h o ⟨fun _ xs => .ok (.v (.tup xs)) h⟩ := by
  cases e : seqO h o <;> simp [bTuple, seqK, e]
def optR {α β : Type} (o : Option α) [k : Cn (α → R β)] : R β := match o with
  | some x => k.f x
  | none => .bad
theorem optR_s {α β : Type} (x : α) (k : α → R β) : @optR _ _ (some x) ⟨k⟩ = k x := rfl
theorem wpR_optR {α β : Type} (o : Option α) (k : α → R β) (P : β → MH → Prop) (X : XP) : @wpR _ (@optR _ _ o ⟨k⟩) ⟨P⟩ ⟨X⟩ ↔ ∃ x, o = some x ∧ @wpR _ (k x) ⟨P⟩ ⟨X⟩ := by cases o <;> simp [optR, wpR]
theorem fIx_tp (xs : List Val) (i : Int) (h : MH) : fIx (.v (.tup xs)) (.v (.int i)) h = @optR _ _ (atI xs i) ⟨fun z => .ok (.v z) h⟩ := by
  show (match atI xs i with | some z => R.ok (O.v z) h | none => .bad) = _
  cases atI xs i <;> rfl
theorem fIx_fl (xs : List Val) (i : Int) (h : MH) : fIx (.v (.fl xs)) (.v (.int i)) h = @optR _ _ (atI xs i) ⟨fun z => .ok (.v z) h⟩ := by
  show (match atI xs i with | some z => R.ok (O.v z) h | none => .bad) = _
  cases atI xs i <;> rfl
theorem fIx_n (xs : List Val) (i : Int) (h : MH) : fIx (.n xs) (.v (.int i)) h = @optR _ _ (atI xs i) ⟨fun z => .ok (.v z) h⟩ := by
  show (match atI xs i with | some z => R.ok (O.v z) h | none => .bad) = _
  cases atI xs i <;> rfl
theorem fIx_ref {h : MH} {n : Nat} {xs : List Val} (e : h[n]? = some (.lst xs)) (i : Int) : fIx (.v (.ref n)) (.v (.int i)) h = @optR _ _ (atI xs i) ⟨fun z => .ok (.v z) h⟩ := by
  simp only [fIx, seqO, e]
  cases atI xs i <;> rfl
theorem fIx_s (s : List Nat) (i : Int) (h : MH) : fIx (.v (.str s)) (.v (.int i)) h = if s.length ≤ 16777216 then (@optR _ _ (atI s i) ⟨fun c => .ok (.v (.str [c])) h⟩) else .bad := by
  simp only [fIx]
  split
  · cases atI s i <;> rfl
  · rfl
theorem oNone_ap (ρ : En) (h : MH) : oNone ρ h = .ok none h := rfl
def asInt {β : Type} (o : O) [k : Cn (Int → R β)] : R β := match o with
  | .v (.int i) => k.f i
  | _ => .bad
theorem asInt_i {β : Type} (i : Int) (k : Int → R β) : @asInt _ (.v (.int i)) ⟨k⟩ = k i := rfl
theorem oSome_ap (d : D) (ρ : En) (h : MH) : oSome d ρ h = @bnd _ _ (d ρ h) ⟨fun o h1 => @asInt _ o ⟨fun i => .ok (some i) h1⟩⟩ := by
  rfl
theorem dSl_ap (d : D) (lo hi : DO) (ρ : En) (h : MH) : dSl d lo hi ρ h = @bnd _ _ (d ρ h) ⟨fun x h1 => @bnd _ _ (lo ρ h1) ⟨fun l h2 => @bnd _ _ (hi ρ h2) ⟨fun u h3 => fSl x l u h3⟩⟩⟩ := rfl
theorem fSl_tp (xs : List Val) (lo hi : Option Int) (h : MH) : fSl (.v (.tup xs)) lo hi h = .ok (.v (.tup (cutL xs lo hi))) h := rfl
theorem fSl_fl (xs : List Val) (lo hi : Option Int) (h : MH) : fSl (.v (.fl xs)) lo hi h = .ok (.n (cutL xs lo hi)) h := rfl
theorem fSl_n (xs : List Val) (lo hi : Option Int) (h : MH) : fSl (.n xs) lo hi h = .ok (.n (cutL xs lo hi)) h := rfl
theorem fSl_ref {h : MH} {n : Nat} {xs : List Val} (e : h[n]? = some (.lst xs)) (lo hi : Option Int) : fSl (.v (.ref n)) lo hi h = .ok (.n (cutL xs lo hi)) h := by simp [fSl, seqO, e]
theorem fSl_s (s : List Nat) (lo hi : Option Int) (h : MH) : fSl (.v (.str s)) lo hi h = if s.length ≤ 16777216 then .ok (.v (.str (cutL s lo hi))) h else .bad := rfl
/-! statements -/
theorem wpS_nil (ρ : En) (h : MH) (K : Kt) : @wpS (sNil ρ h) ⟨K⟩ = @wgo ⟨K.nx⟩ ρ h := rfl
theorem wpS_seq (a b : SD) (ρ : En) (h : MH) (K : Kt) : @wpS (sSeq a b ρ h) ⟨K⟩ = @wpS (a ρ h) ⟨{ K with nx := fun ρ' h' => @wpS (b ρ' h') ⟨K⟩ }⟩ := by
  unfold sSeq
  cases a ρ h <;> rfl
def numP [P : Cn (Val → MH → Prop)] (o : O) (h : MH) : Prop := P.f (num o h).1 (num o h).2
theorem numP_v (P : Val → MH → Prop) (x : Val) (h : MH) : @numP ⟨P⟩ (.v x) h = P x h := rfl
theorem numP_n (P : Val → MH → Prop) (xs : List Val) (h : MH) : @numP ⟨P⟩ (.n xs) h = P (.ref h.length) (h ++ [.lst xs]) := rfl
theorem wpS_ret (d : D) (ρ : En) (h : MH) (K : Kt) : @wpS (sRet d ρ h) ⟨K⟩ = @wpR _ (d ρ h) ⟨(fun o h1 => @numP ⟨K.rt⟩ o h1)⟩ ⟨(fun c h => K.ex c ρ h)⟩ := wpS_out _ _ _ _
theorem wpS_retN (ρ : En) (h : MH) (K : Kt) : @wpS (sRetN ρ h) ⟨K⟩ = K.rt .non h := rfl
theorem wpS_expr (d : D) (ρ : En) (h : MH) (K : Kt) : @wpS (sExpr d ρ h) ⟨K⟩ = @wpR _ (d ρ h) ⟨(fun o h1 => @wgo ⟨K.nx⟩ ρ h1)⟩ ⟨(fun c h => K.ex c ρ h)⟩ := wpS_out _ _ _ _
theorem wpS_set (i : Nat) (d : D) (ρ : En) (h : MH) (K : Kt) : @wpS (sSet i d ρ h) ⟨K⟩ = @wpR _ (d ρ h) ⟨(fun o h1 => @numP ⟨(fun x h2 => @wgo ⟨K.nx⟩ (ρ.set i (some x)) h2)⟩ o h1)⟩ ⟨(fun c h => K.ex c ρ h)⟩ := wpS_out _ _ _ _
theorem wpS_if (t : DB) (a b : SD) (ρ : En) (h : MH) (K : Kt) : @wpS (sIf t a b ρ h) ⟨K⟩ = @wpR _ (t ρ h) ⟨(fun k h1 => @wIf k ⟨(@wpS (a ρ h1) ⟨K⟩)⟩ ⟨(@wpS (b ρ h1) ⟨K⟩)⟩)⟩ ⟨(fun c h => K.ex c ρ h)⟩ := by
  refine (wpS_out _ _ _ _).trans (wpR_fun fun k h1 => ?_)
  cases k <;> simp [wIf]
theorem wpS_brk (ρ : En) (h : MH) (K : Kt) : @wpS (sBreak ρ h) ⟨K⟩ = @wgo ⟨K.bk⟩ ρ h := rfl
theorem wpS_cnt (ρ : En) (h : MH) (K : Kt) : @wpS (sCont ρ h) ⟨K⟩ = @wgo ⟨K.ct⟩ ρ h := rfl
theorem wpS_aug (i : Nat) (f : O → O → MH → R O) (d : D) (ρ : En) (h : MH) (K : Kt) : @wpS (sAug i f d ρ h) ⟨K⟩ = @wpR _ (dOp f (dVar i) d ρ h) ⟨(fun o h1 => @numP ⟨(fun x h2 => @wgo ⟨K.nx⟩ (ρ.set i (some x)) h2)⟩ o h1)⟩ ⟨(fun c h => K.ex c ρ h)⟩ := wpS_out _ _ _ _
def wOpt {α : Type} (o : Option α) [P : Cn (α → Prop)] : Prop := ∃ x, o = some x ∧ P.f x
theorem wOpt_el {α : Type} {o : Option α} {P : α → Prop} (w : @wOpt _ o ⟨P⟩) : ∃ x, o = some x ∧ P x := w
theorem wOpt_i {α : Type} {o : Option α} {P : α → Prop} {x : α} (e : o = some x) (w : P x) : @wOpt _ o ⟨P⟩ := ⟨x, e, w⟩
theorem wOpt_s {α : Type} (x : α) (P : α → Prop) : @wOpt _ (some x) ⟨P⟩ = P x := by simp [wOpt]
theorem wpR_oR {α β : Type} (o : Option α) (k : α → R β) (P : β → MH → Prop) (X : XP) : @wpR _ (@optR _ _ o ⟨k⟩) ⟨P⟩ ⟨X⟩ = @wOpt _ o ⟨(fun x => @wpR _ (k x) ⟨P⟩ ⟨X⟩)⟩ := propext (wpR_optR o k P X)
theorem wpS_par (is : List Nat) (ds : DV) (ρ : En) (h : MH) (K : Kt) : @wpS (sPar is ds ρ h) ⟨K⟩ = @wpR _ (ds ρ h) ⟨(fun xs h1 => @wOpt _ (setN is xs ρ) ⟨fun ρ' => @wgo ⟨K.nx⟩ ρ' h1⟩)⟩ ⟨(fun c h => K.ex c ρ h)⟩ := by
  refine (wpS_out _ _ _ _).trans (wpR_fun fun xs h1 => ?_)
  cases setN is xs ρ <;> simp [wOpt, wpS, wgo]
def onlyN (N : En → MH → Prop) : Kt := ⟨N, fun _ _ => False, fun _ _ => False, fun _ _ => False, fun _ _ _ => False⟩
theorem wpS_asg (d : D) (t : TD) (ρ : En) (h : MH) (K : Kt) : @wpS (sAsg d t ρ h) ⟨K⟩ = @wpR _ (d ρ h) ⟨(fun o h1 => @numP ⟨(fun x h2 => @wpS (t x ρ h2) ⟨(onlyN K.nx)⟩)⟩ o h1)⟩ ⟨(fun c h => K.ex c ρ h)⟩ := by
  refine (wpS_out _ _ _ _).trans (wpR_fun fun o h1 => ?_)
  simp only [numP]
  cases t (num o h1).1 ρ (num o h1).2 <;> rfl
theorem wpS_tdN (nt : NT) (x : Val) (ρ : En) (h : MH) (K : Kt) : @wpS (tdN nt x ρ h) ⟨K⟩ = @wOpt _ (nt.run x ρ) ⟨fun ρ' => @wgo ⟨K.nx⟩ ρ' h⟩ := by
  unfold tdN
  cases nt.run x ρ <;> simp [wOpt, wpS, wgo]
theorem run_nm (i : Nat) (x : Val) (ρ : En) : NT.run (.nm i) x ρ = some (ρ.set i (some x)) := rfl
theorem run_tp (is : List Nat) (xs : List Val) (ρ : En) : NT.run (.tp is) (.tup xs) ρ = setN is xs ρ := rfl
theorem setN_nil (ρ : En) : setN [] [] ρ = some ρ := rfl
theorem setN_cons (i : Nat) (is : List Nat) (x : Val) (xs : List Val) (ρ : En) : setN (i :: is) (x :: xs) ρ = setN is xs (ρ.set i (some x)) := rfl
def asV (o : O) [P : Cn (Val → Prop)] : Prop := match o with
  | .v x => P.f x
  | _ => False
theorem wpS_tdSub (da di : D) (z : Val) (ρ : En) (h : MH) (N : En → MH → Prop) : @wpS (tdSub da di z ρ h) ⟨(onlyN N)⟩ = @wpR _ (da ρ h) ⟨(fun o h1 => @wpR _ (di ρ h1) ⟨(fun o2 h2 => @asV o ⟨fun x => @asV o2 ⟨fun y => @wOpt _ (fSetIx x y z h2) ⟨fun h3 => @wgo ⟨N⟩ ρ h3⟩⟩⟩)⟩ ⟨NoX⟩)⟩ ⟨NoX⟩ := by
  unfold tdSub
  cases da ρ h with
  | ok o h1 =>
    cases o with
    | v x =>
      simp only [wpR]
      cases di ρ h1 with
      | ok o2 h2 =>
        cases o2 with
        | v y =>
          simp only [wpR, asV]
          cases fSetIx x y z h2 <;> simp [wOpt, wpS, wgo, onlyN]
        | n ys => rfl
      | ex _ _ => rfl
      | bad => rfl
    | n xs =>
      simp only [wpR, asV]
      cases di ρ h1 <;> rfl
  | ex _ _ => rfl
  | bad => rfl
theorem asV_v (x : Val) (P : Val → Prop) : @asV (.v x) ⟨P⟩ = P x := rfl
theorem fSetIx_ref {h : MH} {n : Nat} {xs : List Val} (e : h[n]? = some (.lst xs)) (i : Int) (z : Val) : fSetIx (.ref n) (.int i) z h = (ixN xs.length i).bind fun j => some (h.set n (.lst (xs.set j z))) := by
  simp only [fSetIx, e]
  cases ixN xs.length i <;> rfl
theorem bindO_s {α β : Type} (x : α) (f : α → Option β) : (some x).bind f = f x := rfl
theorem wpS_tdT (ts : List TD) (xs : List Val) (ρ : En) (h : MH) (K : Kt) : @wpS (tdT ts (.tup xs) ρ h) ⟨K⟩ = @wNd (xs.length = ts.length) ⟨(@wpS (runT ts xs ρ h) ⟨K⟩)⟩ := by
  show @wpS (if xs.length = ts.length then runT ts xs ρ h else .bad) ⟨K⟩ = _
  by_cases q : xs.length = ts.length <;> simp [wNd, q, wpS]
theorem wpS_runT0 (ρ : En) (h : MH) (N : En → MH → Prop) : @wpS (runT [] [] ρ h) ⟨(onlyN N)⟩ = @wgo ⟨N⟩ ρ h := rfl
theorem wpS_runT (t : TD) (ts : List TD) (x : Val) (xs : List Val) (ρ : En) (h : MH) (N : En → MH → Prop) : @wpS (runT (t :: ts) (x :: xs) ρ h) ⟨(onlyN N)⟩ = @wpS (t x ρ h) ⟨(onlyN fun ρ1 h1 => @wpS (runT ts xs ρ1 h1) ⟨(onlyN N)⟩)⟩ := by
  simp only [runT]
  cases t x ρ h <;> rfl
theorem onlyN_nx (N : En → MH → Prop) : (onlyN N).nx = N := rfl
/-! loops -/
theorem wpS_for (di : DI) (nt : NT) (b : SD) (ρ : En) (h : MH) (K : Kt) : @wpS (sFor di nt b ρ h) ⟨K⟩ = @wpR _ (di ρ h) ⟨(fun p h1 => @wpS (forL nt b p.2 p.1 ρ h1) ⟨K⟩)⟩ ⟨(fun c h => K.ex c ρ h)⟩ := wpS_out _ _ _ _
def Kin (K : Kt) (N : En → MH → Prop) : Kt := ⟨N, K.rt, K.nx, N, K.ex⟩
theorem wpS_forL {nt : NT} {sb : SD} {lv : MH → Bool} {K : Kt} (I : List Val → En → MH → Prop) : ∀ (xs : List Val) (ρ : En) (h : MH), I xs ρ h →
    (∀ x xs ρ h, I (x :: xs) ρ h → lv h = true ∧ @wOpt _ (nt.run x ρ) ⟨fun ρ1 => @wpS (sb ρ1 h) ⟨(Kin K (I xs))⟩⟩) → (∀ ρ h, I [] ρ h → lv h = true ∧ K.nx ρ h) → @wpS (forL nt sb lv xs ρ h) ⟨K⟩
  | [], ρ, h, i, _, e => by
    obtain ⟨a, b⟩ := e ρ h i
    simp only [forL, a, if_true]
    exact b
  | x :: xs, ρ, h, i, st, e => by
    obtain ⟨a, wo⟩ := st x xs ρ h i
    obtain ⟨ρ1, e1, w⟩ := wOpt_el wo
    simp only [forL, a, if_true, e1]
    cases hb : sb ρ1 h with
    | nx ρ2 h2 => rw [hb] at w; exact wpS_forL I xs ρ2 h2 w st e
    | ct ρ2 h2 => rw [hb] at w; exact wpS_forL I xs ρ2 h2 w st e
    | bk ρ2 h2 => rw [hb] at w; exact w
    | rt x h2 => rw [hb] at w; exact w
    | ex c ρ2 h2 => rw [hb] at w; exact w
    | bad => rw [hb] at w; exact w
theorem wpS_while {t : DB} {sb : SD} {K : Kt} (I : Nat → En → MH → Prop) (st : ∀ n ρ h, I n ρ h → @wpR _ (t ρ h) ⟨(fun k h1 => @wIf k ⟨(∃ n', n = n' + 1 ∧ @wpS (sb ρ h1) ⟨(Kin K (I n'))⟩)⟩ ⟨(K.nx ρ h1)⟩)⟩ ⟨(fun c h => K.ex c ρ h)⟩) :
    ∀ (f n : Nat) (ρ : En) (h : MH), n < f → I n ρ h → @wpS (sWhile f t sb ρ h) ⟨K⟩
  | 0, _, _, _, l, _ => by omega
  | f + 1, n, ρ, h, l, i => by
    have w := st n ρ h i
    show @wpS (whileL t sb (f + 1) ρ h) ⟨K⟩
    rw [whileL, wpS_out]
    refine wpR_mono w (fun k h1 z => ?_) fun _ _ z => z
    cases k with
    | false => simp only [wIf_f] at z; simpa [wpS] using z
    | true =>
      simp only [wIf_t, if_true] at z ⊢
      obtain ⟨n', rfl, v⟩ := z
      cases hb : sb ρ h1 with
      | nx ρ2 h2 => rw [hb] at v; exact wpS_while I st f n' ρ2 h2 (by omega) v
      | ct ρ2 h2 => rw [hb] at v; exact wpS_while I st f n' ρ2 h2 (by omega) v
      | bk ρ2 h2 => rw [hb] at v; exact v
      | rt x h2 => rw [hb] at v; exact v
      | ex c ρ2 h2 => rw [hb] at v; exact v
      | bad => rw [hb] at v; exact v
theorem wpR_get {α β : Type} (r : R α) (f : α → MH → R β) (P : β → MH → Prop) : @wpR _ (r.get f) ⟨P⟩ ⟨NoX⟩ = @wpR _ r ⟨(fun a h => @wpR _ (f a h) ⟨P⟩ ⟨NoX⟩)⟩ ⟨NoX⟩ := by cases r <;> rfl
theorem wpR_compL {nt : NT} {tst : DB} {elt : D} {lv : MH → Bool} (ρ : En) (J : List Val → List Val → MH → Prop) (P : List Val → MH → Prop) : ∀ (xs don : List Val) (h : MH), J xs don h →
    (∀ x xs don h, J (x :: xs) don h → lv h = true ∧ @wOpt _ (nt.run x ρ) ⟨fun ρ1 => @wpR _ (tst ρ1 h) ⟨(fun k h1 => @wIf k ⟨(@wpR _ (elt ρ1 h1) ⟨(fun o h2 => @numP ⟨(fun y h3 => J xs (don ++ [y]) h3)⟩ o h2)⟩ ⟨NoX⟩)⟩ ⟨(J xs don h1)⟩)⟩ ⟨NoX⟩⟩) →
    (∀ don h, J [] don h → lv h = true) → (∀ ys h, J [] (don ++ ys) h → P ys h) → @wpR _ (compL nt tst elt lv xs ρ h) ⟨P⟩ ⟨NoX⟩
  | [], don, h, i, _, l, e => by
    simp only [compL, l don h i, if_true]
    exact e [] h (by simpa using i)
  | x :: xs, don, h, i, st, l, e => by
    obtain ⟨a, wo⟩ := st x xs don h i
    obtain ⟨ρ1, e1, w⟩ := wOpt_el wo
    simp only [compL, a, if_true, e1]
    rw [wpR_get]
    refine wpR_to w fun k h1 z => ?_
    cases k with
    | false =>
      simp only [wIf_f] at z
      simp only [Bool.false_eq_true, if_false] at z ⊢
      exact wpR_compL ρ J P xs don h1 z st l e
    | true =>
      simp only [wIf_t, if_true] at z ⊢
      rw [wpR_get]
      refine wpR_to z fun o h2 z => ?_
      rw [wpR_get]
      refine wpR_to (wpR_compL ρ J (fun ys h3 => P ((num o h2).1 :: ys) h3) xs (don ++ [(num o h2).1]) (num o h2).2 z st l fun ys h3 q => e _ h3 (by simpa using q)) fun ys h3 z => z
theorem wpR_comp (own : List Nat) (di : DI) (nt : NT) (tst : DB) (elt : D) (ρ : En) (h : MH) (P : O → MH → Prop) (X : XP) : @wpR _ (dComp own di nt tst elt ρ h) ⟨P⟩ ⟨X⟩ = @wpR _ (di ρ h) ⟨(fun p h1 => @wNd (p.1.length ≤ 16777216) ⟨(@wpR _ (compL nt tst elt p.2 p.1 (wipeE ρ own) h1) ⟨(fun ys h2 => P (.n ys) h2)⟩ ⟨NoX⟩)⟩)⟩ ⟨X⟩ := by
  refine (wpR_bind (di ρ h) _ P X).trans (wpR_fun fun p h1 => ?_)
  show @wpR _ (if p.1.length ≤ 16777216 then (compL nt tst elt p.2 p.1 (wipeE ρ own) h1).get fun ys h2 => .ok (.n ys) h2 else .bad) ⟨P⟩ ⟨X⟩ = _
  rw [wpR_ite]
  congr 2
  cases compL nt tst elt p.2 p.1 (wipeE ρ own) h1 <;> rfl
/-- a comp of pure parts -/
theorem compL_map {nt : NT} {tst : DB} {elt : D} {lv : MH → Bool} {ρ : En} {h : MH} (hl : lv h = true) (t : Val → Bool) (g : Val → Val) : ∀ xs : List Val, (∀ x ∈ xs, ∃ ρ1, nt.run x ρ = some ρ1 ∧ tst ρ1 h = .ok (t x) h ∧ (t x = true → elt ρ1 h = .ok (.v (g x)) h)) → compL nt tst elt lv xs ρ h = .ok ((xs.filter t).map g) h
  | [], _ => by simp [compL, hl]
  | x :: xs, a => by
    obtain ⟨ρ1, e1, e2, e3⟩ := a x (by simp)
    have ih := compL_map hl t g xs fun y hy => a y (by simp [hy])
    simp only [compL, hl, if_true, e1, e2, R.get]
    cases ht : t x with
    | true => simp [ih, e3 ht, ht, num]
    | false => simp [ih, ht]
theorem tYesB_ap (ρ : En) (h : MH) : tYesB ρ h = .ok true h := rfl
theorem diV_ap (d : D) (ρ : En) (h : MH) : diV d ρ h = @bnd _ _ (d ρ h) ⟨itV⟩ := rfl
theorem itV_tp (xs : List Val) (h : MH) : itV (.v (.tup xs)) h = .ok (xs, live (.v (.tup xs)) xs) h := rfl
theorem itV_fl (xs : List Val) (h : MH) : itV (.v (.fl xs)) h = .ok (xs, live (.v (.fl xs)) xs) h := rfl
theorem itV_n (xs : List Val) (h : MH) : itV (.n xs) h = .ok (xs, live (.n xs) xs) h := rfl
theorem itV_ref {h : MH} {n : Nat} {xs : List Val} (e : h[n]? = some (.lst xs)) : itV (.v (.ref n)) h = .ok (xs, live (.v (.ref n)) xs) h := by simp [itV, seqO, e]
theorem itV_s (s : List Nat) (h : MH) : itV (.v (.str s)) h = .ok (s.map fun c => .str [c], fun _ => true) h := rfl
theorem live_tp (ys xs : List Val) (h : MH) : live (.v (.tup ys)) xs h = true := rfl
theorem live_fl (ys xs : List Val) (h : MH) : live (.v (.fl ys)) xs h = true := rfl
theorem live_n (ys xs : List Val) (h : MH) : live (.n ys) xs h = true := rfl
theorem live_ref {h : MH} {n : Nat} {xs : List Val} (e : h[n]? = some (.lst xs)) : live (.v (.ref n)) xs h = true := by simp [live, e]
theorem diR1_ap (d : D) (ρ : En) (h : MH) : diR1 d ρ h = @bnd _ _ (d ρ h) ⟨fun o h1 => @asInt _ o ⟨fun j => if -4611686018427387904 ≤ j ∧ j < 4611686018427387904 then .ok (rngF 0 j.toNat, fun _ => true) h1 else .bad⟩⟩ := by
  rfl
theorem diR2_ap (da db : D) (ρ : En) (h : MH) : diR2 da db ρ h = @bnd _ _ (da ρ h) ⟨fun o h1 => @bnd _ _ (db ρ h1) ⟨fun o2 h2 => @asInt _ o ⟨fun i => @asInt _ o2 ⟨fun j => if -4611686018427387904 ≤ i ∧ i < 4611686018427387904 ∧ -4611686018427387904 ≤ j ∧ j < 4611686018427387904 then .ok (rngF i (j - i).toNat, fun _ => true) h2 else .bad⟩⟩⟩⟩ := by
  refine bnd_fun fun o h1 => bnd_fun fun o2 h2 => ?_
  cases o with
  | n _ => rfl
  | v x =>
    cases x <;> try rfl
    cases o2 with
    | n _ => rfl
    | v y => cases y <;> rfl
theorem diE_ap (d : D) (ρ : En) (h : MH) : diE d ρ h = @bnd _ _ (d ρ h) ⟨fun o h1 => @seqK _ h1 o ⟨fun k xs => @brR _ (isTp k) ⟨.bad⟩ ⟨(.ok (enumF 0 xs, live o xs) h1)⟩⟩⟩ := by
  refine bnd_fun fun o h1 => ?_
  simp only [seqK]
  cases seqO h1 o with
  | none => rfl
  | some p =>
    obtain ⟨k, xs⟩ := p
    cases k <;> rfl
theorem rngF_mem : ∀ (n : Nat) (lo : Int) (x : Val), x ∈ rngF lo n → ∃ i : Int, x = .int i ∧ lo ≤ i ∧ i < lo + n
  | 0, _, _, h => by simp [rngF] at h
  | n + 1, lo, x, h => by
    rw [rngF, List.mem_cons] at h
    rcases h with rfl | h
    · exact ⟨lo, rfl, Int.le_refl _, by omega⟩
    · obtain ⟨i, rfl, a, b⟩ := rngF_mem n (lo + 1) x h
      exact ⟨i, rfl, by omega, by omega⟩
theorem rngF_len : ∀ (n : Nat) (lo : Int), (rngF lo n).length = n
  | 0, _ => rfl
  | n + 1, lo => by simp [rngF, rngF_len n]
/-! defs -/
def Kf (P : Val → MH → Prop) (X : XP) : Kt := ⟨fun _ h => P .non h, P, fun _ _ => False, fun _ _ => False, fun c _ h => X c h⟩
theorem wpR_run (n : Nat) (b : SD) (xs : List Val) (h : MH) (P : Val → MH → Prop) (X : XP) : @wpR _ (runB n b xs h) ⟨P⟩ ⟨X⟩ = @wgo ⟨(fun ρ h => @wpS (b ρ h) ⟨(Kf P X)⟩)⟩ (xs.map some ++ List.replicate (n - xs.length) none) h := by
  show @wpR _ (runB n b xs h) ⟨P⟩ ⟨X⟩ = @wpS (b (xs.map some ++ List.replicate (n - xs.length) none) h) ⟨(Kf P X)⟩
  unfold runB
  cases b (xs.map some ++ List.replicate (n - xs.length) none) h <;> rfl
theorem Kf_nx (P : Val → MH → Prop) (X : XP) : (Kf P X).nx = fun _ h => P .non h := rfl
theorem Kf_rt (P : Val → MH → Prop) (X : XP) : (Kf P X).rt = P := rfl
theorem Kf_ex (P : Val → MH → Prop) (X : XP) : (Kf P X).ex = fun c _ h => X c h := rfl
theorem Kin_nx (K : Kt) (N : En → MH → Prop) : (Kin K N).nx = N := rfl
theorem Kin_ct (K : Kt) (N : En → MH → Prop) : (Kin K N).ct = N := rfl
theorem Kin_bk (K : Kt) (N : En → MH → Prop) : (Kin K N).bk = K.nx := rfl
theorem Kin_rt (K : Kt) (N : En → MH → Prop) : (Kin K N).rt = K.rt := rfl
theorem Kin_ex (K : Kt) (N : En → MH → Prop) : (Kin K N).ex = K.ex := rfl
theorem atI_0 {α : Type} (a : α) (xs : List α) : atI (a :: xs) 0 = some a := by
  have : (0 : Int) < ((a :: xs).length : Int) := by simp only [List.length_cons]; omega
  simp only [atI, ixN]
  rw [if_pos (by decide), if_pos this]
  rfl
theorem atI_1 {α : Type} (a b : α) (xs : List α) : atI (a :: b :: xs) 1 = some b := by
  have : (1 : Int) < ((a :: b :: xs).length : Int) := by simp only [List.length_cons]; omega
  simp only [atI, ixN]
  rw [if_pos (by decide), if_pos this]
  rfl
theorem atI_2 {α : Type} (a b c : α) (xs : List α) : atI (a :: b :: c :: xs) 2 = some c := by
  have : (2 : Int) < ((a :: b :: c :: xs).length : Int) := by simp only [List.length_cons]; omega
  simp only [atI, ixN]
  rw [if_pos (by decide), if_pos this]
  rfl
theorem atI_3 {α : Type} (a b c d : α) (xs : List α) : atI (a :: b :: c :: d :: xs) 3 = some d := by
  have : (3 : Int) < ((a :: b :: c :: d :: xs).length : Int) := by simp only [List.length_cons]; omega
  simp only [atI, ixN]
  rw [if_pos (by decide), if_pos this]
  rfl
theorem atI_lt {α : Type} {xs : List α} {i : Int} (h0 : 0 ≤ i) (h1 : i < xs.length) : ∃ x, atI xs i = some x ∧ xs[i.toNat]? = some x ∧ x ∈ xs := by
  have h2 : i.toNat < xs.length := by omega
  refine ⟨xs[i.toNat], ?_, List.getElem?_eq_getElem h2, List.getElem_mem h2⟩
  simp only [atI, ixN]
  rw [if_pos h0, if_pos h1]
  simp
theorem ixN_ok {n : Nat} {i : Int} (h0 : 0 ≤ i) (h1 : i < n) : ixN n i = some i.toNat := by
  simp only [ixN]
  rw [if_pos h0, if_pos h1]
theorem set_ref {h : MH} {n : Nat} {o o' : Ob} (e : h[n]? = some o) : (h.set n o')[n]? = some o' := by
  obtain ⟨l, _⟩ := List.getElem?_eq_some_iff.mp e
  simp [l]
theorem ref_lt {h : MH} {n : Nat} {o : Ob} (e : h[n]? = some o) : n < h.length := (List.getElem?_eq_some_iff.mp e).1
theorem new_ref (h : MH) (o : Ob) : (h ++ [o])[h.length]? = some o := by simp
theorem old_ref {h : MH} {n : Nat} {o o' : Ob} (e : h[n]? = some o) : (h ++ [o'])[n]? = some o := by
  rw [List.getElem?_append_left (ref_lt e), e]
/-- the law's form -/
theorem law_of {fn : DF} {xs : List Val} (w : @wpR _ (fn xs []) ⟨(fun x _ => x = .bl true)⟩ ⟨NoX⟩) : ∃ h', fn xs [] = .ok (.bl true) h' := by
  cases q : fn xs [] with
  | ok x h => rw [q] at w; exact ⟨h, by rw [show x = .bl true from w]⟩
  | ex _ _ => rw [q] at w; exact w.elim
  | bad => rw [q] at w; exact w.elim
end Mi

/-! Mini: what the laws' own draws come to. -/
namespace Mi
open PySem L2
/-! ### the defs -/
/-- _law_box(_law_script, _law_k); slots 0 _law_script, 1 _law_k, 2 _law_cell -/
def b_l_box : SD :=
    (sSeq (sSet 2 (dIf (dT (dOp fLt (dVar 1) (dB bLen (aCons (dVar 0) aNil)))) (dOp fIx (dVar 0) (dVar 1)) (dC (.int 0))))
    (sRet (dLst (vCons (dOp fMul (dB bAbs (aCons (dVar 2) aNil)) (dB bInt (aCons (dOp fGe (dB bAbs (aCons (dVar 2) aNil)) (dC (.int 1000000000000000000))) aNil))) (vCons (dOp fMod (dOp fMul (dOp fAdd (dOp fAdd (dOp fMod (dVar 2) (dC (.int 2147483629))) (dOp fMul (dC (.int 15485863)) (dVar 1))) (dC (.int 37))) (dC (.int 48271))) (dC (.int 2147483647))) (vCons (dC (.int 0)) vNil))))))
def f_l_box : DF := runB 3 b_l_box
/-- _law_take(_law_box_here, _law_size); slots 0 _law_box_here, 1 _law_size, 2 _law_found, 3 _law_step, 4 _law_once, 5 _law_twice -/
def b_l_take : SD :=
    (sSeq (sIf (dT (dOp fGt (dOp fIx (dVar 0) (dC (.int 0))) (dC (.int 0)))) (sSeq (sAsg (dB bDivmod (aCons (dOp fIx (dVar 0) (dC (.int 0))) (aCons (dVar 1) aNil))) (tdT [(tdSub (dVar 0) (dC (.int 0))), (tdN (.nm 2))]))
    (sRet (dVar 2))) sNil)
    (sSeq (sAsg (dOp fAdd (dOp fIx (dVar 0) (dC (.int 2))) (dC (.int 1))) (tdSub (dVar 0) (dC (.int 2))))
    (sSeq (sSet 3 (dOp fAdd (dC (.int 69621)) (dOp fMul (dOp fIx (dVar 0) (dC (.int 2))) (dOp fIx (dVar 0) (dC (.int 2))))))
    (sSeq (sSet 4 (dOp fMod (dOp fMul (dOp fAdd (dOp fIx (dVar 0) (dC (.int 1))) (dOp fMul (dC (.int 39373)) (dOp fIx (dVar 0) (dC (.int 2))))) (dVar 3)) (dC (.int 2147483587))))
    (sSeq (sSet 5 (dOp fMod (dOp fAdd (dOp fMul (dVar 4) (dOp fAdd (dOp fMod (dVar 4) (dC (.int 30011))) (dC (.int 5)))) (dOp fIx (dVar 0) (dC (.int 2)))) (dC (.int 2147483563))))
    (sRet (dOp fMod (dOp fFdiv (dOp fMod (dOp fMul (dVar 5) (dOp fAdd (dOp fMod (dVar 5) (dC (.int 1013))) (dC (.int 3)))) (dC (.int 998244353))) (dC (.int 16))) (dVar 1))))))))
def f_l_take : DF := runB 6 b_l_take
/-- _law_folded(_law_script, _law_size); slots 0 _law_script, 1 _law_size, 2 _law_cells, 3 _law_k, 4 _law_cell -/
def b_l_folded : SD :=
    (sSeq (sSet 2 (dB bList (aCons (dSl (dVar 0) oNone (oSome (dVar 1))) aNil)))
    (sSeq (sFor (diE (dSl (dVar 0) (oSome (dVar 1)) (oSome (dC (.int 63))))) (.tp [3, 4]) (sAsg (dOp fAdd (dOp fIx (dVar 2) (dOp fMod (dVar 3) (dVar 1))) (dOp fMul (dVar 4) (dOp fAdd (dVar 3) (dC (.int 2))))) (tdSub (dVar 2) (dOp fMod (dVar 3) (dVar 1)))))
    (sRet (dVar 2))))
def f_l_folded : DF := runB 5 b_l_folded
/-! ### a box of draws -/
def Bx (h : MH) (b : Nat) (n : Nat) : Prop := ∃ a s c : Int, h[b]? = some (.lst [.int a, .int s, .int c]) ∧ 0 ≤ a ∧ 0 ≤ s ∧ s < 2147483647 ∧ 0 ≤ c ∧ c ≤ n
/-- what is not told stays, but of the box -/
def Frm (b : Nat) (h h' : MH) : Prop := h.length ≤ h'.length ∧ ∀ j, j < h.length → j ≠ b → h'[j]? = h[j]?
theorem Frm.refl {b : Nat} {h : MH} : Frm b h h := ⟨Nat.le_refl _, fun _ _ _ => rfl⟩
theorem Frm.tr {b : Nat} {h h1 h2 : MH} (x : Frm b h h1) (y : Frm b h1 h2) : Frm b h h2 := ⟨Nat.le_trans x.1 y.1, fun j l n => by rw [y.2 j (Nat.lt_of_lt_of_le l x.1) n, x.2 j l n]⟩
theorem Frm.app {b : Nat} {h : MH} (l : List Ob) : Frm b h (h ++ l) := ⟨by simp, fun j q _ => List.getElem?_append_left q⟩
theorem Frm.set {b : Nat} {h : MH} (o : Ob) : Frm b h (h.set b o) := ⟨by simp, fun j q n => by simp [List.getElem?_set, Ne.symm n]⟩
theorem Frm.setn {b n : Nat} {h h' : MH} {o : Ob} (x : Frm b h h') (l : h.length ≤ n) : Frm b h (h'.set n o) := ⟨by simpa using x.1, fun j q z => by
  have : n ≠ j := by omega
  simp [List.getElem?_set, this, x.2 j q z]⟩
theorem Frm.at {b : Nat} {h h' : MH} (x : Frm b h h') {n : Nat} {o : Ob} (e : h[n]? = some o) (ne : n ≠ b) : h'[n]? = some o := by rw [x.2 n (ref_lt e) ne, e]
theorem Frm.wide {b c : Nat} {h h' : MH} (x : Frm b h h') (l : h.length ≤ b) : Frm c h h' := ⟨x.1, fun j q n => x.2 j q (by omega)⟩
theorem Bx.lt {h : MH} {b n : Nat} (x : Bx h b n) : b < h.length := by
  obtain ⟨_, _, _, e, _⟩ := x
  exact ref_lt e
theorem Bx.mono {h : MH} {b n m : Nat} (x : Bx h b n) (l : n ≤ m) : Bx h b m := by
  obtain ⟨a, s, c, e, q1, q2, q3, q4, q5⟩ := x
  exact ⟨a, s, c, e, q1, q2, q3, q4, by omega⟩
theorem Bx.app {h : MH} {b n : Nat} (x : Bx h b n) (l : List Ob) : Bx (h ++ l) b n := by
  obtain ⟨a, s, c, e, q⟩ := x
  exact ⟨a, s, c, by rw [List.getElem?_append_left (ref_lt e), e], q⟩
theorem Bx.set {h : MH} {b n m : Nat} (x : Bx h b n) {o : Ob} (l : m ≠ b) : Bx (h.set m o) b n := by
  obtain ⟨a, s, c, e, q⟩ := x
  exact ⟨a, s, c, by simp [List.getElem?_set, l, e], q⟩
theorem take_ok {h : MH} {b n : Nat} {z : Int} {P : Val → MH → Prop} {X : XP} (B : Bx h b n) (hn : n ≤ 1000000000) (z0 : 0 < z) (z1 : z < 18446744073709551616)
    (k : ∀ v h', 0 ≤ v → v < z → Bx h' b (n + 1) → Frm b h h' → h'.length = h.length → P (.int v) h') : @wpR _ (f_l_take [.ref b, .int z] h) ⟨P⟩ ⟨X⟩ := by
  obtain ⟨a, s, c, e, a0, s0, s1, c0, c1⟩ := B
  unfold f_l_take b_l_take
  simp only [wpR_run, wpS_nil, wpS_seq, wpS_ret, wpS_retN, wpS_expr, wpS_set, wpS_if, wpS_brk, wpS_cnt, wpS_aug, wpS_par, wpS_asg, wpS_tdN, wpS_tdSub, wpS_tdT, wpS_runT0, wpS_runT, wpS_for, onlyN_nx, run_nm, run_tp, setN_nil, setN_cons, asV_v, bindO_s, wgo_go, wIf_t, wIf_f, wNd_t, wpR_ok, wpR_ex, wpR_bind, bind_ok, wpR_ite, wpR_oR, wOpt_s, numP_v, numP_n, numK_v, numK_n, dVar_0, dVar_s, dC_ap, dOp_ap, dU_ap, dB_ap, aNil_ap, aCons_ap, vNil_ap, vCons_ap, dTup_ap, dLst_ap, asBool_v, dT_ap, brR_t, brR_f, wpR_br, dIf_ap, bAnd_ap, bOr_ap, bNot_ap, dAnd_ap, dOr_ap, dNot_ap, dCh_ap, dCall_ap, wpR_call0, wpR_call1, wpR_call2, wpR_call3, wpR_call4, wpR_call5, wpR_call6, fAdd_ii, fAdd_ss, fAddI_ii, fAddI_ss, fSub_ii, fMul_ii, fMod_ii, fFdiv_ii, fNeg_i, fLt_ii, fLe_ii, fGt_ii, fGe_ii, fEq_ii, fNe_ii, fEq_ss, fNe_ss, fEq_bb, fNe_bb, bAbs_i, bInt_i, bInt_b, bMax_ii, bMin_ii, bDivmod_ii, seqK_n, seqK_tp, seqK_fl, bLen_tp, bLen_fl, bLen_n, bLen_s, bList_q, bTuple_q, optR_s, fIx_tp, fIx_fl, fIx_n, fIx_s, oNone_ap, asInt_i, oSome_ap, dSl_ap, fSl_tp, fSl_fl, fSl_n, fSl_s, atI_0, atI_1, atI_2, atI_3, wpR_comp, tYesB_ap, diV_ap, itV_tp, itV_fl, itV_n, itV_s, live_tp, live_fl, live_n, diR1_ap, diR2_ap, diE_ap, Kf_nx, Kf_rt, Kf_ex, Kin_nx, Kin_ct, Kin_bk, Kin_rt, Kin_ex, isTp, List.set_cons_succ, List.set_cons_zero, List.map_cons, List.map_nil, List.cons_append, List.nil_append, List.length_cons, List.length_nil, List.replicate_succ, List.replicate_zero, List.append_nil, Nat.reduceSub, Nat.reduceAdd, Nat.reduceMul, Int.reduceAdd, Int.reduceSub, Int.reduceMul, Int.reduceNeg, Int.reduceLT, Int.reduceLE, Nat.reduceLeDiff, Nat.reduceLT, decide_true, decide_false, Int.reduceToNat, Bool.not_true, Bool.not_false, and_true, true_and, and_self, true_or, or_true, List.set_nil, Int.reduceMod, Int.reduceDiv, Int.reducePow, Int.cast_ofNat_Int, Int.reduceEq, Int.reduceNe, Nat.reduceEqDiff, eq_self, false_and, and_false, Nat.zero_add, Int.zero_add, Int.add_zero, wipeE, fSetIx_ref, fIx_ref, bLen_ref, seqK_ref, itV_ref, live_ref, fSl_ref, fIx_ref e, atI_0]
  refine wIf_d (fun ha => ?_) fun ha => ?_
  · simp only [wpR_run, wpS_nil, wpS_seq, wpS_ret, wpS_retN, wpS_expr, wpS_set, wpS_if, wpS_brk, wpS_cnt, wpS_aug, wpS_par, wpS_asg, wpS_tdN, wpS_tdSub, wpS_tdT, wpS_runT0, wpS_runT, wpS_for, onlyN_nx, run_nm, run_tp, setN_nil, setN_cons, asV_v, bindO_s, wgo_go, wIf_t, wIf_f, wNd_t, wpR_ok, wpR_ex, wpR_bind, bind_ok, wpR_ite, wpR_oR, wOpt_s, numP_v, numP_n, numK_v, numK_n, dVar_0, dVar_s, dC_ap, dOp_ap, dU_ap, dB_ap, aNil_ap, aCons_ap, vNil_ap, vCons_ap, dTup_ap, dLst_ap, asBool_v, dT_ap, brR_t, brR_f, wpR_br, dIf_ap, bAnd_ap, bOr_ap, bNot_ap, dAnd_ap, dOr_ap, dNot_ap, dCh_ap, dCall_ap, wpR_call0, wpR_call1, wpR_call2, wpR_call3, wpR_call4, wpR_call5, wpR_call6, fAdd_ii, fAdd_ss, fAddI_ii, fAddI_ss, fSub_ii, fMul_ii, fMod_ii, fFdiv_ii, fNeg_i, fLt_ii, fLe_ii, fGt_ii, fGe_ii, fEq_ii, fNe_ii, fEq_ss, fNe_ss, fEq_bb, fNe_bb, bAbs_i, bInt_i, bInt_b, bMax_ii, bMin_ii, bDivmod_ii, seqK_n, seqK_tp, seqK_fl, bLen_tp, bLen_fl, bLen_n, bLen_s, bList_q, bTuple_q, optR_s, fIx_tp, fIx_fl, fIx_n, fIx_s, oNone_ap, asInt_i, oSome_ap, dSl_ap, fSl_tp, fSl_fl, fSl_n, fSl_s, atI_0, atI_1, atI_2, atI_3, wpR_comp, tYesB_ap, diV_ap, itV_tp, itV_fl, itV_n, itV_s, live_tp, live_fl, live_n, diR1_ap, diR2_ap, diE_ap, Kf_nx, Kf_rt, Kf_ex, Kin_nx, Kin_ct, Kin_bk, Kin_rt, Kin_ex, isTp, List.set_cons_succ, List.set_cons_zero, List.map_cons, List.map_nil, List.cons_append, List.nil_append, List.length_cons, List.length_nil, List.replicate_succ, List.replicate_zero, List.append_nil, Nat.reduceSub, Nat.reduceAdd, Nat.reduceMul, Int.reduceAdd, Int.reduceSub, Int.reduceMul, Int.reduceNeg, Int.reduceLT, Int.reduceLE, Nat.reduceLeDiff, Nat.reduceLT, decide_true, decide_false, Int.reduceToNat, Bool.not_true, Bool.not_false, and_true, true_and, and_self, true_or, or_true, List.set_nil, Int.reduceMod, Int.reduceDiv, Int.reducePow, Int.cast_ofNat_Int, Int.reduceEq, Int.reduceNe, Nat.reduceEqDiff, eq_self, false_and, and_false, Nat.zero_add, Int.zero_add, Int.add_zero, wipeE, fSetIx_ref, fIx_ref, bLen_ref, seqK_ref, itV_ref, live_ref, fSl_ref, fIx_ref e, atI_0]
    refine wNd_i ⟨z0, z1⟩ ?_
    simp only [wpR_run, wpS_nil, wpS_seq, wpS_ret, wpS_retN, wpS_expr, wpS_set, wpS_if, wpS_brk, wpS_cnt, wpS_aug, wpS_par, wpS_asg, wpS_tdN, wpS_tdSub, wpS_tdT, wpS_runT0, wpS_runT, wpS_for, onlyN_nx, run_nm, run_tp, setN_nil, setN_cons, asV_v, bindO_s, wgo_go, wIf_t, wIf_f, wNd_t, wpR_ok, wpR_ex, wpR_bind, bind_ok, wpR_ite, wpR_oR, wOpt_s, numP_v, numP_n, numK_v, numK_n, dVar_0, dVar_s, dC_ap, dOp_ap, dU_ap, dB_ap, aNil_ap, aCons_ap, vNil_ap, vCons_ap, dTup_ap, dLst_ap, asBool_v, dT_ap, brR_t, brR_f, wpR_br, dIf_ap, bAnd_ap, bOr_ap, bNot_ap, dAnd_ap, dOr_ap, dNot_ap, dCh_ap, dCall_ap, wpR_call0, wpR_call1, wpR_call2, wpR_call3, wpR_call4, wpR_call5, wpR_call6, fAdd_ii, fAdd_ss, fAddI_ii, fAddI_ss, fSub_ii, fMul_ii, fMod_ii, fFdiv_ii, fNeg_i, fLt_ii, fLe_ii, fGt_ii, fGe_ii, fEq_ii, fNe_ii, fEq_ss, fNe_ss, fEq_bb, fNe_bb, bAbs_i, bInt_i, bInt_b, bMax_ii, bMin_ii, bDivmod_ii, seqK_n, seqK_tp, seqK_fl, bLen_tp, bLen_fl, bLen_n, bLen_s, bList_q, bTuple_q, optR_s, fIx_tp, fIx_fl, fIx_n, fIx_s, oNone_ap, asInt_i, oSome_ap, dSl_ap, fSl_tp, fSl_fl, fSl_n, fSl_s, atI_0, atI_1, atI_2, atI_3, wpR_comp, tYesB_ap, diV_ap, itV_tp, itV_fl, itV_n, itV_s, live_tp, live_fl, live_n, diR1_ap, diR2_ap, diE_ap, Kf_nx, Kf_rt, Kf_ex, Kin_nx, Kin_ct, Kin_bk, Kin_rt, Kin_ex, isTp, List.set_cons_succ, List.set_cons_zero, List.map_cons, List.map_nil, List.cons_append, List.nil_append, List.length_cons, List.length_nil, List.replicate_succ, List.replicate_zero, List.append_nil, Nat.reduceSub, Nat.reduceAdd, Nat.reduceMul, Int.reduceAdd, Int.reduceSub, Int.reduceMul, Int.reduceNeg, Int.reduceLT, Int.reduceLE, Nat.reduceLeDiff, Nat.reduceLT, decide_true, decide_false, Int.reduceToNat, Bool.not_true, Bool.not_false, and_true, true_and, and_self, true_or, or_true, List.set_nil, Int.reduceMod, Int.reduceDiv, Int.reducePow, Int.cast_ofNat_Int, Int.reduceEq, Int.reduceNe, Nat.reduceEqDiff, eq_self, false_and, and_false, Nat.zero_add, Int.zero_add, Int.add_zero, wipeE, fSetIx_ref, fIx_ref, bLen_ref, seqK_ref, itV_ref, live_ref, fSl_ref, fSetIx_ref e, show ixN 3 0 = some 0 from rfl]
    refine k _ _ (Int.emod_nonneg _ (by omega)) (Int.emod_lt_of_pos _ z0) ⟨a / z, s, c, set_ref e, Int.ediv_nonneg a0 (by omega), s0, s1, c0, by omega⟩ (Frm.set _) (by simp)
  · simp only [wpR_run, wpS_nil, wpS_seq, wpS_ret, wpS_retN, wpS_expr, wpS_set, wpS_if, wpS_brk, wpS_cnt, wpS_aug, wpS_par, wpS_asg, wpS_tdN, wpS_tdSub, wpS_tdT, wpS_runT0, wpS_runT, wpS_for, onlyN_nx, run_nm, run_tp, setN_nil, setN_cons, asV_v, bindO_s, wgo_go, wIf_t, wIf_f, wNd_t, wpR_ok, wpR_ex, wpR_bind, bind_ok, wpR_ite, wpR_oR, wOpt_s, numP_v, numP_n, numK_v, numK_n, dVar_0, dVar_s, dC_ap, dOp_ap, dU_ap, dB_ap, aNil_ap, aCons_ap, vNil_ap, vCons_ap, dTup_ap, dLst_ap, asBool_v, dT_ap, brR_t, brR_f, wpR_br, dIf_ap, bAnd_ap, bOr_ap, bNot_ap, dAnd_ap, dOr_ap, dNot_ap, dCh_ap, dCall_ap, wpR_call0, wpR_call1, wpR_call2, wpR_call3, wpR_call4, wpR_call5, wpR_call6, fAdd_ii, fAdd_ss, fAddI_ii, fAddI_ss, fSub_ii, fMul_ii, fMod_ii, fFdiv_ii, fNeg_i, fLt_ii, fLe_ii, fGt_ii, fGe_ii, fEq_ii, fNe_ii, fEq_ss, fNe_ss, fEq_bb, fNe_bb, bAbs_i, bInt_i, bInt_b, bMax_ii, bMin_ii, bDivmod_ii, seqK_n, seqK_tp, seqK_fl, bLen_tp, bLen_fl, bLen_n, bLen_s, bList_q, bTuple_q, optR_s, fIx_tp, fIx_fl, fIx_n, fIx_s, oNone_ap, asInt_i, oSome_ap, dSl_ap, fSl_tp, fSl_fl, fSl_n, fSl_s, atI_0, atI_1, atI_2, atI_3, wpR_comp, tYesB_ap, diV_ap, itV_tp, itV_fl, itV_n, itV_s, live_tp, live_fl, live_n, diR1_ap, diR2_ap, diE_ap, Kf_nx, Kf_rt, Kf_ex, Kin_nx, Kin_ct, Kin_bk, Kin_rt, Kin_ex, isTp, List.set_cons_succ, List.set_cons_zero, List.map_cons, List.map_nil, List.cons_append, List.nil_append, List.length_cons, List.length_nil, List.replicate_succ, List.replicate_zero, List.append_nil, Nat.reduceSub, Nat.reduceAdd, Nat.reduceMul, Int.reduceAdd, Int.reduceSub, Int.reduceMul, Int.reduceNeg, Int.reduceLT, Int.reduceLE, Nat.reduceLeDiff, Nat.reduceLT, decide_true, decide_false, Int.reduceToNat, Bool.not_true, Bool.not_false, and_true, true_and, and_self, true_or, or_true, List.set_nil, Int.reduceMod, Int.reduceDiv, Int.reducePow, Int.cast_ofNat_Int, Int.reduceEq, Int.reduceNe, Nat.reduceEqDiff, eq_self, false_and, and_false, Nat.zero_add, Int.zero_add, Int.add_zero, wipeE, fSetIx_ref, fIx_ref, bLen_ref, seqK_ref, itV_ref, live_ref, fSl_ref, fIx_ref e, atI_2, fSetIx_ref e, show ixN 3 2 = some 2 from rfl]
    have e2 := set_ref (o' := .lst [.int a, .int s, .int (c + 1)]) e
    generalize hq : h.set b (.lst [.int a, .int s, .int (c + 1)]) = h2 at e2
    have fr : Frm b h h2 := hq ▸ Frm.set _
    have ln : h2.length = h.length := by rw [← hq]; simp
    (repeat (first | simp only [wpR_run, wpS_nil, wpS_seq, wpS_ret, wpS_retN, wpS_expr, wpS_set, wpS_if, wpS_brk, wpS_cnt, wpS_aug, wpS_par, wpS_asg, wpS_tdN, wpS_tdSub, wpS_tdT, wpS_runT0, wpS_runT, wpS_for, onlyN_nx, run_nm, run_tp, setN_nil, setN_cons, asV_v, bindO_s, wgo_go, wIf_t, wIf_f, wNd_t, wpR_ok, wpR_ex, wpR_bind, bind_ok, wpR_ite, wpR_oR, wOpt_s, numP_v, numP_n, numK_v, numK_n, dVar_0, dVar_s, dC_ap, dOp_ap, dU_ap, dB_ap, aNil_ap, aCons_ap, vNil_ap, vCons_ap, dTup_ap, dLst_ap, asBool_v, dT_ap, brR_t, brR_f, wpR_br, dIf_ap, bAnd_ap, bOr_ap, bNot_ap, dAnd_ap, dOr_ap, dNot_ap, dCh_ap, dCall_ap, wpR_call0, wpR_call1, wpR_call2, wpR_call3, wpR_call4, wpR_call5, wpR_call6, fAdd_ii, fAdd_ss, fAddI_ii, fAddI_ss, fSub_ii, fMul_ii, fMod_ii, fFdiv_ii, fNeg_i, fLt_ii, fLe_ii, fGt_ii, fGe_ii, fEq_ii, fNe_ii, fEq_ss, fNe_ss, fEq_bb, fNe_bb, bAbs_i, bInt_i, bInt_b, bMax_ii, bMin_ii, bDivmod_ii, seqK_n, seqK_tp, seqK_fl, bLen_tp, bLen_fl, bLen_n, bLen_s, bList_q, bTuple_q, optR_s, fIx_tp, fIx_fl, fIx_n, fIx_s, oNone_ap, asInt_i, oSome_ap, dSl_ap, fSl_tp, fSl_fl, fSl_n, fSl_s, atI_0, atI_1, atI_2, atI_3, wpR_comp, tYesB_ap, diV_ap, itV_tp, itV_fl, itV_n, itV_s, live_tp, live_fl, live_n, diR1_ap, diR2_ap, diE_ap, Kf_nx, Kf_rt, Kf_ex, Kin_nx, Kin_ct, Kin_bk, Kin_rt, Kin_ex, isTp, List.set_cons_succ, List.set_cons_zero, List.map_cons, List.map_nil, List.cons_append, List.nil_append, List.length_cons, List.length_nil, List.replicate_succ, List.replicate_zero, List.append_nil, Nat.reduceSub, Nat.reduceAdd, Nat.reduceMul, Int.reduceAdd, Int.reduceSub, Int.reduceMul, Int.reduceNeg, Int.reduceLT, Int.reduceLE, Nat.reduceLeDiff, Nat.reduceLT, decide_true, decide_false, Int.reduceToNat, Bool.not_true, Bool.not_false, and_true, true_and, and_self, true_or, or_true, List.set_nil, Int.reduceMod, Int.reduceDiv, Int.reducePow, Int.cast_ofNat_Int, Int.reduceEq, Int.reduceNe, Nat.reduceEqDiff, eq_self, false_and, and_false, Nat.zero_add, Int.zero_add, Int.add_zero, wipeE, fSetIx_ref, fIx_ref, bLen_ref, seqK_ref, itV_ref, live_ref, fSl_ref, fIx_ref e2, hq] | refine wNd_i (by omega) ?_))
    generalize hx : (s + 39373 * (c + 1)) * (69621 + (c + 1) * (c + 1)) % 2147483587 = x
    have x0 : 0 ≤ x := by rw [← hx]; exact Int.emod_nonneg _ (by decide)
    have x1 : x < 2147483587 := by rw [← hx]; exact Int.emod_lt_of_pos _ (by decide)
    (repeat (first | simp only [wpR_run, wpS_nil, wpS_seq, wpS_ret, wpS_retN, wpS_expr, wpS_set, wpS_if, wpS_brk, wpS_cnt, wpS_aug, wpS_par, wpS_asg, wpS_tdN, wpS_tdSub, wpS_tdT, wpS_runT0, wpS_runT, wpS_for, onlyN_nx, run_nm, run_tp, setN_nil, setN_cons, asV_v, bindO_s, wgo_go, wIf_t, wIf_f, wNd_t, wpR_ok, wpR_ex, wpR_bind, bind_ok, wpR_ite, wpR_oR, wOpt_s, numP_v, numP_n, numK_v, numK_n, dVar_0, dVar_s, dC_ap, dOp_ap, dU_ap, dB_ap, aNil_ap, aCons_ap, vNil_ap, vCons_ap, dTup_ap, dLst_ap, asBool_v, dT_ap, brR_t, brR_f, wpR_br, dIf_ap, bAnd_ap, bOr_ap, bNot_ap, dAnd_ap, dOr_ap, dNot_ap, dCh_ap, dCall_ap, wpR_call0, wpR_call1, wpR_call2, wpR_call3, wpR_call4, wpR_call5, wpR_call6, fAdd_ii, fAdd_ss, fAddI_ii, fAddI_ss, fSub_ii, fMul_ii, fMod_ii, fFdiv_ii, fNeg_i, fLt_ii, fLe_ii, fGt_ii, fGe_ii, fEq_ii, fNe_ii, fEq_ss, fNe_ss, fEq_bb, fNe_bb, bAbs_i, bInt_i, bInt_b, bMax_ii, bMin_ii, bDivmod_ii, seqK_n, seqK_tp, seqK_fl, bLen_tp, bLen_fl, bLen_n, bLen_s, bList_q, bTuple_q, optR_s, fIx_tp, fIx_fl, fIx_n, fIx_s, oNone_ap, asInt_i, oSome_ap, dSl_ap, fSl_tp, fSl_fl, fSl_n, fSl_s, atI_0, atI_1, atI_2, atI_3, wpR_comp, tYesB_ap, diV_ap, itV_tp, itV_fl, itV_n, itV_s, live_tp, live_fl, live_n, diR1_ap, diR2_ap, diE_ap, Kf_nx, Kf_rt, Kf_ex, Kin_nx, Kin_ct, Kin_bk, Kin_rt, Kin_ex, isTp, List.set_cons_succ, List.set_cons_zero, List.map_cons, List.map_nil, List.cons_append, List.nil_append, List.length_cons, List.length_nil, List.replicate_succ, List.replicate_zero, List.append_nil, Nat.reduceSub, Nat.reduceAdd, Nat.reduceMul, Int.reduceAdd, Int.reduceSub, Int.reduceMul, Int.reduceNeg, Int.reduceLT, Int.reduceLE, Nat.reduceLeDiff, Nat.reduceLT, decide_true, decide_false, Int.reduceToNat, Bool.not_true, Bool.not_false, and_true, true_and, and_self, true_or, or_true, List.set_nil, Int.reduceMod, Int.reduceDiv, Int.reducePow, Int.cast_ofNat_Int, Int.reduceEq, Int.reduceNe, Nat.reduceEqDiff, eq_self, false_and, and_false, Nat.zero_add, Int.zero_add, Int.add_zero, wipeE, fSetIx_ref, fIx_ref, bLen_ref, seqK_ref, itV_ref, live_ref, fSl_ref, fIx_ref e2] | refine wNd_i (by omega) ?_))
    generalize hy : (x * (x % 30011 + 5) + (c + 1)) % 2147483563 = y
    have y0 : 0 ≤ y := by rw [← hy]; exact Int.emod_nonneg _ (by decide)
    have y1 : y < 2147483563 := by rw [← hy]; exact Int.emod_lt_of_pos _ (by decide)
    (repeat (first | simp only [wpR_run, wpS_nil, wpS_seq, wpS_ret, wpS_retN, wpS_expr, wpS_set, wpS_if, wpS_brk, wpS_cnt, wpS_aug, wpS_par, wpS_asg, wpS_tdN, wpS_tdSub, wpS_tdT, wpS_runT0, wpS_runT, wpS_for, onlyN_nx, run_nm, run_tp, setN_nil, setN_cons, asV_v, bindO_s, wgo_go, wIf_t, wIf_f, wNd_t, wpR_ok, wpR_ex, wpR_bind, bind_ok, wpR_ite, wpR_oR, wOpt_s, numP_v, numP_n, numK_v, numK_n, dVar_0, dVar_s, dC_ap, dOp_ap, dU_ap, dB_ap, aNil_ap, aCons_ap, vNil_ap, vCons_ap, dTup_ap, dLst_ap, asBool_v, dT_ap, brR_t, brR_f, wpR_br, dIf_ap, bAnd_ap, bOr_ap, bNot_ap, dAnd_ap, dOr_ap, dNot_ap, dCh_ap, dCall_ap, wpR_call0, wpR_call1, wpR_call2, wpR_call3, wpR_call4, wpR_call5, wpR_call6, fAdd_ii, fAdd_ss, fAddI_ii, fAddI_ss, fSub_ii, fMul_ii, fMod_ii, fFdiv_ii, fNeg_i, fLt_ii, fLe_ii, fGt_ii, fGe_ii, fEq_ii, fNe_ii, fEq_ss, fNe_ss, fEq_bb, fNe_bb, bAbs_i, bInt_i, bInt_b, bMax_ii, bMin_ii, bDivmod_ii, seqK_n, seqK_tp, seqK_fl, bLen_tp, bLen_fl, bLen_n, bLen_s, bList_q, bTuple_q, optR_s, fIx_tp, fIx_fl, fIx_n, fIx_s, oNone_ap, asInt_i, oSome_ap, dSl_ap, fSl_tp, fSl_fl, fSl_n, fSl_s, atI_0, atI_1, atI_2, atI_3, wpR_comp, tYesB_ap, diV_ap, itV_tp, itV_fl, itV_n, itV_s, live_tp, live_fl, live_n, diR1_ap, diR2_ap, diE_ap, Kf_nx, Kf_rt, Kf_ex, Kin_nx, Kin_ct, Kin_bk, Kin_rt, Kin_ex, isTp, List.set_cons_succ, List.set_cons_zero, List.map_cons, List.map_nil, List.cons_append, List.nil_append, List.length_cons, List.length_nil, List.replicate_succ, List.replicate_zero, List.append_nil, Nat.reduceSub, Nat.reduceAdd, Nat.reduceMul, Int.reduceAdd, Int.reduceSub, Int.reduceMul, Int.reduceNeg, Int.reduceLT, Int.reduceLE, Nat.reduceLeDiff, Nat.reduceLT, decide_true, decide_false, Int.reduceToNat, Bool.not_true, Bool.not_false, and_true, true_and, and_self, true_or, or_true, List.set_nil, Int.reduceMod, Int.reduceDiv, Int.reducePow, Int.cast_ofNat_Int, Int.reduceEq, Int.reduceNe, Nat.reduceEqDiff, eq_self, false_and, and_false, Nat.zero_add, Int.zero_add, Int.add_zero, wipeE, fSetIx_ref, fIx_ref, bLen_ref, seqK_ref, itV_ref, live_ref, fSl_ref] | refine wNd_i (by omega) ?_))
    exact k _ _ (Int.emod_nonneg _ (by omega)) (Int.emod_lt_of_pos _ z0) ⟨a, s, c + 1, e2, a0, s0, s1, by omega, by omega⟩ fr ln
theorem box_ok {h : MH} {r : Nat} {cs : List Int} {z : Int} {P : Val → MH → Prop} {X : XP} (e : h[r]? = some (.lst (cs.map Val.int))) (z0 : 0 ≤ z)
    (k : ∀ o, Bx (h ++ [o]) h.length 0 → P (.ref h.length) (h ++ [o])) : @wpR _ (f_l_box [.ref r, .int z] h) ⟨P⟩ ⟨X⟩ := by
  have last : ∀ c : Int, P (.ref h.length) (h ++ [.lst [.int ((if c < 0 then -c else c) * (if decide (1000000000000000000 ≤ (if c < 0 then -c else c)) then 1 else 0)), .int ((c % 2147483629 + 15485863 * z + 37) * 48271 % 2147483647), .int 0]]) := fun c =>
    k _ ⟨_, _, _, new_ref _ _, Int.mul_nonneg (by split <;> omega) (by split <;> omega), Int.emod_nonneg _ (by decide), Int.emod_lt_of_pos _ (by decide), by omega, by omega⟩
  unfold f_l_box b_l_box
  simp only [wpR_run, wpS_nil, wpS_seq, wpS_ret, wpS_retN, wpS_expr, wpS_set, wpS_if, wpS_brk, wpS_cnt, wpS_aug, wpS_par, wpS_asg, wpS_tdN, wpS_tdSub, wpS_tdT, wpS_runT0, wpS_runT, wpS_for, onlyN_nx, run_nm, run_tp, setN_nil, setN_cons, asV_v, bindO_s, wgo_go, wIf_t, wIf_f, wNd_t, wpR_ok, wpR_ex, wpR_bind, bind_ok, wpR_ite, wpR_oR, wOpt_s, numP_v, numP_n, numK_v, numK_n, dVar_0, dVar_s, dC_ap, dOp_ap, dU_ap, dB_ap, aNil_ap, aCons_ap, vNil_ap, vCons_ap, dTup_ap, dLst_ap, asBool_v, dT_ap, brR_t, brR_f, wpR_br, dIf_ap, bAnd_ap, bOr_ap, bNot_ap, dAnd_ap, dOr_ap, dNot_ap, dCh_ap, dCall_ap, wpR_call0, wpR_call1, wpR_call2, wpR_call3, wpR_call4, wpR_call5, wpR_call6, fAdd_ii, fAdd_ss, fAddI_ii, fAddI_ss, fSub_ii, fMul_ii, fMod_ii, fFdiv_ii, fNeg_i, fLt_ii, fLe_ii, fGt_ii, fGe_ii, fEq_ii, fNe_ii, fEq_ss, fNe_ss, fEq_bb, fNe_bb, bAbs_i, bInt_i, bInt_b, bMax_ii, bMin_ii, bDivmod_ii, seqK_n, seqK_tp, seqK_fl, bLen_tp, bLen_fl, bLen_n, bLen_s, bList_q, bTuple_q, optR_s, fIx_tp, fIx_fl, fIx_n, fIx_s, oNone_ap, asInt_i, oSome_ap, dSl_ap, fSl_tp, fSl_fl, fSl_n, fSl_s, atI_0, atI_1, atI_2, atI_3, wpR_comp, tYesB_ap, diV_ap, itV_tp, itV_fl, itV_n, itV_s, live_tp, live_fl, live_n, diR1_ap, diR2_ap, diE_ap, Kf_nx, Kf_rt, Kf_ex, Kin_nx, Kin_ct, Kin_bk, Kin_rt, Kin_ex, isTp, List.set_cons_succ, List.set_cons_zero, List.map_cons, List.map_nil, List.cons_append, List.nil_append, List.length_cons, List.length_nil, List.replicate_succ, List.replicate_zero, List.append_nil, Nat.reduceSub, Nat.reduceAdd, Nat.reduceMul, Int.reduceAdd, Int.reduceSub, Int.reduceMul, Int.reduceNeg, Int.reduceLT, Int.reduceLE, Nat.reduceLeDiff, Nat.reduceLT, decide_true, decide_false, Int.reduceToNat, Bool.not_true, Bool.not_false, and_true, true_and, and_self, true_or, or_true, List.set_nil, Int.reduceMod, Int.reduceDiv, Int.reducePow, Int.cast_ofNat_Int, Int.reduceEq, Int.reduceNe, Nat.reduceEqDiff, eq_self, false_and, and_false, Nat.zero_add, Int.zero_add, Int.add_zero, wipeE, fSetIx_ref, fIx_ref, bLen_ref, seqK_ref, itV_ref, live_ref, fSl_ref, bLen_ref e]
  refine wIf_d (fun hz => ?_) fun hz => ?_
  · obtain ⟨x, e1, e2, e3⟩ := atI_lt z0 hz
    obtain ⟨c, _, rfl⟩ := List.mem_map.mp e3
    simp only [wpR_run, wpS_nil, wpS_seq, wpS_ret, wpS_retN, wpS_expr, wpS_set, wpS_if, wpS_brk, wpS_cnt, wpS_aug, wpS_par, wpS_asg, wpS_tdN, wpS_tdSub, wpS_tdT, wpS_runT0, wpS_runT, wpS_for, onlyN_nx, run_nm, run_tp, setN_nil, setN_cons, asV_v, bindO_s, wgo_go, wIf_t, wIf_f, wNd_t, wpR_ok, wpR_ex, wpR_bind, bind_ok, wpR_ite, wpR_oR, wOpt_s, numP_v, numP_n, numK_v, numK_n, dVar_0, dVar_s, dC_ap, dOp_ap, dU_ap, dB_ap, aNil_ap, aCons_ap, vNil_ap, vCons_ap, dTup_ap, dLst_ap, asBool_v, dT_ap, brR_t, brR_f, wpR_br, dIf_ap, bAnd_ap, bOr_ap, bNot_ap, dAnd_ap, dOr_ap, dNot_ap, dCh_ap, dCall_ap, wpR_call0, wpR_call1, wpR_call2, wpR_call3, wpR_call4, wpR_call5, wpR_call6, fAdd_ii, fAdd_ss, fAddI_ii, fAddI_ss, fSub_ii, fMul_ii, fMod_ii, fFdiv_ii, fNeg_i, fLt_ii, fLe_ii, fGt_ii, fGe_ii, fEq_ii, fNe_ii, fEq_ss, fNe_ss, fEq_bb, fNe_bb, bAbs_i, bInt_i, bInt_b, bMax_ii, bMin_ii, bDivmod_ii, seqK_n, seqK_tp, seqK_fl, bLen_tp, bLen_fl, bLen_n, bLen_s, bList_q, bTuple_q, optR_s, fIx_tp, fIx_fl, fIx_n, fIx_s, oNone_ap, asInt_i, oSome_ap, dSl_ap, fSl_tp, fSl_fl, fSl_n, fSl_s, atI_0, atI_1, atI_2, atI_3, wpR_comp, tYesB_ap, diV_ap, itV_tp, itV_fl, itV_n, itV_s, live_tp, live_fl, live_n, diR1_ap, diR2_ap, diE_ap, Kf_nx, Kf_rt, Kf_ex, Kin_nx, Kin_ct, Kin_bk, Kin_rt, Kin_ex, isTp, List.set_cons_succ, List.set_cons_zero, List.map_cons, List.map_nil, List.cons_append, List.nil_append, List.length_cons, List.length_nil, List.replicate_succ, List.replicate_zero, List.append_nil, Nat.reduceSub, Nat.reduceAdd, Nat.reduceMul, Int.reduceAdd, Int.reduceSub, Int.reduceMul, Int.reduceNeg, Int.reduceLT, Int.reduceLE, Nat.reduceLeDiff, Nat.reduceLT, decide_true, decide_false, Int.reduceToNat, Bool.not_true, Bool.not_false, and_true, true_and, and_self, true_or, or_true, List.set_nil, Int.reduceMod, Int.reduceDiv, Int.reducePow, Int.cast_ofNat_Int, Int.reduceEq, Int.reduceNe, Nat.reduceEqDiff, eq_self, false_and, and_false, Nat.zero_add, Int.zero_add, Int.add_zero, wipeE, fSetIx_ref, fIx_ref, bLen_ref, seqK_ref, itV_ref, live_ref, fSl_ref, fIx_ref e, e1]
    refine wNd_i (by right; split <;> omega) ?_
    (repeat (first | simp only [wpR_run, wpS_nil, wpS_seq, wpS_ret, wpS_retN, wpS_expr, wpS_set, wpS_if, wpS_brk, wpS_cnt, wpS_aug, wpS_par, wpS_asg, wpS_tdN, wpS_tdSub, wpS_tdT, wpS_runT0, wpS_runT, wpS_for, onlyN_nx, run_nm, run_tp, setN_nil, setN_cons, asV_v, bindO_s, wgo_go, wIf_t, wIf_f, wNd_t, wpR_ok, wpR_ex, wpR_bind, bind_ok, wpR_ite, wpR_oR, wOpt_s, numP_v, numP_n, numK_v, numK_n, dVar_0, dVar_s, dC_ap, dOp_ap, dU_ap, dB_ap, aNil_ap, aCons_ap, vNil_ap, vCons_ap, dTup_ap, dLst_ap, asBool_v, dT_ap, brR_t, brR_f, wpR_br, dIf_ap, bAnd_ap, bOr_ap, bNot_ap, dAnd_ap, dOr_ap, dNot_ap, dCh_ap, dCall_ap, wpR_call0, wpR_call1, wpR_call2, wpR_call3, wpR_call4, wpR_call5, wpR_call6, fAdd_ii, fAdd_ss, fAddI_ii, fAddI_ss, fSub_ii, fMul_ii, fMod_ii, fFdiv_ii, fNeg_i, fLt_ii, fLe_ii, fGt_ii, fGe_ii, fEq_ii, fNe_ii, fEq_ss, fNe_ss, fEq_bb, fNe_bb, bAbs_i, bInt_i, bInt_b, bMax_ii, bMin_ii, bDivmod_ii, seqK_n, seqK_tp, seqK_fl, bLen_tp, bLen_fl, bLen_n, bLen_s, bList_q, bTuple_q, optR_s, fIx_tp, fIx_fl, fIx_n, fIx_s, oNone_ap, asInt_i, oSome_ap, dSl_ap, fSl_tp, fSl_fl, fSl_n, fSl_s, atI_0, atI_1, atI_2, atI_3, wpR_comp, tYesB_ap, diV_ap, itV_tp, itV_fl, itV_n, itV_s, live_tp, live_fl, live_n, diR1_ap, diR2_ap, diE_ap, Kf_nx, Kf_rt, Kf_ex, Kin_nx, Kin_ct, Kin_bk, Kin_rt, Kin_ex, isTp, List.set_cons_succ, List.set_cons_zero, List.map_cons, List.map_nil, List.cons_append, List.nil_append, List.length_cons, List.length_nil, List.replicate_succ, List.replicate_zero, List.append_nil, Nat.reduceSub, Nat.reduceAdd, Nat.reduceMul, Int.reduceAdd, Int.reduceSub, Int.reduceMul, Int.reduceNeg, Int.reduceLT, Int.reduceLE, Nat.reduceLeDiff, Nat.reduceLT, decide_true, decide_false, Int.reduceToNat, Bool.not_true, Bool.not_false, and_true, true_and, and_self, true_or, or_true, List.set_nil, Int.reduceMod, Int.reduceDiv, Int.reducePow, Int.cast_ofNat_Int, Int.reduceEq, Int.reduceNe, Nat.reduceEqDiff, eq_self, false_and, and_false, Nat.zero_add, Int.zero_add, Int.add_zero, wipeE, fSetIx_ref, fIx_ref, bLen_ref, seqK_ref, itV_ref, live_ref, fSl_ref] | refine wNd_i (by omega) ?_))
    exact last c
  · simp only [wpR_run, wpS_nil, wpS_seq, wpS_ret, wpS_retN, wpS_expr, wpS_set, wpS_if, wpS_brk, wpS_cnt, wpS_aug, wpS_par, wpS_asg, wpS_tdN, wpS_tdSub, wpS_tdT, wpS_runT0, wpS_runT, wpS_for, onlyN_nx, run_nm, run_tp, setN_nil, setN_cons, asV_v, bindO_s, wgo_go, wIf_t, wIf_f, wNd_t, wpR_ok, wpR_ex, wpR_bind, bind_ok, wpR_ite, wpR_oR, wOpt_s, numP_v, numP_n, numK_v, numK_n, dVar_0, dVar_s, dC_ap, dOp_ap, dU_ap, dB_ap, aNil_ap, aCons_ap, vNil_ap, vCons_ap, dTup_ap, dLst_ap, asBool_v, dT_ap, brR_t, brR_f, wpR_br, dIf_ap, bAnd_ap, bOr_ap, bNot_ap, dAnd_ap, dOr_ap, dNot_ap, dCh_ap, dCall_ap, wpR_call0, wpR_call1, wpR_call2, wpR_call3, wpR_call4, wpR_call5, wpR_call6, fAdd_ii, fAdd_ss, fAddI_ii, fAddI_ss, fSub_ii, fMul_ii, fMod_ii, fFdiv_ii, fNeg_i, fLt_ii, fLe_ii, fGt_ii, fGe_ii, fEq_ii, fNe_ii, fEq_ss, fNe_ss, fEq_bb, fNe_bb, bAbs_i, bInt_i, bInt_b, bMax_ii, bMin_ii, bDivmod_ii, seqK_n, seqK_tp, seqK_fl, bLen_tp, bLen_fl, bLen_n, bLen_s, bList_q, bTuple_q, optR_s, fIx_tp, fIx_fl, fIx_n, fIx_s, oNone_ap, asInt_i, oSome_ap, dSl_ap, fSl_tp, fSl_fl, fSl_n, fSl_s, atI_0, atI_1, atI_2, atI_3, wpR_comp, tYesB_ap, diV_ap, itV_tp, itV_fl, itV_n, itV_s, live_tp, live_fl, live_n, diR1_ap, diR2_ap, diE_ap, Kf_nx, Kf_rt, Kf_ex, Kin_nx, Kin_ct, Kin_bk, Kin_rt, Kin_ex, isTp, List.set_cons_succ, List.set_cons_zero, List.map_cons, List.map_nil, List.cons_append, List.nil_append, List.length_cons, List.length_nil, List.replicate_succ, List.replicate_zero, List.append_nil, Nat.reduceSub, Nat.reduceAdd, Nat.reduceMul, Int.reduceAdd, Int.reduceSub, Int.reduceMul, Int.reduceNeg, Int.reduceLT, Int.reduceLE, Nat.reduceLeDiff, Nat.reduceLT, decide_true, decide_false, Int.reduceToNat, Bool.not_true, Bool.not_false, and_true, true_and, and_self, true_or, or_true, List.set_nil, Int.reduceMod, Int.reduceDiv, Int.reducePow, Int.cast_ofNat_Int, Int.reduceEq, Int.reduceNe, Nat.reduceEqDiff, eq_self, false_and, and_false, Nat.zero_add, Int.zero_add, Int.add_zero, wipeE, fSetIx_ref, fIx_ref, bLen_ref, seqK_ref, itV_ref, live_ref, fSl_ref]
    refine wNd_i (by omega) ?_
    (repeat (first | simp only [wpR_run, wpS_nil, wpS_seq, wpS_ret, wpS_retN, wpS_expr, wpS_set, wpS_if, wpS_brk, wpS_cnt, wpS_aug, wpS_par, wpS_asg, wpS_tdN, wpS_tdSub, wpS_tdT, wpS_runT0, wpS_runT, wpS_for, onlyN_nx, run_nm, run_tp, setN_nil, setN_cons, asV_v, bindO_s, wgo_go, wIf_t, wIf_f, wNd_t, wpR_ok, wpR_ex, wpR_bind, bind_ok, wpR_ite, wpR_oR, wOpt_s, numP_v, numP_n, numK_v, numK_n, dVar_0, dVar_s, dC_ap, dOp_ap, dU_ap, dB_ap, aNil_ap, aCons_ap, vNil_ap, vCons_ap, dTup_ap, dLst_ap, asBool_v, dT_ap, brR_t, brR_f, wpR_br, dIf_ap, bAnd_ap, bOr_ap, bNot_ap, dAnd_ap, dOr_ap, dNot_ap, dCh_ap, dCall_ap, wpR_call0, wpR_call1, wpR_call2, wpR_call3, wpR_call4, wpR_call5, wpR_call6, fAdd_ii, fAdd_ss, fAddI_ii, fAddI_ss, fSub_ii, fMul_ii, fMod_ii, fFdiv_ii, fNeg_i, fLt_ii, fLe_ii, fGt_ii, fGe_ii, fEq_ii, fNe_ii, fEq_ss, fNe_ss, fEq_bb, fNe_bb, bAbs_i, bInt_i, bInt_b, bMax_ii, bMin_ii, bDivmod_ii, seqK_n, seqK_tp, seqK_fl, bLen_tp, bLen_fl, bLen_n, bLen_s, bList_q, bTuple_q, optR_s, fIx_tp, fIx_fl, fIx_n, fIx_s, oNone_ap, asInt_i, oSome_ap, dSl_ap, fSl_tp, fSl_fl, fSl_n, fSl_s, atI_0, atI_1, atI_2, atI_3, wpR_comp, tYesB_ap, diV_ap, itV_tp, itV_fl, itV_n, itV_s, live_tp, live_fl, live_n, diR1_ap, diR2_ap, diE_ap, Kf_nx, Kf_rt, Kf_ex, Kin_nx, Kin_ct, Kin_bk, Kin_rt, Kin_ex, isTp, List.set_cons_succ, List.set_cons_zero, List.map_cons, List.map_nil, List.cons_append, List.nil_append, List.length_cons, List.length_nil, List.replicate_succ, List.replicate_zero, List.append_nil, Nat.reduceSub, Nat.reduceAdd, Nat.reduceMul, Int.reduceAdd, Int.reduceSub, Int.reduceMul, Int.reduceNeg, Int.reduceLT, Int.reduceLE, Nat.reduceLeDiff, Nat.reduceLT, decide_true, decide_false, Int.reduceToNat, Bool.not_true, Bool.not_false, and_true, true_and, and_self, true_or, or_true, List.set_nil, Int.reduceMod, Int.reduceDiv, Int.reducePow, Int.cast_ofNat_Int, Int.reduceEq, Int.reduceNe, Nat.reduceEqDiff, eq_self, false_and, and_false, Nat.zero_add, Int.zero_add, Int.add_zero, wipeE, fSetIx_ref, fIx_ref, bLen_ref, seqK_ref, itV_ref, live_ref, fSl_ref] | refine wNd_i (by omega) ?_))
    simpa using last 0
theorem cutL_map {α β : Type} (f : α → β) (xs : List α) (lo hi : Option Int) : cutL (xs.map f) lo hi = (cutL xs lo hi).map f := by
  simp [cutL, List.map_drop, List.map_take]
theorem cutL_to {α : Type} (xs : List α) (k : Nat) : cutL xs none (some (k : Int)) = xs.take k := by
  simp only [cutL, HT.sIx_none, HT.sIx_nat, List.drop_zero, Nat.sub_zero]
  rcases Nat.le_total k xs.length with l | l
  · rw [Nat.min_eq_left l]
  · rw [Nat.min_eq_right l, List.take_of_length_le (Nat.le_refl _), List.take_of_length_le l]
theorem cutL_mid {α : Type} (xs : List α) (k m : Nat) : ∃ n, cutL xs (some (k : Int)) (some (m : Int)) = (xs.drop k).take n := by
  simp only [cutL, HT.sIx_nat]
  rcases Nat.le_total k xs.length with l | l
  · rw [Nat.min_eq_left l]; exact ⟨_, rfl⟩
  · refine ⟨0, ?_⟩
    rw [Nat.min_eq_right l]; simp
theorem enumF_cons (j : Nat) (x : Val) (xs : List Val) : enumF j (x :: xs) = .tup [.int j, x] :: enumF (j + 1) xs := rfl
theorem folded_ok {h : MH} {ns : List Int} {k : Nat} {P : Val → MH → Prop} {X : XP} (hl : ns.length ≤ 63) (k0 : 0 < k) (k1 : k ≤ 63)
    (go : ∀ cs : List Int, cs.length ≤ k → P (.ref h.length) (h ++ [.lst (cs.map Val.int)])) : @wpR _ (f_l_folded [.fl (ns.map Val.int), .int k] h) ⟨P⟩ ⟨X⟩ := by
  unfold f_l_folded b_l_folded
  simp only [wpR_run, wpS_nil, wpS_seq, wpS_ret, wpS_retN, wpS_expr, wpS_set, wpS_if, wpS_brk, wpS_cnt, wpS_aug, wpS_par, wpS_asg, wpS_tdN, wpS_tdSub, wpS_tdT, wpS_runT0, wpS_runT, wpS_for, onlyN_nx, run_nm, run_tp, setN_nil, setN_cons, asV_v, bindO_s, wgo_go, wIf_t, wIf_f, wNd_t, wpR_ok, wpR_ex, wpR_bind, bind_ok, wpR_ite, wpR_oR, wOpt_s, numP_v, numP_n, numK_v, numK_n, dVar_0, dVar_s, dC_ap, dOp_ap, dU_ap, dB_ap, aNil_ap, aCons_ap, vNil_ap, vCons_ap, dTup_ap, dLst_ap, asBool_v, dT_ap, brR_t, brR_f, wpR_br, dIf_ap, bAnd_ap, bOr_ap, bNot_ap, dAnd_ap, dOr_ap, dNot_ap, dCh_ap, dCall_ap, wpR_call0, wpR_call1, wpR_call2, wpR_call3, wpR_call4, wpR_call5, wpR_call6, fAdd_ii, fAdd_ss, fAddI_ii, fAddI_ss, fSub_ii, fMul_ii, fMod_ii, fFdiv_ii, fNeg_i, fLt_ii, fLe_ii, fGt_ii, fGe_ii, fEq_ii, fNe_ii, fEq_ss, fNe_ss, fEq_bb, fNe_bb, bAbs_i, bInt_i, bInt_b, bMax_ii, bMin_ii, bDivmod_ii, seqK_n, seqK_tp, seqK_fl, bLen_tp, bLen_fl, bLen_n, bLen_s, bList_q, bTuple_q, optR_s, fIx_tp, fIx_fl, fIx_n, fIx_s, oNone_ap, asInt_i, oSome_ap, dSl_ap, fSl_tp, fSl_fl, fSl_n, fSl_s, atI_0, atI_1, atI_2, atI_3, wpR_comp, tYesB_ap, diV_ap, itV_tp, itV_fl, itV_n, itV_s, live_tp, live_fl, live_n, diR1_ap, diR2_ap, diE_ap, Kf_nx, Kf_rt, Kf_ex, Kin_nx, Kin_ct, Kin_bk, Kin_rt, Kin_ex, isTp, List.set_cons_succ, List.set_cons_zero, List.map_cons, List.map_nil, List.cons_append, List.nil_append, List.length_cons, List.length_nil, List.replicate_succ, List.replicate_zero, List.append_nil, Nat.reduceSub, Nat.reduceAdd, Nat.reduceMul, Int.reduceAdd, Int.reduceSub, Int.reduceMul, Int.reduceNeg, Int.reduceLT, Int.reduceLE, Nat.reduceLeDiff, Nat.reduceLT, decide_true, decide_false, Int.reduceToNat, Bool.not_true, Bool.not_false, and_true, true_and, and_self, true_or, or_true, List.set_nil, Int.reduceMod, Int.reduceDiv, Int.reducePow, Int.cast_ofNat_Int, Int.reduceEq, Int.reduceNe, Nat.reduceEqDiff, eq_self, false_and, and_false, Nat.zero_add, Int.zero_add, Int.add_zero, wipeE, fSetIx_ref, fIx_ref, bLen_ref, seqK_ref, itV_ref, live_ref, fSl_ref, cutL_map, cutL_to]
  obtain ⟨n, en⟩ := cutL_mid ns k 63
  have en : cutL ns (some (k : Int)) (some 63) = (ns.drop k).take n := en
  rw [en]
  have rl : ((ns.drop k).take n).length ≤ 63 := by simp; omega
  have rk : (ns.drop k).take n ≠ [] → (ns.take k).length = k := fun z => by
    have : ns.drop k ≠ [] := fun q => z (by rw [q]; simp)
    have : 0 < (ns.drop k).length := List.length_pos_iff.mpr this
    simp at this ⊢; omega
  generalize (ns.drop k).take n = rest at rl rk
  have ck : (ns.take k).length ≤ k := by simp; omega
  rw [← List.map_take]
  generalize ns.take k = cs0 at rk ck
  refine wpS_forL (fun xs ρ h' => ∃ (j : Nat) (rest cs : List Int) (u v : Option Val), xs = enumF j (rest.map Val.int) ∧ j + rest.length ≤ 63 ∧ (rest ≠ [] → cs.length = k) ∧ cs.length ≤ k ∧ ρ = [some (.fl (ns.map Val.int)), some (.int k), some (.ref h.length), u, v] ∧ h' = h ++ [.lst (cs.map Val.int)]) _ _ _ ⟨0, rest, cs0, none, none, rfl, by omega, rk, ck, rfl, rfl⟩ ?_ ?_
  · rintro x xs ρ h' ⟨j, rest, cs, u, v, ex, jl, rk, ck, rfl, rfl⟩
    refine ⟨rfl, ?_⟩
    cases rest with
    | nil => cases ex
    | cons y ys =>
      rw [List.map_cons, enumF_cons] at ex
      obtain ⟨rfl, rfl⟩ := List.cons.inj ex
      have e := new_ref h (.lst (cs.map Val.int))
      have lk : cs.length = k := rk (by simp)
      have m0 : 0 ≤ (j : Int) % (k : Int) := Int.emod_nonneg _ (by omega)
      have m1 : (j : Int) % (k : Int) < k := Int.emod_lt_of_pos _ (by omega)
      obtain ⟨x, e1, e2, e3⟩ := atI_lt (xs := cs.map Val.int) m0 (by simp [lk]; omega)
      obtain ⟨c, _, rfl⟩ := List.mem_map.mp e3
      have ei : ixN (cs.map Val.int).length ((j : Int) % (k : Int)) = some ((j : Int) % (k : Int)).toNat := ixN_ok m0 (by simp [lk]; omega)
      simp only [List.length_cons] at jl
      (repeat (first | simp only [wpR_run, wpS_nil, wpS_seq, wpS_ret, wpS_retN, wpS_expr, wpS_set, wpS_if, wpS_brk, wpS_cnt, wpS_aug, wpS_par, wpS_asg, wpS_tdN, wpS_tdSub, wpS_tdT, wpS_runT0, wpS_runT, wpS_for, onlyN_nx, run_nm, run_tp, setN_nil, setN_cons, asV_v, bindO_s, wgo_go, wIf_t, wIf_f, wNd_t, wpR_ok, wpR_ex, wpR_bind, bind_ok, wpR_ite, wpR_oR, wOpt_s, numP_v, numP_n, numK_v, numK_n, dVar_0, dVar_s, dC_ap, dOp_ap, dU_ap, dB_ap, aNil_ap, aCons_ap, vNil_ap, vCons_ap, dTup_ap, dLst_ap, asBool_v, dT_ap, brR_t, brR_f, wpR_br, dIf_ap, bAnd_ap, bOr_ap, bNot_ap, dAnd_ap, dOr_ap, dNot_ap, dCh_ap, dCall_ap, wpR_call0, wpR_call1, wpR_call2, wpR_call3, wpR_call4, wpR_call5, wpR_call6, fAdd_ii, fAdd_ss, fAddI_ii, fAddI_ss, fSub_ii, fMul_ii, fMod_ii, fFdiv_ii, fNeg_i, fLt_ii, fLe_ii, fGt_ii, fGe_ii, fEq_ii, fNe_ii, fEq_ss, fNe_ss, fEq_bb, fNe_bb, bAbs_i, bInt_i, bInt_b, bMax_ii, bMin_ii, bDivmod_ii, seqK_n, seqK_tp, seqK_fl, bLen_tp, bLen_fl, bLen_n, bLen_s, bList_q, bTuple_q, optR_s, fIx_tp, fIx_fl, fIx_n, fIx_s, oNone_ap, asInt_i, oSome_ap, dSl_ap, fSl_tp, fSl_fl, fSl_n, fSl_s, atI_0, atI_1, atI_2, atI_3, wpR_comp, tYesB_ap, diV_ap, itV_tp, itV_fl, itV_n, itV_s, live_tp, live_fl, live_n, diR1_ap, diR2_ap, diE_ap, Kf_nx, Kf_rt, Kf_ex, Kin_nx, Kin_ct, Kin_bk, Kin_rt, Kin_ex, isTp, List.set_cons_succ, List.set_cons_zero, List.map_cons, List.map_nil, List.cons_append, List.nil_append, List.length_cons, List.length_nil, List.replicate_succ, List.replicate_zero, List.append_nil, Nat.reduceSub, Nat.reduceAdd, Nat.reduceMul, Int.reduceAdd, Int.reduceSub, Int.reduceMul, Int.reduceNeg, Int.reduceLT, Int.reduceLE, Nat.reduceLeDiff, Nat.reduceLT, decide_true, decide_false, Int.reduceToNat, Bool.not_true, Bool.not_false, and_true, true_and, and_self, true_or, or_true, List.set_nil, Int.reduceMod, Int.reduceDiv, Int.reducePow, Int.cast_ofNat_Int, Int.reduceEq, Int.reduceNe, Nat.reduceEqDiff, eq_self, false_and, and_false, Nat.zero_add, Int.zero_add, Int.add_zero, wipeE, fSetIx_ref, fIx_ref, bLen_ref, seqK_ref, itV_ref, live_ref, fSl_ref, fIx_ref e, e1, fSetIx_ref e, ei] | refine wNd_i (by omega) ?_))
      refine ⟨j + 1, ys, cs.set ((j : Int) % (k : Int)).toNat (c + y * (j + 2)), _, _, rfl, by omega, fun _ => by simpa using lk, by simpa using ck, rfl, ?_⟩
      simp [List.map_set]
  · rintro ρ h' ⟨j, rest, cs, u, v, ex, jl, rk, ck, rfl, rfl⟩
    refine ⟨rfl, ?_⟩
    simp only [wpR_run, wpS_nil, wpS_seq, wpS_ret, wpS_retN, wpS_expr, wpS_set, wpS_if, wpS_brk, wpS_cnt, wpS_aug, wpS_par, wpS_asg, wpS_tdN, wpS_tdSub, wpS_tdT, wpS_runT0, wpS_runT, wpS_for, onlyN_nx, run_nm, run_tp, setN_nil, setN_cons, asV_v, bindO_s, wgo_go, wIf_t, wIf_f, wNd_t, wpR_ok, wpR_ex, wpR_bind, bind_ok, wpR_ite, wpR_oR, wOpt_s, numP_v, numP_n, numK_v, numK_n, dVar_0, dVar_s, dC_ap, dOp_ap, dU_ap, dB_ap, aNil_ap, aCons_ap, vNil_ap, vCons_ap, dTup_ap, dLst_ap, asBool_v, dT_ap, brR_t, brR_f, wpR_br, dIf_ap, bAnd_ap, bOr_ap, bNot_ap, dAnd_ap, dOr_ap, dNot_ap, dCh_ap, dCall_ap, wpR_call0, wpR_call1, wpR_call2, wpR_call3, wpR_call4, wpR_call5, wpR_call6, fAdd_ii, fAdd_ss, fAddI_ii, fAddI_ss, fSub_ii, fMul_ii, fMod_ii, fFdiv_ii, fNeg_i, fLt_ii, fLe_ii, fGt_ii, fGe_ii, fEq_ii, fNe_ii, fEq_ss, fNe_ss, fEq_bb, fNe_bb, bAbs_i, bInt_i, bInt_b, bMax_ii, bMin_ii, bDivmod_ii, seqK_n, seqK_tp, seqK_fl, bLen_tp, bLen_fl, bLen_n, bLen_s, bList_q, bTuple_q, optR_s, fIx_tp, fIx_fl, fIx_n, fIx_s, oNone_ap, asInt_i, oSome_ap, dSl_ap, fSl_tp, fSl_fl, fSl_n, fSl_s, atI_0, atI_1, atI_2, atI_3, wpR_comp, tYesB_ap, diV_ap, itV_tp, itV_fl, itV_n, itV_s, live_tp, live_fl, live_n, diR1_ap, diR2_ap, diE_ap, Kf_nx, Kf_rt, Kf_ex, Kin_nx, Kin_ct, Kin_bk, Kin_rt, Kin_ex, isTp, List.set_cons_succ, List.set_cons_zero, List.map_cons, List.map_nil, List.cons_append, List.nil_append, List.length_cons, List.length_nil, List.replicate_succ, List.replicate_zero, List.append_nil, Nat.reduceSub, Nat.reduceAdd, Nat.reduceMul, Int.reduceAdd, Int.reduceSub, Int.reduceMul, Int.reduceNeg, Int.reduceLT, Int.reduceLE, Nat.reduceLeDiff, Nat.reduceLT, decide_true, decide_false, Int.reduceToNat, Bool.not_true, Bool.not_false, and_true, true_and, and_self, true_or, or_true, List.set_nil, Int.reduceMod, Int.reduceDiv, Int.reducePow, Int.cast_ofNat_Int, Int.reduceEq, Int.reduceNe, Nat.reduceEqDiff, eq_self, false_and, and_false, Nat.zero_add, Int.zero_add, Int.add_zero, wipeE, fSetIx_ref, fIx_ref, bLen_ref, seqK_ref, itV_ref, live_ref, fSl_ref]
    exact go cs ck
end Mi

namespace Mi
open PySem L2
theorem wIf_join {c : Bool} {o1 o2 : Out} {N bk ct : En → MH → Prop} {rt : Val → MH → Prop} {ex : Nat → En → MH → Prop} (J : En → MH → Prop) (a : @wIf c ⟨(@wpS o1 ⟨⟨J, rt, bk, ct, ex⟩⟩)⟩ ⟨(@wpS o2 ⟨⟨J, rt, bk, ct, ex⟩⟩)⟩) (k : ∀ ρ h, J ρ h → N ρ h) :
    @wIf c ⟨(@wpS o1 ⟨⟨N, rt, bk, ct, ex⟩⟩)⟩ ⟨(@wpS o2 ⟨⟨N, rt, bk, ct, ex⟩⟩)⟩ := by
  cases c with
  | true =>
    rw [wIf_t] at a ⊢
    exact wpS_mono a k (fun _ _ z => z) (fun _ _ z => z) (fun _ _ z => z) fun _ _ _ z => z
  | false =>
    rw [wIf_f] at a ⊢
    exact wpS_mono a k (fun _ _ z => z) (fun _ _ z => z) (fun _ _ z => z) fun _ _ _ z => z
theorem wpS_join {o : Out} {N bk ct : En → MH → Prop} {rt : Val → MH → Prop} {ex : Nat → En → MH → Prop} (J : En → MH → Prop) (a : @wpS o ⟨⟨J, rt, bk, ct, ex⟩⟩) (k : ∀ ρ h, J ρ h → N ρ h) : @wpS o ⟨⟨N, rt, bk, ct, ex⟩⟩ :=
  wpS_mono a k (fun _ _ z => z) (fun _ _ z => z) (fun _ _ z => z) fun _ _ _ z => z
theorem wpR_join {α : Type} {r : R α} {P : α → MH → Prop} {X : XP} (J : α → MH → Prop) (a : @wpR _ r ⟨J⟩ ⟨NoX⟩) (k : ∀ x h, J x h → P x h) : @wpR _ r ⟨P⟩ ⟨X⟩ := wpR_to a k
theorem compL_n (nt : NT) (tst : DB) (elt : D) (lv : MH → Bool) (ρ : En) (h : MH) (P : List Val → MH → Prop) : @wpR _ (compL nt tst elt lv [] ρ h) ⟨P⟩ ⟨NoX⟩ = @wNd (lv h = true) ⟨(P [] h)⟩ := by
  cases e : lv h <;> simp [compL, e, wNd, wpR]
theorem compL_c (nt : NT) (tst : DB) (elt : D) (lv : MH → Bool) (x : Val) (xs : List Val) (ρ : En) (h : MH) (P : List Val → MH → Prop) :
    @wpR _ (compL nt tst elt lv (x :: xs) ρ h) ⟨P⟩ ⟨NoX⟩ = @wNd (lv h = true) ⟨(@wOpt _ (nt.run x ρ) ⟨fun ρ1 => @wpR _ (tst ρ1 h) ⟨(fun b h1 => @wIf b ⟨(@wpR _ (elt ρ1 h1) ⟨(fun o h2 => @numP ⟨(fun y h3 => @wpR _ (compL nt tst elt lv xs ρ h3) ⟨(fun ys h4 => P (y :: ys) h4)⟩ ⟨NoX⟩)⟩ o h2)⟩ ⟨NoX⟩)⟩ ⟨(@wpR _ (compL nt tst elt lv xs ρ h1) ⟨P⟩ ⟨NoX⟩)⟩)⟩ ⟨NoX⟩⟩)⟩ := by
  cases e : lv h
  · simp [compL, e, wNd, wpR]
  · cases e2 : nt.run x ρ with
    | none => simp [compL, e, e2, wNd, wpR, wOpt]
    | some ρ1 =>
      simp only [compL, e, e2, if_true, wNd, wOpt, true_and, Option.some.injEq, exists_eq_left']
      rw [wpR_get]
      refine wpR_fun fun b h1 => ?_
      cases b with
      | false => simp [wIf]
      | true =>
        simp only [wIf_t, if_true]
        rw [wpR_get]
        refine wpR_fun fun o h2 => ?_
        rw [wpR_get]
        rfl
theorem forL_n (nt : NT) (b : SD) (lv : MH → Bool) (ρ : En) (h : MH) (K : Kt) : @wpS (forL nt b lv [] ρ h) ⟨K⟩ = @wNd (lv h = true) ⟨(@wgo ⟨K.nx⟩ ρ h)⟩ := by
  cases e : lv h <;> simp [forL, e, wNd, wpS, wgo]
theorem forL_c (nt : NT) (b : SD) (lv : MH → Bool) (x : Val) (xs : List Val) (ρ : En) (h : MH) (K : Kt) : @wpS (forL nt b lv (x :: xs) ρ h) ⟨K⟩ = @wNd (lv h = true) ⟨(@wOpt _ (nt.run x ρ) ⟨fun ρ1 => @wpS (b ρ1 h) ⟨(Kin K fun ρ2 h2 => @wpS (forL nt b lv xs ρ2 h2) ⟨K⟩)⟩⟩)⟩ := by
  cases e : lv h
  · simp [forL, e, wNd, wpS]
  · cases e2 : nt.run x ρ with
    | none => simp [forL, e, e2, wNd, wpS, wOpt]
    | some ρ1 =>
      simp only [forL, e, e2, if_true, wNd, wOpt, true_and, Option.some.injEq, exists_eq_left']
      cases b ρ1 h <;> rfl
theorem blsOf_t : ∀ ys : List Val, (∀ y ∈ ys, y = .bl true) → blsOf ys = some (List.replicate ys.length true)
  | [], _ => rfl
  | y :: ys, a => by
    obtain rfl := a y (by simp)
    simp [blsOf, blsOf_t ys fun z hz => a z (by simp [hz]), List.replicate_succ]
theorem bAll_t {ys : List Val} {h : MH} (a : ∀ y ∈ ys, y = .bl true) : bAll [.n ys] h = .ok (.v (.bl true)) h := by
  have : (List.replicate ys.length true).all id = true := by simp
  simp only [bAll, lstO, seqO, Option.bind, blsOf_t ys a, this]
theorem blsOf_f : ∀ ys : List Val, (∀ y ∈ ys, y = .bl false) → blsOf ys = some (List.replicate ys.length false)
  | [], _ => rfl
  | y :: ys, a => by
    obtain rfl := a y (by simp)
    simp [blsOf, blsOf_f ys fun z hz => a z (by simp [hz]), List.replicate_succ]
theorem bAny_f {ys : List Val} {h : MH} (a : ∀ y ∈ ys, y = .bl false) : bAny [.n ys] h = .ok (.v (.bl false)) h := by
  have : (List.replicate ys.length false).any id = false := by simp
  simp only [bAny, lstO, seqO, Option.bind, blsOf_f ys a, this]
/-- bools made of parts -/
theorem blsOf_map {α : Type} (f : α → Bool) (xs : List α) : blsOf (xs.map fun x => .bl (f x)) = some (xs.map f) := by
  induction xs with
  | nil => rfl
  | cons x xs ih => simp [blsOf, ih]
theorem bAll_map {α : Type} (f : α → Bool) (xs : List α) (h : MH) : bAll [.n (xs.map fun x => .bl (f x))] h = .ok (.v (.bl (xs.all f))) h := by
  simp only [bAll, lstO, seqO, Option.bind, blsOf_map f xs]
  simp [List.all_map]
theorem bAny_map {α : Type} (f : α → Bool) (xs : List α) (h : MH) : bAny [.n (xs.map fun x => .bl (f x))] h = .ok (.v (.bl (xs.any f))) h := by
  simp only [bAny, lstO, seqO, Option.bind, blsOf_map f xs]
  simp [List.any_map]
/-- a law asks its right for each cell -/
def rOk (fr : DF) : Prop := ∀ h b, Bx h b 0 → @wpR _ (fr [.ref b] h) ⟨(fun x h' => x = .bl true ∧ Frm b h h')⟩ ⟨NoX⟩
def b_lawA (fr : DF) (n : Int) : SD :=
    (sSeq (sSet 1 (dCall 2 f_l_folded (vCons (dVar 0) (vCons (dC (.int n)) vNil))))
    (sRet (dB bAll (aCons (dComp [2] (diR1 (dB bMax (aCons (dC (.int 1)) (aCons (dB bLen (aCons (dVar 1) aNil)) aNil)))) (.nm 2) tYesB (dCall 1 fr (vCons (dCall 2 f_l_box (vCons (dVar 1) (vCons (dVar 2) vNil))) vNil))) aNil))))
theorem lawA {fr : DF} {n : Nat} {ns : List Int} (hl : ns.length ≤ 63) (n0 : 0 < n) (n1 : n ≤ 63) (R : rOk fr) : ∃ h', runB 3 (b_lawA fr n) [.fl (ns.map Val.int)] [] = .ok (.bl true) h' := by
  apply law_of
  unfold b_lawA
  (repeat (first | simp only [wpR_run, wpS_nil, wpS_seq, wpS_ret, wpS_retN, wpS_expr, wpS_set, wpS_if, wpS_brk, wpS_cnt, wpS_aug, wpS_par, wpS_asg, wpS_tdN, wpS_tdSub, wpS_tdT, wpS_runT0, wpS_runT, wpS_for, onlyN_nx, run_nm, run_tp, setN_nil, setN_cons, asV_v, bindO_s, wgo_go, wIf_t, wIf_f, wNd_t, wpR_ok, wpR_ex, wpR_bind, bind_ok, wpR_ite, wpR_oR, wOpt_s, numP_v, numP_n, numK_v, numK_n, dVar_0, dVar_s, dC_ap, dOp_ap, dU_ap, dB_ap, aNil_ap, aCons_ap, vNil_ap, vCons_ap, dTup_ap, dLst_ap, asBool_v, dT_ap, brR_t, brR_f, wpR_br, dIf_ap, bAnd_ap, bOr_ap, bNot_ap, dAnd_ap, dOr_ap, dNot_ap, dCh_ap, dCall_ap, wpR_call0, wpR_call1, wpR_call2, wpR_call3, wpR_call4, wpR_call5, wpR_call6, fAdd_ii, fAdd_ss, fAddI_ii, fAddI_ss, fSub_ii, fMul_ii, fMod_ii, fFdiv_ii, fNeg_i, fLt_ii, fLe_ii, fGt_ii, fGe_ii, fEq_ii, fNe_ii, fEq_ss, fNe_ss, fEq_bb, fNe_bb, bAbs_i, bInt_i, bInt_b, bMax_ii, bMin_ii, bDivmod_ii, seqK_n, seqK_tp, seqK_fl, bLen_tp, bLen_fl, bLen_n, bLen_s, bList_q, bTuple_q, optR_s, fIx_tp, fIx_fl, fIx_n, fIx_s, oNone_ap, asInt_i, oSome_ap, dSl_ap, fSl_tp, fSl_fl, fSl_n, fSl_s, atI_0, atI_1, atI_2, atI_3, wpR_comp, tYesB_ap, diV_ap, itV_tp, itV_fl, itV_n, itV_s, live_tp, live_fl, live_n, diR1_ap, diR2_ap, diE_ap, Kf_nx, Kf_rt, Kf_ex, Kin_nx, Kin_ct, Kin_bk, Kin_rt, Kin_ex, isTp, List.set_cons_succ, List.set_cons_zero, List.map_cons, List.map_nil, List.cons_append, List.nil_append, List.length_cons, List.length_nil, List.replicate_succ, List.replicate_zero, List.append_nil, Nat.reduceSub, Nat.reduceAdd, Nat.reduceMul, Int.reduceAdd, Int.reduceSub, Int.reduceMul, Int.reduceNeg, Int.reduceLT, Int.reduceLE, Nat.reduceLeDiff, Nat.reduceLT, decide_true, decide_false, Int.reduceToNat, Bool.not_true, Bool.not_false, and_true, true_and, and_self, true_or, or_true, List.set_nil, Int.reduceMod, Int.reduceDiv, Int.reducePow, Int.cast_ofNat_Int, Int.reduceEq, Int.reduceNe, Nat.reduceEqDiff, eq_self, false_and, and_false, Nat.zero_add, Int.zero_add, Int.add_zero, wipeE, fSetIx_ref, fIx_ref, bLen_ref, seqK_ref, itV_ref, live_ref, fSl_ref] | refine wNd_i (by omega) ?_))
  refine folded_ok hl n0 n1 fun cs cl => ?_
  have e : ([Ob.lst (cs.map Val.int)] : MH)[0]? = some (.lst (cs.map Val.int)) := rfl
  (repeat (first | simp only [wpR_run, wpS_nil, wpS_seq, wpS_ret, wpS_retN, wpS_expr, wpS_set, wpS_if, wpS_brk, wpS_cnt, wpS_aug, wpS_par, wpS_asg, wpS_tdN, wpS_tdSub, wpS_tdT, wpS_runT0, wpS_runT, wpS_for, onlyN_nx, run_nm, run_tp, setN_nil, setN_cons, asV_v, bindO_s, wgo_go, wIf_t, wIf_f, wNd_t, wpR_ok, wpR_ex, wpR_bind, bind_ok, wpR_ite, wpR_oR, wOpt_s, numP_v, numP_n, numK_v, numK_n, dVar_0, dVar_s, dC_ap, dOp_ap, dU_ap, dB_ap, aNil_ap, aCons_ap, vNil_ap, vCons_ap, dTup_ap, dLst_ap, asBool_v, dT_ap, brR_t, brR_f, wpR_br, dIf_ap, bAnd_ap, bOr_ap, bNot_ap, dAnd_ap, dOr_ap, dNot_ap, dCh_ap, dCall_ap, wpR_call0, wpR_call1, wpR_call2, wpR_call3, wpR_call4, wpR_call5, wpR_call6, fAdd_ii, fAdd_ss, fAddI_ii, fAddI_ss, fSub_ii, fMul_ii, fMod_ii, fFdiv_ii, fNeg_i, fLt_ii, fLe_ii, fGt_ii, fGe_ii, fEq_ii, fNe_ii, fEq_ss, fNe_ss, fEq_bb, fNe_bb, bAbs_i, bInt_i, bInt_b, bMax_ii, bMin_ii, bDivmod_ii, seqK_n, seqK_tp, seqK_fl, bLen_tp, bLen_fl, bLen_n, bLen_s, bList_q, bTuple_q, optR_s, fIx_tp, fIx_fl, fIx_n, fIx_s, oNone_ap, asInt_i, oSome_ap, dSl_ap, fSl_tp, fSl_fl, fSl_n, fSl_s, atI_0, atI_1, atI_2, atI_3, wpR_comp, tYesB_ap, diV_ap, itV_tp, itV_fl, itV_n, itV_s, live_tp, live_fl, live_n, diR1_ap, diR2_ap, diE_ap, Kf_nx, Kf_rt, Kf_ex, Kin_nx, Kin_ct, Kin_bk, Kin_rt, Kin_ex, isTp, List.set_cons_succ, List.set_cons_zero, List.map_cons, List.map_nil, List.cons_append, List.nil_append, List.length_cons, List.length_nil, List.replicate_succ, List.replicate_zero, List.append_nil, Nat.reduceSub, Nat.reduceAdd, Nat.reduceMul, Int.reduceAdd, Int.reduceSub, Int.reduceMul, Int.reduceNeg, Int.reduceLT, Int.reduceLE, Nat.reduceLeDiff, Nat.reduceLT, decide_true, decide_false, Int.reduceToNat, Bool.not_true, Bool.not_false, and_true, true_and, and_self, true_or, or_true, List.set_nil, Int.reduceMod, Int.reduceDiv, Int.reducePow, Int.cast_ofNat_Int, Int.reduceEq, Int.reduceNe, Nat.reduceEqDiff, eq_self, false_and, and_false, Nat.zero_add, Int.zero_add, Int.add_zero, wipeE, fSetIx_ref, fIx_ref, bLen_ref, seqK_ref, itV_ref, live_ref, fSl_ref, bLen_ref e] | refine wNd_i (by omega) ?_))
  have hm : (if (↑(List.map Val.int cs).length : Int) > 1 then (↑(List.map Val.int cs).length : Int) else 1) ≤ 63 := by simp; split <;> omega
  have hm0 : 0 ≤ (if (↑(List.map Val.int cs).length : Int) > 1 then (↑(List.map Val.int cs).length : Int) else 1) := by simp; split <;> omega
  generalize (if (↑(List.map Val.int cs).length : Int) > 1 then (↑(List.map Val.int cs).length : Int) else 1) = m at hm hm0
  refine wNd_i (by omega) ?_
  simp only [wpR_run, wpS_nil, wpS_seq, wpS_ret, wpS_retN, wpS_expr, wpS_set, wpS_if, wpS_brk, wpS_cnt, wpS_aug, wpS_par, wpS_asg, wpS_tdN, wpS_tdSub, wpS_tdT, wpS_runT0, wpS_runT, wpS_for, onlyN_nx, run_nm, run_tp, setN_nil, setN_cons, asV_v, bindO_s, wgo_go, wIf_t, wIf_f, wNd_t, wpR_ok, wpR_ex, wpR_bind, bind_ok, wpR_ite, wpR_oR, wOpt_s, numP_v, numP_n, numK_v, numK_n, dVar_0, dVar_s, dC_ap, dOp_ap, dU_ap, dB_ap, aNil_ap, aCons_ap, vNil_ap, vCons_ap, dTup_ap, dLst_ap, asBool_v, dT_ap, brR_t, brR_f, wpR_br, dIf_ap, bAnd_ap, bOr_ap, bNot_ap, dAnd_ap, dOr_ap, dNot_ap, dCh_ap, dCall_ap, wpR_call0, wpR_call1, wpR_call2, wpR_call3, wpR_call4, wpR_call5, wpR_call6, fAdd_ii, fAdd_ss, fAddI_ii, fAddI_ss, fSub_ii, fMul_ii, fMod_ii, fFdiv_ii, fNeg_i, fLt_ii, fLe_ii, fGt_ii, fGe_ii, fEq_ii, fNe_ii, fEq_ss, fNe_ss, fEq_bb, fNe_bb, bAbs_i, bInt_i, bInt_b, bMax_ii, bMin_ii, bDivmod_ii, seqK_n, seqK_tp, seqK_fl, bLen_tp, bLen_fl, bLen_n, bLen_s, bList_q, bTuple_q, optR_s, fIx_tp, fIx_fl, fIx_n, fIx_s, oNone_ap, asInt_i, oSome_ap, dSl_ap, fSl_tp, fSl_fl, fSl_n, fSl_s, atI_0, atI_1, atI_2, atI_3, wpR_comp, tYesB_ap, diV_ap, itV_tp, itV_fl, itV_n, itV_s, live_tp, live_fl, live_n, diR1_ap, diR2_ap, diE_ap, Kf_nx, Kf_rt, Kf_ex, Kin_nx, Kin_ct, Kin_bk, Kin_rt, Kin_ex, isTp, List.set_cons_succ, List.set_cons_zero, List.map_cons, List.map_nil, List.cons_append, List.nil_append, List.length_cons, List.length_nil, List.replicate_succ, List.replicate_zero, List.append_nil, Nat.reduceSub, Nat.reduceAdd, Nat.reduceMul, Int.reduceAdd, Int.reduceSub, Int.reduceMul, Int.reduceNeg, Int.reduceLT, Int.reduceLE, Nat.reduceLeDiff, Nat.reduceLT, decide_true, decide_false, Int.reduceToNat, Bool.not_true, Bool.not_false, and_true, true_and, and_self, true_or, or_true, List.set_nil, Int.reduceMod, Int.reduceDiv, Int.reducePow, Int.cast_ofNat_Int, Int.reduceEq, Int.reduceNe, Nat.reduceEqDiff, eq_self, false_and, and_false, Nat.zero_add, Int.zero_add, Int.add_zero, wipeE, fSetIx_ref, fIx_ref, bLen_ref, seqK_ref, itV_ref, live_ref, fSl_ref, rngF_len]
  refine wNd_i (by omega) ?_
  refine wpR_compL _ (fun xs don h => (∀ x ∈ xs, ∃ i : Int, x = .int i ∧ 0 ≤ i) ∧ (∀ y ∈ don, y = .bl true) ∧ h[0]? = some (.lst (cs.map Val.int))) _ _ [] _ ⟨fun x hx => ?_, by simp, e⟩ ?_ (fun _ _ _ => rfl) ?_
  · obtain ⟨i, rfl, a, b⟩ := rngF_mem _ _ _ hx
    exact ⟨i, rfl, a⟩
  · rintro x xs don h ⟨hx, hd, e⟩
    refine ⟨rfl, ?_⟩
    obtain ⟨i, rfl, i0⟩ := hx x (List.mem_cons_self ..)
    (repeat (first | simp only [wpR_run, wpS_nil, wpS_seq, wpS_ret, wpS_retN, wpS_expr, wpS_set, wpS_if, wpS_brk, wpS_cnt, wpS_aug, wpS_par, wpS_asg, wpS_tdN, wpS_tdSub, wpS_tdT, wpS_runT0, wpS_runT, wpS_for, onlyN_nx, run_nm, run_tp, setN_nil, setN_cons, asV_v, bindO_s, wgo_go, wIf_t, wIf_f, wNd_t, wpR_ok, wpR_ex, wpR_bind, bind_ok, wpR_ite, wpR_oR, wOpt_s, numP_v, numP_n, numK_v, numK_n, dVar_0, dVar_s, dC_ap, dOp_ap, dU_ap, dB_ap, aNil_ap, aCons_ap, vNil_ap, vCons_ap, dTup_ap, dLst_ap, asBool_v, dT_ap, brR_t, brR_f, wpR_br, dIf_ap, bAnd_ap, bOr_ap, bNot_ap, dAnd_ap, dOr_ap, dNot_ap, dCh_ap, dCall_ap, wpR_call0, wpR_call1, wpR_call2, wpR_call3, wpR_call4, wpR_call5, wpR_call6, fAdd_ii, fAdd_ss, fAddI_ii, fAddI_ss, fSub_ii, fMul_ii, fMod_ii, fFdiv_ii, fNeg_i, fLt_ii, fLe_ii, fGt_ii, fGe_ii, fEq_ii, fNe_ii, fEq_ss, fNe_ss, fEq_bb, fNe_bb, bAbs_i, bInt_i, bInt_b, bMax_ii, bMin_ii, bDivmod_ii, seqK_n, seqK_tp, seqK_fl, bLen_tp, bLen_fl, bLen_n, bLen_s, bList_q, bTuple_q, optR_s, fIx_tp, fIx_fl, fIx_n, fIx_s, oNone_ap, asInt_i, oSome_ap, dSl_ap, fSl_tp, fSl_fl, fSl_n, fSl_s, atI_0, atI_1, atI_2, atI_3, wpR_comp, tYesB_ap, diV_ap, itV_tp, itV_fl, itV_n, itV_s, live_tp, live_fl, live_n, diR1_ap, diR2_ap, diE_ap, Kf_nx, Kf_rt, Kf_ex, Kin_nx, Kin_ct, Kin_bk, Kin_rt, Kin_ex, isTp, List.set_cons_succ, List.set_cons_zero, List.map_cons, List.map_nil, List.cons_append, List.nil_append, List.length_cons, List.length_nil, List.replicate_succ, List.replicate_zero, List.append_nil, Nat.reduceSub, Nat.reduceAdd, Nat.reduceMul, Int.reduceAdd, Int.reduceSub, Int.reduceMul, Int.reduceNeg, Int.reduceLT, Int.reduceLE, Nat.reduceLeDiff, Nat.reduceLT, decide_true, decide_false, Int.reduceToNat, Bool.not_true, Bool.not_false, and_true, true_and, and_self, true_or, or_true, List.set_nil, Int.reduceMod, Int.reduceDiv, Int.reducePow, Int.cast_ofNat_Int, Int.reduceEq, Int.reduceNe, Nat.reduceEqDiff, eq_self, false_and, and_false, Nat.zero_add, Int.zero_add, Int.add_zero, wipeE, fSetIx_ref, fIx_ref, bLen_ref, seqK_ref, itV_ref, live_ref, fSl_ref] | refine wNd_i (by omega) ?_))
    refine box_ok e i0 fun o B => ?_
    (repeat (first | simp only [wpR_run, wpS_nil, wpS_seq, wpS_ret, wpS_retN, wpS_expr, wpS_set, wpS_if, wpS_brk, wpS_cnt, wpS_aug, wpS_par, wpS_asg, wpS_tdN, wpS_tdSub, wpS_tdT, wpS_runT0, wpS_runT, wpS_for, onlyN_nx, run_nm, run_tp, setN_nil, setN_cons, asV_v, bindO_s, wgo_go, wIf_t, wIf_f, wNd_t, wpR_ok, wpR_ex, wpR_bind, bind_ok, wpR_ite, wpR_oR, wOpt_s, numP_v, numP_n, numK_v, numK_n, dVar_0, dVar_s, dC_ap, dOp_ap, dU_ap, dB_ap, aNil_ap, aCons_ap, vNil_ap, vCons_ap, dTup_ap, dLst_ap, asBool_v, dT_ap, brR_t, brR_f, wpR_br, dIf_ap, bAnd_ap, bOr_ap, bNot_ap, dAnd_ap, dOr_ap, dNot_ap, dCh_ap, dCall_ap, wpR_call0, wpR_call1, wpR_call2, wpR_call3, wpR_call4, wpR_call5, wpR_call6, fAdd_ii, fAdd_ss, fAddI_ii, fAddI_ss, fSub_ii, fMul_ii, fMod_ii, fFdiv_ii, fNeg_i, fLt_ii, fLe_ii, fGt_ii, fGe_ii, fEq_ii, fNe_ii, fEq_ss, fNe_ss, fEq_bb, fNe_bb, bAbs_i, bInt_i, bInt_b, bMax_ii, bMin_ii, bDivmod_ii, seqK_n, seqK_tp, seqK_fl, bLen_tp, bLen_fl, bLen_n, bLen_s, bList_q, bTuple_q, optR_s, fIx_tp, fIx_fl, fIx_n, fIx_s, oNone_ap, asInt_i, oSome_ap, dSl_ap, fSl_tp, fSl_fl, fSl_n, fSl_s, atI_0, atI_1, atI_2, atI_3, wpR_comp, tYesB_ap, diV_ap, itV_tp, itV_fl, itV_n, itV_s, live_tp, live_fl, live_n, diR1_ap, diR2_ap, diE_ap, Kf_nx, Kf_rt, Kf_ex, Kin_nx, Kin_ct, Kin_bk, Kin_rt, Kin_ex, isTp, List.set_cons_succ, List.set_cons_zero, List.map_cons, List.map_nil, List.cons_append, List.nil_append, List.length_cons, List.length_nil, List.replicate_succ, List.replicate_zero, List.append_nil, Nat.reduceSub, Nat.reduceAdd, Nat.reduceMul, Int.reduceAdd, Int.reduceSub, Int.reduceMul, Int.reduceNeg, Int.reduceLT, Int.reduceLE, Nat.reduceLeDiff, Nat.reduceLT, decide_true, decide_false, Int.reduceToNat, Bool.not_true, Bool.not_false, and_true, true_and, and_self, true_or, or_true, List.set_nil, Int.reduceMod, Int.reduceDiv, Int.reducePow, Int.cast_ofNat_Int, Int.reduceEq, Int.reduceNe, Nat.reduceEqDiff, eq_self, false_and, and_false, Nat.zero_add, Int.zero_add, Int.add_zero, wipeE, fSetIx_ref, fIx_ref, bLen_ref, seqK_ref, itV_ref, live_ref, fSl_ref] | refine wNd_i (by omega) ?_))
    refine wpR_to (R _ _ B) fun x h' hx' => ?_
    obtain ⟨rfl, F⟩ := hx'
    simp only [wpR_run, wpS_nil, wpS_seq, wpS_ret, wpS_retN, wpS_expr, wpS_set, wpS_if, wpS_brk, wpS_cnt, wpS_aug, wpS_par, wpS_asg, wpS_tdN, wpS_tdSub, wpS_tdT, wpS_runT0, wpS_runT, wpS_for, onlyN_nx, run_nm, run_tp, setN_nil, setN_cons, asV_v, bindO_s, wgo_go, wIf_t, wIf_f, wNd_t, wpR_ok, wpR_ex, wpR_bind, bind_ok, wpR_ite, wpR_oR, wOpt_s, numP_v, numP_n, numK_v, numK_n, dVar_0, dVar_s, dC_ap, dOp_ap, dU_ap, dB_ap, aNil_ap, aCons_ap, vNil_ap, vCons_ap, dTup_ap, dLst_ap, asBool_v, dT_ap, brR_t, brR_f, wpR_br, dIf_ap, bAnd_ap, bOr_ap, bNot_ap, dAnd_ap, dOr_ap, dNot_ap, dCh_ap, dCall_ap, wpR_call0, wpR_call1, wpR_call2, wpR_call3, wpR_call4, wpR_call5, wpR_call6, fAdd_ii, fAdd_ss, fAddI_ii, fAddI_ss, fSub_ii, fMul_ii, fMod_ii, fFdiv_ii, fNeg_i, fLt_ii, fLe_ii, fGt_ii, fGe_ii, fEq_ii, fNe_ii, fEq_ss, fNe_ss, fEq_bb, fNe_bb, bAbs_i, bInt_i, bInt_b, bMax_ii, bMin_ii, bDivmod_ii, seqK_n, seqK_tp, seqK_fl, bLen_tp, bLen_fl, bLen_n, bLen_s, bList_q, bTuple_q, optR_s, fIx_tp, fIx_fl, fIx_n, fIx_s, oNone_ap, asInt_i, oSome_ap, dSl_ap, fSl_tp, fSl_fl, fSl_n, fSl_s, atI_0, atI_1, atI_2, atI_3, wpR_comp, tYesB_ap, diV_ap, itV_tp, itV_fl, itV_n, itV_s, live_tp, live_fl, live_n, diR1_ap, diR2_ap, diE_ap, Kf_nx, Kf_rt, Kf_ex, Kin_nx, Kin_ct, Kin_bk, Kin_rt, Kin_ex, isTp, List.set_cons_succ, List.set_cons_zero, List.map_cons, List.map_nil, List.cons_append, List.nil_append, List.length_cons, List.length_nil, List.replicate_succ, List.replicate_zero, List.append_nil, Nat.reduceSub, Nat.reduceAdd, Nat.reduceMul, Int.reduceAdd, Int.reduceSub, Int.reduceMul, Int.reduceNeg, Int.reduceLT, Int.reduceLE, Nat.reduceLeDiff, Nat.reduceLT, decide_true, decide_false, Int.reduceToNat, Bool.not_true, Bool.not_false, and_true, true_and, and_self, true_or, or_true, List.set_nil, Int.reduceMod, Int.reduceDiv, Int.reducePow, Int.cast_ofNat_Int, Int.reduceEq, Int.reduceNe, Nat.reduceEqDiff, eq_self, false_and, and_false, Nat.zero_add, Int.zero_add, Int.add_zero, wipeE, fSetIx_ref, fIx_ref, bLen_ref, seqK_ref, itV_ref, live_ref, fSl_ref]
    refine ⟨fun x h => hx x (by simp [h]), ?_, ?_⟩
    · intro y hy
      rcases List.mem_append.mp hy with q | q
      · exact hd y q
      · simpa using q
    · exact F.at (old_ref e) (by have := ref_lt e; omega)
  · rintro ys h ⟨_, a, _⟩
    simp only [List.nil_append] at a
    simp only [wpR_run, wpS_nil, wpS_seq, wpS_ret, wpS_retN, wpS_expr, wpS_set, wpS_if, wpS_brk, wpS_cnt, wpS_aug, wpS_par, wpS_asg, wpS_tdN, wpS_tdSub, wpS_tdT, wpS_runT0, wpS_runT, wpS_for, onlyN_nx, run_nm, run_tp, setN_nil, setN_cons, asV_v, bindO_s, wgo_go, wIf_t, wIf_f, wNd_t, wpR_ok, wpR_ex, wpR_bind, bind_ok, wpR_ite, wpR_oR, wOpt_s, numP_v, numP_n, numK_v, numK_n, dVar_0, dVar_s, dC_ap, dOp_ap, dU_ap, dB_ap, aNil_ap, aCons_ap, vNil_ap, vCons_ap, dTup_ap, dLst_ap, asBool_v, dT_ap, brR_t, brR_f, wpR_br, dIf_ap, bAnd_ap, bOr_ap, bNot_ap, dAnd_ap, dOr_ap, dNot_ap, dCh_ap, dCall_ap, wpR_call0, wpR_call1, wpR_call2, wpR_call3, wpR_call4, wpR_call5, wpR_call6, fAdd_ii, fAdd_ss, fAddI_ii, fAddI_ss, fSub_ii, fMul_ii, fMod_ii, fFdiv_ii, fNeg_i, fLt_ii, fLe_ii, fGt_ii, fGe_ii, fEq_ii, fNe_ii, fEq_ss, fNe_ss, fEq_bb, fNe_bb, bAbs_i, bInt_i, bInt_b, bMax_ii, bMin_ii, bDivmod_ii, seqK_n, seqK_tp, seqK_fl, bLen_tp, bLen_fl, bLen_n, bLen_s, bList_q, bTuple_q, optR_s, fIx_tp, fIx_fl, fIx_n, fIx_s, oNone_ap, asInt_i, oSome_ap, dSl_ap, fSl_tp, fSl_fl, fSl_n, fSl_s, atI_0, atI_1, atI_2, atI_3, wpR_comp, tYesB_ap, diV_ap, itV_tp, itV_fl, itV_n, itV_s, live_tp, live_fl, live_n, diR1_ap, diR2_ap, diE_ap, Kf_nx, Kf_rt, Kf_ex, Kin_nx, Kin_ct, Kin_bk, Kin_rt, Kin_ex, isTp, List.set_cons_succ, List.set_cons_zero, List.map_cons, List.map_nil, List.cons_append, List.nil_append, List.length_cons, List.length_nil, List.replicate_succ, List.replicate_zero, List.append_nil, Nat.reduceSub, Nat.reduceAdd, Nat.reduceMul, Int.reduceAdd, Int.reduceSub, Int.reduceMul, Int.reduceNeg, Int.reduceLT, Int.reduceLE, Nat.reduceLeDiff, Nat.reduceLT, decide_true, decide_false, Int.reduceToNat, Bool.not_true, Bool.not_false, and_true, true_and, and_self, true_or, or_true, List.set_nil, Int.reduceMod, Int.reduceDiv, Int.reducePow, Int.cast_ofNat_Int, Int.reduceEq, Int.reduceNe, Nat.reduceEqDiff, eq_self, false_and, and_false, Nat.zero_add, Int.zero_add, Int.add_zero, wipeE, fSetIx_ref, fIx_ref, bLen_ref, seqK_ref, itV_ref, live_ref, fSl_ref, bAll_t a]
end Mi

namespace Mi.k10
open PySem L2 Mi
/-! ### the defs -/
/-- stand_in(lack, stock, top, below); slots 0 lack, 1 stock, 2 top, 3 below, 4 good -/
def b_stand_in : SD :=
    (sSeq (sSet 4 (dB bMin (aCons (dVar 0) (aCons (dOp fFdiv (dOp fMul (dVar 1) (dVar 3)) (dVar 2)) aNil))))
    (sRet (dTup (vCons (dOp fFdiv (dOp fSub (dOp fAdd (dOp fMul (dVar 4) (dVar 2)) (dVar 3)) (dC (.int 1))) (dVar 3)) (vCons (dVar 4) vNil)))))
def f_stand_in : DF := runB 5 b_stand_in
/-- made_good(lack, many, top, below); slots 0 lack, 1 many, 2 top, 3 below -/
def b_made_good : SD :=
    (sRet (dB bMin (aCons (dVar 0) (aCons (dOp fFdiv (dOp fMul (dVar 1) (dVar 3)) (dVar 2)) aNil))))
def f_made_good : DF := runB 4 b_made_good
/-- _law_size(_law_box_here); slots 0 _law_box_here, 1 _law_most -/
def b_l_size : SD :=
    (sSeq (sSet 1 (dOp fIx (dLst (vCons (dC (.int 1)) (vCons (dC (.int 12)) (vCons (dC (.int 1001)) (vCons (dC (.int 1000000001)) vNil))))) (dCall 2 f_l_take (vCons (dVar 0) (vCons (dC (.int 4)) vNil)))))
    (sRet (dOp fIx (dLst (vCons (dCall 2 f_l_take (vCons (dVar 0) (vCons (dVar 1) vNil))) (vCons (dOp fSub (dVar 1) (dC (.int 1))) vNil))) (dCall 2 f_l_take (vCons (dVar 0) (vCons (dC (.int 2)) vNil))))))
def f_l_size : DF := runB 2 b_l_size
/-- _law_whole(_law_found); slots 0 _law_found -/
def b_l_whole : SD :=
    (sRet ((dAnd (dU (fIsi .int) (dVar 0)) (dAnd (dNot (dU (fIsi .bool) (dVar 0))) (dOp fGe (dVar 0) (dC (.int 0)))))))
def f_l_whole : DF := runB 1 b_l_whole
/-- _law_fits(_law_good, _law_lack, _law_many, _law_top, _law_below); slots 0 _law_good, 1 _law_lack, 2 _law_many, 3 _law_top, 4 _law_below -/
def b_l_fits : SD :=
    (sSeq (sIf ((bOr (dT (dOp fGt (dVar 0) (dVar 1))) (dT (dOp fGt (dOp fMul (dVar 0) (dVar 3)) (dOp fMul (dVar 2) (dVar 4)))))) (sRet (dC (.bl false))) sNil)
    (sRet ((dOr (dOp fEq (dVar 0) (dVar 1)) (dOp fGt (dOp fMul (dOp fAdd (dVar 0) (dC (.int 1))) (dVar 3)) (dOp fMul (dVar 2) (dVar 4)))))))
def f_l_fits : DF := runB 5 b_l_fits
/-- _law_right(_law_box_here); slots 0 _law_box_here, 1 _law_top, 2 _law_below, 3 _law_lack, 4 _law_stock, 5 _law_found, 6 _law_one, 7 _law_many, 8 _law_good, 9 _law_some, 10 _law_told -/
def b_l_right : SD :=
    (sSeq (sPar [1, 2] (vCons (dOp fAdd (dC (.int 1)) (dCall 2 f_l_take (vCons (dVar 0) (vCons (dC (.int 20)) vNil)))) (vCons (dOp fAdd (dC (.int 1)) (dCall 2 f_l_take (vCons (dVar 0) (vCons (dC (.int 20)) vNil)))) vNil)))
    (sSeq (sPar [3, 4] (vCons (dCall 1 f_l_size (vCons (dVar 0) vNil)) (vCons (dCall 1 f_l_size (vCons (dVar 0) vNil)) vNil)))
    (sSeq (sIf (dT (dOp fEq (dCall 2 f_l_take (vCons (dVar 0) (vCons (dC (.int 3)) vNil))) (dC (.int 0)))) (sSet 4 (dB bMin (aCons (dC (.int 1000000000)) (aCons (dB bMax (aCons (dC (.int 0)) (aCons (dOp fSub (dOp fAdd (dOp fFdiv (dOp fMul (dVar 3) (dVar 1)) (dVar 2)) (dCall 2 f_l_take (vCons (dVar 0) (vCons (dC (.int 3)) vNil)))) (dC (.int 1))) aNil))) aNil)))) sNil)
    (sSeq (sSet 5 (dCall 4 f_stand_in (vCons (dVar 3) (vCons (dVar 4) (vCons (dVar 1) (vCons (dVar 2) vNil))))))
    (sSeq (sIf ((bOr (bNot (dT (dU (fIsi .tup) (dVar 5)))) (bOr (dT (dOp fNe (dB bLen (aCons (dVar 5) aNil)) (dC (.int 2)))) (bNot (dT (dB bAll (aCons (dComp [6] (diV (dVar 5)) (.nm 6) tYesB (dCall 1 f_l_whole (vCons (dVar 6) vNil))) aNil))))))) (sRet (dC (.bl false))) sNil)
    (sSeq (sAsg (dVar 5) (tdN (.tp [7, 8])))
    (sSeq (sIf ((bOr (bNot (dT (dCall 5 f_l_fits (vCons (dVar 8) (vCons (dVar 3) (vCons (dVar 4) (vCons (dVar 1) (vCons (dVar 2) vNil)))))))) (dT (dOp fGt (dVar 7) (dVar 4))))) (sRet (dC (.bl false))) sNil)
    (sSeq (sIf ((bOr (dT (dOp fGt (dOp fMul (dVar 8) (dVar 1)) (dOp fMul (dVar 7) (dVar 2)))) ((bAnd (dT (dOp fGt (dVar 7) (dC (.int 0)))) (dT (dOp fLe (dOp fMul (dVar 8) (dVar 1)) (dOp fMul (dOp fSub (dVar 7) (dC (.int 1))) (dVar 2)))))))) (sRet (dC (.bl false))) sNil)
    (sSeq (sFor (diV (dTup (vCons (dVar 7) (vCons (dB bMax (aCons (dC (.int 0)) (aCons (dOp fSub (dVar 7) (dC (.int 1))) aNil))) (vCons (dB bMin (aCons (dC (.int 1000000000)) (aCons (dOp fAdd (dVar 7) (dC (.int 1))) aNil))) (vCons (dVar 4) (vCons (dCall 2 f_l_take (vCons (dVar 0) (vCons (dOp fAdd (dVar 7) (dC (.int 1))) vNil))) (vCons (dC (.int 0)) vNil)))))))) (.nm 9) (sSeq (sSet 10 (dCall 4 f_made_good (vCons (dVar 3) (vCons (dVar 9) (vCons (dVar 1) (vCons (dVar 2) vNil))))))
    (sIf ((bOr (bNot (dT (dCall 1 f_l_whole (vCons (dVar 10) vNil)))) (bNot (dT (dCall 5 f_l_fits (vCons (dVar 10) (vCons (dVar 3) (vCons (dVar 9) (vCons (dVar 1) (vCons (dVar 2) vNil)))))))))) (sRet (dC (.bl false))) sNil)))
    (sRet ((dAnd (dOp fEq (dCall 4 f_made_good (vCons (dVar 3) (vCons (dVar 7) (vCons (dVar 1) (vCons (dVar 2) vNil))))) (dVar 8)) (dOp fEq (dCall 4 f_stand_in (vCons (dVar 3) (vCons (dC (.int 0)) (vCons (dVar 1) (vCons (dVar 2) vNil))))) (dTup (vCons (dC (.int 0)) (vCons (dC (.int 0)) vNil))))))))))))))))
def f_l_right : DF := runB 11 b_l_right
/-- law(_law_script); slots 0 _law_script, 1 _law_cells, 2 _law_k, 3 _law_box_here, 4 _law_turn -/
def b_law : SD :=
    (sSeq (sSet 1 (dCall 2 f_l_folded (vCons (dVar 0) (vCons (dC (.int 12)) vNil))))
    (sSeq (sFor (diR1 (dB bMax (aCons (dC (.int 1)) (aCons (dB bLen (aCons (dVar 1) aNil)) aNil)))) (.nm 2) (sSeq (sSet 3 (dCall 2 f_l_box (vCons (dVar 1) (vCons (dVar 2) vNil))))
    (sIf (bNot (dT (dB bAll (aCons (dComp [4] (diR1 (dC (.int 6))) (.nm 4) tYesB (dCall 1 f_l_right (vCons (dVar 3) vNil))) aNil)))) (sRet (dC (.bl false))) sNil)))
    (sRet (dC (.bl true)))))
def f_law : DF := runB 5 b_law
end Mi.k10

namespace Mi.k10
open PySem L2 Mi
def topS (i : Nat) : Stmt := PySem.Challenge.pw_messcasks_k10_one_ware_for_another.main.body.getD i (.Pass ⟨0, 0, 0, 0⟩)
structure Txt (K : PySem.W.Frag) (mg : Str → Option Value) : Prop where
  m_abs : mg "abs" = none
  m_all : mg "all" = none
  m_bool : mg "bool" = none
  m_divmod : mg "divmod" = none
  m_enumerate : mg "enumerate" = none
  m_int : mg "int" = none
  m_isinstance : mg "isinstance" = none
  m_len : mg "len" = none
  m_list : mg "list" = none
  m_max : mg "max" = none
  m_min : mg "min" = none
  m_range : mg "range" = none
  m_tuple : mg "tuple" = none
section
variable {P : Program} {w : World} {K : PySem.W.Frag} {mg : Str → Option Value} {base : Heap} {ca : Nat → Addr}
abbrev s_l_box : Stmt := topS 4
theorem sc_l_box : FnScope ["_law_script", "_law_k", "_law_cell"] ["_law_script", "_law_k"] (defScope s_l_box) := ⟨rfl, rfl, rfl, by decide +kernel, rfl, by decide +kernel, by decide +kernel⟩
theorem ok_l_box {f : Addr} {fd : FuncData} (F : Fun K "_law_box" "_law_box" s_l_box f fd) (T : Txt K mg)  : FnG P w K mg base 1 f fd ["_law_script", "_law_k"] (spE ⟨K, ca⟩ 2 f_l_box) := by
  refine fnG_of F sc_l_box fun cdv A outer s H E hg hr => ?_
  exact (ss_cons (ss_set 2 (se_if (st_cmp (op_ltAll) fLt_ok (se_var 1) (se_bi cr_len bLen_ok T.m_len (sa_cons (se_var 0) sa_nil))) (se_ix (hu_of hr) (se_var 0) (se_var 1)) (se_int)) sc_l_box.nd)
    (ss_one (ss_ret (se_lst (sv_cons (se_op op_mulAll fMul_ok (se_bi call_abs bAbs_ok T.m_abs (sa_cons (se_var 2) sa_nil)) (se_ty call_int1 bInt_ok T.m_int (sa_cons (se_cmp (op_ge) fGe_ok (se_bi call_abs bAbs_ok T.m_abs (sa_cons (se_var 2) sa_nil)) (SE.congr (se_op op_pow fPow_ok (se_int) (se_int)) (fun _ _ => by rfl))) sa_nil))) (sv_cons (se_op op_mod fMod_ok (se_op op_mulAll fMul_ok (se_op op_addAll fAdd_ok (se_op op_addAll fAdd_ok (se_op op_mod fMod_ok (se_var 2) (se_int)) (se_op op_mulAll fMul_ok (se_int) (se_var 1))) (se_int)) (se_int)) (se_int)) (sv_cons (se_int) sv_nil)))))))
abbrev s_l_folded : Stmt := topS 6
theorem sc_l_folded : FnScope ["_law_script", "_law_size_here", "_law_cells", "_law_k", "_law_cell"] ["_law_script", "_law_size_here"] (defScope s_l_folded) := ⟨rfl, rfl, rfl, by decide +kernel, rfl, by decide +kernel, by decide +kernel⟩
theorem ok_l_folded {f : Addr} {fd : FuncData} (F : Fun K "_law_folded" "_law_folded" s_l_folded f fd) (T : Txt K mg)  : FnG P w K mg base 1 f fd ["_law_script", "_law_size_here"] (spE ⟨K, ca⟩ 2 f_l_folded) := by
  refine fnG_of F sc_l_folded fun cdv A outer s H E hg hr => ?_
  exact (ss_cons (ss_set 2 (se_ty call_list_of bList_ok T.m_list (sa_cons (se_sl (se_var 0) so_none (so_some (se_var 1))) sa_nil)) sc_l_folded.nd)
    (ss_cons (ss_for po_of rfl (si_en T.m_enumerate (se_sl (se_var 0) (so_some (se_var 1)) (so_some (se_int)))) (sn_tp rfl (sns_cons (sn_nm 3 sc_l_folded.nd) (sns_cons (sn_nm 4 sc_l_folded.nd) sns_nil))) (ss_one (ss_asg (se_op op_addAll fAdd_ok (se_ix (hu_of hr) (se_var 2) (se_op op_mod fMod_ok (se_var 3) (se_var 1))) (se_op op_mulAll fMul_ok (se_var 4) (se_op op_addAll fAdd_ok (se_var 3) (se_int)))) (sg_sub (W := W0) (hu_of hr) (se_var 2) (se_op op_mod fMod_ok (se_var 3) (se_var 1))))))
    (ss_one (ss_ret (se_var 2)))))
abbrev s_stand_in : Stmt := topS 1
theorem sc_stand_in : FnScope ["lack", "stock", "top", "below", "good"] ["lack", "stock", "top", "below"] (defScope s_stand_in) := ⟨rfl, rfl, rfl, by decide +kernel, rfl, by decide +kernel, by decide +kernel⟩
theorem ok_stand_in {f : Addr} {fd : FuncData} (F : Fun K "stand_in" "stand_in" s_stand_in f fd) (T : Txt K mg)  : FnG P w K mg base 1 f fd ["lack", "stock", "top", "below"] (spE ⟨K, ca⟩ 4 f_stand_in) := by
  refine fnG_of F sc_stand_in fun cdv A outer s H E hg hr => ?_
  exact (ss_cons (ss_set 4 (se_bi (call_min2 rfl) bMin_ok T.m_min (sa_cons (se_var 0) (sa_cons (se_op op_fdivW fFdiv_ok (se_op op_mulAll fMul_ok (se_var 1) (se_var 3)) (se_var 2)) sa_nil))) sc_stand_in.nd)
    (ss_one (ss_ret (se_tup (sv_cons (se_op op_fdivW fFdiv_ok (se_op op_sub fSub_ok (se_op op_addAll fAdd_ok (se_op op_mulAll fMul_ok (se_var 4) (se_var 2)) (se_var 3)) (se_int)) (se_var 3)) (sv_cons (se_var 4) sv_nil))))))
abbrev s_made_good : Stmt := topS 2
theorem sc_made_good : FnScope ["lack", "many", "top", "below"] ["lack", "many", "top", "below"] (defScope s_made_good) := ⟨rfl, rfl, rfl, by decide +kernel, rfl, by decide +kernel, by decide +kernel⟩
theorem ok_made_good {f : Addr} {fd : FuncData} (F : Fun K "made_good" "made_good" s_made_good f fd) (T : Txt K mg)  : FnG P w K mg base 1 f fd ["lack", "many", "top", "below"] (spE ⟨K, ca⟩ 4 f_made_good) := by
  refine fnG_of F sc_made_good fun cdv A outer s H E hg hr => ?_
  exact (ss_one (ss_ret (se_bi (call_min2 rfl) bMin_ok T.m_min (sa_cons (se_var 0) (sa_cons (se_op op_fdivW fFdiv_ok (se_op op_mulAll fMul_ok (se_var 1) (se_var 3)) (se_var 2)) sa_nil)))))
abbrev s_l_take : Stmt := topS 5
theorem sc_l_take : FnScope ["_law_box_here", "_law_size_here", "_law_found", "_law_step", "_law_once", "_law_twice"] ["_law_box_here", "_law_size_here"] (defScope s_l_take) := ⟨rfl, rfl, rfl, by decide +kernel, rfl, by decide +kernel, by decide +kernel⟩
theorem ok_l_take {f : Addr} {fd : FuncData} (F : Fun K "_law_take" "_law_take" s_l_take f fd) (T : Txt K mg)  : FnG P w K mg base 1 f fd ["_law_box_here", "_law_size_here"] (spE ⟨K, ca⟩ 2 f_l_take) := by
  refine fnG_of F sc_l_take fun cdv A outer s H E hg hr => ?_
  exact (ss_cons (ss_if (st_cmp (op_gt) fGt_ok (se_ix (hu_of hr) (se_var 0) (se_int)) (se_int)) (ss_cons (ss_asg (se_bi call_divmodW bDivmod_ok T.m_divmod (sa_cons (se_ix (hu_of hr) (se_var 0) (se_int)) (sa_cons (se_var 1) sa_nil))) (sg_t rfl (sgs_cons (sg_sub (W := W0) (hu_of hr) (se_var 0) (se_int)) (sgs_cons (sg_n (sn_nm 2 sc_l_take.nd)) sgs_nil))))
    (ss_one (ss_ret (se_var 2)))) ss_nil)
    (ss_cons (ss_asg (se_op op_addAll fAdd_ok (se_ix (hu_of hr) (se_var 0) (se_int)) (se_int)) (sg_sub (W := W0) (hu_of hr) (se_var 0) (se_int)))
    (ss_cons (ss_set 3 (se_op op_addAll fAdd_ok (se_int) (se_op op_mulAll fMul_ok (se_ix (hu_of hr) (se_var 0) (se_int)) (se_ix (hu_of hr) (se_var 0) (se_int)))) sc_l_take.nd)
    (ss_cons (ss_set 4 (se_op op_mod fMod_ok (se_op op_mulAll fMul_ok (se_op op_addAll fAdd_ok (se_ix (hu_of hr) (se_var 0) (se_int)) (se_op op_mulAll fMul_ok (se_int) (se_ix (hu_of hr) (se_var 0) (se_int)))) (se_var 3)) (se_int)) sc_l_take.nd)
    (ss_cons (ss_set 5 (se_op op_mod fMod_ok (se_op op_addAll fAdd_ok (se_op op_mulAll fMul_ok (se_var 4) (se_op op_addAll fAdd_ok (se_op op_mod fMod_ok (se_var 4) (se_int)) (se_int))) (se_ix (hu_of hr) (se_var 0) (se_int))) (se_int)) sc_l_take.nd)
    (ss_one (ss_ret (se_op op_mod fMod_ok (se_op op_fdivW fFdiv_ok (se_op op_mod fMod_ok (se_op op_mulAll fMul_ok (se_var 5) (se_op op_addAll fAdd_ok (se_op op_mod fMod_ok (se_var 5) (se_int)) (se_int))) (se_int)) (se_int)) (se_var 1)))))))))
abbrev s_l_size : Stmt := topS 7
theorem sc_l_size : FnScope ["_law_box_here", "_law_most"] ["_law_box_here"] (defScope s_l_size) := ⟨rfl, rfl, rfl, by decide +kernel, rfl, by decide +kernel, by decide +kernel⟩
theorem ok_l_size {f : Addr} {fd : FuncData} (F : Fun K "_law_size" "_law_size" s_l_size f fd) (T : Txt K mg) (c_l_take : Cal P w K mg base ca 1 "_law_take" 2 f_l_take) : FnG P w K mg base 2 f fd ["_law_box_here"] (spE ⟨K, ca⟩ 1 f_l_size) := by
  refine fnG_of F sc_l_size fun cdv A outer s H E hg hr => ?_
  exact (ss_cons (ss_set 1 (se_ix (hu_of hr) (se_lst (sv_cons (se_int) (sv_cons (se_int) (sv_cons (se_int) (sv_cons (SE.congr (se_op op_addAll fAdd_ok (SE.congr (se_op op_pow fPow_ok (se_int) (se_int)) (fun _ _ => by rfl)) (se_int)) (fun _ _ => by rfl)) sv_nil))))) (se_call c_l_take hg hr tk_of (sv_cons (se_var 0) (sv_cons (se_int) sv_nil)))) sc_l_size.nd)
    (ss_one (ss_ret (se_ix (hu_of hr) (se_lst (sv_cons (se_call c_l_take hg hr tk_of (sv_cons (se_var 0) (sv_cons (se_var 1) sv_nil))) (sv_cons (se_op op_sub fSub_ok (se_var 1) (se_int)) sv_nil))) (se_call c_l_take hg hr tk_of (sv_cons (se_var 0) (sv_cons (se_int) sv_nil)))))))
abbrev s_l_whole : Stmt := topS 8
theorem sc_l_whole : FnScope ["_law_found"] ["_law_found"] (defScope s_l_whole) := ⟨rfl, rfl, rfl, by decide +kernel, rfl, by decide +kernel, by decide +kernel⟩
theorem ok_l_whole {f : Addr} {fd : FuncData} (F : Fun K "_law_whole" "_law_whole" s_l_whole f fd) (T : Txt K mg)  : FnG P w K mg base 1 f fd ["_law_found"] (spE ⟨K, ca⟩ 1 f_l_whole) := by
  refine fnG_of F sc_l_whole fun cdv A outer s H E hg hr => ?_
  exact (ss_one (ss_ret ((se_and (se_isi .int T.m_isinstance T.m_int (se_var 0)) (se_and (se_not (se_isi .bool T.m_isinstance T.m_bool (se_var 0))) (se_one (se_cmp (op_ge) fGe_ok (se_var 0) (se_int))))))))
abbrev s_l_fits : Stmt := topS 9
theorem sc_l_fits : FnScope ["_law_good", "_law_lack", "_law_many", "_law_top", "_law_below"] ["_law_good", "_law_lack", "_law_many", "_law_top", "_law_below"] (defScope s_l_fits) := ⟨rfl, rfl, rfl, by decide +kernel, rfl, by decide +kernel, by decide +kernel⟩
theorem ok_l_fits {f : Addr} {fd : FuncData} (F : Fun K "_law_fits" "_law_fits" s_l_fits f fd) (T : Txt K mg)  : FnG P w K mg base 1 f fd ["_law_good", "_law_lack", "_law_many", "_law_top", "_law_below"] (spE ⟨K, ca⟩ 5 f_l_fits) := by
  refine fnG_of F sc_l_fits fun cdv A outer s H E hg hr => ?_
  exact (ss_cons (ss_if (SW.st (sw_or (st_cmp (op_gt) fGt_ok (se_var 0) (se_var 1)) (sw_or1 (st_cmp (op_gt) fGt_ok (se_op op_mulAll fMul_ok (se_var 0) (se_var 3)) (se_op op_mulAll fMul_ok (se_var 2) (se_var 4)))))) (ss_one (ss_ret (se_bl))) ss_nil)
    (ss_one (ss_ret ((se_or (se_cmp (op_eqAll hr.units) fEq_ok (se_var 0) (se_var 1)) (se_one (se_cmp (op_gt) fGt_ok (se_op op_mulAll fMul_ok (se_op op_addAll fAdd_ok (se_var 0) (se_int)) (se_var 3)) (se_op op_mulAll fMul_ok (se_var 2) (se_var 4)))))))))
abbrev s_l_right : Stmt := topS 10
theorem sc_l_right : FnScope ["_law_box_here", "_law_top", "_law_below", "_law_lack", "_law_stock", "_law_found", "_law_one", "_law_many", "_law_good", "_law_some", "_law_told"] ["_law_box_here"] (defScope s_l_right) := ⟨rfl, rfl, rfl, by decide +kernel, rfl, by decide +kernel, by decide +kernel⟩
theorem ok_l_right {f : Addr} {fd : FuncData} (F : Fun K "_law_right" "_law_right" s_l_right f fd) (T : Txt K mg) (c_stand_in : Cal P w K mg base ca 2 "stand_in" 4 f_stand_in) (c_made_good : Cal P w K mg base ca 2 "made_good" 4 f_made_good) (c_l_take : Cal P w K mg base ca 2 "_law_take" 2 f_l_take) (c_l_size : Cal P w K mg base ca 2 "_law_size" 1 f_l_size) (c_l_whole : Cal P w K mg base ca 2 "_law_whole" 1 f_l_whole) (c_l_fits : Cal P w K mg base ca 2 "_law_fits" 5 f_l_fits) : FnG P w K mg base 3 f fd ["_law_box_here"] (spE ⟨K, ca⟩ 1 f_l_right) := by
  refine fnG_of F sc_l_right fun cdv A outer s H E hg hr => ?_
  exact (ss_cons (ss_par (sv_cons (se_op op_addAll fAdd_ok (se_int) (se_call c_l_take hg hr tk_of (sv_cons (se_var 0) (sv_cons (se_int) sv_nil)))) (sv_cons (se_op op_addAll fAdd_ok (se_int) (se_call c_l_take hg hr tk_of (sv_cons (se_var 0) (sv_cons (se_int) sv_nil)))) sv_nil)) rfl sc_l_right.nd)
    (ss_cons (ss_par (sv_cons (se_call c_l_size hg hr tk_of (sv_cons (se_var 0) sv_nil)) (sv_cons (se_call c_l_size hg hr tk_of (sv_cons (se_var 0) sv_nil)) sv_nil)) rfl sc_l_right.nd)
    (ss_cons (ss_if (st_cmp (op_eqAll hr.units) fEq_ok (se_call c_l_take hg hr tk_of (sv_cons (se_var 0) (sv_cons (se_int) sv_nil))) (se_int)) (ss_one (ss_set 4 (se_bi (call_min2 rfl) bMin_ok T.m_min (sa_cons (SE.congr (se_op op_pow fPow_ok (se_int) (se_int)) (fun _ _ => by rfl)) (sa_cons (se_bi (call_max2 rfl) bMax_ok T.m_max (sa_cons (se_int) (sa_cons (se_op op_sub fSub_ok (se_op op_addAll fAdd_ok (se_op op_fdivW fFdiv_ok (se_op op_mulAll fMul_ok (se_var 3) (se_var 1)) (se_var 2)) (se_call c_l_take hg hr tk_of (sv_cons (se_var 0) (sv_cons (se_int) sv_nil)))) (se_int)) sa_nil))) sa_nil))) sc_l_right.nd)) ss_nil)
    (ss_cons (ss_set 5 (se_call c_stand_in hg hr tk_of (sv_cons (se_var 3) (sv_cons (se_var 4) (sv_cons (se_var 1) (sv_cons (se_var 2) sv_nil))))) sc_l_right.nd)
    (ss_cons (ss_if (SW.st (sw_or (st_not (st_val (se_isi .tup T.m_isinstance T.m_tuple (se_var 5)))) (sw_or (st_cmp (op_neAll hr.units) fNe_ok (se_bi cr_len bLen_ok T.m_len (sa_cons (se_var 5) sa_nil)) (se_int)) (sw_or1 (st_not (st_val (se_bi (cr_all rfl) bAll_ok T.m_all (sa_cons (se_comp rfl sc_l_right.nd (blkOk_by (own := [("_law_one", 6)]) (show blkC ["_law_box_here", "_law_top", "_law_below", "_law_lack", "_law_stock", "_law_found", "_law_one", "_law_many", "_law_good", "_law_some", "_law_told"] (defScope s_l_right) _ _ = true by decide +kernel)) (by decide) (si_v (se_var 5)) (fun s H C cl fp => sn_nm 6 sc_l_right.nd) (fun s H C cl fp => sts_nil) (fun s H C cl fp => (se_call c_l_whole hg hr pas0 (sv_cons (se_var 6) sv_nil)))) sa_nil)))))))) (ss_one (ss_ret (se_bl))) ss_nil)
    (ss_cons (ss_asg (se_var 5) (sg_n (sn_tp rfl (sns_cons (sn_nm 7 sc_l_right.nd) (sns_cons (sn_nm 8 sc_l_right.nd) sns_nil)))))
    (ss_cons (ss_if (SW.st (sw_or (st_not (st_val (se_call c_l_fits hg hr tk_of (sv_cons (se_var 8) (sv_cons (se_var 3) (sv_cons (se_var 4) (sv_cons (se_var 1) (sv_cons (se_var 2) sv_nil)))))))) (sw_or1 (st_cmp (op_gt) fGt_ok (se_var 7) (se_var 4))))) (ss_one (ss_ret (se_bl))) ss_nil)
    (ss_cons (ss_if (SW.st (sw_or (st_cmp (op_gt) fGt_ok (se_op op_mulAll fMul_ok (se_var 8) (se_var 1)) (se_op op_mulAll fMul_ok (se_var 7) (se_var 2))) (sw_or1 (SW.st (sw_and (st_cmp (op_gt) fGt_ok (se_var 7) (se_int)) (sw_and1 (st_cmp (op_leAll) fLe_ok (se_op op_mulAll fMul_ok (se_var 8) (se_var 1)) (se_op op_mulAll fMul_ok (se_op op_sub fSub_ok (se_var 7) (se_int)) (se_var 2))))))))) (ss_one (ss_ret (se_bl))) ss_nil)
    (ss_cons (ss_for po_of rfl (si_v (se_tup (sv_cons (se_var 7) (sv_cons (se_bi (call_max2 rfl) bMax_ok T.m_max (sa_cons (se_int) (sa_cons (se_op op_sub fSub_ok (se_var 7) (se_int)) sa_nil))) (sv_cons (se_bi (call_min2 rfl) bMin_ok T.m_min (sa_cons (SE.congr (se_op op_pow fPow_ok (se_int) (se_int)) (fun _ _ => by rfl)) (sa_cons (se_op op_addAll fAdd_ok (se_var 7) (se_int)) sa_nil))) (sv_cons (se_var 4) (sv_cons (se_call c_l_take hg hr tk_of (sv_cons (se_var 0) (sv_cons (se_op op_addAll fAdd_ok (se_var 7) (se_int)) sv_nil))) (sv_cons (se_int) sv_nil)))))))) (sn_nm 9 sc_l_right.nd) (ss_cons (ss_set 10 (se_call c_made_good hg hr tk_of (sv_cons (se_var 3) (sv_cons (se_var 9) (sv_cons (se_var 1) (sv_cons (se_var 2) sv_nil))))) sc_l_right.nd)
    (ss_one (ss_if (SW.st (sw_or (st_not (st_val (se_call c_l_whole hg hr tk_of (sv_cons (se_var 10) sv_nil)))) (sw_or1 (st_not (st_val (se_call c_l_fits hg hr tk_of (sv_cons (se_var 10) (sv_cons (se_var 3) (sv_cons (se_var 9) (sv_cons (se_var 1) (sv_cons (se_var 2) sv_nil))))))))))) (ss_one (ss_ret (se_bl))) ss_nil))))
    (ss_one (ss_ret ((se_and (se_cmp (op_eqAll hr.units) fEq_ok (se_call c_made_good hg hr tk_of (sv_cons (se_var 3) (sv_cons (se_var 7) (sv_cons (se_var 1) (sv_cons (se_var 2) sv_nil))))) (se_var 8)) (se_one (se_cmp (op_eqAll hr.units) fEq_ok (se_call c_stand_in hg hr tk_of (sv_cons (se_var 3) (sv_cons (se_int) (sv_cons (se_var 1) (sv_cons (se_var 2) sv_nil))))) (se_tup (sv_cons (se_int) (sv_cons (se_int) sv_nil))))))))))))))))))
abbrev s_law : Stmt := topS 11
theorem sc_law : FnScope ["_law_script", "_law_cells", "_law_k", "_law_box_here", "_law_turn"] ["_law_script"] (defScope s_law) := ⟨rfl, rfl, rfl, by decide +kernel, rfl, by decide +kernel, by decide +kernel⟩
theorem ok_law {f : Addr} {fd : FuncData} (F : Fun K "law" "law" s_law f fd) (T : Txt K mg) (c_l_box : Cal P w K mg base ca 3 "_law_box" 2 f_l_box) (c_l_folded : Cal P w K mg base ca 3 "_law_folded" 2 f_l_folded) (c_l_right : Cal P w K mg base ca 3 "_law_right" 1 f_l_right) : FnG P w K mg base 4 f fd ["_law_script"] (spE ⟨K, ca⟩ 1 f_law) := by
  refine fnG_of F sc_law fun cdv A outer s H E hg hr => ?_
  exact (ss_cons (ss_set 1 (se_call c_l_folded hg hr tk_of (sv_cons (se_var 0) (sv_cons (se_int) sv_nil))) sc_law.nd)
    (ss_cons (ss_for po_of rfl (si_r1 T.m_range (se_bi (call_max2 rfl) bMax_ok T.m_max (sa_cons (se_int) (sa_cons (se_bi cr_len bLen_ok T.m_len (sa_cons (se_var 1) sa_nil)) sa_nil)))) (sn_nm 2 sc_law.nd) (ss_cons (ss_set 3 (se_call c_l_box hg hr tk_of (sv_cons (se_var 1) (sv_cons (se_var 2) sv_nil))) sc_law.nd)
    (ss_one (ss_if (st_not (st_val (se_bi (cr_all rfl) bAll_ok T.m_all (sa_cons (se_comp rfl sc_law.nd (blkOk_by (own := [("_law_turn", 4)]) (show blkC ["_law_script", "_law_cells", "_law_k", "_law_box_here", "_law_turn"] (defScope s_law) _ _ = true by decide +kernel)) (by decide) (si_r1 T.m_range (se_int)) (fun s H C cl fp => sn_nm 4 sc_law.nd) (fun s H C cl fp => sts_nil) (fun s H C cl fp => (se_call c_l_right hg hr pas0 (sv_cons (se_var 3) sv_nil)))) sa_nil)))) (ss_one (ss_ret (se_bl))) ss_nil))))
    (ss_one (ss_ret (se_bl)))))
end
theorem all_mk {l : PySem.W.OpenLaw} {w : World} {K : PySem.W.Frag} {h : Heap} {mg : Str → Option Value} {fa f0 f1 f2 f3 f4 f5 f6 f7 f8 f9 : Addr} (X : K.In h) (G : h.Ns mainGlobals mg) (hfa : mg "law" = some (.ref fa))
    {od0 an0 : Option Addr} {sl0 : Array (Option Value)} {oc0 kV0 dc0 pm0 cd0 ct0 : Value}
    (a0 : PySem.W.nsIn K mainGlobals "_law_box" = some (some (.ref f0))) (l0 : K.lookup f0 = some ⟨oc0, od0, .func (PySem.W.fnOf "_law_box" "_law_box" (defArgs s_l_box) (defBody s_l_box) (defScope s_l_box) .none kV0 dc0 pm0 an0 cd0 ct0), sl0⟩) (c0 : PySem.W.codeIn K cd0 "_law_box" = true) (k0 : PySem.W.keepIn K (.ref f0) = true)
    {od1 an1 : Option Addr} {sl1 : Array (Option Value)} {oc1 kV1 dc1 pm1 cd1 ct1 : Value}
    (a1 : PySem.W.nsIn K mainGlobals "_law_folded" = some (some (.ref f1))) (l1 : K.lookup f1 = some ⟨oc1, od1, .func (PySem.W.fnOf "_law_folded" "_law_folded" (defArgs s_l_folded) (defBody s_l_folded) (defScope s_l_folded) .none kV1 dc1 pm1 an1 cd1 ct1), sl1⟩) (c1 : PySem.W.codeIn K cd1 "_law_folded" = true) (k1 : PySem.W.keepIn K (.ref f1) = true)
    {od2 an2 : Option Addr} {sl2 : Array (Option Value)} {oc2 kV2 dc2 pm2 cd2 ct2 : Value}
    (a2 : PySem.W.nsIn K mainGlobals "stand_in" = some (some (.ref f2))) (l2 : K.lookup f2 = some ⟨oc2, od2, .func (PySem.W.fnOf "stand_in" "stand_in" (defArgs s_stand_in) (defBody s_stand_in) (defScope s_stand_in) .none kV2 dc2 pm2 an2 cd2 ct2), sl2⟩) (c2 : PySem.W.codeIn K cd2 "stand_in" = true) (k2 : PySem.W.keepIn K (.ref f2) = true)
    {od3 an3 : Option Addr} {sl3 : Array (Option Value)} {oc3 kV3 dc3 pm3 cd3 ct3 : Value}
    (a3 : PySem.W.nsIn K mainGlobals "made_good" = some (some (.ref f3))) (l3 : K.lookup f3 = some ⟨oc3, od3, .func (PySem.W.fnOf "made_good" "made_good" (defArgs s_made_good) (defBody s_made_good) (defScope s_made_good) .none kV3 dc3 pm3 an3 cd3 ct3), sl3⟩) (c3 : PySem.W.codeIn K cd3 "made_good" = true) (k3 : PySem.W.keepIn K (.ref f3) = true)
    {od4 an4 : Option Addr} {sl4 : Array (Option Value)} {oc4 kV4 dc4 pm4 cd4 ct4 : Value}
    (a4 : PySem.W.nsIn K mainGlobals "_law_take" = some (some (.ref f4))) (l4 : K.lookup f4 = some ⟨oc4, od4, .func (PySem.W.fnOf "_law_take" "_law_take" (defArgs s_l_take) (defBody s_l_take) (defScope s_l_take) .none kV4 dc4 pm4 an4 cd4 ct4), sl4⟩) (c4 : PySem.W.codeIn K cd4 "_law_take" = true) (k4 : PySem.W.keepIn K (.ref f4) = true)
    {od5 an5 : Option Addr} {sl5 : Array (Option Value)} {oc5 kV5 dc5 pm5 cd5 ct5 : Value}
    (a5 : PySem.W.nsIn K mainGlobals "_law_size" = some (some (.ref f5))) (l5 : K.lookup f5 = some ⟨oc5, od5, .func (PySem.W.fnOf "_law_size" "_law_size" (defArgs s_l_size) (defBody s_l_size) (defScope s_l_size) .none kV5 dc5 pm5 an5 cd5 ct5), sl5⟩) (c5 : PySem.W.codeIn K cd5 "_law_size" = true) (k5 : PySem.W.keepIn K (.ref f5) = true)
    {od6 an6 : Option Addr} {sl6 : Array (Option Value)} {oc6 kV6 dc6 pm6 cd6 ct6 : Value}
    (a6 : PySem.W.nsIn K mainGlobals "_law_whole" = some (some (.ref f6))) (l6 : K.lookup f6 = some ⟨oc6, od6, .func (PySem.W.fnOf "_law_whole" "_law_whole" (defArgs s_l_whole) (defBody s_l_whole) (defScope s_l_whole) .none kV6 dc6 pm6 an6 cd6 ct6), sl6⟩) (c6 : PySem.W.codeIn K cd6 "_law_whole" = true) (k6 : PySem.W.keepIn K (.ref f6) = true)
    {od7 an7 : Option Addr} {sl7 : Array (Option Value)} {oc7 kV7 dc7 pm7 cd7 ct7 : Value}
    (a7 : PySem.W.nsIn K mainGlobals "_law_fits" = some (some (.ref f7))) (l7 : K.lookup f7 = some ⟨oc7, od7, .func (PySem.W.fnOf "_law_fits" "_law_fits" (defArgs s_l_fits) (defBody s_l_fits) (defScope s_l_fits) .none kV7 dc7 pm7 an7 cd7 ct7), sl7⟩) (c7 : PySem.W.codeIn K cd7 "_law_fits" = true) (k7 : PySem.W.keepIn K (.ref f7) = true)
    {od8 an8 : Option Addr} {sl8 : Array (Option Value)} {oc8 kV8 dc8 pm8 cd8 ct8 : Value}
    (a8 : PySem.W.nsIn K mainGlobals "_law_right" = some (some (.ref f8))) (l8 : K.lookup f8 = some ⟨oc8, od8, .func (PySem.W.fnOf "_law_right" "_law_right" (defArgs s_l_right) (defBody s_l_right) (defScope s_l_right) .none kV8 dc8 pm8 an8 cd8 ct8), sl8⟩) (c8 : PySem.W.codeIn K cd8 "_law_right" = true) (k8 : PySem.W.keepIn K (.ref f8) = true)
    {od9 an9 : Option Addr} {sl9 : Array (Option Value)} {oc9 kV9 dc9 pm9 cd9 ct9 : Value}
    (a9 : PySem.W.nsIn K mainGlobals "law" = some (some (.ref f9))) (l9 : K.lookup f9 = some ⟨oc9, od9, .func (PySem.W.fnOf "law" "law" (defArgs s_law) (defBody s_law) (defScope s_law) .none kV9 dc9 pm9 an9 cd9 ct9), sl9⟩) (c9 : PySem.W.codeIn K cd9 "law" = true) (k9 : PySem.W.keepIn K (.ref f9) = true)
    (z0 : PySem.W.nsIn K mainGlobals "abs" = some none)
    (z1 : PySem.W.nsIn K mainGlobals "all" = some none)
    (z2 : PySem.W.nsIn K mainGlobals "bool" = some none)
    (z3 : PySem.W.nsIn K mainGlobals "divmod" = some none)
    (z4 : PySem.W.nsIn K mainGlobals "enumerate" = some none)
    (z5 : PySem.W.nsIn K mainGlobals "int" = some none)
    (z6 : PySem.W.nsIn K mainGlobals "isinstance" = some none)
    (z7 : PySem.W.nsIn K mainGlobals "len" = some none)
    (z8 : PySem.W.nsIn K mainGlobals "list" = some none)
    (z9 : PySem.W.nsIn K mainGlobals "max" = some none)
    (z10 : PySem.W.nsIn K mainGlobals "min" = some none)
    (z11 : PySem.W.nsIn K mainGlobals "range" = some none)
    (z12 : PySem.W.nsIn K mainGlobals "tuple" = some none)
    : ∃ (fd : FuncData) (ca : Nat → Addr), (∀ (s : Shared) (v : Value), BindsTo s fd ⟨[v], []⟩ [("_law_script", v)]) ∧ ∀ base : Heap, K.In base → base.Ns mainGlobals mg → FnG l.prog w K mg base 4 fa fd ["_law_script"] (spE ⟨K, ca⟩ 1 f_law) := by
  have e := hfa.symm.trans (PySem.W.mg_of X G a9)
  cases e
  have T : Txt K mg := ⟨PySem.W.mg_none_of X G z0, PySem.W.mg_none_of X G z1, PySem.W.mg_none_of X G z2, PySem.W.mg_none_of X G z3, PySem.W.mg_none_of X G z4, PySem.W.mg_none_of X G z5, PySem.W.mg_none_of X G z6, PySem.W.mg_none_of X G z7, PySem.W.mg_none_of X G z8, PySem.W.mg_none_of X G z9, PySem.W.mg_none_of X G z10, PySem.W.mg_none_of X G z11, PySem.W.mg_none_of X G z12⟩
  have F0 := fun_mk (st := s_l_box) l0 c0 k0
  have b0 := F0.binds (ps := ["_law_script", "_law_k"]) fun _ _ _ _ _ _ us hl => match us, hl with | [_, _], _ => rfl
  have F1 := fun_mk (st := s_l_folded) l1 c1 k1
  have b1 := F1.binds (ps := ["_law_script", "_law_size_here"]) fun _ _ _ _ _ _ us hl => match us, hl with | [_, _], _ => rfl
  have F2 := fun_mk (st := s_stand_in) l2 c2 k2
  have b2 := F2.binds (ps := ["lack", "stock", "top", "below"]) fun _ _ _ _ _ _ us hl => match us, hl with | [_, _, _, _], _ => rfl
  have F3 := fun_mk (st := s_made_good) l3 c3 k3
  have b3 := F3.binds (ps := ["lack", "many", "top", "below"]) fun _ _ _ _ _ _ us hl => match us, hl with | [_, _, _, _], _ => rfl
  have F4 := fun_mk (st := s_l_take) l4 c4 k4
  have b4 := F4.binds (ps := ["_law_box_here", "_law_size_here"]) fun _ _ _ _ _ _ us hl => match us, hl with | [_, _], _ => rfl
  have F5 := fun_mk (st := s_l_size) l5 c5 k5
  have b5 := F5.binds (ps := ["_law_box_here"]) fun _ _ _ _ _ _ us hl => match us, hl with | [_], _ => rfl
  have F6 := fun_mk (st := s_l_whole) l6 c6 k6
  have b6 := F6.binds (ps := ["_law_found"]) fun _ _ _ _ _ _ us hl => match us, hl with | [_], _ => rfl
  have F7 := fun_mk (st := s_l_fits) l7 c7 k7
  have b7 := F7.binds (ps := ["_law_good", "_law_lack", "_law_many", "_law_top", "_law_below"]) fun _ _ _ _ _ _ us hl => match us, hl with | [_, _, _, _, _], _ => rfl
  have F8 := fun_mk (st := s_l_right) l8 c8 k8
  have b8 := F8.binds (ps := ["_law_box_here"]) fun _ _ _ _ _ _ us hl => match us, hl with | [_], _ => rfl
  have F9 := fun_mk (st := s_law) l9 c9 k9
  refine ⟨PySem.W.fnOf "law" "law" (defArgs s_law) (defBody s_law) (defScope s_law) .none kV9 dc9 pm9 an9 cd9 ct9, fun _ => fa, fun s v => .of_eq rfl, fun base _ _ => ?_⟩
  have C0 : Cal l.prog w K mg base (fun _ => fa) 1 "_law_box" 2 f_l_box := ⟨_, _, _, ok_l_box F0 T , PySem.W.mg_of X G a0, k0, b0⟩
  have C1 : Cal l.prog w K mg base (fun _ => fa) 1 "_law_folded" 2 f_l_folded := ⟨_, _, _, ok_l_folded F1 T , PySem.W.mg_of X G a1, k1, b1⟩
  have C2 : Cal l.prog w K mg base (fun _ => fa) 1 "stand_in" 4 f_stand_in := ⟨_, _, _, ok_stand_in F2 T , PySem.W.mg_of X G a2, k2, b2⟩
  have C3 : Cal l.prog w K mg base (fun _ => fa) 1 "made_good" 4 f_made_good := ⟨_, _, _, ok_made_good F3 T , PySem.W.mg_of X G a3, k3, b3⟩
  have C4 : Cal l.prog w K mg base (fun _ => fa) 1 "_law_take" 2 f_l_take := ⟨_, _, _, ok_l_take F4 T , PySem.W.mg_of X G a4, k4, b4⟩
  have C5 : Cal l.prog w K mg base (fun _ => fa) 2 "_law_size" 1 f_l_size := ⟨_, _, _, ok_l_size F5 T (C4.mono (by decide)), PySem.W.mg_of X G a5, k5, b5⟩
  have C6 : Cal l.prog w K mg base (fun _ => fa) 1 "_law_whole" 1 f_l_whole := ⟨_, _, _, ok_l_whole F6 T , PySem.W.mg_of X G a6, k6, b6⟩
  have C7 : Cal l.prog w K mg base (fun _ => fa) 1 "_law_fits" 5 f_l_fits := ⟨_, _, _, ok_l_fits F7 T , PySem.W.mg_of X G a7, k7, b7⟩
  have C8 : Cal l.prog w K mg base (fun _ => fa) 3 "_law_right" 1 f_l_right := ⟨_, _, _, ok_l_right F8 T (C2.mono (by decide)) (C3.mono (by decide)) (C4.mono (by decide)) (C5.mono (by decide)) (C6.mono (by decide)) (C7.mono (by decide)), PySem.W.mg_of X G a8, k8, b8⟩
  exact ok_law F9 T (C0.mono (by decide)) (C1.mono (by decide)) (C8.mono (by decide))
end Mi.k10

namespace Mi.k10
open PySem L2 Mi
/-- what stand_in makes good -/
def gd (l s t b : Int) : Int := if s * b / t < l then s * b / t else l
theorem made_ok {l s t b : Int} {h : MH} {P : Val → MH → Prop} {X : XP} (t0 : 0 < t) (t1 : t ≤ 20) (b0 : 0 < b) (b1 : b ≤ 20) (k : P (.int (gd l s t b)) h) : @wpR _ (f_made_good [.int l, .int s, .int t, .int b] h) ⟨P⟩ ⟨X⟩ := by
  unfold f_made_good b_made_good
  (repeat (first | simp only [wpR_run, wpS_nil, wpS_seq, wpS_ret, wpS_retN, wpS_expr, wpS_set, wpS_if, wpS_brk, wpS_cnt, wpS_aug, wpS_par, wpS_asg, wpS_tdN, wpS_tdSub, wpS_tdT, wpS_runT0, wpS_runT, wpS_for, onlyN_nx, run_nm, run_tp, setN_nil, setN_cons, asV_v, bindO_s, wgo_go, wIf_t, wIf_f, wNd_t, wpR_ok, wpR_ex, wpR_bind, bind_ok, wpR_ite, wpR_oR, wOpt_s, numP_v, numP_n, numK_v, numK_n, dVar_0, dVar_s, dC_ap, dOp_ap, dU_ap, dB_ap, aNil_ap, aCons_ap, vNil_ap, vCons_ap, dTup_ap, dLst_ap, asBool_v, dT_ap, brR_t, brR_f, wpR_br, dIf_ap, bAnd_ap, bOr_ap, bNot_ap, dAnd_ap, dOr_ap, dNot_ap, dCh_ap, dCall_ap, wpR_call0, wpR_call1, wpR_call2, wpR_call3, wpR_call4, wpR_call5, wpR_call6, fAdd_ii, fAdd_ss, fAddI_ii, fAddI_ss, fSub_ii, fMul_ii, fMod_ii, fFdiv_ii, fNeg_i, fLt_ii, fLe_ii, fGt_ii, fGe_ii, fEq_ii, fNe_ii, fEq_ss, fNe_ss, fEq_bb, fNe_bb, bAbs_i, bInt_i, bInt_b, bMax_ii, bMin_ii, bDivmod_ii, seqK_n, seqK_tp, seqK_fl, bLen_tp, bLen_fl, bLen_n, bLen_s, bList_q, bTuple_q, optR_s, fIx_tp, fIx_fl, fIx_n, fIx_s, oNone_ap, asInt_i, oSome_ap, dSl_ap, fSl_tp, fSl_fl, fSl_n, fSl_s, atI_0, atI_1, atI_2, atI_3, wpR_comp, tYesB_ap, diV_ap, itV_tp, itV_fl, itV_n, itV_s, live_tp, live_fl, live_n, diR1_ap, diR2_ap, diE_ap, Kf_nx, Kf_rt, Kf_ex, Kin_nx, Kin_ct, Kin_bk, Kin_rt, Kin_ex, isTp, List.set_cons_succ, List.set_cons_zero, List.map_cons, List.map_nil, List.cons_append, List.nil_append, List.length_cons, List.length_nil, List.replicate_succ, List.replicate_zero, List.append_nil, Nat.reduceSub, Nat.reduceAdd, Nat.reduceMul, Int.reduceAdd, Int.reduceSub, Int.reduceMul, Int.reduceNeg, Int.reduceLT, Int.reduceLE, Nat.reduceLeDiff, Nat.reduceLT, decide_true, decide_false, Int.reduceToNat, Bool.not_true, Bool.not_false, and_true, true_and, and_self, true_or, or_true, List.set_nil, Int.reduceMod, Int.reduceDiv, Int.reducePow, Int.cast_ofNat_Int, Int.reduceEq, Int.reduceNe, Nat.reduceEqDiff, eq_self, false_and, and_false, Nat.zero_add, Int.zero_add, Int.add_zero, wipeE, fSetIx_ref, fIx_ref, bLen_ref, seqK_ref, itV_ref, live_ref, fSl_ref] | refine wNd_i (by omega) ?_))
  exact k
theorem stand_ok {l s t b : Int} {h : MH} {P : Val → MH → Prop} {X : XP} (t0 : 0 < t) (t1 : t ≤ 20) (b0 : 0 < b) (b1 : b ≤ 20) (k : P (.tup [.int ((gd l s t b * t + b - 1) / b), .int (gd l s t b)]) h) : @wpR _ (f_stand_in [.int l, .int s, .int t, .int b] h) ⟨P⟩ ⟨X⟩ := by
  unfold f_stand_in b_stand_in
  (repeat (first | simp only [wpR_run, wpS_nil, wpS_seq, wpS_ret, wpS_retN, wpS_expr, wpS_set, wpS_if, wpS_brk, wpS_cnt, wpS_aug, wpS_par, wpS_asg, wpS_tdN, wpS_tdSub, wpS_tdT, wpS_runT0, wpS_runT, wpS_for, onlyN_nx, run_nm, run_tp, setN_nil, setN_cons, asV_v, bindO_s, wgo_go, wIf_t, wIf_f, wNd_t, wpR_ok, wpR_ex, wpR_bind, bind_ok, wpR_ite, wpR_oR, wOpt_s, numP_v, numP_n, numK_v, numK_n, dVar_0, dVar_s, dC_ap, dOp_ap, dU_ap, dB_ap, aNil_ap, aCons_ap, vNil_ap, vCons_ap, dTup_ap, dLst_ap, asBool_v, dT_ap, brR_t, brR_f, wpR_br, dIf_ap, bAnd_ap, bOr_ap, bNot_ap, dAnd_ap, dOr_ap, dNot_ap, dCh_ap, dCall_ap, wpR_call0, wpR_call1, wpR_call2, wpR_call3, wpR_call4, wpR_call5, wpR_call6, fAdd_ii, fAdd_ss, fAddI_ii, fAddI_ss, fSub_ii, fMul_ii, fMod_ii, fFdiv_ii, fNeg_i, fLt_ii, fLe_ii, fGt_ii, fGe_ii, fEq_ii, fNe_ii, fEq_ss, fNe_ss, fEq_bb, fNe_bb, bAbs_i, bInt_i, bInt_b, bMax_ii, bMin_ii, bDivmod_ii, seqK_n, seqK_tp, seqK_fl, bLen_tp, bLen_fl, bLen_n, bLen_s, bList_q, bTuple_q, optR_s, fIx_tp, fIx_fl, fIx_n, fIx_s, oNone_ap, asInt_i, oSome_ap, dSl_ap, fSl_tp, fSl_fl, fSl_n, fSl_s, atI_0, atI_1, atI_2, atI_3, wpR_comp, tYesB_ap, diV_ap, itV_tp, itV_fl, itV_n, itV_s, live_tp, live_fl, live_n, diR1_ap, diR2_ap, diE_ap, Kf_nx, Kf_rt, Kf_ex, Kin_nx, Kin_ct, Kin_bk, Kin_rt, Kin_ex, isTp, List.set_cons_succ, List.set_cons_zero, List.map_cons, List.map_nil, List.cons_append, List.nil_append, List.length_cons, List.length_nil, List.replicate_succ, List.replicate_zero, List.append_nil, Nat.reduceSub, Nat.reduceAdd, Nat.reduceMul, Int.reduceAdd, Int.reduceSub, Int.reduceMul, Int.reduceNeg, Int.reduceLT, Int.reduceLE, Nat.reduceLeDiff, Nat.reduceLT, decide_true, decide_false, Int.reduceToNat, Bool.not_true, Bool.not_false, and_true, true_and, and_self, true_or, or_true, List.set_nil, Int.reduceMod, Int.reduceDiv, Int.reducePow, Int.cast_ofNat_Int, Int.reduceEq, Int.reduceNe, Nat.reduceEqDiff, eq_self, false_and, and_false, Nat.zero_add, Int.zero_add, Int.add_zero, wipeE, fSetIx_ref, fIx_ref, bLen_ref, seqK_ref, itV_ref, live_ref, fSl_ref] | refine wNd_i (by omega) ?_))
  exact k
theorem whole_ok {i : Int} {h : MH} {P : Val → MH → Prop} {X : XP} (i0 : 0 ≤ i) (k : P (.bl true) h) : @wpR _ (f_l_whole [.int i] h) ⟨P⟩ ⟨X⟩ := by
  unfold f_l_whole b_l_whole
  (repeat (first | simp only [wpR_run, wpS_nil, wpS_seq, wpS_ret, wpS_retN, wpS_expr, wpS_set, wpS_if, wpS_brk, wpS_cnt, wpS_aug, wpS_par, wpS_asg, wpS_tdN, wpS_tdSub, wpS_tdT, wpS_runT0, wpS_runT, wpS_for, onlyN_nx, run_nm, run_tp, setN_nil, setN_cons, asV_v, bindO_s, wgo_go, wIf_t, wIf_f, wNd_t, wpR_ok, wpR_ex, wpR_bind, bind_ok, wpR_ite, wpR_oR, wOpt_s, numP_v, numP_n, numK_v, numK_n, dVar_0, dVar_s, dC_ap, dOp_ap, dU_ap, dB_ap, aNil_ap, aCons_ap, vNil_ap, vCons_ap, dTup_ap, dLst_ap, asBool_v, dT_ap, brR_t, brR_f, wpR_br, dIf_ap, bAnd_ap, bOr_ap, bNot_ap, dAnd_ap, dOr_ap, dNot_ap, dCh_ap, dCall_ap, wpR_call0, wpR_call1, wpR_call2, wpR_call3, wpR_call4, wpR_call5, wpR_call6, fAdd_ii, fAdd_ss, fAddI_ii, fAddI_ss, fSub_ii, fMul_ii, fMod_ii, fFdiv_ii, fNeg_i, fLt_ii, fLe_ii, fGt_ii, fGe_ii, fEq_ii, fNe_ii, fEq_ss, fNe_ss, fEq_bb, fNe_bb, bAbs_i, bInt_i, bInt_b, bMax_ii, bMin_ii, bDivmod_ii, seqK_n, seqK_tp, seqK_fl, bLen_tp, bLen_fl, bLen_n, bLen_s, bList_q, bTuple_q, optR_s, fIx_tp, fIx_fl, fIx_n, fIx_s, oNone_ap, asInt_i, oSome_ap, dSl_ap, fSl_tp, fSl_fl, fSl_n, fSl_s, atI_0, atI_1, atI_2, atI_3, wpR_comp, tYesB_ap, diV_ap, itV_tp, itV_fl, itV_n, itV_s, live_tp, live_fl, live_n, diR1_ap, diR2_ap, diE_ap, Kf_nx, Kf_rt, Kf_ex, Kin_nx, Kin_ct, Kin_bk, Kin_rt, Kin_ex, isTp, List.set_cons_succ, List.set_cons_zero, List.map_cons, List.map_nil, List.cons_append, List.nil_append, List.length_cons, List.length_nil, List.replicate_succ, List.replicate_zero, List.append_nil, Nat.reduceSub, Nat.reduceAdd, Nat.reduceMul, Int.reduceAdd, Int.reduceSub, Int.reduceMul, Int.reduceNeg, Int.reduceLT, Int.reduceLE, Nat.reduceLeDiff, Nat.reduceLT, decide_true, decide_false, Int.reduceToNat, Bool.not_true, Bool.not_false, and_true, true_and, and_self, true_or, or_true, List.set_nil, Int.reduceMod, Int.reduceDiv, Int.reducePow, Int.cast_ofNat_Int, Int.reduceEq, Int.reduceNe, Nat.reduceEqDiff, eq_self, false_and, and_false, Nat.zero_add, Int.zero_add, Int.add_zero, wipeE, fSetIx_ref, fIx_ref, bLen_ref, seqK_ref, itV_ref, live_ref, fSl_ref, show fIsi .int (.v (.int i)) h = .ok (.v (.bl true)) h from rfl, show fIsi .bool (.v (.int i)) h = .ok (.v (.bl false)) h from rfl] | refine wNd_i (by omega) ?_))
  simpa [i0] using k

theorem fits_ok {g l m t b : Int} {h : MH} {P : Val → MH → Prop} {X : XP} (t0 : 0 < t) (t1 : t ≤ 20) (b0 : 0 < b) (b1 : b ≤ 20) (f1 : g ≤ l) (f2 : g * t ≤ m * b) (f3 : g = l ∨ m * b < (g + 1) * t) (k : P (.bl true) h) : @wpR _ (f_l_fits [.int g, .int l, .int m, .int t, .int b] h) ⟨P⟩ ⟨X⟩ := by
  unfold f_l_fits b_l_fits
  (repeat (first | simp only [wpR_run, wpS_nil, wpS_seq, wpS_ret, wpS_retN, wpS_expr, wpS_set, wpS_if, wpS_brk, wpS_cnt, wpS_aug, wpS_par, wpS_asg, wpS_tdN, wpS_tdSub, wpS_tdT, wpS_runT0, wpS_runT, wpS_for, onlyN_nx, run_nm, run_tp, setN_nil, setN_cons, asV_v, bindO_s, wgo_go, wIf_t, wIf_f, wNd_t, wpR_ok, wpR_ex, wpR_bind, bind_ok, wpR_ite, wpR_oR, wOpt_s, numP_v, numP_n, numK_v, numK_n, dVar_0, dVar_s, dC_ap, dOp_ap, dU_ap, dB_ap, aNil_ap, aCons_ap, vNil_ap, vCons_ap, dTup_ap, dLst_ap, asBool_v, dT_ap, brR_t, brR_f, wpR_br, dIf_ap, bAnd_ap, bOr_ap, bNot_ap, dAnd_ap, dOr_ap, dNot_ap, dCh_ap, dCall_ap, wpR_call0, wpR_call1, wpR_call2, wpR_call3, wpR_call4, wpR_call5, wpR_call6, fAdd_ii, fAdd_ss, fAddI_ii, fAddI_ss, fSub_ii, fMul_ii, fMod_ii, fFdiv_ii, fNeg_i, fLt_ii, fLe_ii, fGt_ii, fGe_ii, fEq_ii, fNe_ii, fEq_ss, fNe_ss, fEq_bb, fNe_bb, bAbs_i, bInt_i, bInt_b, bMax_ii, bMin_ii, bDivmod_ii, seqK_n, seqK_tp, seqK_fl, bLen_tp, bLen_fl, bLen_n, bLen_s, bList_q, bTuple_q, optR_s, fIx_tp, fIx_fl, fIx_n, fIx_s, oNone_ap, asInt_i, oSome_ap, dSl_ap, fSl_tp, fSl_fl, fSl_n, fSl_s, atI_0, atI_1, atI_2, atI_3, wpR_comp, tYesB_ap, diV_ap, itV_tp, itV_fl, itV_n, itV_s, live_tp, live_fl, live_n, diR1_ap, diR2_ap, diE_ap, Kf_nx, Kf_rt, Kf_ex, Kin_nx, Kin_ct, Kin_bk, Kin_rt, Kin_ex, isTp, List.set_cons_succ, List.set_cons_zero, List.map_cons, List.map_nil, List.cons_append, List.nil_append, List.length_cons, List.length_nil, List.replicate_succ, List.replicate_zero, List.append_nil, Nat.reduceSub, Nat.reduceAdd, Nat.reduceMul, Int.reduceAdd, Int.reduceSub, Int.reduceMul, Int.reduceNeg, Int.reduceLT, Int.reduceLE, Nat.reduceLeDiff, Nat.reduceLT, decide_true, decide_false, Int.reduceToNat, Bool.not_true, Bool.not_false, and_true, true_and, and_self, true_or, or_true, List.set_nil, Int.reduceMod, Int.reduceDiv, Int.reducePow, Int.cast_ofNat_Int, Int.reduceEq, Int.reduceNe, Nat.reduceEqDiff, eq_self, false_and, and_false, Nat.zero_add, Int.zero_add, Int.add_zero, wipeE, fSetIx_ref, fIx_ref, bLen_ref, seqK_ref, itV_ref, live_ref, fSl_ref] | refine wNd_i (by omega) ?_))
  refine wIf_d (fun z => absurd z (by omega)) fun _ => ?_
  (repeat (first | simp only [wpR_run, wpS_nil, wpS_seq, wpS_ret, wpS_retN, wpS_expr, wpS_set, wpS_if, wpS_brk, wpS_cnt, wpS_aug, wpS_par, wpS_asg, wpS_tdN, wpS_tdSub, wpS_tdT, wpS_runT0, wpS_runT, wpS_for, onlyN_nx, run_nm, run_tp, setN_nil, setN_cons, asV_v, bindO_s, wgo_go, wIf_t, wIf_f, wNd_t, wpR_ok, wpR_ex, wpR_bind, bind_ok, wpR_ite, wpR_oR, wOpt_s, numP_v, numP_n, numK_v, numK_n, dVar_0, dVar_s, dC_ap, dOp_ap, dU_ap, dB_ap, aNil_ap, aCons_ap, vNil_ap, vCons_ap, dTup_ap, dLst_ap, asBool_v, dT_ap, brR_t, brR_f, wpR_br, dIf_ap, bAnd_ap, bOr_ap, bNot_ap, dAnd_ap, dOr_ap, dNot_ap, dCh_ap, dCall_ap, wpR_call0, wpR_call1, wpR_call2, wpR_call3, wpR_call4, wpR_call5, wpR_call6, fAdd_ii, fAdd_ss, fAddI_ii, fAddI_ss, fSub_ii, fMul_ii, fMod_ii, fFdiv_ii, fNeg_i, fLt_ii, fLe_ii, fGt_ii, fGe_ii, fEq_ii, fNe_ii, fEq_ss, fNe_ss, fEq_bb, fNe_bb, bAbs_i, bInt_i, bInt_b, bMax_ii, bMin_ii, bDivmod_ii, seqK_n, seqK_tp, seqK_fl, bLen_tp, bLen_fl, bLen_n, bLen_s, bList_q, bTuple_q, optR_s, fIx_tp, fIx_fl, fIx_n, fIx_s, oNone_ap, asInt_i, oSome_ap, dSl_ap, fSl_tp, fSl_fl, fSl_n, fSl_s, atI_0, atI_1, atI_2, atI_3, wpR_comp, tYesB_ap, diV_ap, itV_tp, itV_fl, itV_n, itV_s, live_tp, live_fl, live_n, diR1_ap, diR2_ap, diE_ap, Kf_nx, Kf_rt, Kf_ex, Kin_nx, Kin_ct, Kin_bk, Kin_rt, Kin_ex, isTp, List.set_cons_succ, List.set_cons_zero, List.map_cons, List.map_nil, List.cons_append, List.nil_append, List.length_cons, List.length_nil, List.replicate_succ, List.replicate_zero, List.append_nil, Nat.reduceSub, Nat.reduceAdd, Nat.reduceMul, Int.reduceAdd, Int.reduceSub, Int.reduceMul, Int.reduceNeg, Int.reduceLT, Int.reduceLE, Nat.reduceLeDiff, Nat.reduceLT, decide_true, decide_false, Int.reduceToNat, Bool.not_true, Bool.not_false, and_true, true_and, and_self, true_or, or_true, List.set_nil, Int.reduceMod, Int.reduceDiv, Int.reducePow, Int.cast_ofNat_Int, Int.reduceEq, Int.reduceNe, Nat.reduceEqDiff, eq_self, false_and, and_false, Nat.zero_add, Int.zero_add, Int.add_zero, wipeE, fSetIx_ref, fIx_ref, bLen_ref, seqK_ref, itV_ref, live_ref, fSl_ref] | refine wNd_i (by omega) ?_))
  refine wIf_d (fun z => absurd z (by omega)) fun _ => ?_
  (repeat (first | simp only [wpR_run, wpS_nil, wpS_seq, wpS_ret, wpS_retN, wpS_expr, wpS_set, wpS_if, wpS_brk, wpS_cnt, wpS_aug, wpS_par, wpS_asg, wpS_tdN, wpS_tdSub, wpS_tdT, wpS_runT0, wpS_runT, wpS_for, onlyN_nx, run_nm, run_tp, setN_nil, setN_cons, asV_v, bindO_s, wgo_go, wIf_t, wIf_f, wNd_t, wpR_ok, wpR_ex, wpR_bind, bind_ok, wpR_ite, wpR_oR, wOpt_s, numP_v, numP_n, numK_v, numK_n, dVar_0, dVar_s, dC_ap, dOp_ap, dU_ap, dB_ap, aNil_ap, aCons_ap, vNil_ap, vCons_ap, dTup_ap, dLst_ap, asBool_v, dT_ap, brR_t, brR_f, wpR_br, dIf_ap, bAnd_ap, bOr_ap, bNot_ap, dAnd_ap, dOr_ap, dNot_ap, dCh_ap, dCall_ap, wpR_call0, wpR_call1, wpR_call2, wpR_call3, wpR_call4, wpR_call5, wpR_call6, fAdd_ii, fAdd_ss, fAddI_ii, fAddI_ss, fSub_ii, fMul_ii, fMod_ii, fFdiv_ii, fNeg_i, fLt_ii, fLe_ii, fGt_ii, fGe_ii, fEq_ii, fNe_ii, fEq_ss, fNe_ss, fEq_bb, fNe_bb, bAbs_i, bInt_i, bInt_b, bMax_ii, bMin_ii, bDivmod_ii, seqK_n, seqK_tp, seqK_fl, bLen_tp, bLen_fl, bLen_n, bLen_s, bList_q, bTuple_q, optR_s, fIx_tp, fIx_fl, fIx_n, fIx_s, oNone_ap, asInt_i, oSome_ap, dSl_ap, fSl_tp, fSl_fl, fSl_n, fSl_s, atI_0, atI_1, atI_2, atI_3, wpR_comp, tYesB_ap, diV_ap, itV_tp, itV_fl, itV_n, itV_s, live_tp, live_fl, live_n, diR1_ap, diR2_ap, diE_ap, Kf_nx, Kf_rt, Kf_ex, Kin_nx, Kin_ct, Kin_bk, Kin_rt, Kin_ex, isTp, List.set_cons_succ, List.set_cons_zero, List.map_cons, List.map_nil, List.cons_append, List.nil_append, List.length_cons, List.length_nil, List.replicate_succ, List.replicate_zero, List.append_nil, Nat.reduceSub, Nat.reduceAdd, Nat.reduceMul, Int.reduceAdd, Int.reduceSub, Int.reduceMul, Int.reduceNeg, Int.reduceLT, Int.reduceLE, Nat.reduceLeDiff, Nat.reduceLT, decide_true, decide_false, Int.reduceToNat, Bool.not_true, Bool.not_false, and_true, true_and, and_self, true_or, or_true, List.set_nil, Int.reduceMod, Int.reduceDiv, Int.reducePow, Int.cast_ofNat_Int, Int.reduceEq, Int.reduceNe, Nat.reduceEqDiff, eq_self, false_and, and_false, Nat.zero_add, Int.zero_add, Int.add_zero, wipeE, fSetIx_ref, fIx_ref, bLen_ref, seqK_ref, itV_ref, live_ref, fSl_ref] | refine wNd_i (by omega) ?_))
  refine wIf_d (fun z => ?_) fun z => ?_
  · simp only [wpR_run, wpS_nil, wpS_seq, wpS_ret, wpS_retN, wpS_expr, wpS_set, wpS_if, wpS_brk, wpS_cnt, wpS_aug, wpS_par, wpS_asg, wpS_tdN, wpS_tdSub, wpS_tdT, wpS_runT0, wpS_runT, wpS_for, onlyN_nx, run_nm, run_tp, setN_nil, setN_cons, asV_v, bindO_s, wgo_go, wIf_t, wIf_f, wNd_t, wpR_ok, wpR_ex, wpR_bind, bind_ok, wpR_ite, wpR_oR, wOpt_s, numP_v, numP_n, numK_v, numK_n, dVar_0, dVar_s, dC_ap, dOp_ap, dU_ap, dB_ap, aNil_ap, aCons_ap, vNil_ap, vCons_ap, dTup_ap, dLst_ap, asBool_v, dT_ap, brR_t, brR_f, wpR_br, dIf_ap, bAnd_ap, bOr_ap, bNot_ap, dAnd_ap, dOr_ap, dNot_ap, dCh_ap, dCall_ap, wpR_call0, wpR_call1, wpR_call2, wpR_call3, wpR_call4, wpR_call5, wpR_call6, fAdd_ii, fAdd_ss, fAddI_ii, fAddI_ss, fSub_ii, fMul_ii, fMod_ii, fFdiv_ii, fNeg_i, fLt_ii, fLe_ii, fGt_ii, fGe_ii, fEq_ii, fNe_ii, fEq_ss, fNe_ss, fEq_bb, fNe_bb, bAbs_i, bInt_i, bInt_b, bMax_ii, bMin_ii, bDivmod_ii, seqK_n, seqK_tp, seqK_fl, bLen_tp, bLen_fl, bLen_n, bLen_s, bList_q, bTuple_q, optR_s, fIx_tp, fIx_fl, fIx_n, fIx_s, oNone_ap, asInt_i, oSome_ap, dSl_ap, fSl_tp, fSl_fl, fSl_n, fSl_s, atI_0, atI_1, atI_2, atI_3, wpR_comp, tYesB_ap, diV_ap, itV_tp, itV_fl, itV_n, itV_s, live_tp, live_fl, live_n, diR1_ap, diR2_ap, diE_ap, Kf_nx, Kf_rt, Kf_ex, Kin_nx, Kin_ct, Kin_bk, Kin_rt, Kin_ex, isTp, List.set_cons_succ, List.set_cons_zero, List.map_cons, List.map_nil, List.cons_append, List.nil_append, List.length_cons, List.length_nil, List.replicate_succ, List.replicate_zero, List.append_nil, Nat.reduceSub, Nat.reduceAdd, Nat.reduceMul, Int.reduceAdd, Int.reduceSub, Int.reduceMul, Int.reduceNeg, Int.reduceLT, Int.reduceLE, Nat.reduceLeDiff, Nat.reduceLT, decide_true, decide_false, Int.reduceToNat, Bool.not_true, Bool.not_false, and_true, true_and, and_self, true_or, or_true, List.set_nil, Int.reduceMod, Int.reduceDiv, Int.reducePow, Int.cast_ofNat_Int, Int.reduceEq, Int.reduceNe, Nat.reduceEqDiff, eq_self, false_and, and_false, Nat.zero_add, Int.zero_add, Int.add_zero, wipeE, fSetIx_ref, fIx_ref, bLen_ref, seqK_ref, itV_ref, live_ref, fSl_ref]
    exact k
  · (repeat (first | simp only [wpR_run, wpS_nil, wpS_seq, wpS_ret, wpS_retN, wpS_expr, wpS_set, wpS_if, wpS_brk, wpS_cnt, wpS_aug, wpS_par, wpS_asg, wpS_tdN, wpS_tdSub, wpS_tdT, wpS_runT0, wpS_runT, wpS_for, onlyN_nx, run_nm, run_tp, setN_nil, setN_cons, asV_v, bindO_s, wgo_go, wIf_t, wIf_f, wNd_t, wpR_ok, wpR_ex, wpR_bind, bind_ok, wpR_ite, wpR_oR, wOpt_s, numP_v, numP_n, numK_v, numK_n, dVar_0, dVar_s, dC_ap, dOp_ap, dU_ap, dB_ap, aNil_ap, aCons_ap, vNil_ap, vCons_ap, dTup_ap, dLst_ap, asBool_v, dT_ap, brR_t, brR_f, wpR_br, dIf_ap, bAnd_ap, bOr_ap, bNot_ap, dAnd_ap, dOr_ap, dNot_ap, dCh_ap, dCall_ap, wpR_call0, wpR_call1, wpR_call2, wpR_call3, wpR_call4, wpR_call5, wpR_call6, fAdd_ii, fAdd_ss, fAddI_ii, fAddI_ss, fSub_ii, fMul_ii, fMod_ii, fFdiv_ii, fNeg_i, fLt_ii, fLe_ii, fGt_ii, fGe_ii, fEq_ii, fNe_ii, fEq_ss, fNe_ss, fEq_bb, fNe_bb, bAbs_i, bInt_i, bInt_b, bMax_ii, bMin_ii, bDivmod_ii, seqK_n, seqK_tp, seqK_fl, bLen_tp, bLen_fl, bLen_n, bLen_s, bList_q, bTuple_q, optR_s, fIx_tp, fIx_fl, fIx_n, fIx_s, oNone_ap, asInt_i, oSome_ap, dSl_ap, fSl_tp, fSl_fl, fSl_n, fSl_s, atI_0, atI_1, atI_2, atI_3, wpR_comp, tYesB_ap, diV_ap, itV_tp, itV_fl, itV_n, itV_s, live_tp, live_fl, live_n, diR1_ap, diR2_ap, diE_ap, Kf_nx, Kf_rt, Kf_ex, Kin_nx, Kin_ct, Kin_bk, Kin_rt, Kin_ex, isTp, List.set_cons_succ, List.set_cons_zero, List.map_cons, List.map_nil, List.cons_append, List.nil_append, List.length_cons, List.length_nil, List.replicate_succ, List.replicate_zero, List.append_nil, Nat.reduceSub, Nat.reduceAdd, Nat.reduceMul, Int.reduceAdd, Int.reduceSub, Int.reduceMul, Int.reduceNeg, Int.reduceLT, Int.reduceLE, Nat.reduceLeDiff, Nat.reduceLT, decide_true, decide_false, Int.reduceToNat, Bool.not_true, Bool.not_false, and_true, true_and, and_self, true_or, or_true, List.set_nil, Int.reduceMod, Int.reduceDiv, Int.reducePow, Int.cast_ofNat_Int, Int.reduceEq, Int.reduceNe, Nat.reduceEqDiff, eq_self, false_and, and_false, Nat.zero_add, Int.zero_add, Int.add_zero, wipeE, fSetIx_ref, fIx_ref, bLen_ref, seqK_ref, itV_ref, live_ref, fSl_ref] | refine wNd_i (by omega) ?_))
    rw [decide_eq_true (f3.resolve_left z)]
    exact k
theorem gd_le {l s t b : Int} : gd l s t b ≤ l := by unfold gd; split <;> omega
theorem gd_0 {l s t b : Int} (t0 : 0 < t) (b0 : 0 < b) (l0 : 0 ≤ l) (s0 : 0 ≤ s) : 0 ≤ gd l s t b := by
  unfold gd
  have : 0 ≤ s * b / t := Int.ediv_nonneg (Int.mul_nonneg s0 (by omega)) (by omega)
  split <;> omega
theorem gd_top {l s t b : Int} (t0 : 0 < t) : gd l s t b * t ≤ s * b := by
  have q : s * b / t * t ≤ s * b := Int.ediv_mul_le _ (by omega)
  have : gd l s t b ≤ s * b / t := by unfold gd; split <;> omega
  exact Int.le_trans (Int.mul_le_mul_of_nonneg_right this (by omega)) q
theorem gd_more {l s t b : Int} (t0 : 0 < t) : gd l s t b = l ∨ s * b < (gd l s t b + 1) * t := by
  unfold gd
  split
  · right
    have := Int.lt_ediv_add_one_mul_self (s * b) t0
    exact this
  · left; rfl
/-- by how many -/
def mn (l s t b : Int) : Int := (gd l s t b * t + b - 1) / b
theorem mn_0 {l s t b : Int} (t0 : 0 < t) (b0 : 0 < b) (l0 : 0 ≤ l) (s0 : 0 ≤ s) : 0 ≤ mn l s t b :=
  Int.ediv_nonneg (by have := Int.mul_nonneg (gd_0 (l := l) (s := s) t0 b0 l0 s0) (Int.le_of_lt t0); omega) (by omega)
theorem mn_ge {l s t b : Int} (b0 : 0 < b) : gd l s t b * t ≤ mn l s t b * b := by
  have := Int.lt_ediv_add_one_mul_self (gd l s t b * t + b - 1) b0
  rw [Int.add_mul] at this
  unfold mn; omega
theorem mn_lt {l s t b : Int} (b0 : 0 < b) : (mn l s t b - 1) * b < gd l s t b * t := by
  have : mn l s t b * b ≤ gd l s t b * t + b - 1 := Int.ediv_mul_le _ (by omega)
  rw [Int.sub_mul]; omega
theorem mn_le {l s t b : Int} (t0 : 0 < t) (b0 : 0 < b) : mn l s t b ≤ s := by
  have a := mn_lt (l := l) (s := s) (t := t) b0
  have c := gd_top (l := l) (s := s) (b := b) t0
  have : (mn l s t b - 1) * b < s * b := Int.lt_of_lt_of_le a c
  have := Int.lt_of_mul_lt_mul_right this (by omega)
  omega
theorem gd_mn {l s t b : Int} (t0 : 0 < t) (b0 : 0 < b) : gd l (mn l s t b) t b = gd l s t b := by
  have a : gd l s t b ≤ mn l s t b * b / t := (Int.le_ediv_iff_mul_le t0).2 (mn_ge b0)
  have c : mn l s t b * b / t ≤ s * b / t := Int.ediv_le_ediv t0 (Int.mul_le_mul_of_nonneg_right (mn_le t0 b0) (by omega))
  have d : gd l s t b ≤ l := gd_le
  generalize hm : mn l s t b = m at a c
  unfold gd at a d ⊢
  split at a <;> split <;> omega
theorem gd_z {l t b : Int} (l0 : 0 ≤ l) : gd l 0 t b = 0 := by
  unfold gd; simp only [Int.zero_mul, Int.zero_ediv]; split <;> omega
theorem size_ok {h : MH} {b n : Nat} {P : Val → MH → Prop} {X : XP} (B : Bx h b n) (hn : n ≤ 1000000)
    (k : ∀ v h', 0 ≤ v → v ≤ 1000000000 → Bx h' b (n + 3) → Frm b h h' → P (.int v) h') : @wpR _ (f_l_size [.ref b] h) ⟨P⟩ ⟨X⟩ := by
  unfold f_l_size b_l_size
  (repeat (first | simp only [wpR_run, wpS_nil, wpS_seq, wpS_ret, wpS_retN, wpS_expr, wpS_set, wpS_if, wpS_brk, wpS_cnt, wpS_aug, wpS_par, wpS_asg, wpS_tdN, wpS_tdSub, wpS_tdT, wpS_runT0, wpS_runT, wpS_for, onlyN_nx, run_nm, run_tp, setN_nil, setN_cons, asV_v, bindO_s, wgo_go, wIf_t, wIf_f, wNd_t, wpR_ok, wpR_ex, wpR_bind, bind_ok, wpR_ite, wpR_oR, wOpt_s, numP_v, numP_n, numK_v, numK_n, dVar_0, dVar_s, dC_ap, dOp_ap, dU_ap, dB_ap, aNil_ap, aCons_ap, vNil_ap, vCons_ap, dTup_ap, dLst_ap, asBool_v, dT_ap, brR_t, brR_f, wpR_br, dIf_ap, bAnd_ap, bOr_ap, bNot_ap, dAnd_ap, dOr_ap, dNot_ap, dCh_ap, dCall_ap, wpR_call0, wpR_call1, wpR_call2, wpR_call3, wpR_call4, wpR_call5, wpR_call6, fAdd_ii, fAdd_ss, fAddI_ii, fAddI_ss, fSub_ii, fMul_ii, fMod_ii, fFdiv_ii, fNeg_i, fLt_ii, fLe_ii, fGt_ii, fGe_ii, fEq_ii, fNe_ii, fEq_ss, fNe_ss, fEq_bb, fNe_bb, bAbs_i, bInt_i, bInt_b, bMax_ii, bMin_ii, bDivmod_ii, seqK_n, seqK_tp, seqK_fl, bLen_tp, bLen_fl, bLen_n, bLen_s, bList_q, bTuple_q, optR_s, fIx_tp, fIx_fl, fIx_n, fIx_s, oNone_ap, asInt_i, oSome_ap, dSl_ap, fSl_tp, fSl_fl, fSl_n, fSl_s, atI_0, atI_1, atI_2, atI_3, wpR_comp, tYesB_ap, diV_ap, itV_tp, itV_fl, itV_n, itV_s, live_tp, live_fl, live_n, diR1_ap, diR2_ap, diE_ap, Kf_nx, Kf_rt, Kf_ex, Kin_nx, Kin_ct, Kin_bk, Kin_rt, Kin_ex, isTp, List.set_cons_succ, List.set_cons_zero, List.map_cons, List.map_nil, List.cons_append, List.nil_append, List.length_cons, List.length_nil, List.replicate_succ, List.replicate_zero, List.append_nil, Nat.reduceSub, Nat.reduceAdd, Nat.reduceMul, Int.reduceAdd, Int.reduceSub, Int.reduceMul, Int.reduceNeg, Int.reduceLT, Int.reduceLE, Nat.reduceLeDiff, Nat.reduceLT, decide_true, decide_false, Int.reduceToNat, Bool.not_true, Bool.not_false, and_true, true_and, and_self, true_or, or_true, List.set_nil, Int.reduceMod, Int.reduceDiv, Int.reducePow, Int.cast_ofNat_Int, Int.reduceEq, Int.reduceNe, Nat.reduceEqDiff, eq_self, false_and, and_false, Nat.zero_add, Int.zero_add, Int.add_zero, wipeE, fSetIx_ref, fIx_ref, bLen_ref, seqK_ref, itV_ref, live_ref, fSl_ref] | refine wNd_i (by omega) ?_))
  refine take_ok B (by omega) (by decide) (by decide) fun v h1 v0 v1 B1 F1 _ => ?_
  have hv : v = 0 ∨ v = 1 ∨ v = 2 ∨ v = 3 := by omega
  rcases hv with rfl | rfl | rfl | rfl
  all_goals
    (repeat (first | simp only [wpR_run, wpS_nil, wpS_seq, wpS_ret, wpS_retN, wpS_expr, wpS_set, wpS_if, wpS_brk, wpS_cnt, wpS_aug, wpS_par, wpS_asg, wpS_tdN, wpS_tdSub, wpS_tdT, wpS_runT0, wpS_runT, wpS_for, onlyN_nx, run_nm, run_tp, setN_nil, setN_cons, asV_v, bindO_s, wgo_go, wIf_t, wIf_f, wNd_t, wpR_ok, wpR_ex, wpR_bind, bind_ok, wpR_ite, wpR_oR, wOpt_s, numP_v, numP_n, numK_v, numK_n, dVar_0, dVar_s, dC_ap, dOp_ap, dU_ap, dB_ap, aNil_ap, aCons_ap, vNil_ap, vCons_ap, dTup_ap, dLst_ap, asBool_v, dT_ap, brR_t, brR_f, wpR_br, dIf_ap, bAnd_ap, bOr_ap, bNot_ap, dAnd_ap, dOr_ap, dNot_ap, dCh_ap, dCall_ap, wpR_call0, wpR_call1, wpR_call2, wpR_call3, wpR_call4, wpR_call5, wpR_call6, fAdd_ii, fAdd_ss, fAddI_ii, fAddI_ss, fSub_ii, fMul_ii, fMod_ii, fFdiv_ii, fNeg_i, fLt_ii, fLe_ii, fGt_ii, fGe_ii, fEq_ii, fNe_ii, fEq_ss, fNe_ss, fEq_bb, fNe_bb, bAbs_i, bInt_i, bInt_b, bMax_ii, bMin_ii, bDivmod_ii, seqK_n, seqK_tp, seqK_fl, bLen_tp, bLen_fl, bLen_n, bLen_s, bList_q, bTuple_q, optR_s, fIx_tp, fIx_fl, fIx_n, fIx_s, oNone_ap, asInt_i, oSome_ap, dSl_ap, fSl_tp, fSl_fl, fSl_n, fSl_s, atI_0, atI_1, atI_2, atI_3, wpR_comp, tYesB_ap, diV_ap, itV_tp, itV_fl, itV_n, itV_s, live_tp, live_fl, live_n, diR1_ap, diR2_ap, diE_ap, Kf_nx, Kf_rt, Kf_ex, Kin_nx, Kin_ct, Kin_bk, Kin_rt, Kin_ex, isTp, List.set_cons_succ, List.set_cons_zero, List.map_cons, List.map_nil, List.cons_append, List.nil_append, List.length_cons, List.length_nil, List.replicate_succ, List.replicate_zero, List.append_nil, Nat.reduceSub, Nat.reduceAdd, Nat.reduceMul, Int.reduceAdd, Int.reduceSub, Int.reduceMul, Int.reduceNeg, Int.reduceLT, Int.reduceLE, Nat.reduceLeDiff, Nat.reduceLT, decide_true, decide_false, Int.reduceToNat, Bool.not_true, Bool.not_false, and_true, true_and, and_self, true_or, or_true, List.set_nil, Int.reduceMod, Int.reduceDiv, Int.reducePow, Int.cast_ofNat_Int, Int.reduceEq, Int.reduceNe, Nat.reduceEqDiff, eq_self, false_and, and_false, Nat.zero_add, Int.zero_add, Int.add_zero, wipeE, fSetIx_ref, fIx_ref, bLen_ref, seqK_ref, itV_ref, live_ref, fSl_ref] | refine wNd_i (by omega) ?_))
    refine take_ok B1 (by omega) (by decide) (by decide) fun u h2 u0 u1 B2 F2 _ => ?_
    (repeat (first | simp only [wpR_run, wpS_nil, wpS_seq, wpS_ret, wpS_retN, wpS_expr, wpS_set, wpS_if, wpS_brk, wpS_cnt, wpS_aug, wpS_par, wpS_asg, wpS_tdN, wpS_tdSub, wpS_tdT, wpS_runT0, wpS_runT, wpS_for, onlyN_nx, run_nm, run_tp, setN_nil, setN_cons, asV_v, bindO_s, wgo_go, wIf_t, wIf_f, wNd_t, wpR_ok, wpR_ex, wpR_bind, bind_ok, wpR_ite, wpR_oR, wOpt_s, numP_v, numP_n, numK_v, numK_n, dVar_0, dVar_s, dC_ap, dOp_ap, dU_ap, dB_ap, aNil_ap, aCons_ap, vNil_ap, vCons_ap, dTup_ap, dLst_ap, asBool_v, dT_ap, brR_t, brR_f, wpR_br, dIf_ap, bAnd_ap, bOr_ap, bNot_ap, dAnd_ap, dOr_ap, dNot_ap, dCh_ap, dCall_ap, wpR_call0, wpR_call1, wpR_call2, wpR_call3, wpR_call4, wpR_call5, wpR_call6, fAdd_ii, fAdd_ss, fAddI_ii, fAddI_ss, fSub_ii, fMul_ii, fMod_ii, fFdiv_ii, fNeg_i, fLt_ii, fLe_ii, fGt_ii, fGe_ii, fEq_ii, fNe_ii, fEq_ss, fNe_ss, fEq_bb, fNe_bb, bAbs_i, bInt_i, bInt_b, bMax_ii, bMin_ii, bDivmod_ii, seqK_n, seqK_tp, seqK_fl, bLen_tp, bLen_fl, bLen_n, bLen_s, bList_q, bTuple_q, optR_s, fIx_tp, fIx_fl, fIx_n, fIx_s, oNone_ap, asInt_i, oSome_ap, dSl_ap, fSl_tp, fSl_fl, fSl_n, fSl_s, atI_0, atI_1, atI_2, atI_3, wpR_comp, tYesB_ap, diV_ap, itV_tp, itV_fl, itV_n, itV_s, live_tp, live_fl, live_n, diR1_ap, diR2_ap, diE_ap, Kf_nx, Kf_rt, Kf_ex, Kin_nx, Kin_ct, Kin_bk, Kin_rt, Kin_ex, isTp, List.set_cons_succ, List.set_cons_zero, List.map_cons, List.map_nil, List.cons_append, List.nil_append, List.length_cons, List.length_nil, List.replicate_succ, List.replicate_zero, List.append_nil, Nat.reduceSub, Nat.reduceAdd, Nat.reduceMul, Int.reduceAdd, Int.reduceSub, Int.reduceMul, Int.reduceNeg, Int.reduceLT, Int.reduceLE, Nat.reduceLeDiff, Nat.reduceLT, decide_true, decide_false, Int.reduceToNat, Bool.not_true, Bool.not_false, and_true, true_and, and_self, true_or, or_true, List.set_nil, Int.reduceMod, Int.reduceDiv, Int.reducePow, Int.cast_ofNat_Int, Int.reduceEq, Int.reduceNe, Nat.reduceEqDiff, eq_self, false_and, and_false, Nat.zero_add, Int.zero_add, Int.add_zero, wipeE, fSetIx_ref, fIx_ref, bLen_ref, seqK_ref, itV_ref, live_ref, fSl_ref] | refine wNd_i (by omega) ?_))
    refine take_ok B2 (by omega) (by decide) (by decide) fun w h3 w0 w1 B3 F3 _ => ?_
    have hw : w = 0 ∨ w = 1 := by omega
    rcases hw with rfl | rfl
    · (repeat (first | simp only [wpR_run, wpS_nil, wpS_seq, wpS_ret, wpS_retN, wpS_expr, wpS_set, wpS_if, wpS_brk, wpS_cnt, wpS_aug, wpS_par, wpS_asg, wpS_tdN, wpS_tdSub, wpS_tdT, wpS_runT0, wpS_runT, wpS_for, onlyN_nx, run_nm, run_tp, setN_nil, setN_cons, asV_v, bindO_s, wgo_go, wIf_t, wIf_f, wNd_t, wpR_ok, wpR_ex, wpR_bind, bind_ok, wpR_ite, wpR_oR, wOpt_s, numP_v, numP_n, numK_v, numK_n, dVar_0, dVar_s, dC_ap, dOp_ap, dU_ap, dB_ap, aNil_ap, aCons_ap, vNil_ap, vCons_ap, dTup_ap, dLst_ap, asBool_v, dT_ap, brR_t, brR_f, wpR_br, dIf_ap, bAnd_ap, bOr_ap, bNot_ap, dAnd_ap, dOr_ap, dNot_ap, dCh_ap, dCall_ap, wpR_call0, wpR_call1, wpR_call2, wpR_call3, wpR_call4, wpR_call5, wpR_call6, fAdd_ii, fAdd_ss, fAddI_ii, fAddI_ss, fSub_ii, fMul_ii, fMod_ii, fFdiv_ii, fNeg_i, fLt_ii, fLe_ii, fGt_ii, fGe_ii, fEq_ii, fNe_ii, fEq_ss, fNe_ss, fEq_bb, fNe_bb, bAbs_i, bInt_i, bInt_b, bMax_ii, bMin_ii, bDivmod_ii, seqK_n, seqK_tp, seqK_fl, bLen_tp, bLen_fl, bLen_n, bLen_s, bList_q, bTuple_q, optR_s, fIx_tp, fIx_fl, fIx_n, fIx_s, oNone_ap, asInt_i, oSome_ap, dSl_ap, fSl_tp, fSl_fl, fSl_n, fSl_s, atI_0, atI_1, atI_2, atI_3, wpR_comp, tYesB_ap, diV_ap, itV_tp, itV_fl, itV_n, itV_s, live_tp, live_fl, live_n, diR1_ap, diR2_ap, diE_ap, Kf_nx, Kf_rt, Kf_ex, Kin_nx, Kin_ct, Kin_bk, Kin_rt, Kin_ex, isTp, List.set_cons_succ, List.set_cons_zero, List.map_cons, List.map_nil, List.cons_append, List.nil_append, List.length_cons, List.length_nil, List.replicate_succ, List.replicate_zero, List.append_nil, Nat.reduceSub, Nat.reduceAdd, Nat.reduceMul, Int.reduceAdd, Int.reduceSub, Int.reduceMul, Int.reduceNeg, Int.reduceLT, Int.reduceLE, Nat.reduceLeDiff, Nat.reduceLT, decide_true, decide_false, Int.reduceToNat, Bool.not_true, Bool.not_false, and_true, true_and, and_self, true_or, or_true, List.set_nil, Int.reduceMod, Int.reduceDiv, Int.reducePow, Int.cast_ofNat_Int, Int.reduceEq, Int.reduceNe, Nat.reduceEqDiff, eq_self, false_and, and_false, Nat.zero_add, Int.zero_add, Int.add_zero, wipeE, fSetIx_ref, fIx_ref, bLen_ref, seqK_ref, itV_ref, live_ref, fSl_ref] | refine wNd_i (by omega) ?_))
      exact k _ _ u0 (by omega) B3 ((F1.tr F2).tr F3)
    · (repeat (first | simp only [wpR_run, wpS_nil, wpS_seq, wpS_ret, wpS_retN, wpS_expr, wpS_set, wpS_if, wpS_brk, wpS_cnt, wpS_aug, wpS_par, wpS_asg, wpS_tdN, wpS_tdSub, wpS_tdT, wpS_runT0, wpS_runT, wpS_for, onlyN_nx, run_nm, run_tp, setN_nil, setN_cons, asV_v, bindO_s, wgo_go, wIf_t, wIf_f, wNd_t, wpR_ok, wpR_ex, wpR_bind, bind_ok, wpR_ite, wpR_oR, wOpt_s, numP_v, numP_n, numK_v, numK_n, dVar_0, dVar_s, dC_ap, dOp_ap, dU_ap, dB_ap, aNil_ap, aCons_ap, vNil_ap, vCons_ap, dTup_ap, dLst_ap, asBool_v, dT_ap, brR_t, brR_f, wpR_br, dIf_ap, bAnd_ap, bOr_ap, bNot_ap, dAnd_ap, dOr_ap, dNot_ap, dCh_ap, dCall_ap, wpR_call0, wpR_call1, wpR_call2, wpR_call3, wpR_call4, wpR_call5, wpR_call6, fAdd_ii, fAdd_ss, fAddI_ii, fAddI_ss, fSub_ii, fMul_ii, fMod_ii, fFdiv_ii, fNeg_i, fLt_ii, fLe_ii, fGt_ii, fGe_ii, fEq_ii, fNe_ii, fEq_ss, fNe_ss, fEq_bb, fNe_bb, bAbs_i, bInt_i, bInt_b, bMax_ii, bMin_ii, bDivmod_ii, seqK_n, seqK_tp, seqK_fl, bLen_tp, bLen_fl, bLen_n, bLen_s, bList_q, bTuple_q, optR_s, fIx_tp, fIx_fl, fIx_n, fIx_s, oNone_ap, asInt_i, oSome_ap, dSl_ap, fSl_tp, fSl_fl, fSl_n, fSl_s, atI_0, atI_1, atI_2, atI_3, wpR_comp, tYesB_ap, diV_ap, itV_tp, itV_fl, itV_n, itV_s, live_tp, live_fl, live_n, diR1_ap, diR2_ap, diE_ap, Kf_nx, Kf_rt, Kf_ex, Kin_nx, Kin_ct, Kin_bk, Kin_rt, Kin_ex, isTp, List.set_cons_succ, List.set_cons_zero, List.map_cons, List.map_nil, List.cons_append, List.nil_append, List.length_cons, List.length_nil, List.replicate_succ, List.replicate_zero, List.append_nil, Nat.reduceSub, Nat.reduceAdd, Nat.reduceMul, Int.reduceAdd, Int.reduceSub, Int.reduceMul, Int.reduceNeg, Int.reduceLT, Int.reduceLE, Nat.reduceLeDiff, Nat.reduceLT, decide_true, decide_false, Int.reduceToNat, Bool.not_true, Bool.not_false, and_true, true_and, and_self, true_or, or_true, List.set_nil, Int.reduceMod, Int.reduceDiv, Int.reducePow, Int.cast_ofNat_Int, Int.reduceEq, Int.reduceNe, Nat.reduceEqDiff, eq_self, false_and, and_false, Nat.zero_add, Int.zero_add, Int.add_zero, wipeE, fSetIx_ref, fIx_ref, bLen_ref, seqK_ref, itV_ref, live_ref, fSl_ref] | refine wNd_i (by omega) ?_))
      exact k _ _ (by omega) (by omega) B3 ((F1.tr F2).tr F3)

theorem right_ok {h : MH} {b n : Nat} (B : Bx h b n) (hn : n ≤ 100000) : @wpR _ (f_l_right [.ref b] h) ⟨(fun x h' => x = .bl true ∧ Bx h' b (n + 20) ∧ Frm b h h')⟩ ⟨NoX⟩ := by
  unfold f_l_right b_l_right
  (repeat (first | simp only [wpR_run, wpS_nil, wpS_seq, wpS_ret, wpS_retN, wpS_expr, wpS_set, wpS_if, wpS_brk, wpS_cnt, wpS_aug, wpS_par, wpS_asg, wpS_tdN, wpS_tdSub, wpS_tdT, wpS_runT0, wpS_runT, wpS_for, onlyN_nx, run_nm, run_tp, setN_nil, setN_cons, asV_v, bindO_s, wgo_go, wIf_t, wIf_f, wNd_t, wpR_ok, wpR_ex, wpR_bind, bind_ok, wpR_ite, wpR_oR, wOpt_s, numP_v, numP_n, numK_v, numK_n, dVar_0, dVar_s, dC_ap, dOp_ap, dU_ap, dB_ap, aNil_ap, aCons_ap, vNil_ap, vCons_ap, dTup_ap, dLst_ap, asBool_v, dT_ap, brR_t, brR_f, wpR_br, dIf_ap, bAnd_ap, bOr_ap, bNot_ap, dAnd_ap, dOr_ap, dNot_ap, dCh_ap, dCall_ap, wpR_call0, wpR_call1, wpR_call2, wpR_call3, wpR_call4, wpR_call5, wpR_call6, fAdd_ii, fAdd_ss, fAddI_ii, fAddI_ss, fSub_ii, fMul_ii, fMod_ii, fFdiv_ii, fNeg_i, fLt_ii, fLe_ii, fGt_ii, fGe_ii, fEq_ii, fNe_ii, fEq_ss, fNe_ss, fEq_bb, fNe_bb, bAbs_i, bInt_i, bInt_b, bMax_ii, bMin_ii, bDivmod_ii, seqK_n, seqK_tp, seqK_fl, bLen_tp, bLen_fl, bLen_n, bLen_s, bList_q, bTuple_q, optR_s, fIx_tp, fIx_fl, fIx_n, fIx_s, oNone_ap, asInt_i, oSome_ap, dSl_ap, fSl_tp, fSl_fl, fSl_n, fSl_s, atI_0, atI_1, atI_2, atI_3, wpR_comp, tYesB_ap, diV_ap, itV_tp, itV_fl, itV_n, itV_s, live_tp, live_fl, live_n, diR1_ap, diR2_ap, diE_ap, Kf_nx, Kf_rt, Kf_ex, Kin_nx, Kin_ct, Kin_bk, Kin_rt, Kin_ex, isTp, List.set_cons_succ, List.set_cons_zero, List.map_cons, List.map_nil, List.cons_append, List.nil_append, List.length_cons, List.length_nil, List.replicate_succ, List.replicate_zero, List.append_nil, Nat.reduceSub, Nat.reduceAdd, Nat.reduceMul, Int.reduceAdd, Int.reduceSub, Int.reduceMul, Int.reduceNeg, Int.reduceLT, Int.reduceLE, Nat.reduceLeDiff, Nat.reduceLT, decide_true, decide_false, Int.reduceToNat, Bool.not_true, Bool.not_false, and_true, true_and, and_self, true_or, or_true, List.set_nil, Int.reduceMod, Int.reduceDiv, Int.reducePow, Int.cast_ofNat_Int, Int.reduceEq, Int.reduceNe, Nat.reduceEqDiff, eq_self, false_and, and_false, Nat.zero_add, Int.zero_add, Int.add_zero, wipeE, fSetIx_ref, fIx_ref, bLen_ref, seqK_ref, itV_ref, live_ref, fSl_ref] | refine wNd_i (by omega) ?_))
  refine take_ok B (by omega) (by decide) (by decide) fun t h1 t0 t1 B1 F1 _ => ?_
  (repeat (first | simp only [wpR_run, wpS_nil, wpS_seq, wpS_ret, wpS_retN, wpS_expr, wpS_set, wpS_if, wpS_brk, wpS_cnt, wpS_aug, wpS_par, wpS_asg, wpS_tdN, wpS_tdSub, wpS_tdT, wpS_runT0, wpS_runT, wpS_for, onlyN_nx, run_nm, run_tp, setN_nil, setN_cons, asV_v, bindO_s, wgo_go, wIf_t, wIf_f, wNd_t, wpR_ok, wpR_ex, wpR_bind, bind_ok, wpR_ite, wpR_oR, wOpt_s, numP_v, numP_n, numK_v, numK_n, dVar_0, dVar_s, dC_ap, dOp_ap, dU_ap, dB_ap, aNil_ap, aCons_ap, vNil_ap, vCons_ap, dTup_ap, dLst_ap, asBool_v, dT_ap, brR_t, brR_f, wpR_br, dIf_ap, bAnd_ap, bOr_ap, bNot_ap, dAnd_ap, dOr_ap, dNot_ap, dCh_ap, dCall_ap, wpR_call0, wpR_call1, wpR_call2, wpR_call3, wpR_call4, wpR_call5, wpR_call6, fAdd_ii, fAdd_ss, fAddI_ii, fAddI_ss, fSub_ii, fMul_ii, fMod_ii, fFdiv_ii, fNeg_i, fLt_ii, fLe_ii, fGt_ii, fGe_ii, fEq_ii, fNe_ii, fEq_ss, fNe_ss, fEq_bb, fNe_bb, bAbs_i, bInt_i, bInt_b, bMax_ii, bMin_ii, bDivmod_ii, seqK_n, seqK_tp, seqK_fl, bLen_tp, bLen_fl, bLen_n, bLen_s, bList_q, bTuple_q, optR_s, fIx_tp, fIx_fl, fIx_n, fIx_s, oNone_ap, asInt_i, oSome_ap, dSl_ap, fSl_tp, fSl_fl, fSl_n, fSl_s, atI_0, atI_1, atI_2, atI_3, wpR_comp, tYesB_ap, diV_ap, itV_tp, itV_fl, itV_n, itV_s, live_tp, live_fl, live_n, diR1_ap, diR2_ap, diE_ap, Kf_nx, Kf_rt, Kf_ex, Kin_nx, Kin_ct, Kin_bk, Kin_rt, Kin_ex, isTp, List.set_cons_succ, List.set_cons_zero, List.map_cons, List.map_nil, List.cons_append, List.nil_append, List.length_cons, List.length_nil, List.replicate_succ, List.replicate_zero, List.append_nil, Nat.reduceSub, Nat.reduceAdd, Nat.reduceMul, Int.reduceAdd, Int.reduceSub, Int.reduceMul, Int.reduceNeg, Int.reduceLT, Int.reduceLE, Nat.reduceLeDiff, Nat.reduceLT, decide_true, decide_false, Int.reduceToNat, Bool.not_true, Bool.not_false, and_true, true_and, and_self, true_or, or_true, List.set_nil, Int.reduceMod, Int.reduceDiv, Int.reducePow, Int.cast_ofNat_Int, Int.reduceEq, Int.reduceNe, Nat.reduceEqDiff, eq_self, false_and, and_false, Nat.zero_add, Int.zero_add, Int.add_zero, wipeE, fSetIx_ref, fIx_ref, bLen_ref, seqK_ref, itV_ref, live_ref, fSl_ref] | refine wNd_i (by omega) ?_))
  refine take_ok B1 (by omega) (by decide) (by decide) fun w h2 w0 w1 B2 F2 _ => ?_
  (repeat (first | simp only [wpR_run, wpS_nil, wpS_seq, wpS_ret, wpS_retN, wpS_expr, wpS_set, wpS_if, wpS_brk, wpS_cnt, wpS_aug, wpS_par, wpS_asg, wpS_tdN, wpS_tdSub, wpS_tdT, wpS_runT0, wpS_runT, wpS_for, onlyN_nx, run_nm, run_tp, setN_nil, setN_cons, asV_v, bindO_s, wgo_go, wIf_t, wIf_f, wNd_t, wpR_ok, wpR_ex, wpR_bind, bind_ok, wpR_ite, wpR_oR, wOpt_s, numP_v, numP_n, numK_v, numK_n, dVar_0, dVar_s, dC_ap, dOp_ap, dU_ap, dB_ap, aNil_ap, aCons_ap, vNil_ap, vCons_ap, dTup_ap, dLst_ap, asBool_v, dT_ap, brR_t, brR_f, wpR_br, dIf_ap, bAnd_ap, bOr_ap, bNot_ap, dAnd_ap, dOr_ap, dNot_ap, dCh_ap, dCall_ap, wpR_call0, wpR_call1, wpR_call2, wpR_call3, wpR_call4, wpR_call5, wpR_call6, fAdd_ii, fAdd_ss, fAddI_ii, fAddI_ss, fSub_ii, fMul_ii, fMod_ii, fFdiv_ii, fNeg_i, fLt_ii, fLe_ii, fGt_ii, fGe_ii, fEq_ii, fNe_ii, fEq_ss, fNe_ss, fEq_bb, fNe_bb, bAbs_i, bInt_i, bInt_b, bMax_ii, bMin_ii, bDivmod_ii, seqK_n, seqK_tp, seqK_fl, bLen_tp, bLen_fl, bLen_n, bLen_s, bList_q, bTuple_q, optR_s, fIx_tp, fIx_fl, fIx_n, fIx_s, oNone_ap, asInt_i, oSome_ap, dSl_ap, fSl_tp, fSl_fl, fSl_n, fSl_s, atI_0, atI_1, atI_2, atI_3, wpR_comp, tYesB_ap, diV_ap, itV_tp, itV_fl, itV_n, itV_s, live_tp, live_fl, live_n, diR1_ap, diR2_ap, diE_ap, Kf_nx, Kf_rt, Kf_ex, Kin_nx, Kin_ct, Kin_bk, Kin_rt, Kin_ex, isTp, List.set_cons_succ, List.set_cons_zero, List.map_cons, List.map_nil, List.cons_append, List.nil_append, List.length_cons, List.length_nil, List.replicate_succ, List.replicate_zero, List.append_nil, Nat.reduceSub, Nat.reduceAdd, Nat.reduceMul, Int.reduceAdd, Int.reduceSub, Int.reduceMul, Int.reduceNeg, Int.reduceLT, Int.reduceLE, Nat.reduceLeDiff, Nat.reduceLT, decide_true, decide_false, Int.reduceToNat, Bool.not_true, Bool.not_false, and_true, true_and, and_self, true_or, or_true, List.set_nil, Int.reduceMod, Int.reduceDiv, Int.reducePow, Int.cast_ofNat_Int, Int.reduceEq, Int.reduceNe, Nat.reduceEqDiff, eq_self, false_and, and_false, Nat.zero_add, Int.zero_add, Int.add_zero, wipeE, fSetIx_ref, fIx_ref, bLen_ref, seqK_ref, itV_ref, live_ref, fSl_ref] | refine wNd_i (by omega) ?_))
  refine size_ok B2 (by omega) fun l h3 l0 l1 B3 F3 => ?_
  (repeat (first | simp only [wpR_run, wpS_nil, wpS_seq, wpS_ret, wpS_retN, wpS_expr, wpS_set, wpS_if, wpS_brk, wpS_cnt, wpS_aug, wpS_par, wpS_asg, wpS_tdN, wpS_tdSub, wpS_tdT, wpS_runT0, wpS_runT, wpS_for, onlyN_nx, run_nm, run_tp, setN_nil, setN_cons, asV_v, bindO_s, wgo_go, wIf_t, wIf_f, wNd_t, wpR_ok, wpR_ex, wpR_bind, bind_ok, wpR_ite, wpR_oR, wOpt_s, numP_v, numP_n, numK_v, numK_n, dVar_0, dVar_s, dC_ap, dOp_ap, dU_ap, dB_ap, aNil_ap, aCons_ap, vNil_ap, vCons_ap, dTup_ap, dLst_ap, asBool_v, dT_ap, brR_t, brR_f, wpR_br, dIf_ap, bAnd_ap, bOr_ap, bNot_ap, dAnd_ap, dOr_ap, dNot_ap, dCh_ap, dCall_ap, wpR_call0, wpR_call1, wpR_call2, wpR_call3, wpR_call4, wpR_call5, wpR_call6, fAdd_ii, fAdd_ss, fAddI_ii, fAddI_ss, fSub_ii, fMul_ii, fMod_ii, fFdiv_ii, fNeg_i, fLt_ii, fLe_ii, fGt_ii, fGe_ii, fEq_ii, fNe_ii, fEq_ss, fNe_ss, fEq_bb, fNe_bb, bAbs_i, bInt_i, bInt_b, bMax_ii, bMin_ii, bDivmod_ii, seqK_n, seqK_tp, seqK_fl, bLen_tp, bLen_fl, bLen_n, bLen_s, bList_q, bTuple_q, optR_s, fIx_tp, fIx_fl, fIx_n, fIx_s, oNone_ap, asInt_i, oSome_ap, dSl_ap, fSl_tp, fSl_fl, fSl_n, fSl_s, atI_0, atI_1, atI_2, atI_3, wpR_comp, tYesB_ap, diV_ap, itV_tp, itV_fl, itV_n, itV_s, live_tp, live_fl, live_n, diR1_ap, diR2_ap, diE_ap, Kf_nx, Kf_rt, Kf_ex, Kin_nx, Kin_ct, Kin_bk, Kin_rt, Kin_ex, isTp, List.set_cons_succ, List.set_cons_zero, List.map_cons, List.map_nil, List.cons_append, List.nil_append, List.length_cons, List.length_nil, List.replicate_succ, List.replicate_zero, List.append_nil, Nat.reduceSub, Nat.reduceAdd, Nat.reduceMul, Int.reduceAdd, Int.reduceSub, Int.reduceMul, Int.reduceNeg, Int.reduceLT, Int.reduceLE, Nat.reduceLeDiff, Nat.reduceLT, decide_true, decide_false, Int.reduceToNat, Bool.not_true, Bool.not_false, and_true, true_and, and_self, true_or, or_true, List.set_nil, Int.reduceMod, Int.reduceDiv, Int.reducePow, Int.cast_ofNat_Int, Int.reduceEq, Int.reduceNe, Nat.reduceEqDiff, eq_self, false_and, and_false, Nat.zero_add, Int.zero_add, Int.add_zero, wipeE, fSetIx_ref, fIx_ref, bLen_ref, seqK_ref, itV_ref, live_ref, fSl_ref] | refine wNd_i (by omega) ?_))
  refine size_ok B3 (by omega) fun s h4 s0 s1 B4 F4 => ?_
  (repeat (first | simp only [wpR_run, wpS_nil, wpS_seq, wpS_ret, wpS_retN, wpS_expr, wpS_set, wpS_if, wpS_brk, wpS_cnt, wpS_aug, wpS_par, wpS_asg, wpS_tdN, wpS_tdSub, wpS_tdT, wpS_runT0, wpS_runT, wpS_for, onlyN_nx, run_nm, run_tp, setN_nil, setN_cons, asV_v, bindO_s, wgo_go, wIf_t, wIf_f, wNd_t, wpR_ok, wpR_ex, wpR_bind, bind_ok, wpR_ite, wpR_oR, wOpt_s, numP_v, numP_n, numK_v, numK_n, dVar_0, dVar_s, dC_ap, dOp_ap, dU_ap, dB_ap, aNil_ap, aCons_ap, vNil_ap, vCons_ap, dTup_ap, dLst_ap, asBool_v, dT_ap, brR_t, brR_f, wpR_br, dIf_ap, bAnd_ap, bOr_ap, bNot_ap, dAnd_ap, dOr_ap, dNot_ap, dCh_ap, dCall_ap, wpR_call0, wpR_call1, wpR_call2, wpR_call3, wpR_call4, wpR_call5, wpR_call6, fAdd_ii, fAdd_ss, fAddI_ii, fAddI_ss, fSub_ii, fMul_ii, fMod_ii, fFdiv_ii, fNeg_i, fLt_ii, fLe_ii, fGt_ii, fGe_ii, fEq_ii, fNe_ii, fEq_ss, fNe_ss, fEq_bb, fNe_bb, bAbs_i, bInt_i, bInt_b, bMax_ii, bMin_ii, bDivmod_ii, seqK_n, seqK_tp, seqK_fl, bLen_tp, bLen_fl, bLen_n, bLen_s, bList_q, bTuple_q, optR_s, fIx_tp, fIx_fl, fIx_n, fIx_s, oNone_ap, asInt_i, oSome_ap, dSl_ap, fSl_tp, fSl_fl, fSl_n, fSl_s, atI_0, atI_1, atI_2, atI_3, wpR_comp, tYesB_ap, diV_ap, itV_tp, itV_fl, itV_n, itV_s, live_tp, live_fl, live_n, diR1_ap, diR2_ap, diE_ap, Kf_nx, Kf_rt, Kf_ex, Kin_nx, Kin_ct, Kin_bk, Kin_rt, Kin_ex, isTp, List.set_cons_succ, List.set_cons_zero, List.map_cons, List.map_nil, List.cons_append, List.nil_append, List.length_cons, List.length_nil, List.replicate_succ, List.replicate_zero, List.append_nil, Nat.reduceSub, Nat.reduceAdd, Nat.reduceMul, Int.reduceAdd, Int.reduceSub, Int.reduceMul, Int.reduceNeg, Int.reduceLT, Int.reduceLE, Nat.reduceLeDiff, Nat.reduceLT, decide_true, decide_false, Int.reduceToNat, Bool.not_true, Bool.not_false, and_true, true_and, and_self, true_or, or_true, List.set_nil, Int.reduceMod, Int.reduceDiv, Int.reducePow, Int.cast_ofNat_Int, Int.reduceEq, Int.reduceNe, Nat.reduceEqDiff, eq_self, false_and, and_false, Nat.zero_add, Int.zero_add, Int.add_zero, wipeE, fSetIx_ref, fIx_ref, bLen_ref, seqK_ref, itV_ref, live_ref, fSl_ref] | refine wNd_i (by omega) ?_))
  refine take_ok B4 (by omega) (by decide) (by decide) fun c h5 c0 c1 B5 F5 _ => ?_
  (repeat (first | simp only [wpR_run, wpS_nil, wpS_seq, wpS_ret, wpS_retN, wpS_expr, wpS_set, wpS_if, wpS_brk, wpS_cnt, wpS_aug, wpS_par, wpS_asg, wpS_tdN, wpS_tdSub, wpS_tdT, wpS_runT0, wpS_runT, wpS_for, onlyN_nx, run_nm, run_tp, setN_nil, setN_cons, asV_v, bindO_s, wgo_go, wIf_t, wIf_f, wNd_t, wpR_ok, wpR_ex, wpR_bind, bind_ok, wpR_ite, wpR_oR, wOpt_s, numP_v, numP_n, numK_v, numK_n, dVar_0, dVar_s, dC_ap, dOp_ap, dU_ap, dB_ap, aNil_ap, aCons_ap, vNil_ap, vCons_ap, dTup_ap, dLst_ap, asBool_v, dT_ap, brR_t, brR_f, wpR_br, dIf_ap, bAnd_ap, bOr_ap, bNot_ap, dAnd_ap, dOr_ap, dNot_ap, dCh_ap, dCall_ap, wpR_call0, wpR_call1, wpR_call2, wpR_call3, wpR_call4, wpR_call5, wpR_call6, fAdd_ii, fAdd_ss, fAddI_ii, fAddI_ss, fSub_ii, fMul_ii, fMod_ii, fFdiv_ii, fNeg_i, fLt_ii, fLe_ii, fGt_ii, fGe_ii, fEq_ii, fNe_ii, fEq_ss, fNe_ss, fEq_bb, fNe_bb, bAbs_i, bInt_i, bInt_b, bMax_ii, bMin_ii, bDivmod_ii, seqK_n, seqK_tp, seqK_fl, bLen_tp, bLen_fl, bLen_n, bLen_s, bList_q, bTuple_q, optR_s, fIx_tp, fIx_fl, fIx_n, fIx_s, oNone_ap, asInt_i, oSome_ap, dSl_ap, fSl_tp, fSl_fl, fSl_n, fSl_s, atI_0, atI_1, atI_2, atI_3, wpR_comp, tYesB_ap, diV_ap, itV_tp, itV_fl, itV_n, itV_s, live_tp, live_fl, live_n, diR1_ap, diR2_ap, diE_ap, Kf_nx, Kf_rt, Kf_ex, Kin_nx, Kin_ct, Kin_bk, Kin_rt, Kin_ex, isTp, List.set_cons_succ, List.set_cons_zero, List.map_cons, List.map_nil, List.cons_append, List.nil_append, List.length_cons, List.length_nil, List.replicate_succ, List.replicate_zero, List.append_nil, Nat.reduceSub, Nat.reduceAdd, Nat.reduceMul, Int.reduceAdd, Int.reduceSub, Int.reduceMul, Int.reduceNeg, Int.reduceLT, Int.reduceLE, Nat.reduceLeDiff, Nat.reduceLT, decide_true, decide_false, Int.reduceToNat, Bool.not_true, Bool.not_false, and_true, true_and, and_self, true_or, or_true, List.set_nil, Int.reduceMod, Int.reduceDiv, Int.reducePow, Int.cast_ofNat_Int, Int.reduceEq, Int.reduceNe, Nat.reduceEqDiff, eq_self, false_and, and_false, Nat.zero_add, Int.zero_add, Int.add_zero, wipeE, fSetIx_ref, fIx_ref, bLen_ref, seqK_ref, itV_ref, live_ref, fSl_ref] | refine wNd_i (by omega) ?_))
  have t0 : 0 < 1 + t := by omega
  have t1 : 1 + t ≤ 20 := by omega
  have w0 : 0 < 1 + w := by omega
  have w1 : 1 + w ≤ 20 := by omega
  generalize 1 + t = t at t0 t1
  generalize 1 + w = w at w0 w1
  have F5 : Frm b h h5 := (((F1.tr F2).tr F3).tr F4).tr F5
  clear F1 F2 F3 F4 B B1 B2 B3 B4
  refine wIf_join (fun ρ h' => ∃ s, 0 ≤ s ∧ s ≤ 1000000000 ∧ Bx h' b (n + 10) ∧ Frm b h h' ∧ ρ = [some (.ref b), some (.int t), some (.int w), some (.int l), some (.int s), none, none, none, none, none, none]) (wIf_d (fun _ => ?_) fun _ => ?_) ?_
  · (repeat (first | simp only [wpR_run, wpS_nil, wpS_seq, wpS_ret, wpS_retN, wpS_expr, wpS_set, wpS_if, wpS_brk, wpS_cnt, wpS_aug, wpS_par, wpS_asg, wpS_tdN, wpS_tdSub, wpS_tdT, wpS_runT0, wpS_runT, wpS_for, onlyN_nx, run_nm, run_tp, setN_nil, setN_cons, asV_v, bindO_s, wgo_go, wIf_t, wIf_f, wNd_t, wpR_ok, wpR_ex, wpR_bind, bind_ok, wpR_ite, wpR_oR, wOpt_s, numP_v, numP_n, numK_v, numK_n, dVar_0, dVar_s, dC_ap, dOp_ap, dU_ap, dB_ap, aNil_ap, aCons_ap, vNil_ap, vCons_ap, dTup_ap, dLst_ap, asBool_v, dT_ap, brR_t, brR_f, wpR_br, dIf_ap, bAnd_ap, bOr_ap, bNot_ap, dAnd_ap, dOr_ap, dNot_ap, dCh_ap, dCall_ap, wpR_call0, wpR_call1, wpR_call2, wpR_call3, wpR_call4, wpR_call5, wpR_call6, fAdd_ii, fAdd_ss, fAddI_ii, fAddI_ss, fSub_ii, fMul_ii, fMod_ii, fFdiv_ii, fNeg_i, fLt_ii, fLe_ii, fGt_ii, fGe_ii, fEq_ii, fNe_ii, fEq_ss, fNe_ss, fEq_bb, fNe_bb, bAbs_i, bInt_i, bInt_b, bMax_ii, bMin_ii, bDivmod_ii, seqK_n, seqK_tp, seqK_fl, bLen_tp, bLen_fl, bLen_n, bLen_s, bList_q, bTuple_q, optR_s, fIx_tp, fIx_fl, fIx_n, fIx_s, oNone_ap, asInt_i, oSome_ap, dSl_ap, fSl_tp, fSl_fl, fSl_n, fSl_s, atI_0, atI_1, atI_2, atI_3, wpR_comp, tYesB_ap, diV_ap, itV_tp, itV_fl, itV_n, itV_s, live_tp, live_fl, live_n, diR1_ap, diR2_ap, diE_ap, Kf_nx, Kf_rt, Kf_ex, Kin_nx, Kin_ct, Kin_bk, Kin_rt, Kin_ex, isTp, List.set_cons_succ, List.set_cons_zero, List.map_cons, List.map_nil, List.cons_append, List.nil_append, List.length_cons, List.length_nil, List.replicate_succ, List.replicate_zero, List.append_nil, Nat.reduceSub, Nat.reduceAdd, Nat.reduceMul, Int.reduceAdd, Int.reduceSub, Int.reduceMul, Int.reduceNeg, Int.reduceLT, Int.reduceLE, Nat.reduceLeDiff, Nat.reduceLT, decide_true, decide_false, Int.reduceToNat, Bool.not_true, Bool.not_false, and_true, true_and, and_self, true_or, or_true, List.set_nil, Int.reduceMod, Int.reduceDiv, Int.reducePow, Int.cast_ofNat_Int, Int.reduceEq, Int.reduceNe, Nat.reduceEqDiff, eq_self, false_and, and_false, Nat.zero_add, Int.zero_add, Int.add_zero, wipeE, fSetIx_ref, fIx_ref, bLen_ref, seqK_ref, itV_ref, live_ref, fSl_ref] | refine wNd_i (by omega) ?_))
    refine take_ok B5 (by omega) (by decide) (by decide) fun c h6 c0 c1 B6 F6 _ => ?_
    (repeat (first | simp only [wpR_run, wpS_nil, wpS_seq, wpS_ret, wpS_retN, wpS_expr, wpS_set, wpS_if, wpS_brk, wpS_cnt, wpS_aug, wpS_par, wpS_asg, wpS_tdN, wpS_tdSub, wpS_tdT, wpS_runT0, wpS_runT, wpS_for, onlyN_nx, run_nm, run_tp, setN_nil, setN_cons, asV_v, bindO_s, wgo_go, wIf_t, wIf_f, wNd_t, wpR_ok, wpR_ex, wpR_bind, bind_ok, wpR_ite, wpR_oR, wOpt_s, numP_v, numP_n, numK_v, numK_n, dVar_0, dVar_s, dC_ap, dOp_ap, dU_ap, dB_ap, aNil_ap, aCons_ap, vNil_ap, vCons_ap, dTup_ap, dLst_ap, asBool_v, dT_ap, brR_t, brR_f, wpR_br, dIf_ap, bAnd_ap, bOr_ap, bNot_ap, dAnd_ap, dOr_ap, dNot_ap, dCh_ap, dCall_ap, wpR_call0, wpR_call1, wpR_call2, wpR_call3, wpR_call4, wpR_call5, wpR_call6, fAdd_ii, fAdd_ss, fAddI_ii, fAddI_ss, fSub_ii, fMul_ii, fMod_ii, fFdiv_ii, fNeg_i, fLt_ii, fLe_ii, fGt_ii, fGe_ii, fEq_ii, fNe_ii, fEq_ss, fNe_ss, fEq_bb, fNe_bb, bAbs_i, bInt_i, bInt_b, bMax_ii, bMin_ii, bDivmod_ii, seqK_n, seqK_tp, seqK_fl, bLen_tp, bLen_fl, bLen_n, bLen_s, bList_q, bTuple_q, optR_s, fIx_tp, fIx_fl, fIx_n, fIx_s, oNone_ap, asInt_i, oSome_ap, dSl_ap, fSl_tp, fSl_fl, fSl_n, fSl_s, atI_0, atI_1, atI_2, atI_3, wpR_comp, tYesB_ap, diV_ap, itV_tp, itV_fl, itV_n, itV_s, live_tp, live_fl, live_n, diR1_ap, diR2_ap, diE_ap, Kf_nx, Kf_rt, Kf_ex, Kin_nx, Kin_ct, Kin_bk, Kin_rt, Kin_ex, isTp, List.set_cons_succ, List.set_cons_zero, List.map_cons, List.map_nil, List.cons_append, List.nil_append, List.length_cons, List.length_nil, List.replicate_succ, List.replicate_zero, List.append_nil, Nat.reduceSub, Nat.reduceAdd, Nat.reduceMul, Int.reduceAdd, Int.reduceSub, Int.reduceMul, Int.reduceNeg, Int.reduceLT, Int.reduceLE, Nat.reduceLeDiff, Nat.reduceLT, decide_true, decide_false, Int.reduceToNat, Bool.not_true, Bool.not_false, and_true, true_and, and_self, true_or, or_true, List.set_nil, Int.reduceMod, Int.reduceDiv, Int.reducePow, Int.cast_ofNat_Int, Int.reduceEq, Int.reduceNe, Nat.reduceEqDiff, eq_self, false_and, and_false, Nat.zero_add, Int.zero_add, Int.add_zero, wipeE, fSetIx_ref, fIx_ref, bLen_ref, seqK_ref, itV_ref, live_ref, fSl_ref] | refine wNd_i (by omega) ?_))
    refine ⟨_, ?_, ?_, B6.mono (by omega), F5.tr F6, rfl⟩
    · split
      · split <;> omega
      · omega
    · split <;> omega
  · (repeat (first | simp only [wpR_run, wpS_nil, wpS_seq, wpS_ret, wpS_retN, wpS_expr, wpS_set, wpS_if, wpS_brk, wpS_cnt, wpS_aug, wpS_par, wpS_asg, wpS_tdN, wpS_tdSub, wpS_tdT, wpS_runT0, wpS_runT, wpS_for, onlyN_nx, run_nm, run_tp, setN_nil, setN_cons, asV_v, bindO_s, wgo_go, wIf_t, wIf_f, wNd_t, wpR_ok, wpR_ex, wpR_bind, bind_ok, wpR_ite, wpR_oR, wOpt_s, numP_v, numP_n, numK_v, numK_n, dVar_0, dVar_s, dC_ap, dOp_ap, dU_ap, dB_ap, aNil_ap, aCons_ap, vNil_ap, vCons_ap, dTup_ap, dLst_ap, asBool_v, dT_ap, brR_t, brR_f, wpR_br, dIf_ap, bAnd_ap, bOr_ap, bNot_ap, dAnd_ap, dOr_ap, dNot_ap, dCh_ap, dCall_ap, wpR_call0, wpR_call1, wpR_call2, wpR_call3, wpR_call4, wpR_call5, wpR_call6, fAdd_ii, fAdd_ss, fAddI_ii, fAddI_ss, fSub_ii, fMul_ii, fMod_ii, fFdiv_ii, fNeg_i, fLt_ii, fLe_ii, fGt_ii, fGe_ii, fEq_ii, fNe_ii, fEq_ss, fNe_ss, fEq_bb, fNe_bb, bAbs_i, bInt_i, bInt_b, bMax_ii, bMin_ii, bDivmod_ii, seqK_n, seqK_tp, seqK_fl, bLen_tp, bLen_fl, bLen_n, bLen_s, bList_q, bTuple_q, optR_s, fIx_tp, fIx_fl, fIx_n, fIx_s, oNone_ap, asInt_i, oSome_ap, dSl_ap, fSl_tp, fSl_fl, fSl_n, fSl_s, atI_0, atI_1, atI_2, atI_3, wpR_comp, tYesB_ap, diV_ap, itV_tp, itV_fl, itV_n, itV_s, live_tp, live_fl, live_n, diR1_ap, diR2_ap, diE_ap, Kf_nx, Kf_rt, Kf_ex, Kin_nx, Kin_ct, Kin_bk, Kin_rt, Kin_ex, isTp, List.set_cons_succ, List.set_cons_zero, List.map_cons, List.map_nil, List.cons_append, List.nil_append, List.length_cons, List.length_nil, List.replicate_succ, List.replicate_zero, List.append_nil, Nat.reduceSub, Nat.reduceAdd, Nat.reduceMul, Int.reduceAdd, Int.reduceSub, Int.reduceMul, Int.reduceNeg, Int.reduceLT, Int.reduceLE, Nat.reduceLeDiff, Nat.reduceLT, decide_true, decide_false, Int.reduceToNat, Bool.not_true, Bool.not_false, and_true, true_and, and_self, true_or, or_true, List.set_nil, Int.reduceMod, Int.reduceDiv, Int.reducePow, Int.cast_ofNat_Int, Int.reduceEq, Int.reduceNe, Nat.reduceEqDiff, eq_self, false_and, and_false, Nat.zero_add, Int.zero_add, Int.add_zero, wipeE, fSetIx_ref, fIx_ref, bLen_ref, seqK_ref, itV_ref, live_ref, fSl_ref] | refine wNd_i (by omega) ?_))
    exact ⟨s, s0, s1, B5.mono (by omega), F5, rfl⟩
  rintro ρ h6 ⟨s, s0, s1, B6, F6, rfl⟩
  clear B5 F5
  (repeat (first | simp only [wpR_run, wpS_nil, wpS_seq, wpS_ret, wpS_retN, wpS_expr, wpS_set, wpS_if, wpS_brk, wpS_cnt, wpS_aug, wpS_par, wpS_asg, wpS_tdN, wpS_tdSub, wpS_tdT, wpS_runT0, wpS_runT, wpS_for, onlyN_nx, run_nm, run_tp, setN_nil, setN_cons, asV_v, bindO_s, wgo_go, wIf_t, wIf_f, wNd_t, wpR_ok, wpR_ex, wpR_bind, bind_ok, wpR_ite, wpR_oR, wOpt_s, numP_v, numP_n, numK_v, numK_n, dVar_0, dVar_s, dC_ap, dOp_ap, dU_ap, dB_ap, aNil_ap, aCons_ap, vNil_ap, vCons_ap, dTup_ap, dLst_ap, asBool_v, dT_ap, brR_t, brR_f, wpR_br, dIf_ap, bAnd_ap, bOr_ap, bNot_ap, dAnd_ap, dOr_ap, dNot_ap, dCh_ap, dCall_ap, wpR_call0, wpR_call1, wpR_call2, wpR_call3, wpR_call4, wpR_call5, wpR_call6, fAdd_ii, fAdd_ss, fAddI_ii, fAddI_ss, fSub_ii, fMul_ii, fMod_ii, fFdiv_ii, fNeg_i, fLt_ii, fLe_ii, fGt_ii, fGe_ii, fEq_ii, fNe_ii, fEq_ss, fNe_ss, fEq_bb, fNe_bb, bAbs_i, bInt_i, bInt_b, bMax_ii, bMin_ii, bDivmod_ii, seqK_n, seqK_tp, seqK_fl, bLen_tp, bLen_fl, bLen_n, bLen_s, bList_q, bTuple_q, optR_s, fIx_tp, fIx_fl, fIx_n, fIx_s, oNone_ap, asInt_i, oSome_ap, dSl_ap, fSl_tp, fSl_fl, fSl_n, fSl_s, atI_0, atI_1, atI_2, atI_3, wpR_comp, tYesB_ap, diV_ap, itV_tp, itV_fl, itV_n, itV_s, live_tp, live_fl, live_n, diR1_ap, diR2_ap, diE_ap, Kf_nx, Kf_rt, Kf_ex, Kin_nx, Kin_ct, Kin_bk, Kin_rt, Kin_ex, isTp, List.set_cons_succ, List.set_cons_zero, List.map_cons, List.map_nil, List.cons_append, List.nil_append, List.length_cons, List.length_nil, List.replicate_succ, List.replicate_zero, List.append_nil, Nat.reduceSub, Nat.reduceAdd, Nat.reduceMul, Int.reduceAdd, Int.reduceSub, Int.reduceMul, Int.reduceNeg, Int.reduceLT, Int.reduceLE, Nat.reduceLeDiff, Nat.reduceLT, decide_true, decide_false, Int.reduceToNat, Bool.not_true, Bool.not_false, and_true, true_and, and_self, true_or, or_true, List.set_nil, Int.reduceMod, Int.reduceDiv, Int.reducePow, Int.cast_ofNat_Int, Int.reduceEq, Int.reduceNe, Nat.reduceEqDiff, eq_self, false_and, and_false, Nat.zero_add, Int.zero_add, Int.add_zero, wipeE, fSetIx_ref, fIx_ref, bLen_ref, seqK_ref, itV_ref, live_ref, fSl_ref] | refine wNd_i (by omega) ?_))
  have at2 : ∀ h, bAll [.n [.bl true, .bl true]] h = .ok (.v (.bl true)) h := fun h => bAll_t (by simp)
  refine stand_ok t0 t1 w0 w1 ?_
  have g0 : 0 ≤ gd l s t w := gd_0 t0 w0 l0 s0
  have g1 : gd l s t w ≤ l := gd_le
  have g2 : gd l s t w * t ≤ s * w := gd_top t0
  have g3 : gd l s t w = l ∨ s * w < (gd l s t w + 1) * t := gd_more t0
  have m0 : 0 ≤ mn l s t w := mn_0 t0 w0 l0 s0
  have m1 : mn l s t w ≤ s := mn_le t0 w0
  have m2 : gd l s t w * t ≤ mn l s t w * w := mn_ge w0
  have m3 : (mn l s t w - 1) * w < gd l s t w * t := mn_lt w0
  have m4 : gd l (mn l s t w) t w = gd l s t w := gd_mn t0 w0
  rw [show (gd l s t w * t + w - 1) / w = mn l s t w from rfl]
  generalize gd l s t w = g at g0 g1 g2 g3 m2 m3 m4
  generalize mn l s t w = m at m0 m1 m2 m3 m4
  (repeat (first | simp only [wpR_run, wpS_nil, wpS_seq, wpS_ret, wpS_retN, wpS_expr, wpS_set, wpS_if, wpS_brk, wpS_cnt, wpS_aug, wpS_par, wpS_asg, wpS_tdN, wpS_tdSub, wpS_tdT, wpS_runT0, wpS_runT, wpS_for, onlyN_nx, run_nm, run_tp, setN_nil, setN_cons, asV_v, bindO_s, wgo_go, wIf_t, wIf_f, wNd_t, wpR_ok, wpR_ex, wpR_bind, bind_ok, wpR_ite, wpR_oR, wOpt_s, numP_v, numP_n, numK_v, numK_n, dVar_0, dVar_s, dC_ap, dOp_ap, dU_ap, dB_ap, aNil_ap, aCons_ap, vNil_ap, vCons_ap, dTup_ap, dLst_ap, asBool_v, dT_ap, brR_t, brR_f, wpR_br, dIf_ap, bAnd_ap, bOr_ap, bNot_ap, dAnd_ap, dOr_ap, dNot_ap, dCh_ap, dCall_ap, wpR_call0, wpR_call1, wpR_call2, wpR_call3, wpR_call4, wpR_call5, wpR_call6, fAdd_ii, fAdd_ss, fAddI_ii, fAddI_ss, fSub_ii, fMul_ii, fMod_ii, fFdiv_ii, fNeg_i, fLt_ii, fLe_ii, fGt_ii, fGe_ii, fEq_ii, fNe_ii, fEq_ss, fNe_ss, fEq_bb, fNe_bb, bAbs_i, bInt_i, bInt_b, bMax_ii, bMin_ii, bDivmod_ii, seqK_n, seqK_tp, seqK_fl, bLen_tp, bLen_fl, bLen_n, bLen_s, bList_q, bTuple_q, optR_s, fIx_tp, fIx_fl, fIx_n, fIx_s, oNone_ap, asInt_i, oSome_ap, dSl_ap, fSl_tp, fSl_fl, fSl_n, fSl_s, atI_0, atI_1, atI_2, atI_3, wpR_comp, tYesB_ap, diV_ap, itV_tp, itV_fl, itV_n, itV_s, live_tp, live_fl, live_n, diR1_ap, diR2_ap, diE_ap, Kf_nx, Kf_rt, Kf_ex, Kin_nx, Kin_ct, Kin_bk, Kin_rt, Kin_ex, isTp, List.set_cons_succ, List.set_cons_zero, List.map_cons, List.map_nil, List.cons_append, List.nil_append, List.length_cons, List.length_nil, List.replicate_succ, List.replicate_zero, List.append_nil, Nat.reduceSub, Nat.reduceAdd, Nat.reduceMul, Int.reduceAdd, Int.reduceSub, Int.reduceMul, Int.reduceNeg, Int.reduceLT, Int.reduceLE, Nat.reduceLeDiff, Nat.reduceLT, decide_true, decide_false, Int.reduceToNat, Bool.not_true, Bool.not_false, and_true, true_and, and_self, true_or, or_true, List.set_nil, Int.reduceMod, Int.reduceDiv, Int.reducePow, Int.cast_ofNat_Int, Int.reduceEq, Int.reduceNe, Nat.reduceEqDiff, eq_self, false_and, and_false, Nat.zero_add, Int.zero_add, Int.add_zero, wipeE, fSetIx_ref, fIx_ref, bLen_ref, seqK_ref, itV_ref, live_ref, fSl_ref, show ∀ x h, fIsi .tup (.v (.tup x)) h = .ok (.v (.bl true)) h from fun _ _ => rfl, compL_n, compL_c] | refine wNd_i (by omega) ?_))
  refine whole_ok m0 ?_
  (repeat (first | simp only [wpR_run, wpS_nil, wpS_seq, wpS_ret, wpS_retN, wpS_expr, wpS_set, wpS_if, wpS_brk, wpS_cnt, wpS_aug, wpS_par, wpS_asg, wpS_tdN, wpS_tdSub, wpS_tdT, wpS_runT0, wpS_runT, wpS_for, onlyN_nx, run_nm, run_tp, setN_nil, setN_cons, asV_v, bindO_s, wgo_go, wIf_t, wIf_f, wNd_t, wpR_ok, wpR_ex, wpR_bind, bind_ok, wpR_ite, wpR_oR, wOpt_s, numP_v, numP_n, numK_v, numK_n, dVar_0, dVar_s, dC_ap, dOp_ap, dU_ap, dB_ap, aNil_ap, aCons_ap, vNil_ap, vCons_ap, dTup_ap, dLst_ap, asBool_v, dT_ap, brR_t, brR_f, wpR_br, dIf_ap, bAnd_ap, bOr_ap, bNot_ap, dAnd_ap, dOr_ap, dNot_ap, dCh_ap, dCall_ap, wpR_call0, wpR_call1, wpR_call2, wpR_call3, wpR_call4, wpR_call5, wpR_call6, fAdd_ii, fAdd_ss, fAddI_ii, fAddI_ss, fSub_ii, fMul_ii, fMod_ii, fFdiv_ii, fNeg_i, fLt_ii, fLe_ii, fGt_ii, fGe_ii, fEq_ii, fNe_ii, fEq_ss, fNe_ss, fEq_bb, fNe_bb, bAbs_i, bInt_i, bInt_b, bMax_ii, bMin_ii, bDivmod_ii, seqK_n, seqK_tp, seqK_fl, bLen_tp, bLen_fl, bLen_n, bLen_s, bList_q, bTuple_q, optR_s, fIx_tp, fIx_fl, fIx_n, fIx_s, oNone_ap, asInt_i, oSome_ap, dSl_ap, fSl_tp, fSl_fl, fSl_n, fSl_s, atI_0, atI_1, atI_2, atI_3, wpR_comp, tYesB_ap, diV_ap, itV_tp, itV_fl, itV_n, itV_s, live_tp, live_fl, live_n, diR1_ap, diR2_ap, diE_ap, Kf_nx, Kf_rt, Kf_ex, Kin_nx, Kin_ct, Kin_bk, Kin_rt, Kin_ex, isTp, List.set_cons_succ, List.set_cons_zero, List.map_cons, List.map_nil, List.cons_append, List.nil_append, List.length_cons, List.length_nil, List.replicate_succ, List.replicate_zero, List.append_nil, Nat.reduceSub, Nat.reduceAdd, Nat.reduceMul, Int.reduceAdd, Int.reduceSub, Int.reduceMul, Int.reduceNeg, Int.reduceLT, Int.reduceLE, Nat.reduceLeDiff, Nat.reduceLT, decide_true, decide_false, Int.reduceToNat, Bool.not_true, Bool.not_false, and_true, true_and, and_self, true_or, or_true, List.set_nil, Int.reduceMod, Int.reduceDiv, Int.reducePow, Int.cast_ofNat_Int, Int.reduceEq, Int.reduceNe, Nat.reduceEqDiff, eq_self, false_and, and_false, Nat.zero_add, Int.zero_add, Int.add_zero, wipeE, fSetIx_ref, fIx_ref, bLen_ref, seqK_ref, itV_ref, live_ref, fSl_ref, compL_n, compL_c] | refine wNd_i (by omega) ?_))
  refine whole_ok g0 ?_
  (repeat (first | simp only [wpR_run, wpS_nil, wpS_seq, wpS_ret, wpS_retN, wpS_expr, wpS_set, wpS_if, wpS_brk, wpS_cnt, wpS_aug, wpS_par, wpS_asg, wpS_tdN, wpS_tdSub, wpS_tdT, wpS_runT0, wpS_runT, wpS_for, onlyN_nx, run_nm, run_tp, setN_nil, setN_cons, asV_v, bindO_s, wgo_go, wIf_t, wIf_f, wNd_t, wpR_ok, wpR_ex, wpR_bind, bind_ok, wpR_ite, wpR_oR, wOpt_s, numP_v, numP_n, numK_v, numK_n, dVar_0, dVar_s, dC_ap, dOp_ap, dU_ap, dB_ap, aNil_ap, aCons_ap, vNil_ap, vCons_ap, dTup_ap, dLst_ap, asBool_v, dT_ap, brR_t, brR_f, wpR_br, dIf_ap, bAnd_ap, bOr_ap, bNot_ap, dAnd_ap, dOr_ap, dNot_ap, dCh_ap, dCall_ap, wpR_call0, wpR_call1, wpR_call2, wpR_call3, wpR_call4, wpR_call5, wpR_call6, fAdd_ii, fAdd_ss, fAddI_ii, fAddI_ss, fSub_ii, fMul_ii, fMod_ii, fFdiv_ii, fNeg_i, fLt_ii, fLe_ii, fGt_ii, fGe_ii, fEq_ii, fNe_ii, fEq_ss, fNe_ss, fEq_bb, fNe_bb, bAbs_i, bInt_i, bInt_b, bMax_ii, bMin_ii, bDivmod_ii, seqK_n, seqK_tp, seqK_fl, bLen_tp, bLen_fl, bLen_n, bLen_s, bList_q, bTuple_q, optR_s, fIx_tp, fIx_fl, fIx_n, fIx_s, oNone_ap, asInt_i, oSome_ap, dSl_ap, fSl_tp, fSl_fl, fSl_n, fSl_s, atI_0, atI_1, atI_2, atI_3, wpR_comp, tYesB_ap, diV_ap, itV_tp, itV_fl, itV_n, itV_s, live_tp, live_fl, live_n, diR1_ap, diR2_ap, diE_ap, Kf_nx, Kf_rt, Kf_ex, Kin_nx, Kin_ct, Kin_bk, Kin_rt, Kin_ex, isTp, List.set_cons_succ, List.set_cons_zero, List.map_cons, List.map_nil, List.cons_append, List.nil_append, List.length_cons, List.length_nil, List.replicate_succ, List.replicate_zero, List.append_nil, Nat.reduceSub, Nat.reduceAdd, Nat.reduceMul, Int.reduceAdd, Int.reduceSub, Int.reduceMul, Int.reduceNeg, Int.reduceLT, Int.reduceLE, Nat.reduceLeDiff, Nat.reduceLT, decide_true, decide_false, Int.reduceToNat, Bool.not_true, Bool.not_false, and_true, true_and, and_self, true_or, or_true, List.set_nil, Int.reduceMod, Int.reduceDiv, Int.reducePow, Int.cast_ofNat_Int, Int.reduceEq, Int.reduceNe, Nat.reduceEqDiff, eq_self, false_and, and_false, Nat.zero_add, Int.zero_add, Int.add_zero, wipeE, fSetIx_ref, fIx_ref, bLen_ref, seqK_ref, itV_ref, live_ref, fSl_ref, compL_n, compL_c, at2] | refine wNd_i (by omega) ?_))
  refine fits_ok t0 t1 w0 w1 g1 g2 g3 ?_
  (repeat (first | simp only [wpR_run, wpS_nil, wpS_seq, wpS_ret, wpS_retN, wpS_expr, wpS_set, wpS_if, wpS_brk, wpS_cnt, wpS_aug, wpS_par, wpS_asg, wpS_tdN, wpS_tdSub, wpS_tdT, wpS_runT0, wpS_runT, wpS_for, onlyN_nx, run_nm, run_tp, setN_nil, setN_cons, asV_v, bindO_s, wgo_go, wIf_t, wIf_f, wNd_t, wpR_ok, wpR_ex, wpR_bind, bind_ok, wpR_ite, wpR_oR, wOpt_s, numP_v, numP_n, numK_v, numK_n, dVar_0, dVar_s, dC_ap, dOp_ap, dU_ap, dB_ap, aNil_ap, aCons_ap, vNil_ap, vCons_ap, dTup_ap, dLst_ap, asBool_v, dT_ap, brR_t, brR_f, wpR_br, dIf_ap, bAnd_ap, bOr_ap, bNot_ap, dAnd_ap, dOr_ap, dNot_ap, dCh_ap, dCall_ap, wpR_call0, wpR_call1, wpR_call2, wpR_call3, wpR_call4, wpR_call5, wpR_call6, fAdd_ii, fAdd_ss, fAddI_ii, fAddI_ss, fSub_ii, fMul_ii, fMod_ii, fFdiv_ii, fNeg_i, fLt_ii, fLe_ii, fGt_ii, fGe_ii, fEq_ii, fNe_ii, fEq_ss, fNe_ss, fEq_bb, fNe_bb, bAbs_i, bInt_i, bInt_b, bMax_ii, bMin_ii, bDivmod_ii, seqK_n, seqK_tp, seqK_fl, bLen_tp, bLen_fl, bLen_n, bLen_s, bList_q, bTuple_q, optR_s, fIx_tp, fIx_fl, fIx_n, fIx_s, oNone_ap, asInt_i, oSome_ap, dSl_ap, fSl_tp, fSl_fl, fSl_n, fSl_s, atI_0, atI_1, atI_2, atI_3, wpR_comp, tYesB_ap, diV_ap, itV_tp, itV_fl, itV_n, itV_s, live_tp, live_fl, live_n, diR1_ap, diR2_ap, diE_ap, Kf_nx, Kf_rt, Kf_ex, Kin_nx, Kin_ct, Kin_bk, Kin_rt, Kin_ex, isTp, List.set_cons_succ, List.set_cons_zero, List.map_cons, List.map_nil, List.cons_append, List.nil_append, List.length_cons, List.length_nil, List.replicate_succ, List.replicate_zero, List.append_nil, Nat.reduceSub, Nat.reduceAdd, Nat.reduceMul, Int.reduceAdd, Int.reduceSub, Int.reduceMul, Int.reduceNeg, Int.reduceLT, Int.reduceLE, Nat.reduceLeDiff, Nat.reduceLT, decide_true, decide_false, Int.reduceToNat, Bool.not_true, Bool.not_false, and_true, true_and, and_self, true_or, or_true, List.set_nil, Int.reduceMod, Int.reduceDiv, Int.reducePow, Int.cast_ofNat_Int, Int.reduceEq, Int.reduceNe, Nat.reduceEqDiff, eq_self, false_and, and_false, Nat.zero_add, Int.zero_add, Int.add_zero, wipeE, fSetIx_ref, fIx_ref, bLen_ref, seqK_ref, itV_ref, live_ref, fSl_ref] | refine wNd_i (by omega) ?_))
  refine wIf_d (fun z => absurd z (by omega)) fun _ => ?_
  (repeat (first | simp only [wpR_run, wpS_nil, wpS_seq, wpS_ret, wpS_retN, wpS_expr, wpS_set, wpS_if, wpS_brk, wpS_cnt, wpS_aug, wpS_par, wpS_asg, wpS_tdN, wpS_tdSub, wpS_tdT, wpS_runT0, wpS_runT, wpS_for, onlyN_nx, run_nm, run_tp, setN_nil, setN_cons, asV_v, bindO_s, wgo_go, wIf_t, wIf_f, wNd_t, wpR_ok, wpR_ex, wpR_bind, bind_ok, wpR_ite, wpR_oR, wOpt_s, numP_v, numP_n, numK_v, numK_n, dVar_0, dVar_s, dC_ap, dOp_ap, dU_ap, dB_ap, aNil_ap, aCons_ap, vNil_ap, vCons_ap, dTup_ap, dLst_ap, asBool_v, dT_ap, brR_t, brR_f, wpR_br, dIf_ap, bAnd_ap, bOr_ap, bNot_ap, dAnd_ap, dOr_ap, dNot_ap, dCh_ap, dCall_ap, wpR_call0, wpR_call1, wpR_call2, wpR_call3, wpR_call4, wpR_call5, wpR_call6, fAdd_ii, fAdd_ss, fAddI_ii, fAddI_ss, fSub_ii, fMul_ii, fMod_ii, fFdiv_ii, fNeg_i, fLt_ii, fLe_ii, fGt_ii, fGe_ii, fEq_ii, fNe_ii, fEq_ss, fNe_ss, fEq_bb, fNe_bb, bAbs_i, bInt_i, bInt_b, bMax_ii, bMin_ii, bDivmod_ii, seqK_n, seqK_tp, seqK_fl, bLen_tp, bLen_fl, bLen_n, bLen_s, bList_q, bTuple_q, optR_s, fIx_tp, fIx_fl, fIx_n, fIx_s, oNone_ap, asInt_i, oSome_ap, dSl_ap, fSl_tp, fSl_fl, fSl_n, fSl_s, atI_0, atI_1, atI_2, atI_3, wpR_comp, tYesB_ap, diV_ap, itV_tp, itV_fl, itV_n, itV_s, live_tp, live_fl, live_n, diR1_ap, diR2_ap, diE_ap, Kf_nx, Kf_rt, Kf_ex, Kin_nx, Kin_ct, Kin_bk, Kin_rt, Kin_ex, isTp, List.set_cons_succ, List.set_cons_zero, List.map_cons, List.map_nil, List.cons_append, List.nil_append, List.length_cons, List.length_nil, List.replicate_succ, List.replicate_zero, List.append_nil, Nat.reduceSub, Nat.reduceAdd, Nat.reduceMul, Int.reduceAdd, Int.reduceSub, Int.reduceMul, Int.reduceNeg, Int.reduceLT, Int.reduceLE, Nat.reduceLeDiff, Nat.reduceLT, decide_true, decide_false, Int.reduceToNat, Bool.not_true, Bool.not_false, and_true, true_and, and_self, true_or, or_true, List.set_nil, Int.reduceMod, Int.reduceDiv, Int.reducePow, Int.cast_ofNat_Int, Int.reduceEq, Int.reduceNe, Nat.reduceEqDiff, eq_self, false_and, and_false, Nat.zero_add, Int.zero_add, Int.add_zero, wipeE, fSetIx_ref, fIx_ref, bLen_ref, seqK_ref, itV_ref, live_ref, fSl_ref] | refine wNd_i (by omega) ?_))
  refine wIf_d (fun z => absurd z (by omega)) fun _ => ?_
  (repeat (first | simp only [wpR_run, wpS_nil, wpS_seq, wpS_ret, wpS_retN, wpS_expr, wpS_set, wpS_if, wpS_brk, wpS_cnt, wpS_aug, wpS_par, wpS_asg, wpS_tdN, wpS_tdSub, wpS_tdT, wpS_runT0, wpS_runT, wpS_for, onlyN_nx, run_nm, run_tp, setN_nil, setN_cons, asV_v, bindO_s, wgo_go, wIf_t, wIf_f, wNd_t, wpR_ok, wpR_ex, wpR_bind, bind_ok, wpR_ite, wpR_oR, wOpt_s, numP_v, numP_n, numK_v, numK_n, dVar_0, dVar_s, dC_ap, dOp_ap, dU_ap, dB_ap, aNil_ap, aCons_ap, vNil_ap, vCons_ap, dTup_ap, dLst_ap, asBool_v, dT_ap, brR_t, brR_f, wpR_br, dIf_ap, bAnd_ap, bOr_ap, bNot_ap, dAnd_ap, dOr_ap, dNot_ap, dCh_ap, dCall_ap, wpR_call0, wpR_call1, wpR_call2, wpR_call3, wpR_call4, wpR_call5, wpR_call6, fAdd_ii, fAdd_ss, fAddI_ii, fAddI_ss, fSub_ii, fMul_ii, fMod_ii, fFdiv_ii, fNeg_i, fLt_ii, fLe_ii, fGt_ii, fGe_ii, fEq_ii, fNe_ii, fEq_ss, fNe_ss, fEq_bb, fNe_bb, bAbs_i, bInt_i, bInt_b, bMax_ii, bMin_ii, bDivmod_ii, seqK_n, seqK_tp, seqK_fl, bLen_tp, bLen_fl, bLen_n, bLen_s, bList_q, bTuple_q, optR_s, fIx_tp, fIx_fl, fIx_n, fIx_s, oNone_ap, asInt_i, oSome_ap, dSl_ap, fSl_tp, fSl_fl, fSl_n, fSl_s, atI_0, atI_1, atI_2, atI_3, wpR_comp, tYesB_ap, diV_ap, itV_tp, itV_fl, itV_n, itV_s, live_tp, live_fl, live_n, diR1_ap, diR2_ap, diE_ap, Kf_nx, Kf_rt, Kf_ex, Kin_nx, Kin_ct, Kin_bk, Kin_rt, Kin_ex, isTp, List.set_cons_succ, List.set_cons_zero, List.map_cons, List.map_nil, List.cons_append, List.nil_append, List.length_cons, List.length_nil, List.replicate_succ, List.replicate_zero, List.append_nil, Nat.reduceSub, Nat.reduceAdd, Nat.reduceMul, Int.reduceAdd, Int.reduceSub, Int.reduceMul, Int.reduceNeg, Int.reduceLT, Int.reduceLE, Nat.reduceLeDiff, Nat.reduceLT, decide_true, decide_false, Int.reduceToNat, Bool.not_true, Bool.not_false, and_true, true_and, and_self, true_or, or_true, List.set_nil, Int.reduceMod, Int.reduceDiv, Int.reducePow, Int.cast_ofNat_Int, Int.reduceEq, Int.reduceNe, Nat.reduceEqDiff, eq_self, false_and, and_false, Nat.zero_add, Int.zero_add, Int.add_zero, wipeE, fSetIx_ref, fIx_ref, bLen_ref, seqK_ref, itV_ref, live_ref, fSl_ref] | refine wNd_i (by omega) ?_))
  refine wIf_d (fun z => ?_) fun z => ?_
  all_goals
    (repeat (first | simp only [wpR_run, wpS_nil, wpS_seq, wpS_ret, wpS_retN, wpS_expr, wpS_set, wpS_if, wpS_brk, wpS_cnt, wpS_aug, wpS_par, wpS_asg, wpS_tdN, wpS_tdSub, wpS_tdT, wpS_runT0, wpS_runT, wpS_for, onlyN_nx, run_nm, run_tp, setN_nil, setN_cons, asV_v, bindO_s, wgo_go, wIf_t, wIf_f, wNd_t, wpR_ok, wpR_ex, wpR_bind, bind_ok, wpR_ite, wpR_oR, wOpt_s, numP_v, numP_n, numK_v, numK_n, dVar_0, dVar_s, dC_ap, dOp_ap, dU_ap, dB_ap, aNil_ap, aCons_ap, vNil_ap, vCons_ap, dTup_ap, dLst_ap, asBool_v, dT_ap, brR_t, brR_f, wpR_br, dIf_ap, bAnd_ap, bOr_ap, bNot_ap, dAnd_ap, dOr_ap, dNot_ap, dCh_ap, dCall_ap, wpR_call0, wpR_call1, wpR_call2, wpR_call3, wpR_call4, wpR_call5, wpR_call6, fAdd_ii, fAdd_ss, fAddI_ii, fAddI_ss, fSub_ii, fMul_ii, fMod_ii, fFdiv_ii, fNeg_i, fLt_ii, fLe_ii, fGt_ii, fGe_ii, fEq_ii, fNe_ii, fEq_ss, fNe_ss, fEq_bb, fNe_bb, bAbs_i, bInt_i, bInt_b, bMax_ii, bMin_ii, bDivmod_ii, seqK_n, seqK_tp, seqK_fl, bLen_tp, bLen_fl, bLen_n, bLen_s, bList_q, bTuple_q, optR_s, fIx_tp, fIx_fl, fIx_n, fIx_s, oNone_ap, asInt_i, oSome_ap, dSl_ap, fSl_tp, fSl_fl, fSl_n, fSl_s, atI_0, atI_1, atI_2, atI_3, wpR_comp, tYesB_ap, diV_ap, itV_tp, itV_fl, itV_n, itV_s, live_tp, live_fl, live_n, diR1_ap, diR2_ap, diE_ap, Kf_nx, Kf_rt, Kf_ex, Kin_nx, Kin_ct, Kin_bk, Kin_rt, Kin_ex, isTp, List.set_cons_succ, List.set_cons_zero, List.map_cons, List.map_nil, List.cons_append, List.nil_append, List.length_cons, List.length_nil, List.replicate_succ, List.replicate_zero, List.append_nil, Nat.reduceSub, Nat.reduceAdd, Nat.reduceMul, Int.reduceAdd, Int.reduceSub, Int.reduceMul, Int.reduceNeg, Int.reduceLT, Int.reduceLE, Nat.reduceLeDiff, Nat.reduceLT, decide_true, decide_false, Int.reduceToNat, Bool.not_true, Bool.not_false, and_true, true_and, and_self, true_or, or_true, List.set_nil, Int.reduceMod, Int.reduceDiv, Int.reducePow, Int.cast_ofNat_Int, Int.reduceEq, Int.reduceNe, Nat.reduceEqDiff, eq_self, false_and, and_false, Nat.zero_add, Int.zero_add, Int.add_zero, wipeE, fSetIx_ref, fIx_ref, bLen_ref, seqK_ref, itV_ref, live_ref, fSl_ref] | refine wNd_i (by omega) ?_))
    try refine wIf_d (fun z => absurd z (by omega)) fun _ => ?_
    (repeat (first | simp only [wpR_run, wpS_nil, wpS_seq, wpS_ret, wpS_retN, wpS_expr, wpS_set, wpS_if, wpS_brk, wpS_cnt, wpS_aug, wpS_par, wpS_asg, wpS_tdN, wpS_tdSub, wpS_tdT, wpS_runT0, wpS_runT, wpS_for, onlyN_nx, run_nm, run_tp, setN_nil, setN_cons, asV_v, bindO_s, wgo_go, wIf_t, wIf_f, wNd_t, wpR_ok, wpR_ex, wpR_bind, bind_ok, wpR_ite, wpR_oR, wOpt_s, numP_v, numP_n, numK_v, numK_n, dVar_0, dVar_s, dC_ap, dOp_ap, dU_ap, dB_ap, aNil_ap, aCons_ap, vNil_ap, vCons_ap, dTup_ap, dLst_ap, asBool_v, dT_ap, brR_t, brR_f, wpR_br, dIf_ap, bAnd_ap, bOr_ap, bNot_ap, dAnd_ap, dOr_ap, dNot_ap, dCh_ap, dCall_ap, wpR_call0, wpR_call1, wpR_call2, wpR_call3, wpR_call4, wpR_call5, wpR_call6, fAdd_ii, fAdd_ss, fAddI_ii, fAddI_ss, fSub_ii, fMul_ii, fMod_ii, fFdiv_ii, fNeg_i, fLt_ii, fLe_ii, fGt_ii, fGe_ii, fEq_ii, fNe_ii, fEq_ss, fNe_ss, fEq_bb, fNe_bb, bAbs_i, bInt_i, bInt_b, bMax_ii, bMin_ii, bDivmod_ii, seqK_n, seqK_tp, seqK_fl, bLen_tp, bLen_fl, bLen_n, bLen_s, bList_q, bTuple_q, optR_s, fIx_tp, fIx_fl, fIx_n, fIx_s, oNone_ap, asInt_i, oSome_ap, dSl_ap, fSl_tp, fSl_fl, fSl_n, fSl_s, atI_0, atI_1, atI_2, atI_3, wpR_comp, tYesB_ap, diV_ap, itV_tp, itV_fl, itV_n, itV_s, live_tp, live_fl, live_n, diR1_ap, diR2_ap, diE_ap, Kf_nx, Kf_rt, Kf_ex, Kin_nx, Kin_ct, Kin_bk, Kin_rt, Kin_ex, isTp, List.set_cons_succ, List.set_cons_zero, List.map_cons, List.map_nil, List.cons_append, List.nil_append, List.length_cons, List.length_nil, List.replicate_succ, List.replicate_zero, List.append_nil, Nat.reduceSub, Nat.reduceAdd, Nat.reduceMul, Int.reduceAdd, Int.reduceSub, Int.reduceMul, Int.reduceNeg, Int.reduceLT, Int.reduceLE, Nat.reduceLeDiff, Nat.reduceLT, decide_true, decide_false, Int.reduceToNat, Bool.not_true, Bool.not_false, and_true, true_and, and_self, true_or, or_true, List.set_nil, Int.reduceMod, Int.reduceDiv, Int.reducePow, Int.cast_ofNat_Int, Int.reduceEq, Int.reduceNe, Nat.reduceEqDiff, eq_self, false_and, and_false, Nat.zero_add, Int.zero_add, Int.add_zero, wipeE, fSetIx_ref, fIx_ref, bLen_ref, seqK_ref, itV_ref, live_ref, fSl_ref] | refine wNd_i (by omega) ?_))
    refine take_ok B6 (by omega) (by omega) (by omega) fun c h7 c0 c1 B7 F7 _ => ?_
    (repeat (first | simp only [wpR_run, wpS_nil, wpS_seq, wpS_ret, wpS_retN, wpS_expr, wpS_set, wpS_if, wpS_brk, wpS_cnt, wpS_aug, wpS_par, wpS_asg, wpS_tdN, wpS_tdSub, wpS_tdT, wpS_runT0, wpS_runT, wpS_for, onlyN_nx, run_nm, run_tp, setN_nil, setN_cons, asV_v, bindO_s, wgo_go, wIf_t, wIf_f, wNd_t, wpR_ok, wpR_ex, wpR_bind, bind_ok, wpR_ite, wpR_oR, wOpt_s, numP_v, numP_n, numK_v, numK_n, dVar_0, dVar_s, dC_ap, dOp_ap, dU_ap, dB_ap, aNil_ap, aCons_ap, vNil_ap, vCons_ap, dTup_ap, dLst_ap, asBool_v, dT_ap, brR_t, brR_f, wpR_br, dIf_ap, bAnd_ap, bOr_ap, bNot_ap, dAnd_ap, dOr_ap, dNot_ap, dCh_ap, dCall_ap, wpR_call0, wpR_call1, wpR_call2, wpR_call3, wpR_call4, wpR_call5, wpR_call6, fAdd_ii, fAdd_ss, fAddI_ii, fAddI_ss, fSub_ii, fMul_ii, fMod_ii, fFdiv_ii, fNeg_i, fLt_ii, fLe_ii, fGt_ii, fGe_ii, fEq_ii, fNe_ii, fEq_ss, fNe_ss, fEq_bb, fNe_bb, bAbs_i, bInt_i, bInt_b, bMax_ii, bMin_ii, bDivmod_ii, seqK_n, seqK_tp, seqK_fl, bLen_tp, bLen_fl, bLen_n, bLen_s, bList_q, bTuple_q, optR_s, fIx_tp, fIx_fl, fIx_n, fIx_s, oNone_ap, asInt_i, oSome_ap, dSl_ap, fSl_tp, fSl_fl, fSl_n, fSl_s, atI_0, atI_1, atI_2, atI_3, wpR_comp, tYesB_ap, diV_ap, itV_tp, itV_fl, itV_n, itV_s, live_tp, live_fl, live_n, diR1_ap, diR2_ap, diE_ap, Kf_nx, Kf_rt, Kf_ex, Kin_nx, Kin_ct, Kin_bk, Kin_rt, Kin_ex, isTp, List.set_cons_succ, List.set_cons_zero, List.map_cons, List.map_nil, List.cons_append, List.nil_append, List.length_cons, List.length_nil, List.replicate_succ, List.replicate_zero, List.append_nil, Nat.reduceSub, Nat.reduceAdd, Nat.reduceMul, Int.reduceAdd, Int.reduceSub, Int.reduceMul, Int.reduceNeg, Int.reduceLT, Int.reduceLE, Nat.reduceLeDiff, Nat.reduceLT, decide_true, decide_false, Int.reduceToNat, Bool.not_true, Bool.not_false, and_true, true_and, and_self, true_or, or_true, List.set_nil, Int.reduceMod, Int.reduceDiv, Int.reducePow, Int.cast_ofNat_Int, Int.reduceEq, Int.reduceNe, Nat.reduceEqDiff, eq_self, false_and, and_false, Nat.zero_add, Int.zero_add, Int.add_zero, wipeE, fSetIx_ref, fIx_ref, bLen_ref, seqK_ref, itV_ref, live_ref, fSl_ref] | refine wNd_i (by omega) ?_))
    refine wpS_forL (fun xs ρ h' => (∀ x ∈ xs, ∃ s : Int, x = .int s ∧ 0 ≤ s) ∧ h' = h7 ∧ ∃ u v, ρ = [some (.ref b), some (.int t), some (.int w), some (.int l), some (.int s), some (.tup [.int m, .int g]), none, some (.int m), some (.int g), u, v]) _ _ _ ⟨fun x hx => ?_, rfl, _, _, rfl⟩ ?_ ?_
    · simp only [List.mem_cons, List.not_mem_nil, or_false] at hx
      rcases hx with rfl | rfl | rfl | rfl | rfl | rfl
      · exact ⟨_, rfl, m0⟩
      · exact ⟨_, rfl, by split <;> omega⟩
      · exact ⟨_, rfl, by split <;> omega⟩
      · exact ⟨_, rfl, s0⟩
      · exact ⟨_, rfl, c0⟩
      · exact ⟨_, rfl, by omega⟩
    · rintro x xs ρ h' ⟨hx, rfl, u, v, rfl⟩
      refine ⟨rfl, ?_⟩
      obtain ⟨y, rfl, y0⟩ := hx x (List.mem_cons_self ..)
      (repeat (first | simp only [wpR_run, wpS_nil, wpS_seq, wpS_ret, wpS_retN, wpS_expr, wpS_set, wpS_if, wpS_brk, wpS_cnt, wpS_aug, wpS_par, wpS_asg, wpS_tdN, wpS_tdSub, wpS_tdT, wpS_runT0, wpS_runT, wpS_for, onlyN_nx, run_nm, run_tp, setN_nil, setN_cons, asV_v, bindO_s, wgo_go, wIf_t, wIf_f, wNd_t, wpR_ok, wpR_ex, wpR_bind, bind_ok, wpR_ite, wpR_oR, wOpt_s, numP_v, numP_n, numK_v, numK_n, dVar_0, dVar_s, dC_ap, dOp_ap, dU_ap, dB_ap, aNil_ap, aCons_ap, vNil_ap, vCons_ap, dTup_ap, dLst_ap, asBool_v, dT_ap, brR_t, brR_f, wpR_br, dIf_ap, bAnd_ap, bOr_ap, bNot_ap, dAnd_ap, dOr_ap, dNot_ap, dCh_ap, dCall_ap, wpR_call0, wpR_call1, wpR_call2, wpR_call3, wpR_call4, wpR_call5, wpR_call6, fAdd_ii, fAdd_ss, fAddI_ii, fAddI_ss, fSub_ii, fMul_ii, fMod_ii, fFdiv_ii, fNeg_i, fLt_ii, fLe_ii, fGt_ii, fGe_ii, fEq_ii, fNe_ii, fEq_ss, fNe_ss, fEq_bb, fNe_bb, bAbs_i, bInt_i, bInt_b, bMax_ii, bMin_ii, bDivmod_ii, seqK_n, seqK_tp, seqK_fl, bLen_tp, bLen_fl, bLen_n, bLen_s, bList_q, bTuple_q, optR_s, fIx_tp, fIx_fl, fIx_n, fIx_s, oNone_ap, asInt_i, oSome_ap, dSl_ap, fSl_tp, fSl_fl, fSl_n, fSl_s, atI_0, atI_1, atI_2, atI_3, wpR_comp, tYesB_ap, diV_ap, itV_tp, itV_fl, itV_n, itV_s, live_tp, live_fl, live_n, diR1_ap, diR2_ap, diE_ap, Kf_nx, Kf_rt, Kf_ex, Kin_nx, Kin_ct, Kin_bk, Kin_rt, Kin_ex, isTp, List.set_cons_succ, List.set_cons_zero, List.map_cons, List.map_nil, List.cons_append, List.nil_append, List.length_cons, List.length_nil, List.replicate_succ, List.replicate_zero, List.append_nil, Nat.reduceSub, Nat.reduceAdd, Nat.reduceMul, Int.reduceAdd, Int.reduceSub, Int.reduceMul, Int.reduceNeg, Int.reduceLT, Int.reduceLE, Nat.reduceLeDiff, Nat.reduceLT, decide_true, decide_false, Int.reduceToNat, Bool.not_true, Bool.not_false, and_true, true_and, and_self, true_or, or_true, List.set_nil, Int.reduceMod, Int.reduceDiv, Int.reducePow, Int.cast_ofNat_Int, Int.reduceEq, Int.reduceNe, Nat.reduceEqDiff, eq_self, false_and, and_false, Nat.zero_add, Int.zero_add, Int.add_zero, wipeE, fSetIx_ref, fIx_ref, bLen_ref, seqK_ref, itV_ref, live_ref, fSl_ref] | refine wNd_i (by omega) ?_))
      refine made_ok t0 t1 w0 w1 ?_
      (repeat (first | simp only [wpR_run, wpS_nil, wpS_seq, wpS_ret, wpS_retN, wpS_expr, wpS_set, wpS_if, wpS_brk, wpS_cnt, wpS_aug, wpS_par, wpS_asg, wpS_tdN, wpS_tdSub, wpS_tdT, wpS_runT0, wpS_runT, wpS_for, onlyN_nx, run_nm, run_tp, setN_nil, setN_cons, asV_v, bindO_s, wgo_go, wIf_t, wIf_f, wNd_t, wpR_ok, wpR_ex, wpR_bind, bind_ok, wpR_ite, wpR_oR, wOpt_s, numP_v, numP_n, numK_v, numK_n, dVar_0, dVar_s, dC_ap, dOp_ap, dU_ap, dB_ap, aNil_ap, aCons_ap, vNil_ap, vCons_ap, dTup_ap, dLst_ap, asBool_v, dT_ap, brR_t, brR_f, wpR_br, dIf_ap, bAnd_ap, bOr_ap, bNot_ap, dAnd_ap, dOr_ap, dNot_ap, dCh_ap, dCall_ap, wpR_call0, wpR_call1, wpR_call2, wpR_call3, wpR_call4, wpR_call5, wpR_call6, fAdd_ii, fAdd_ss, fAddI_ii, fAddI_ss, fSub_ii, fMul_ii, fMod_ii, fFdiv_ii, fNeg_i, fLt_ii, fLe_ii, fGt_ii, fGe_ii, fEq_ii, fNe_ii, fEq_ss, fNe_ss, fEq_bb, fNe_bb, bAbs_i, bInt_i, bInt_b, bMax_ii, bMin_ii, bDivmod_ii, seqK_n, seqK_tp, seqK_fl, bLen_tp, bLen_fl, bLen_n, bLen_s, bList_q, bTuple_q, optR_s, fIx_tp, fIx_fl, fIx_n, fIx_s, oNone_ap, asInt_i, oSome_ap, dSl_ap, fSl_tp, fSl_fl, fSl_n, fSl_s, atI_0, atI_1, atI_2, atI_3, wpR_comp, tYesB_ap, diV_ap, itV_tp, itV_fl, itV_n, itV_s, live_tp, live_fl, live_n, diR1_ap, diR2_ap, diE_ap, Kf_nx, Kf_rt, Kf_ex, Kin_nx, Kin_ct, Kin_bk, Kin_rt, Kin_ex, isTp, List.set_cons_succ, List.set_cons_zero, List.map_cons, List.map_nil, List.cons_append, List.nil_append, List.length_cons, List.length_nil, List.replicate_succ, List.replicate_zero, List.append_nil, Nat.reduceSub, Nat.reduceAdd, Nat.reduceMul, Int.reduceAdd, Int.reduceSub, Int.reduceMul, Int.reduceNeg, Int.reduceLT, Int.reduceLE, Nat.reduceLeDiff, Nat.reduceLT, decide_true, decide_false, Int.reduceToNat, Bool.not_true, Bool.not_false, and_true, true_and, and_self, true_or, or_true, List.set_nil, Int.reduceMod, Int.reduceDiv, Int.reducePow, Int.cast_ofNat_Int, Int.reduceEq, Int.reduceNe, Nat.reduceEqDiff, eq_self, false_and, and_false, Nat.zero_add, Int.zero_add, Int.add_zero, wipeE, fSetIx_ref, fIx_ref, bLen_ref, seqK_ref, itV_ref, live_ref, fSl_ref] | refine wNd_i (by omega) ?_))
      refine whole_ok (gd_0 t0 w0 l0 y0) ?_
      (repeat (first | simp only [wpR_run, wpS_nil, wpS_seq, wpS_ret, wpS_retN, wpS_expr, wpS_set, wpS_if, wpS_brk, wpS_cnt, wpS_aug, wpS_par, wpS_asg, wpS_tdN, wpS_tdSub, wpS_tdT, wpS_runT0, wpS_runT, wpS_for, onlyN_nx, run_nm, run_tp, setN_nil, setN_cons, asV_v, bindO_s, wgo_go, wIf_t, wIf_f, wNd_t, wpR_ok, wpR_ex, wpR_bind, bind_ok, wpR_ite, wpR_oR, wOpt_s, numP_v, numP_n, numK_v, numK_n, dVar_0, dVar_s, dC_ap, dOp_ap, dU_ap, dB_ap, aNil_ap, aCons_ap, vNil_ap, vCons_ap, dTup_ap, dLst_ap, asBool_v, dT_ap, brR_t, brR_f, wpR_br, dIf_ap, bAnd_ap, bOr_ap, bNot_ap, dAnd_ap, dOr_ap, dNot_ap, dCh_ap, dCall_ap, wpR_call0, wpR_call1, wpR_call2, wpR_call3, wpR_call4, wpR_call5, wpR_call6, fAdd_ii, fAdd_ss, fAddI_ii, fAddI_ss, fSub_ii, fMul_ii, fMod_ii, fFdiv_ii, fNeg_i, fLt_ii, fLe_ii, fGt_ii, fGe_ii, fEq_ii, fNe_ii, fEq_ss, fNe_ss, fEq_bb, fNe_bb, bAbs_i, bInt_i, bInt_b, bMax_ii, bMin_ii, bDivmod_ii, seqK_n, seqK_tp, seqK_fl, bLen_tp, bLen_fl, bLen_n, bLen_s, bList_q, bTuple_q, optR_s, fIx_tp, fIx_fl, fIx_n, fIx_s, oNone_ap, asInt_i, oSome_ap, dSl_ap, fSl_tp, fSl_fl, fSl_n, fSl_s, atI_0, atI_1, atI_2, atI_3, wpR_comp, tYesB_ap, diV_ap, itV_tp, itV_fl, itV_n, itV_s, live_tp, live_fl, live_n, diR1_ap, diR2_ap, diE_ap, Kf_nx, Kf_rt, Kf_ex, Kin_nx, Kin_ct, Kin_bk, Kin_rt, Kin_ex, isTp, List.set_cons_succ, List.set_cons_zero, List.map_cons, List.map_nil, List.cons_append, List.nil_append, List.length_cons, List.length_nil, List.replicate_succ, List.replicate_zero, List.append_nil, Nat.reduceSub, Nat.reduceAdd, Nat.reduceMul, Int.reduceAdd, Int.reduceSub, Int.reduceMul, Int.reduceNeg, Int.reduceLT, Int.reduceLE, Nat.reduceLeDiff, Nat.reduceLT, decide_true, decide_false, Int.reduceToNat, Bool.not_true, Bool.not_false, and_true, true_and, and_self, true_or, or_true, List.set_nil, Int.reduceMod, Int.reduceDiv, Int.reducePow, Int.cast_ofNat_Int, Int.reduceEq, Int.reduceNe, Nat.reduceEqDiff, eq_self, false_and, and_false, Nat.zero_add, Int.zero_add, Int.add_zero, wipeE, fSetIx_ref, fIx_ref, bLen_ref, seqK_ref, itV_ref, live_ref, fSl_ref] | refine wNd_i (by omega) ?_))
      refine fits_ok t0 t1 w0 w1 gd_le (gd_top t0) (gd_more t0) ?_
      (repeat (first | simp only [wpR_run, wpS_nil, wpS_seq, wpS_ret, wpS_retN, wpS_expr, wpS_set, wpS_if, wpS_brk, wpS_cnt, wpS_aug, wpS_par, wpS_asg, wpS_tdN, wpS_tdSub, wpS_tdT, wpS_runT0, wpS_runT, wpS_for, onlyN_nx, run_nm, run_tp, setN_nil, setN_cons, asV_v, bindO_s, wgo_go, wIf_t, wIf_f, wNd_t, wpR_ok, wpR_ex, wpR_bind, bind_ok, wpR_ite, wpR_oR, wOpt_s, numP_v, numP_n, numK_v, numK_n, dVar_0, dVar_s, dC_ap, dOp_ap, dU_ap, dB_ap, aNil_ap, aCons_ap, vNil_ap, vCons_ap, dTup_ap, dLst_ap, asBool_v, dT_ap, brR_t, brR_f, wpR_br, dIf_ap, bAnd_ap, bOr_ap, bNot_ap, dAnd_ap, dOr_ap, dNot_ap, dCh_ap, dCall_ap, wpR_call0, wpR_call1, wpR_call2, wpR_call3, wpR_call4, wpR_call5, wpR_call6, fAdd_ii, fAdd_ss, fAddI_ii, fAddI_ss, fSub_ii, fMul_ii, fMod_ii, fFdiv_ii, fNeg_i, fLt_ii, fLe_ii, fGt_ii, fGe_ii, fEq_ii, fNe_ii, fEq_ss, fNe_ss, fEq_bb, fNe_bb, bAbs_i, bInt_i, bInt_b, bMax_ii, bMin_ii, bDivmod_ii, seqK_n, seqK_tp, seqK_fl, bLen_tp, bLen_fl, bLen_n, bLen_s, bList_q, bTuple_q, optR_s, fIx_tp, fIx_fl, fIx_n, fIx_s, oNone_ap, asInt_i, oSome_ap, dSl_ap, fSl_tp, fSl_fl, fSl_n, fSl_s, atI_0, atI_1, atI_2, atI_3, wpR_comp, tYesB_ap, diV_ap, itV_tp, itV_fl, itV_n, itV_s, live_tp, live_fl, live_n, diR1_ap, diR2_ap, diE_ap, Kf_nx, Kf_rt, Kf_ex, Kin_nx, Kin_ct, Kin_bk, Kin_rt, Kin_ex, isTp, List.set_cons_succ, List.set_cons_zero, List.map_cons, List.map_nil, List.cons_append, List.nil_append, List.length_cons, List.length_nil, List.replicate_succ, List.replicate_zero, List.append_nil, Nat.reduceSub, Nat.reduceAdd, Nat.reduceMul, Int.reduceAdd, Int.reduceSub, Int.reduceMul, Int.reduceNeg, Int.reduceLT, Int.reduceLE, Nat.reduceLeDiff, Nat.reduceLT, decide_true, decide_false, Int.reduceToNat, Bool.not_true, Bool.not_false, and_true, true_and, and_self, true_or, or_true, List.set_nil, Int.reduceMod, Int.reduceDiv, Int.reducePow, Int.cast_ofNat_Int, Int.reduceEq, Int.reduceNe, Nat.reduceEqDiff, eq_self, false_and, and_false, Nat.zero_add, Int.zero_add, Int.add_zero, wipeE, fSetIx_ref, fIx_ref, bLen_ref, seqK_ref, itV_ref, live_ref, fSl_ref] | refine wNd_i (by omega) ?_))
      exact ⟨fun x h => hx x (List.mem_cons_of_mem _ h), _, _, rfl⟩
    · rintro ρ h' ⟨_, rfl, u, v, rfl⟩
      refine ⟨rfl, ?_⟩
      (repeat (first | simp only [wpR_run, wpS_nil, wpS_seq, wpS_ret, wpS_retN, wpS_expr, wpS_set, wpS_if, wpS_brk, wpS_cnt, wpS_aug, wpS_par, wpS_asg, wpS_tdN, wpS_tdSub, wpS_tdT, wpS_runT0, wpS_runT, wpS_for, onlyN_nx, run_nm, run_tp, setN_nil, setN_cons, asV_v, bindO_s, wgo_go, wIf_t, wIf_f, wNd_t, wpR_ok, wpR_ex, wpR_bind, bind_ok, wpR_ite, wpR_oR, wOpt_s, numP_v, numP_n, numK_v, numK_n, dVar_0, dVar_s, dC_ap, dOp_ap, dU_ap, dB_ap, aNil_ap, aCons_ap, vNil_ap, vCons_ap, dTup_ap, dLst_ap, asBool_v, dT_ap, brR_t, brR_f, wpR_br, dIf_ap, bAnd_ap, bOr_ap, bNot_ap, dAnd_ap, dOr_ap, dNot_ap, dCh_ap, dCall_ap, wpR_call0, wpR_call1, wpR_call2, wpR_call3, wpR_call4, wpR_call5, wpR_call6, fAdd_ii, fAdd_ss, fAddI_ii, fAddI_ss, fSub_ii, fMul_ii, fMod_ii, fFdiv_ii, fNeg_i, fLt_ii, fLe_ii, fGt_ii, fGe_ii, fEq_ii, fNe_ii, fEq_ss, fNe_ss, fEq_bb, fNe_bb, bAbs_i, bInt_i, bInt_b, bMax_ii, bMin_ii, bDivmod_ii, seqK_n, seqK_tp, seqK_fl, bLen_tp, bLen_fl, bLen_n, bLen_s, bList_q, bTuple_q, optR_s, fIx_tp, fIx_fl, fIx_n, fIx_s, oNone_ap, asInt_i, oSome_ap, dSl_ap, fSl_tp, fSl_fl, fSl_n, fSl_s, atI_0, atI_1, atI_2, atI_3, wpR_comp, tYesB_ap, diV_ap, itV_tp, itV_fl, itV_n, itV_s, live_tp, live_fl, live_n, diR1_ap, diR2_ap, diE_ap, Kf_nx, Kf_rt, Kf_ex, Kin_nx, Kin_ct, Kin_bk, Kin_rt, Kin_ex, isTp, List.set_cons_succ, List.set_cons_zero, List.map_cons, List.map_nil, List.cons_append, List.nil_append, List.length_cons, List.length_nil, List.replicate_succ, List.replicate_zero, List.append_nil, Nat.reduceSub, Nat.reduceAdd, Nat.reduceMul, Int.reduceAdd, Int.reduceSub, Int.reduceMul, Int.reduceNeg, Int.reduceLT, Int.reduceLE, Nat.reduceLeDiff, Nat.reduceLT, decide_true, decide_false, Int.reduceToNat, Bool.not_true, Bool.not_false, and_true, true_and, and_self, true_or, or_true, List.set_nil, Int.reduceMod, Int.reduceDiv, Int.reducePow, Int.cast_ofNat_Int, Int.reduceEq, Int.reduceNe, Nat.reduceEqDiff, eq_self, false_and, and_false, Nat.zero_add, Int.zero_add, Int.add_zero, wipeE, fSetIx_ref, fIx_ref, bLen_ref, seqK_ref, itV_ref, live_ref, fSl_ref] | refine wNd_i (by omega) ?_))
      refine made_ok t0 t1 w0 w1 ?_
      rw [m4]
      (repeat (first | simp only [wpR_run, wpS_nil, wpS_seq, wpS_ret, wpS_retN, wpS_expr, wpS_set, wpS_if, wpS_brk, wpS_cnt, wpS_aug, wpS_par, wpS_asg, wpS_tdN, wpS_tdSub, wpS_tdT, wpS_runT0, wpS_runT, wpS_for, onlyN_nx, run_nm, run_tp, setN_nil, setN_cons, asV_v, bindO_s, wgo_go, wIf_t, wIf_f, wNd_t, wpR_ok, wpR_ex, wpR_bind, bind_ok, wpR_ite, wpR_oR, wOpt_s, numP_v, numP_n, numK_v, numK_n, dVar_0, dVar_s, dC_ap, dOp_ap, dU_ap, dB_ap, aNil_ap, aCons_ap, vNil_ap, vCons_ap, dTup_ap, dLst_ap, asBool_v, dT_ap, brR_t, brR_f, wpR_br, dIf_ap, bAnd_ap, bOr_ap, bNot_ap, dAnd_ap, dOr_ap, dNot_ap, dCh_ap, dCall_ap, wpR_call0, wpR_call1, wpR_call2, wpR_call3, wpR_call4, wpR_call5, wpR_call6, fAdd_ii, fAdd_ss, fAddI_ii, fAddI_ss, fSub_ii, fMul_ii, fMod_ii, fFdiv_ii, fNeg_i, fLt_ii, fLe_ii, fGt_ii, fGe_ii, fEq_ii, fNe_ii, fEq_ss, fNe_ss, fEq_bb, fNe_bb, bAbs_i, bInt_i, bInt_b, bMax_ii, bMin_ii, bDivmod_ii, seqK_n, seqK_tp, seqK_fl, bLen_tp, bLen_fl, bLen_n, bLen_s, bList_q, bTuple_q, optR_s, fIx_tp, fIx_fl, fIx_n, fIx_s, oNone_ap, asInt_i, oSome_ap, dSl_ap, fSl_tp, fSl_fl, fSl_n, fSl_s, atI_0, atI_1, atI_2, atI_3, wpR_comp, tYesB_ap, diV_ap, itV_tp, itV_fl, itV_n, itV_s, live_tp, live_fl, live_n, diR1_ap, diR2_ap, diE_ap, Kf_nx, Kf_rt, Kf_ex, Kin_nx, Kin_ct, Kin_bk, Kin_rt, Kin_ex, isTp, List.set_cons_succ, List.set_cons_zero, List.map_cons, List.map_nil, List.cons_append, List.nil_append, List.length_cons, List.length_nil, List.replicate_succ, List.replicate_zero, List.append_nil, Nat.reduceSub, Nat.reduceAdd, Nat.reduceMul, Int.reduceAdd, Int.reduceSub, Int.reduceMul, Int.reduceNeg, Int.reduceLT, Int.reduceLE, Nat.reduceLeDiff, Nat.reduceLT, decide_true, decide_false, Int.reduceToNat, Bool.not_true, Bool.not_false, and_true, true_and, and_self, true_or, or_true, List.set_nil, Int.reduceMod, Int.reduceDiv, Int.reducePow, Int.cast_ofNat_Int, Int.reduceEq, Int.reduceNe, Nat.reduceEqDiff, eq_self, false_and, and_false, Nat.zero_add, Int.zero_add, Int.add_zero, wipeE, fSetIx_ref, fIx_ref, bLen_ref, seqK_ref, itV_ref, live_ref, fSl_ref] | refine wNd_i (by omega) ?_))
      refine stand_ok t0 t1 w0 w1 ?_
      rw [gd_z l0]
      have e0 : (0 * t + w - 1) / w = 0 := Int.ediv_eq_zero_of_lt (by omega) (by omega)
      rw [e0]
      have eqz : ∀ h, fEq (.v (.tup [.int 0, .int 0])) (.v (.tup [.int 0, .int 0])) h = .ok (.v (.bl true)) h := fun h => rfl
      (repeat (first | simp only [wpR_run, wpS_nil, wpS_seq, wpS_ret, wpS_retN, wpS_expr, wpS_set, wpS_if, wpS_brk, wpS_cnt, wpS_aug, wpS_par, wpS_asg, wpS_tdN, wpS_tdSub, wpS_tdT, wpS_runT0, wpS_runT, wpS_for, onlyN_nx, run_nm, run_tp, setN_nil, setN_cons, asV_v, bindO_s, wgo_go, wIf_t, wIf_f, wNd_t, wpR_ok, wpR_ex, wpR_bind, bind_ok, wpR_ite, wpR_oR, wOpt_s, numP_v, numP_n, numK_v, numK_n, dVar_0, dVar_s, dC_ap, dOp_ap, dU_ap, dB_ap, aNil_ap, aCons_ap, vNil_ap, vCons_ap, dTup_ap, dLst_ap, asBool_v, dT_ap, brR_t, brR_f, wpR_br, dIf_ap, bAnd_ap, bOr_ap, bNot_ap, dAnd_ap, dOr_ap, dNot_ap, dCh_ap, dCall_ap, wpR_call0, wpR_call1, wpR_call2, wpR_call3, wpR_call4, wpR_call5, wpR_call6, fAdd_ii, fAdd_ss, fAddI_ii, fAddI_ss, fSub_ii, fMul_ii, fMod_ii, fFdiv_ii, fNeg_i, fLt_ii, fLe_ii, fGt_ii, fGe_ii, fEq_ii, fNe_ii, fEq_ss, fNe_ss, fEq_bb, fNe_bb, bAbs_i, bInt_i, bInt_b, bMax_ii, bMin_ii, bDivmod_ii, seqK_n, seqK_tp, seqK_fl, bLen_tp, bLen_fl, bLen_n, bLen_s, bList_q, bTuple_q, optR_s, fIx_tp, fIx_fl, fIx_n, fIx_s, oNone_ap, asInt_i, oSome_ap, dSl_ap, fSl_tp, fSl_fl, fSl_n, fSl_s, atI_0, atI_1, atI_2, atI_3, wpR_comp, tYesB_ap, diV_ap, itV_tp, itV_fl, itV_n, itV_s, live_tp, live_fl, live_n, diR1_ap, diR2_ap, diE_ap, Kf_nx, Kf_rt, Kf_ex, Kin_nx, Kin_ct, Kin_bk, Kin_rt, Kin_ex, isTp, List.set_cons_succ, List.set_cons_zero, List.map_cons, List.map_nil, List.cons_append, List.nil_append, List.length_cons, List.length_nil, List.replicate_succ, List.replicate_zero, List.append_nil, Nat.reduceSub, Nat.reduceAdd, Nat.reduceMul, Int.reduceAdd, Int.reduceSub, Int.reduceMul, Int.reduceNeg, Int.reduceLT, Int.reduceLE, Nat.reduceLeDiff, Nat.reduceLT, decide_true, decide_false, Int.reduceToNat, Bool.not_true, Bool.not_false, and_true, true_and, and_self, true_or, or_true, List.set_nil, Int.reduceMod, Int.reduceDiv, Int.reducePow, Int.cast_ofNat_Int, Int.reduceEq, Int.reduceNe, Nat.reduceEqDiff, eq_self, false_and, and_false, Nat.zero_add, Int.zero_add, Int.add_zero, wipeE, fSetIx_ref, fIx_ref, bLen_ref, seqK_ref, itV_ref, live_ref, fSl_ref, eqz] | refine wNd_i (by omega) ?_))
      exact ⟨B7.mono (by omega), F6.tr F7⟩
theorem law_true (ns : List Int) (hl : ns.length ≤ 63) : ∃ h', f_law [.fl (ns.map Val.int)] [] = .ok (.bl true) h' := by
  apply law_of
  unfold f_law b_law
  (repeat (first | simp only [wpR_run, wpS_nil, wpS_seq, wpS_ret, wpS_retN, wpS_expr, wpS_set, wpS_if, wpS_brk, wpS_cnt, wpS_aug, wpS_par, wpS_asg, wpS_tdN, wpS_tdSub, wpS_tdT, wpS_runT0, wpS_runT, wpS_for, onlyN_nx, run_nm, run_tp, setN_nil, setN_cons, asV_v, bindO_s, wgo_go, wIf_t, wIf_f, wNd_t, wpR_ok, wpR_ex, wpR_bind, bind_ok, wpR_ite, wpR_oR, wOpt_s, numP_v, numP_n, numK_v, numK_n, dVar_0, dVar_s, dC_ap, dOp_ap, dU_ap, dB_ap, aNil_ap, aCons_ap, vNil_ap, vCons_ap, dTup_ap, dLst_ap, asBool_v, dT_ap, brR_t, brR_f, wpR_br, dIf_ap, bAnd_ap, bOr_ap, bNot_ap, dAnd_ap, dOr_ap, dNot_ap, dCh_ap, dCall_ap, wpR_call0, wpR_call1, wpR_call2, wpR_call3, wpR_call4, wpR_call5, wpR_call6, fAdd_ii, fAdd_ss, fAddI_ii, fAddI_ss, fSub_ii, fMul_ii, fMod_ii, fFdiv_ii, fNeg_i, fLt_ii, fLe_ii, fGt_ii, fGe_ii, fEq_ii, fNe_ii, fEq_ss, fNe_ss, fEq_bb, fNe_bb, bAbs_i, bInt_i, bInt_b, bMax_ii, bMin_ii, bDivmod_ii, seqK_n, seqK_tp, seqK_fl, bLen_tp, bLen_fl, bLen_n, bLen_s, bList_q, bTuple_q, optR_s, fIx_tp, fIx_fl, fIx_n, fIx_s, oNone_ap, asInt_i, oSome_ap, dSl_ap, fSl_tp, fSl_fl, fSl_n, fSl_s, atI_0, atI_1, atI_2, atI_3, wpR_comp, tYesB_ap, diV_ap, itV_tp, itV_fl, itV_n, itV_s, live_tp, live_fl, live_n, diR1_ap, diR2_ap, diE_ap, Kf_nx, Kf_rt, Kf_ex, Kin_nx, Kin_ct, Kin_bk, Kin_rt, Kin_ex, isTp, List.set_cons_succ, List.set_cons_zero, List.map_cons, List.map_nil, List.cons_append, List.nil_append, List.length_cons, List.length_nil, List.replicate_succ, List.replicate_zero, List.append_nil, Nat.reduceSub, Nat.reduceAdd, Nat.reduceMul, Int.reduceAdd, Int.reduceSub, Int.reduceMul, Int.reduceNeg, Int.reduceLT, Int.reduceLE, Nat.reduceLeDiff, Nat.reduceLT, decide_true, decide_false, Int.reduceToNat, Bool.not_true, Bool.not_false, and_true, true_and, and_self, true_or, or_true, List.set_nil, Int.reduceMod, Int.reduceDiv, Int.reducePow, Int.cast_ofNat_Int, Int.reduceEq, Int.reduceNe, Nat.reduceEqDiff, eq_self, false_and, and_false, Nat.zero_add, Int.zero_add, Int.add_zero, wipeE, fSetIx_ref, fIx_ref, bLen_ref, seqK_ref, itV_ref, live_ref, fSl_ref] | refine wNd_i (by omega) ?_))
  refine folded_ok (k := 12) hl (by omega) (by omega) fun cs cl => ?_
  have e : ([Ob.lst (cs.map Val.int)] : MH)[0]? = some (.lst (cs.map Val.int)) := rfl
  (repeat (first | simp only [wpR_run, wpS_nil, wpS_seq, wpS_ret, wpS_retN, wpS_expr, wpS_set, wpS_if, wpS_brk, wpS_cnt, wpS_aug, wpS_par, wpS_asg, wpS_tdN, wpS_tdSub, wpS_tdT, wpS_runT0, wpS_runT, wpS_for, onlyN_nx, run_nm, run_tp, setN_nil, setN_cons, asV_v, bindO_s, wgo_go, wIf_t, wIf_f, wNd_t, wpR_ok, wpR_ex, wpR_bind, bind_ok, wpR_ite, wpR_oR, wOpt_s, numP_v, numP_n, numK_v, numK_n, dVar_0, dVar_s, dC_ap, dOp_ap, dU_ap, dB_ap, aNil_ap, aCons_ap, vNil_ap, vCons_ap, dTup_ap, dLst_ap, asBool_v, dT_ap, brR_t, brR_f, wpR_br, dIf_ap, bAnd_ap, bOr_ap, bNot_ap, dAnd_ap, dOr_ap, dNot_ap, dCh_ap, dCall_ap, wpR_call0, wpR_call1, wpR_call2, wpR_call3, wpR_call4, wpR_call5, wpR_call6, fAdd_ii, fAdd_ss, fAddI_ii, fAddI_ss, fSub_ii, fMul_ii, fMod_ii, fFdiv_ii, fNeg_i, fLt_ii, fLe_ii, fGt_ii, fGe_ii, fEq_ii, fNe_ii, fEq_ss, fNe_ss, fEq_bb, fNe_bb, bAbs_i, bInt_i, bInt_b, bMax_ii, bMin_ii, bDivmod_ii, seqK_n, seqK_tp, seqK_fl, bLen_tp, bLen_fl, bLen_n, bLen_s, bList_q, bTuple_q, optR_s, fIx_tp, fIx_fl, fIx_n, fIx_s, oNone_ap, asInt_i, oSome_ap, dSl_ap, fSl_tp, fSl_fl, fSl_n, fSl_s, atI_0, atI_1, atI_2, atI_3, wpR_comp, tYesB_ap, diV_ap, itV_tp, itV_fl, itV_n, itV_s, live_tp, live_fl, live_n, diR1_ap, diR2_ap, diE_ap, Kf_nx, Kf_rt, Kf_ex, Kin_nx, Kin_ct, Kin_bk, Kin_rt, Kin_ex, isTp, List.set_cons_succ, List.set_cons_zero, List.map_cons, List.map_nil, List.cons_append, List.nil_append, List.length_cons, List.length_nil, List.replicate_succ, List.replicate_zero, List.append_nil, Nat.reduceSub, Nat.reduceAdd, Nat.reduceMul, Int.reduceAdd, Int.reduceSub, Int.reduceMul, Int.reduceNeg, Int.reduceLT, Int.reduceLE, Nat.reduceLeDiff, Nat.reduceLT, decide_true, decide_false, Int.reduceToNat, Bool.not_true, Bool.not_false, and_true, true_and, and_self, true_or, or_true, List.set_nil, Int.reduceMod, Int.reduceDiv, Int.reducePow, Int.cast_ofNat_Int, Int.reduceEq, Int.reduceNe, Nat.reduceEqDiff, eq_self, false_and, and_false, Nat.zero_add, Int.zero_add, Int.add_zero, wipeE, fSetIx_ref, fIx_ref, bLen_ref, seqK_ref, itV_ref, live_ref, fSl_ref, bLen_ref e] | refine wNd_i (by omega) ?_))
  have hm : (if (↑(List.map Val.int cs).length : Int) > 1 then (↑(List.map Val.int cs).length : Int) else 1) ≤ 63 := by simp; split <;> omega
  have hm0 : 0 ≤ (if (↑(List.map Val.int cs).length : Int) > 1 then (↑(List.map Val.int cs).length : Int) else 1) := by simp; split <;> omega
  generalize (if (↑(List.map Val.int cs).length : Int) > 1 then (↑(List.map Val.int cs).length : Int) else 1) = m at hm hm0
  refine wNd_i (by omega) ?_
  simp only [wpR_run, wpS_nil, wpS_seq, wpS_ret, wpS_retN, wpS_expr, wpS_set, wpS_if, wpS_brk, wpS_cnt, wpS_aug, wpS_par, wpS_asg, wpS_tdN, wpS_tdSub, wpS_tdT, wpS_runT0, wpS_runT, wpS_for, onlyN_nx, run_nm, run_tp, setN_nil, setN_cons, asV_v, bindO_s, wgo_go, wIf_t, wIf_f, wNd_t, wpR_ok, wpR_ex, wpR_bind, bind_ok, wpR_ite, wpR_oR, wOpt_s, numP_v, numP_n, numK_v, numK_n, dVar_0, dVar_s, dC_ap, dOp_ap, dU_ap, dB_ap, aNil_ap, aCons_ap, vNil_ap, vCons_ap, dTup_ap, dLst_ap, asBool_v, dT_ap, brR_t, brR_f, wpR_br, dIf_ap, bAnd_ap, bOr_ap, bNot_ap, dAnd_ap, dOr_ap, dNot_ap, dCh_ap, dCall_ap, wpR_call0, wpR_call1, wpR_call2, wpR_call3, wpR_call4, wpR_call5, wpR_call6, fAdd_ii, fAdd_ss, fAddI_ii, fAddI_ss, fSub_ii, fMul_ii, fMod_ii, fFdiv_ii, fNeg_i, fLt_ii, fLe_ii, fGt_ii, fGe_ii, fEq_ii, fNe_ii, fEq_ss, fNe_ss, fEq_bb, fNe_bb, bAbs_i, bInt_i, bInt_b, bMax_ii, bMin_ii, bDivmod_ii, seqK_n, seqK_tp, seqK_fl, bLen_tp, bLen_fl, bLen_n, bLen_s, bList_q, bTuple_q, optR_s, fIx_tp, fIx_fl, fIx_n, fIx_s, oNone_ap, asInt_i, oSome_ap, dSl_ap, fSl_tp, fSl_fl, fSl_n, fSl_s, atI_0, atI_1, atI_2, atI_3, wpR_comp, tYesB_ap, diV_ap, itV_tp, itV_fl, itV_n, itV_s, live_tp, live_fl, live_n, diR1_ap, diR2_ap, diE_ap, Kf_nx, Kf_rt, Kf_ex, Kin_nx, Kin_ct, Kin_bk, Kin_rt, Kin_ex, isTp, List.set_cons_succ, List.set_cons_zero, List.map_cons, List.map_nil, List.cons_append, List.nil_append, List.length_cons, List.length_nil, List.replicate_succ, List.replicate_zero, List.append_nil, Nat.reduceSub, Nat.reduceAdd, Nat.reduceMul, Int.reduceAdd, Int.reduceSub, Int.reduceMul, Int.reduceNeg, Int.reduceLT, Int.reduceLE, Nat.reduceLeDiff, Nat.reduceLT, decide_true, decide_false, Int.reduceToNat, Bool.not_true, Bool.not_false, and_true, true_and, and_self, true_or, or_true, List.set_nil, Int.reduceMod, Int.reduceDiv, Int.reducePow, Int.cast_ofNat_Int, Int.reduceEq, Int.reduceNe, Nat.reduceEqDiff, eq_self, false_and, and_false, Nat.zero_add, Int.zero_add, Int.add_zero, wipeE, fSetIx_ref, fIx_ref, bLen_ref, seqK_ref, itV_ref, live_ref, fSl_ref]
  refine wpS_forL (fun xs ρ h' => (∀ x ∈ xs, ∃ s : Int, x = .int s ∧ 0 ≤ s) ∧ h'[0]? = some (.lst (cs.map Val.int)) ∧ ∃ u v w, ρ = [some (.fl (ns.map Val.int)), some (.ref 0), u, v, w]) _ _ _ ⟨fun x hx => ?_, e, _, _, _, rfl⟩ ?_ ?_
  · obtain ⟨i, rfl, a, b⟩ := rngF_mem _ _ _ hx
    exact ⟨i, rfl, a⟩
  · rintro x xs ρ h ⟨hx, e, u, v, w, rfl⟩
    refine ⟨rfl, ?_⟩
    obtain ⟨i, rfl, i0⟩ := hx x (List.mem_cons_self ..)
    (repeat (first | simp only [wpR_run, wpS_nil, wpS_seq, wpS_ret, wpS_retN, wpS_expr, wpS_set, wpS_if, wpS_brk, wpS_cnt, wpS_aug, wpS_par, wpS_asg, wpS_tdN, wpS_tdSub, wpS_tdT, wpS_runT0, wpS_runT, wpS_for, onlyN_nx, run_nm, run_tp, setN_nil, setN_cons, asV_v, bindO_s, wgo_go, wIf_t, wIf_f, wNd_t, wpR_ok, wpR_ex, wpR_bind, bind_ok, wpR_ite, wpR_oR, wOpt_s, numP_v, numP_n, numK_v, numK_n, dVar_0, dVar_s, dC_ap, dOp_ap, dU_ap, dB_ap, aNil_ap, aCons_ap, vNil_ap, vCons_ap, dTup_ap, dLst_ap, asBool_v, dT_ap, brR_t, brR_f, wpR_br, dIf_ap, bAnd_ap, bOr_ap, bNot_ap, dAnd_ap, dOr_ap, dNot_ap, dCh_ap, dCall_ap, wpR_call0, wpR_call1, wpR_call2, wpR_call3, wpR_call4, wpR_call5, wpR_call6, fAdd_ii, fAdd_ss, fAddI_ii, fAddI_ss, fSub_ii, fMul_ii, fMod_ii, fFdiv_ii, fNeg_i, fLt_ii, fLe_ii, fGt_ii, fGe_ii, fEq_ii, fNe_ii, fEq_ss, fNe_ss, fEq_bb, fNe_bb, bAbs_i, bInt_i, bInt_b, bMax_ii, bMin_ii, bDivmod_ii, seqK_n, seqK_tp, seqK_fl, bLen_tp, bLen_fl, bLen_n, bLen_s, bList_q, bTuple_q, optR_s, fIx_tp, fIx_fl, fIx_n, fIx_s, oNone_ap, asInt_i, oSome_ap, dSl_ap, fSl_tp, fSl_fl, fSl_n, fSl_s, atI_0, atI_1, atI_2, atI_3, wpR_comp, tYesB_ap, diV_ap, itV_tp, itV_fl, itV_n, itV_s, live_tp, live_fl, live_n, diR1_ap, diR2_ap, diE_ap, Kf_nx, Kf_rt, Kf_ex, Kin_nx, Kin_ct, Kin_bk, Kin_rt, Kin_ex, isTp, List.set_cons_succ, List.set_cons_zero, List.map_cons, List.map_nil, List.cons_append, List.nil_append, List.length_cons, List.length_nil, List.replicate_succ, List.replicate_zero, List.append_nil, Nat.reduceSub, Nat.reduceAdd, Nat.reduceMul, Int.reduceAdd, Int.reduceSub, Int.reduceMul, Int.reduceNeg, Int.reduceLT, Int.reduceLE, Nat.reduceLeDiff, Nat.reduceLT, decide_true, decide_false, Int.reduceToNat, Bool.not_true, Bool.not_false, and_true, true_and, and_self, true_or, or_true, List.set_nil, Int.reduceMod, Int.reduceDiv, Int.reducePow, Int.cast_ofNat_Int, Int.reduceEq, Int.reduceNe, Nat.reduceEqDiff, eq_self, false_and, and_false, Nat.zero_add, Int.zero_add, Int.add_zero, wipeE, fSetIx_ref, fIx_ref, bLen_ref, seqK_ref, itV_ref, live_ref, fSl_ref] | refine wNd_i (by omega) ?_))
    refine box_ok e i0 fun o B => ?_
    (repeat (first | simp only [wpR_run, wpS_nil, wpS_seq, wpS_ret, wpS_retN, wpS_expr, wpS_set, wpS_if, wpS_brk, wpS_cnt, wpS_aug, wpS_par, wpS_asg, wpS_tdN, wpS_tdSub, wpS_tdT, wpS_runT0, wpS_runT, wpS_for, onlyN_nx, run_nm, run_tp, setN_nil, setN_cons, asV_v, bindO_s, wgo_go, wIf_t, wIf_f, wNd_t, wpR_ok, wpR_ex, wpR_bind, bind_ok, wpR_ite, wpR_oR, wOpt_s, numP_v, numP_n, numK_v, numK_n, dVar_0, dVar_s, dC_ap, dOp_ap, dU_ap, dB_ap, aNil_ap, aCons_ap, vNil_ap, vCons_ap, dTup_ap, dLst_ap, asBool_v, dT_ap, brR_t, brR_f, wpR_br, dIf_ap, bAnd_ap, bOr_ap, bNot_ap, dAnd_ap, dOr_ap, dNot_ap, dCh_ap, dCall_ap, wpR_call0, wpR_call1, wpR_call2, wpR_call3, wpR_call4, wpR_call5, wpR_call6, fAdd_ii, fAdd_ss, fAddI_ii, fAddI_ss, fSub_ii, fMul_ii, fMod_ii, fFdiv_ii, fNeg_i, fLt_ii, fLe_ii, fGt_ii, fGe_ii, fEq_ii, fNe_ii, fEq_ss, fNe_ss, fEq_bb, fNe_bb, bAbs_i, bInt_i, bInt_b, bMax_ii, bMin_ii, bDivmod_ii, seqK_n, seqK_tp, seqK_fl, bLen_tp, bLen_fl, bLen_n, bLen_s, bList_q, bTuple_q, optR_s, fIx_tp, fIx_fl, fIx_n, fIx_s, oNone_ap, asInt_i, oSome_ap, dSl_ap, fSl_tp, fSl_fl, fSl_n, fSl_s, atI_0, atI_1, atI_2, atI_3, wpR_comp, tYesB_ap, diV_ap, itV_tp, itV_fl, itV_n, itV_s, live_tp, live_fl, live_n, diR1_ap, diR2_ap, diE_ap, Kf_nx, Kf_rt, Kf_ex, Kin_nx, Kin_ct, Kin_bk, Kin_rt, Kin_ex, isTp, List.set_cons_succ, List.set_cons_zero, List.map_cons, List.map_nil, List.cons_append, List.nil_append, List.length_cons, List.length_nil, List.replicate_succ, List.replicate_zero, List.append_nil, Nat.reduceSub, Nat.reduceAdd, Nat.reduceMul, Int.reduceAdd, Int.reduceSub, Int.reduceMul, Int.reduceNeg, Int.reduceLT, Int.reduceLE, Nat.reduceLeDiff, Nat.reduceLT, decide_true, decide_false, Int.reduceToNat, Bool.not_true, Bool.not_false, and_true, true_and, and_self, true_or, or_true, List.set_nil, Int.reduceMod, Int.reduceDiv, Int.reducePow, Int.cast_ofNat_Int, Int.reduceEq, Int.reduceNe, Nat.reduceEqDiff, eq_self, false_and, and_false, Nat.zero_add, Int.zero_add, Int.add_zero, wipeE, fSetIx_ref, fIx_ref, bLen_ref, seqK_ref, itV_ref, live_ref, fSl_ref, show rngF 0 6 = [.int 0, .int 1, .int 2, .int 3, .int 4, .int 5] from rfl] | refine wNd_i (by omega) ?_))
    refine wpR_compL _ (fun xs don h' => Bx h' h.length (20 * don.length) ∧ xs.length + don.length = 6 ∧ Frm h.length (h ++ [o]) h' ∧ ∀ y ∈ don, y = .bl true) _ _ [] _ ⟨B, rfl, Frm.refl, by simp⟩ ?_ (fun _ _ _ => rfl) ?_
    · rintro x xs don h' ⟨B, len, F, d⟩
      refine ⟨rfl, ?_⟩
      simp only [List.length_cons] at len
      (repeat (first | simp only [wpR_run, wpS_nil, wpS_seq, wpS_ret, wpS_retN, wpS_expr, wpS_set, wpS_if, wpS_brk, wpS_cnt, wpS_aug, wpS_par, wpS_asg, wpS_tdN, wpS_tdSub, wpS_tdT, wpS_runT0, wpS_runT, wpS_for, onlyN_nx, run_nm, run_tp, setN_nil, setN_cons, asV_v, bindO_s, wgo_go, wIf_t, wIf_f, wNd_t, wpR_ok, wpR_ex, wpR_bind, bind_ok, wpR_ite, wpR_oR, wOpt_s, numP_v, numP_n, numK_v, numK_n, dVar_0, dVar_s, dC_ap, dOp_ap, dU_ap, dB_ap, aNil_ap, aCons_ap, vNil_ap, vCons_ap, dTup_ap, dLst_ap, asBool_v, dT_ap, brR_t, brR_f, wpR_br, dIf_ap, bAnd_ap, bOr_ap, bNot_ap, dAnd_ap, dOr_ap, dNot_ap, dCh_ap, dCall_ap, wpR_call0, wpR_call1, wpR_call2, wpR_call3, wpR_call4, wpR_call5, wpR_call6, fAdd_ii, fAdd_ss, fAddI_ii, fAddI_ss, fSub_ii, fMul_ii, fMod_ii, fFdiv_ii, fNeg_i, fLt_ii, fLe_ii, fGt_ii, fGe_ii, fEq_ii, fNe_ii, fEq_ss, fNe_ss, fEq_bb, fNe_bb, bAbs_i, bInt_i, bInt_b, bMax_ii, bMin_ii, bDivmod_ii, seqK_n, seqK_tp, seqK_fl, bLen_tp, bLen_fl, bLen_n, bLen_s, bList_q, bTuple_q, optR_s, fIx_tp, fIx_fl, fIx_n, fIx_s, oNone_ap, asInt_i, oSome_ap, dSl_ap, fSl_tp, fSl_fl, fSl_n, fSl_s, atI_0, atI_1, atI_2, atI_3, wpR_comp, tYesB_ap, diV_ap, itV_tp, itV_fl, itV_n, itV_s, live_tp, live_fl, live_n, diR1_ap, diR2_ap, diE_ap, Kf_nx, Kf_rt, Kf_ex, Kin_nx, Kin_ct, Kin_bk, Kin_rt, Kin_ex, isTp, List.set_cons_succ, List.set_cons_zero, List.map_cons, List.map_nil, List.cons_append, List.nil_append, List.length_cons, List.length_nil, List.replicate_succ, List.replicate_zero, List.append_nil, Nat.reduceSub, Nat.reduceAdd, Nat.reduceMul, Int.reduceAdd, Int.reduceSub, Int.reduceMul, Int.reduceNeg, Int.reduceLT, Int.reduceLE, Nat.reduceLeDiff, Nat.reduceLT, decide_true, decide_false, Int.reduceToNat, Bool.not_true, Bool.not_false, and_true, true_and, and_self, true_or, or_true, List.set_nil, Int.reduceMod, Int.reduceDiv, Int.reducePow, Int.cast_ofNat_Int, Int.reduceEq, Int.reduceNe, Nat.reduceEqDiff, eq_self, false_and, and_false, Nat.zero_add, Int.zero_add, Int.add_zero, wipeE, fSetIx_ref, fIx_ref, bLen_ref, seqK_ref, itV_ref, live_ref, fSl_ref] | refine wNd_i (by omega) ?_))
      refine wpR_to (right_ok B (by omega)) fun x h2 hx' => ?_
      obtain ⟨rfl, B2, F2⟩ := hx'
      (repeat (first | simp only [wpR_run, wpS_nil, wpS_seq, wpS_ret, wpS_retN, wpS_expr, wpS_set, wpS_if, wpS_brk, wpS_cnt, wpS_aug, wpS_par, wpS_asg, wpS_tdN, wpS_tdSub, wpS_tdT, wpS_runT0, wpS_runT, wpS_for, onlyN_nx, run_nm, run_tp, setN_nil, setN_cons, asV_v, bindO_s, wgo_go, wIf_t, wIf_f, wNd_t, wpR_ok, wpR_ex, wpR_bind, bind_ok, wpR_ite, wpR_oR, wOpt_s, numP_v, numP_n, numK_v, numK_n, dVar_0, dVar_s, dC_ap, dOp_ap, dU_ap, dB_ap, aNil_ap, aCons_ap, vNil_ap, vCons_ap, dTup_ap, dLst_ap, asBool_v, dT_ap, brR_t, brR_f, wpR_br, dIf_ap, bAnd_ap, bOr_ap, bNot_ap, dAnd_ap, dOr_ap, dNot_ap, dCh_ap, dCall_ap, wpR_call0, wpR_call1, wpR_call2, wpR_call3, wpR_call4, wpR_call5, wpR_call6, fAdd_ii, fAdd_ss, fAddI_ii, fAddI_ss, fSub_ii, fMul_ii, fMod_ii, fFdiv_ii, fNeg_i, fLt_ii, fLe_ii, fGt_ii, fGe_ii, fEq_ii, fNe_ii, fEq_ss, fNe_ss, fEq_bb, fNe_bb, bAbs_i, bInt_i, bInt_b, bMax_ii, bMin_ii, bDivmod_ii, seqK_n, seqK_tp, seqK_fl, bLen_tp, bLen_fl, bLen_n, bLen_s, bList_q, bTuple_q, optR_s, fIx_tp, fIx_fl, fIx_n, fIx_s, oNone_ap, asInt_i, oSome_ap, dSl_ap, fSl_tp, fSl_fl, fSl_n, fSl_s, atI_0, atI_1, atI_2, atI_3, wpR_comp, tYesB_ap, diV_ap, itV_tp, itV_fl, itV_n, itV_s, live_tp, live_fl, live_n, diR1_ap, diR2_ap, diE_ap, Kf_nx, Kf_rt, Kf_ex, Kin_nx, Kin_ct, Kin_bk, Kin_rt, Kin_ex, isTp, List.set_cons_succ, List.set_cons_zero, List.map_cons, List.map_nil, List.cons_append, List.nil_append, List.length_cons, List.length_nil, List.replicate_succ, List.replicate_zero, List.append_nil, Nat.reduceSub, Nat.reduceAdd, Nat.reduceMul, Int.reduceAdd, Int.reduceSub, Int.reduceMul, Int.reduceNeg, Int.reduceLT, Int.reduceLE, Nat.reduceLeDiff, Nat.reduceLT, decide_true, decide_false, Int.reduceToNat, Bool.not_true, Bool.not_false, and_true, true_and, and_self, true_or, or_true, List.set_nil, Int.reduceMod, Int.reduceDiv, Int.reducePow, Int.cast_ofNat_Int, Int.reduceEq, Int.reduceNe, Nat.reduceEqDiff, eq_self, false_and, and_false, Nat.zero_add, Int.zero_add, Int.add_zero, wipeE, fSetIx_ref, fIx_ref, bLen_ref, seqK_ref, itV_ref, live_ref, fSl_ref] | refine wNd_i (by omega) ?_))
      refine ⟨B2.mono (by simp; omega), by simp; omega, F.tr F2, fun y hy => ?_⟩
      rcases List.mem_append.mp hy with q | q
      · exact d y q
      · simpa using q
    · rintro ys h' ⟨_, _, F, a⟩
      simp only [List.nil_append] at a
      (repeat (first | simp only [wpR_run, wpS_nil, wpS_seq, wpS_ret, wpS_retN, wpS_expr, wpS_set, wpS_if, wpS_brk, wpS_cnt, wpS_aug, wpS_par, wpS_asg, wpS_tdN, wpS_tdSub, wpS_tdT, wpS_runT0, wpS_runT, wpS_for, onlyN_nx, run_nm, run_tp, setN_nil, setN_cons, asV_v, bindO_s, wgo_go, wIf_t, wIf_f, wNd_t, wpR_ok, wpR_ex, wpR_bind, bind_ok, wpR_ite, wpR_oR, wOpt_s, numP_v, numP_n, numK_v, numK_n, dVar_0, dVar_s, dC_ap, dOp_ap, dU_ap, dB_ap, aNil_ap, aCons_ap, vNil_ap, vCons_ap, dTup_ap, dLst_ap, asBool_v, dT_ap, brR_t, brR_f, wpR_br, dIf_ap, bAnd_ap, bOr_ap, bNot_ap, dAnd_ap, dOr_ap, dNot_ap, dCh_ap, dCall_ap, wpR_call0, wpR_call1, wpR_call2, wpR_call3, wpR_call4, wpR_call5, wpR_call6, fAdd_ii, fAdd_ss, fAddI_ii, fAddI_ss, fSub_ii, fMul_ii, fMod_ii, fFdiv_ii, fNeg_i, fLt_ii, fLe_ii, fGt_ii, fGe_ii, fEq_ii, fNe_ii, fEq_ss, fNe_ss, fEq_bb, fNe_bb, bAbs_i, bInt_i, bInt_b, bMax_ii, bMin_ii, bDivmod_ii, seqK_n, seqK_tp, seqK_fl, bLen_tp, bLen_fl, bLen_n, bLen_s, bList_q, bTuple_q, optR_s, fIx_tp, fIx_fl, fIx_n, fIx_s, oNone_ap, asInt_i, oSome_ap, dSl_ap, fSl_tp, fSl_fl, fSl_n, fSl_s, atI_0, atI_1, atI_2, atI_3, wpR_comp, tYesB_ap, diV_ap, itV_tp, itV_fl, itV_n, itV_s, live_tp, live_fl, live_n, diR1_ap, diR2_ap, diE_ap, Kf_nx, Kf_rt, Kf_ex, Kin_nx, Kin_ct, Kin_bk, Kin_rt, Kin_ex, isTp, List.set_cons_succ, List.set_cons_zero, List.map_cons, List.map_nil, List.cons_append, List.nil_append, List.length_cons, List.length_nil, List.replicate_succ, List.replicate_zero, List.append_nil, Nat.reduceSub, Nat.reduceAdd, Nat.reduceMul, Int.reduceAdd, Int.reduceSub, Int.reduceMul, Int.reduceNeg, Int.reduceLT, Int.reduceLE, Nat.reduceLeDiff, Nat.reduceLT, decide_true, decide_false, Int.reduceToNat, Bool.not_true, Bool.not_false, and_true, true_and, and_self, true_or, or_true, List.set_nil, Int.reduceMod, Int.reduceDiv, Int.reducePow, Int.cast_ofNat_Int, Int.reduceEq, Int.reduceNe, Nat.reduceEqDiff, eq_self, false_and, and_false, Nat.zero_add, Int.zero_add, Int.add_zero, wipeE, fSetIx_ref, fIx_ref, bLen_ref, seqK_ref, itV_ref, live_ref, fSl_ref, bAll_t a] | refine wNd_i (by omega) ?_))
      exact ⟨fun x h => hx x (List.mem_cons_of_mem _ h), F.at (old_ref e) (by have := ref_lt e; omega), _, _, _, rfl⟩
  · rintro ρ h' ⟨_, _, u, v, w, rfl⟩
    refine ⟨rfl, ?_⟩
    (repeat (first | simp only [wpR_run, wpS_nil, wpS_seq, wpS_ret, wpS_retN, wpS_expr, wpS_set, wpS_if, wpS_brk, wpS_cnt, wpS_aug, wpS_par, wpS_asg, wpS_tdN, wpS_tdSub, wpS_tdT, wpS_runT0, wpS_runT, wpS_for, onlyN_nx, run_nm, run_tp, setN_nil, setN_cons, asV_v, bindO_s, wgo_go, wIf_t, wIf_f, wNd_t, wpR_ok, wpR_ex, wpR_bind, bind_ok, wpR_ite, wpR_oR, wOpt_s, numP_v, numP_n, numK_v, numK_n, dVar_0, dVar_s, dC_ap, dOp_ap, dU_ap, dB_ap, aNil_ap, aCons_ap, vNil_ap, vCons_ap, dTup_ap, dLst_ap, asBool_v, dT_ap, brR_t, brR_f, wpR_br, dIf_ap, bAnd_ap, bOr_ap, bNot_ap, dAnd_ap, dOr_ap, dNot_ap, dCh_ap, dCall_ap, wpR_call0, wpR_call1, wpR_call2, wpR_call3, wpR_call4, wpR_call5, wpR_call6, fAdd_ii, fAdd_ss, fAddI_ii, fAddI_ss, fSub_ii, fMul_ii, fMod_ii, fFdiv_ii, fNeg_i, fLt_ii, fLe_ii, fGt_ii, fGe_ii, fEq_ii, fNe_ii, fEq_ss, fNe_ss, fEq_bb, fNe_bb, bAbs_i, bInt_i, bInt_b, bMax_ii, bMin_ii, bDivmod_ii, seqK_n, seqK_tp, seqK_fl, bLen_tp, bLen_fl, bLen_n, bLen_s, bList_q, bTuple_q, optR_s, fIx_tp, fIx_fl, fIx_n, fIx_s, oNone_ap, asInt_i, oSome_ap, dSl_ap, fSl_tp, fSl_fl, fSl_n, fSl_s, atI_0, atI_1, atI_2, atI_3, wpR_comp, tYesB_ap, diV_ap, itV_tp, itV_fl, itV_n, itV_s, live_tp, live_fl, live_n, diR1_ap, diR2_ap, diE_ap, Kf_nx, Kf_rt, Kf_ex, Kin_nx, Kin_ct, Kin_bk, Kin_rt, Kin_ex, isTp, List.set_cons_succ, List.set_cons_zero, List.map_cons, List.map_nil, List.cons_append, List.nil_append, List.length_cons, List.length_nil, List.replicate_succ, List.replicate_zero, List.append_nil, Nat.reduceSub, Nat.reduceAdd, Nat.reduceMul, Int.reduceAdd, Int.reduceSub, Int.reduceMul, Int.reduceNeg, Int.reduceLT, Int.reduceLE, Nat.reduceLeDiff, Nat.reduceLT, decide_true, decide_false, Int.reduceToNat, Bool.not_true, Bool.not_false, and_true, true_and, and_self, true_or, or_true, List.set_nil, Int.reduceMod, Int.reduceDiv, Int.reducePow, Int.cast_ofNat_Int, Int.reduceEq, Int.reduceNe, Nat.reduceEqDiff, eq_self, false_and, and_false, Nat.zero_add, Int.zero_add, Int.add_zero, wipeE, fSetIx_ref, fIx_ref, bLen_ref, seqK_ref, itV_ref, live_ref, fSl_ref] | refine wNd_i (by omega) ?_))
end Mi.k10

open PySem PySem.W PyProof.Rows
set_option maxHeartbeats 0 in
theorem PySem.Challenge.cw_messcasks_k10_one_ware_for_another_holds : PySem.Challenge.rw_messcasks_k10_one_ware_for_another.Holds := by
  w_on; o_law; k_head; (case hw => w_witness2)
  k_fill
  refine Mi.walkG (l := PySem.Challenge.rw_messcasks_k10_one_ware_for_another) (n := 63) (k := 4) (x := "_law_script") (fn := Mi.k10.f_law) rfl (by decide) rfl ⟨rfl, by decide, by decide⟩ (fun w h Y => PySem.W.kIn_of Y) ?F (fun ns hl => Mi.k10.law_true ns hl)
  case F =>
    intro w mg fa h KX G hmg
    refine' Mi.k10.all_mk KX G hmg ?a0 ?l0 ?c0 ?k0 ?a1 ?l1 ?c1 ?k1 ?a2 ?l2 ?c2 ?k2 ?a3 ?l3 ?c3 ?k3 ?a4 ?l4 ?c4 ?k4 ?a5 ?l5 ?c5 ?k5 ?a6 ?l6 ?c6 ?k6 ?a7 ?l7 ?c7 ?k7 ?a8 ?l8 ?c8 ?k8 ?a9 ?l9 ?c9 ?k9 ?z0 ?z1 ?z2 ?z3 ?z4 ?z5 ?z6 ?z7 ?z8 ?z9 ?z10 ?z11 ?z12
    (case a0 => k_is)
    (case l0 => k_is)
    (case c0 => k_is)
    (case k0 => k_is)
    (case a1 => k_is)
    (case l1 => k_is)
    (case c1 => k_is)
    (case k1 => k_is)
    (case a2 => k_is)
    (case l2 => k_is)
    (case c2 => k_is)
    (case k2 => k_is)
    (case a3 => k_is)
    (case l3 => k_is)
    (case c3 => k_is)
    (case k3 => k_is)
    (case a4 => k_is)
    (case l4 => k_is)
    (case c4 => k_is)
    (case k4 => k_is)
    (case a5 => k_is)
    (case l5 => k_is)
    (case c5 => k_is)
    (case k5 => k_is)
    (case a6 => k_is)
    (case l6 => k_is)
    (case c6 => k_is)
    (case k6 => k_is)
    (case a7 => k_is)
    (case l7 => k_is)
    (case c7 => k_is)
    (case k7 => k_is)
    (case a8 => k_is)
    (case l8 => k_is)
    (case c8 => k_is)
    (case k8 => k_is)
    (case a9 => k_is)
    (case l9 => k_is)
    (case c9 => k_is)
    (case k9 => k_is)
    (case z0 => k_is)
    (case z1 => k_is)
    (case z2 => k_is)
    (case z3 => k_is)
    (case z4 => k_is)
    (case z5 => k_is)
    (case z6 => k_is)
    (case z7 => k_is)
    (case z8 => k_is)
    (case z9 => k_is)
    (case z10 => k_is)
    (case z11 => k_is)
    (case z12 => k_is)

