import PyProof.Rows.All
import Wide.All
import OpenK.AllK
import Wide.FinOn
import HandS.ForMost
import HandS.ForExc
import HandS.EndTab
import HandS.Zip
import HandS.Style
import HandS.NoneIn
import HandS.IsInst
import HandS.WideBits
import HandS.TupAny
import HandS.Deep
import HandS.More
import HandS.Wide
import HandS.TupLe
import PyProof.StrBlock2
import HandS.Base
import HandS.Call
import HandS.List
import HandS.Exc
import HandS.Lambda
import HandS.TupLen
import PyProof.ReprRoads
import HandS.Text
import HandS.StrMore
import HandS.Dict
import HandS.Sort
import KE.SortKeyHeap
import HandS.SortKw
import PyProof.ListStr
import HandS.DictTup
import KE.KTupSum
import HandS.ExcOwn
import HandS.Nested
import HandS.ExcIs
import KE.DataFind
import HandS.Codes
import PyProof.SliceStr2
import KE.SortData
import PyProof.ExcBaseAll.ValueError
import HandS.HeadHook1
import HandS.HeadHook2
import HandS.HeadHook4
import HandS.Head0
import HandS.Head1
import HandS.Head2
import HandS.ExcValue
import HandS.DictComp
import KE.LtSeq
import KE.LtData
import KE.DataEq
import KE.DataMinMax
import KE.KEqNest
import HandS.SetFor
import HandS.SetKeys
import HandS.TupSets
import HandS.Rev
import PyProof.Rows.IntBool
import PyProof.FactsAll.bool_2
import HandS.Conv
import PySem.Challenge.RW_messcasks_k15_fillings_and_kin
set_option Elab.async false
set_option linter.all false
set_option maxRecDepth 100000
set_option maxHeartbeats 4000000
namespace Mi
open PySem L2

inductive Val where
  | non | bl (b : Bool) | int (i : Int) | str (s : List Nat) | tup (xs : List Val) | fl (xs : List Val) | ref (n : Nat) | kt (xs : List Val)
deriving Inhabited
mutual
def Val.eqb : Val → Val → Bool
  | .non, .non => true
  | .bl a, .bl b => a == b
  | .int a, .int b => a == b
  | .str a, .str b => a == b
  | .tup a, .tup b => Val.eqbs a b
  | .fl a, .fl b => Val.eqbs a b
  | .ref a, .ref b => a == b
  | .kt a, .kt b => Val.eqbs a b
  | _, _ => false
  termination_by structural x => x
def Val.eqbs : List Val → List Val → Bool
  | [], [] => true
  | x :: xs, y :: ys => Val.eqb x y && Val.eqbs xs ys
  | _, _ => false
  termination_by structural x => x
end
mutual
theorem Val.eqb_iff : ∀ (x y : Val), Val.eqb x y = true ↔ x = y
  | .non, y => by cases y <;> simp [Val.eqb]
  | .bl a, y => by cases y <;> simp [Val.eqb]
  | .int a, y => by cases y <;> simp [Val.eqb]
  | .str a, y => by cases y <;> simp [Val.eqb]
  | .ref a, y => by cases y <;> simp [Val.eqb]
  | .tup a, y => by cases y <;> simp [Val.eqb, Val.eqbs_iff a]
  | .fl a, y => by cases y <;> simp [Val.eqb, Val.eqbs_iff a]
  | .kt a, y => by cases y <;> simp [Val.eqb, Val.eqbs_iff a]
theorem Val.eqbs_iff : ∀ (x y : List Val), Val.eqbs x y = true ↔ x = y
  | [], y => by cases y <;> simp [Val.eqbs]
  | x :: xs, y => by cases y <;> simp [Val.eqbs, Val.eqb_iff x, Val.eqbs_iff xs]
end
instance : DecidableEq Val := fun x y => if h : Val.eqb x y = true then isTrue ((Val.eqb_iff x y).1 h) else isFalse fun e => h ((Val.eqb_iff x y).2 e)
inductive Ob where
  | lst (xs : List Val)
  | dK (kvs : List (Val × Val))
  | dT (kvs : List (List Val × Val))
  | ins (C : Nat) (fs : List (Str × Val))
  | exc (C : Nat)
  | exf (C : Nat) (fs : List (Str × Val))
  | lk (kvs : List (Val × Val))
  | lkT (kvs : List (List Val × Val))
deriving Inhabited
abbrev MH := List Ob
abbrev En := List (Option Val)
inductive R (α : Type) where
  | ok (a : α) (h : MH) | ex (c : Nat) (h : MH) | bad
def R.bind {α β : Type} (r : R α) (f : α → MH → R β) : R β :=
  match r with
  | .ok a h => f a h
  | .ex c h => .ex c h
  | .bad => .bad
abbrev sOf (s : List Nat) : Str := ⟨s.toArray⟩
abbrev Mu := Nat → Option Addr
structure CA where
  f : Nat → Addr
  T : List (Addr × Str)
instance : CoeFun CA (fun _ => Nat → Addr) := ⟨CA.f⟩
structure G where
  K : PySem.W.Frag
  ca : CA
def ExcO (C a : Addr) : HO := .ext fun h => ∃ (oe : Obj) (vs : Array Value), h.get? a = some oe ∧ Zc (.ref C) none oe ∧ oe.data = .fields vs

def ExfO (C a d : Addr) : HO := .ext fun h => ∃ (oe : Obj) (vs : Array Value), h.get? a = some oe ∧ Zc (.ref C) (some d) oe ∧ oe.data = .fields vs

def FzL (K : PySem.W.Frag) (H : Hp) (a : Addr) (xs : List V) : Prop :=
  (∃ o, H a = some (.frz o (.lst xs))) ∨
    ∃ (o : Obj) (its : Array Value) (n : Nat), K.lookup a = some o ∧ o.cls = .type "list" ∧ o.dict = none ∧ o.data = .seq its n ∧ its.size ≤ sizeLine ∧ Vals xs its.toList
def KTp (K : PySem.W.Frag) (a : Addr) (xs : List V) : Prop :=
  ∃ (o : Obj) (its : Array Value) (n : Nat), K.lookup a = some o ∧ o.cls = .type "tuple" ∧ o.data = .seq its n ∧ its.size ≤ sizeLine ∧ Vals xs its.toList
theorem KTp.sqt {K : PySem.W.Frag} {H : Hp} {a : Addr} {xs : List V} (x : KTp K a xs) : SqT K H a xs := .inr x
theorem FzL.sql {K : PySem.W.Frag} {H : Hp} {a : Addr} {xs : List V} (x : FzL K H a xs) : SqL K H a xs := by
  rcases x with x | x
  · exact .inl (.inr x)
  · exact .inr x
structure Kp (H H' : Hp) : Prop where
  tup : ∀ (a : Addr) (xs : List V), H a = some (HO.tup xs) → H' a = some (HO.tup xs)
  frz : ∀ (a : Addr) (o : Obj) (xs : List V), H a = some (HO.frz o (.lst xs)) → H' a = some (HO.frz o (.lst xs))
  xds : ∀ (a : Addr) (us : List (Str × V)), H a = some (HO.xd us) → H' a = some (HO.xd us)
theorem Kp.refl {H : Hp} : Kp H H := ⟨fun _ _ z => z, fun _ _ _ z => z, fun _ _ z => z⟩
theorem Kp.fzl {K : PySem.W.Frag} {H H' : Hp} (k : Kp H H') {a : Addr} {xs : List V} (x : FzL K H a xs) : FzL K H' a xs := by
  rcases x with ⟨o, x⟩ | x
  · exact .inl ⟨o, k.frz _ _ _ x⟩
  · exact .inr x
mutual
inductive RV (K : PySem.W.Frag) (H : Hp) (m : Mu) : V → Val → Prop
  | non : RV K H m .non .non
  | bl (b : Bool) : RV K H m (.bl b) (.bl b)
  | int (i : Int) : RV K H m (.int i) (.int i)
  | str (s : List Nat) : (∀ c ∈ s, c < 1114112) → RV K H m (.str (sOf s)) (.str s)
  | tup {a : Addr} {vs : List V} {xs : List Val} : H a = some (.tup vs) → RVs K H m vs xs → RV K H m (.ref a) (.tup xs)
  | fl {a : Addr} {vs : List V} {xs : List Val} : FzL K H a vs → RVs K H m vs xs → RV K H m (.ref a) (.fl xs)
  | ref {n : Nat} {a : Addr} : m n = some a → RV K H m (.ref a) (.ref n)
  | kt {a : Addr} {vs : List V} {xs : List Val} : KTp K a vs → RVs K H m vs xs → RV K H m (.ref a) (.kt xs)
inductive RVs (K : PySem.W.Frag) (H : Hp) (m : Mu) : List V → List Val → Prop
  | nil : RVs K H m [] []
  | cons {v : V} {vs : List V} {x : Val} {xs : List Val} : RV K H m v x → RVs K H m vs xs → RVs K H m (v :: vs) (x :: xs)
end
section
variable {K : PySem.W.Frag} {H H' : Hp} {m m' : Mu}
mutual
theorem RV.mono (hx : Kp H H') (hm : ∀ n a, m n = some a → m' n = some a) : ∀ {v : V} {x : Val}, RV K H m v x → RV K H' m' v x
  | _, _, .non => .non
  | _, _, .bl b => .bl b
  | _, _, .int i => .int i
  | _, _, .str s h => .str s h
  | _, _, .tup h r => .tup (hx.tup _ _ h) (RVs.mono hx hm r)
  | _, _, .fl h r => .fl (hx.fzl h) (RVs.mono hx hm r)
  | _, _, .ref e => .ref (hm _ _ e)
  | _, _, .kt h r => .kt h (RVs.mono hx hm r)
theorem RVs.mono (hx : Kp H H') (hm : ∀ n a, m n = some a → m' n = some a) : ∀ {vs : List V} {xs : List Val}, RVs K H m vs xs → RVs K H' m' vs xs
  | _, _, .nil => .nil
  | _, _, .cons r t => .cons (RV.mono hx hm r) (RVs.mono hx hm t)
end
theorem RVs.length : ∀ {vs : List V} {xs : List Val}, RVs K H m vs xs → vs.length = xs.length
  | _, _, .nil => rfl
  | _, _, .cons _ t => by simp [RVs.length t]
theorem RVs.get : ∀ {vs : List V} {xs : List Val} {i : Nat} {x : Val}, RVs K H m vs xs → xs[i]? = some x → ∃ v, vs[i]? = some v ∧ RV K H m v x
  | _, _, _, _, .nil, e => by simp at e
  | _, _, 0, _, .cons r _, e => by simp at e; subst e; exact ⟨_, rfl, r⟩
  | _, _, i + 1, x, .cons _ t, e => by
    obtain ⟨v, h1, h2⟩ := RVs.get (i := i) t (by simpa using e)
    exact ⟨v, by simpa using h1, h2⟩
theorem RVs.append : ∀ {vs ws : List V} {xs ys : List Val}, RVs K H m vs xs → RVs K H m ws ys → RVs K H m (vs ++ ws) (xs ++ ys)
  | _, _, _, _, .nil, s => s
  | _, _, _, _, .cons r t, s => .cons r (RVs.append t s)
theorem RVs.take : ∀ {vs : List V} {xs : List Val} (n : Nat), RVs K H m vs xs → RVs K H m (vs.take n) (xs.take n)
  | _, _, 0, _ => .nil
  | _, _, _ + 1, .nil => .nil
  | _, _, n + 1, .cons r t => .cons r (RVs.take n t)
theorem RVs.drop : ∀ {vs : List V} {xs : List Val} (n : Nat), RVs K H m vs xs → RVs K H m (vs.drop n) (xs.drop n)
  | _, _, 0, r => r
  | _, _, _ + 1, .nil => .nil
  | _, _, n + 1, .cons _ t => RVs.drop n t
theorem RVs.set {v : V} {x : Val} (r : RV K H m v x) : ∀ {vs : List V} {xs : List Val} (i : Nat), RVs K H m vs xs → RVs K H m (vs.set i v) (xs.set i x)
  | _, _, _, .nil => .nil
  | _, _, 0, .cons _ t => .cons r t
  | _, _, i + 1, .cons q t => .cons q (RVs.set r i t)
theorem RVs.eraseIdx : ∀ {vs : List V} {xs : List Val} (i : Nat), RVs K H m vs xs → RVs K H m (vs.eraseIdx i) (xs.eraseIdx i)
  | _, _, _, .nil => .nil
  | _, _, 0, .cons _ t => t
  | _, _, i + 1, .cons q t => .cons q (RVs.eraseIdx i t)
theorem RVs.reverse {vs : List V} {xs : List Val} (h : RVs K H m vs xs) : RVs K H m vs.reverse xs.reverse := by
  match h with
  | .nil => exact .nil
  | .cons r t => rw [List.reverse_cons, List.reverse_cons]; exact (RVs.reverse t).append (.cons r .nil)
theorem RVs.rep {vs : List V} {xs : List Val} (h : RVs K H m vs xs) : ∀ k : Nat, RVs K H m (List.replicate k vs).flatten (List.replicate k xs).flatten
  | 0 => .nil
  | k + 1 => by
    rw [List.replicate_succ, List.replicate_succ, List.flatten_cons, List.flatten_cons]
    exact h.append (RVs.rep h k)
theorem RVs.dropLast {vs : List V} {xs : List Val} (h : RVs K H m vs xs) : RVs K H m vs.dropLast xs.dropLast := by
  rw [List.dropLast_eq_take, List.dropLast_eq_take, h.length]
  exact h.take _
end

def keyOf : Val → Option Key
  | .int i => some (.inl i)
  | .str s => if s.all (fun c => decide (c < 1114112)) = true then some (.inr (sOf s)) else none
  | _ => none
inductive RK (K : PySem.W.Frag) (H : Hp) (m : Mu) : List (Key × V) → List (Val × Val) → Prop
  | nil : RK K H m [] []
  | cons {k : Key} {v : V} {kv : List (Key × V)} {x y : Val} {xs : List (Val × Val)} : keyOf x = some k → RV K H m v y → RK K H m kv xs → RK K H m ((k, v) :: kv) ((x, y) :: xs)
def keysOf : List Val → Option (List Key)
  | [] => some []
  | x :: xs => match keyOf x, keysOf xs with
    | some k, some ks => some (k :: ks)
    | _, _ => none
inductive RKT (K : PySem.W.Frag) (H : Hp) (m : Mu) : List (List Key × V) → List (List Val × Val) → Prop
  | nil : RKT K H m [] []
  | cons {k : List Key} {v : V} {kv : List (List Key × V)} {x : List Val} {y : Val} {xs : List (List Val × Val)} : keysOf x = some k → RV K H m v y → RKT K H m kv xs → RKT K H m ((k, v) :: kv) ((x, y) :: xs)
inductive RF (K : PySem.W.Frag) (H : Hp) (m : Mu) : List (Str × V) → List (Str × Val) → Prop
  | nil : RF K H m [] []
  | cons {k : Str} {v : V} {kv : List (Str × V)} {y : Val} {xs : List (Str × Val)} : RV K H m v y → RF K H m kv xs → RF K H m ((k, v) :: kv) ((k, y) :: xs)
section
variable {K : PySem.W.Frag} {H H' : Hp} {m m' : Mu}
theorem RK.mono (hx : Kp H H') (hm : ∀ n a, m n = some a → m' n = some a) {k : List (Key × V)} {x : List (Val × Val)} (r : RK K H m k x) : RK K H' m' k x := by
  induction r with
  | nil => exact .nil
  | cons e r _ ih => exact .cons e (r.mono hx hm) ih
theorem RKT.mono (hx : Kp H H') (hm : ∀ n a, m n = some a → m' n = some a) {k : List (List Key × V)} {x : List (List Val × Val)} (r : RKT K H m k x) : RKT K H' m' k x := by
  induction r with
  | nil => exact .nil
  | cons e r _ ih => exact .cons e (r.mono hx hm) ih
theorem RF.mono (hx : Kp H H') (hm : ∀ n a, m n = some a → m' n = some a) {k : List (Str × V)} {x : List (Str × Val)} (r : RF K H m k x) : RF K H' m' k x := by
  induction r with
  | nil => exact .nil
  | cons r _ ih => exact .cons (r.mono hx hm) ih
end

def RO (g : G) (H : Hp) (m : Mu) (a : Addr) : Ob → Prop
  | .lst xs => ∃ vs, H a = some (.lst vs) ∧ RVs g.K H m vs xs
  | .dK kvs => ∃ ks, H a = some (.dK ks) ∧ RK g.K H m ks kvs
  | .dT kvs => ∃ ks, H a = some (.dT ks) ∧ RKT g.K H m ks kvs
  | .ins C fs => ∃ dx us, H a = some (.ins (g.ca C) dx us) ∧ RF g.K H m us fs
  | .exc C => H a = some (ExcO (g.ca C) a)
  | .exf C fs => ∃ dx us, H a = some (ExfO (g.ca C) a dx) ∧ H dx = some (.xd us) ∧ RF g.K H m us fs
  | .lk kvs => ∃ o ks, H a = some (.frz o (.dK ks)) ∧ RK g.K H m ks kvs
  | .lkT kvs => ∃ o ks, H a = some (.frz o (.dT ks)) ∧ RKT g.K H m ks kvs
theorem RO.mono {g : G} {H H' : Hp} {m m' : Mu} {a : Addr} (hx : Kp H H') (hm : ∀ n a, m n = some a → m' n = some a) (ha : H' a = H a) {o : Ob} (r : RO g H m a o) : RO g H' m' a o := by
  cases o with
  | lst xs => obtain ⟨vs, e, r⟩ := r; exact ⟨vs, by rw [ha]; exact e, r.mono hx hm⟩
  | dK xs => obtain ⟨vs, e, r⟩ := r; exact ⟨vs, by rw [ha]; exact e, r.mono hx hm⟩
  | dT xs => obtain ⟨vs, e, r⟩ := r; exact ⟨vs, by rw [ha]; exact e, r.mono hx hm⟩
  | ins C fs => obtain ⟨dx, us, e, r⟩ := r; exact ⟨dx, us, by rw [ha]; exact e, r.mono hx hm⟩
  | exc C => exact ha.trans r
  | exf C fs => obtain ⟨dx, us, e, ed, r⟩ := r; exact ⟨dx, us, by rw [ha]; exact e, hx.xds _ _ ed, r.mono hx hm⟩
  | lk xs => obtain ⟨o, vs, e, r⟩ := r; exact ⟨o, vs, by rw [ha]; exact e, r.mono hx hm⟩
  | lkT xs => obtain ⟨o, vs, e, r⟩ := r; exact ⟨o, vs, by rw [ha]; exact e, r.mono hx hm⟩
def NoTup (H : Hp) (a : Addr) : Prop := ∃ u, H a = some u ∧ (∀ xs, u ≠ .tup xs) ∧ (∀ o xs, u ≠ .frz o (.lst xs)) ∧ (∀ ps, u ≠ .tbl ps) ∧ (∀ q, u ≠ LamX.CodeO a q) ∧ ∀ us, u ≠ .xd us
theorem excO_ne {C a : Addr} {q : Str} : ExcO C a ≠ LamX.CodeO a q := fun z => by
  unfold ExcO LamX.CodeO at z
  have z := HO.ext.inj z
  have hg : Heap.get? ⟨Array.replicate (a + 1) ⟨.ref C, none, .fields #[], #[]⟩, default⟩ a = some (⟨.ref C, none, .fields #[], #[]⟩ : Obj) := Heap.get?_some_iff.mpr ⟨by simp, rfl⟩
  obtain ⟨oc, vs, t, e1, e2, e3⟩ := (congrFun z _).mp ⟨_, #[], hg, ⟨rfl, rfl⟩, rfl⟩
  rw [hg] at e1; cases e1; cases e2; simp at e3
theorem exfO_ne {C a d : Addr} {q : Str} : ExfO C a d ≠ LamX.CodeO a q := fun z => by
  unfold ExfO LamX.CodeO at z
  have z := HO.ext.inj z
  have hg : Heap.get? ⟨Array.replicate (a + 1) ⟨.ref C, some d, .fields #[], #[]⟩, default⟩ a = some (⟨.ref C, some d, .fields #[], #[]⟩ : Obj) := Heap.get?_some_iff.mpr ⟨by simp, rfl⟩
  obtain ⟨oc, vs, t, e1, e2, e3⟩ := (congrFun z _).mp ⟨_, #[], hg, ⟨rfl, rfl⟩, rfl⟩
  rw [hg] at e1; cases e1; cases e2; simp at e3
theorem RO.there {g : G} {H : Hp} {m : Mu} {a : Addr} {o : Ob} (r : RO g H m a o) : NoTup H a := by
  cases o with
  | lst xs => obtain ⟨vs, e, r⟩ := r; exact ⟨_, e, (by intro _ z; cases z), (by intro _ _ z; cases z), (by intro _ z; cases z), (by intro _ z; unfold LamX.CodeO at z; cases z), (by intro _ z; cases z)⟩
  | dK xs => obtain ⟨vs, e, r⟩ := r; exact ⟨_, e, (by intro _ z; cases z), (by intro _ _ z; cases z), (by intro _ z; cases z), (by intro _ z; unfold LamX.CodeO at z; cases z), (by intro _ z; cases z)⟩
  | dT xs => obtain ⟨vs, e, r⟩ := r; exact ⟨_, e, (by intro _ z; cases z), (by intro _ _ z; cases z), (by intro _ z; cases z), (by intro _ z; unfold LamX.CodeO at z; cases z), (by intro _ z; cases z)⟩
  | ins C fs => obtain ⟨dx, us, e, r⟩ := r; exact ⟨_, e, (by intro _ z; cases z), (by intro _ _ z; cases z), (by intro _ z; cases z), (by intro _ z; unfold LamX.CodeO at z; cases z), (by intro _ z; cases z)⟩
  | exc C => exact ⟨_, r, (by intro _ z; unfold ExcO at z; cases z), (by intro _ _ z; unfold ExcO at z; cases z), (by intro _ z; unfold ExcO at z; cases z), fun _ => excO_ne, (by intro _ z; unfold ExcO at z; cases z)⟩
  | exf C fs => obtain ⟨dx, us, e, r⟩ := r; exact ⟨_, e, (by intro _ z; unfold ExfO at z; cases z), (by intro _ _ z; unfold ExfO at z; cases z), (by intro _ z; unfold ExfO at z; cases z), fun _ => exfO_ne, (by intro _ z; unfold ExfO at z; cases z)⟩
  | lk xs => obtain ⟨o, vs, e, r⟩ := r; exact ⟨_, e, (by intro _ z; cases z), (by intro _ _ z; cases z), (by intro _ z; cases z), (by intro _ z; unfold LamX.CodeO at z; cases z), (by intro _ z; cases z)⟩
  | lkT xs => obtain ⟨o, vs, e, r⟩ := r; exact ⟨_, e, (by intro _ z; cases z), (by intro _ _ z; cases z), (by intro _ z; cases z), (by intro _ z; unfold LamX.CodeO at z; cases z), (by intro _ z; cases z)⟩

structure RepH (g : G) (m : Mu) (H : Hp) (h : MH) : Prop where
  dom : ∀ n a, m n = some a → n < h.length
  inj : ∀ n k a, m n = some a → m k = some a → n = k
  at_ : ∀ n o, h[n]? = some o → ∃ a, m n = some a ∧ RO g H m a o
  tabs : LamX.Tabs g.ca.T H
theorem tabs_but {T : List (Addr × Str)} {H H' : Hp} {a : Addr} (t : LamX.Tabs T H) (k : ∀ b o, b ≠ a → H b = some o → H' b = some o) (n1 : ∀ ps, H a ≠ some (.tbl ps)) (n2 : ∀ q, H a ≠ some (LamX.CodeO a q)) : LamX.Tabs T H' := fun p hp => by
  obtain ⟨ps, h1, h2, h3⟩ := t p hp
  refine ⟨ps, k _ _ (fun z => n1 ps (by rw [← z]; exact h1)) h1, h2, fun pos cv hc => ?_⟩
  obtain ⟨c, e1, e2⟩ := h3 pos cv hc
  exact ⟨c, e1, k _ _ (fun z => n2 _ (by rw [← z]; exact e2)) e2⟩
theorem RepH.noTup {g : G} {m : Mu} {H : Hp} {h : MH} (r : RepH g m H h) {n : Nat} {a : Addr} (e : m n = some a) : NoTup H a := by
  have hl := r.dom n a e
  obtain ⟨b, e2, q⟩ := r.at_ n _ (List.getElem?_eq_getElem hl)
  rw [e] at e2; cases e2
  exact q.there

structure Ext (m m' : Mu) (H H' : Hp) : Prop where
  le : ∀ n a, m n = some a → m' n = some a
  new : ∀ n a, m' n = some a → m n = some a ∨ H a = none
  keep : ∀ b o, H b = some o → (∀ ps, o ≠ .tbl ps) → (∀ n, m n ≠ some b) → H' b = some o
  tbls : ∀ b ps, H b = some (.tbl ps) → (∀ n, m n ≠ some b) → ∃ more, H' b = some (.tbl (ps ++ more))
  frzs : ∀ b o u, H b = some (.frz o u) → H' b = some (.frz o u)
theorem Ext.of {m m' : Mu} {H H' : Hp} (l : ∀ n a, m n = some a → m' n = some a) (nw : ∀ n a, m' n = some a → m n = some a ∨ H a = none) (k : ∀ b o, H b = some o → (∀ n, m n ≠ some b) → H' b = some o) (f : ∀ b o u, H b = some (.frz o u) → H' b = some (.frz o u)) : Ext m m' H H' :=
  ⟨l, nw, fun b o e _ q => k b o e q, fun b ps e q => ⟨#[], by rw [k b _ e q, Array.append_empty]⟩, f⟩
theorem Ext.refl {m : Mu} {H : Hp} : Ext m m H H := .of (fun _ _ e => e) (fun _ _ e => .inl e) (fun _ _ e _ => e) fun _ _ _ e => e
theorem Ext.trans {m1 m2 m3 : Mu} {H1 H2 H3 : Hp} (a : Ext m1 m2 H1 H2) (b : Ext m2 m3 H2 H3) (hh : ∀ b, H2 b = none → H1 b = none) : Ext m1 m3 H1 H3 where
  le := fun n x e => b.le n x (a.le n x e)
  new := fun n x e => by
    rcases b.new n x e with q | q
    · exact a.new n x q
    · exact .inr (hh x q)
  keep := fun c o e t q => b.keep c o (a.keep c o e t q) t fun n z => by
    rcases a.new n c z with w | w
    · exact q n w
    · rw [e] at w; cases w
  tbls := fun c ps e q => by
    obtain ⟨m1, e1⟩ := a.tbls c ps e q
    obtain ⟨m2, e2⟩ := b.tbls c _ e1 fun n z => by
      rcases a.new n c z with w | w
      · exact q n w
      · rw [e] at w; cases w
    exact ⟨m1 ++ m2, by rw [e2, Array.append_assoc]⟩
  frzs := fun c o u e => b.frzs c o u (a.frzs c o u e)
theorem Ext.free {g : G} {m m' : Mu} {H H' : Hp} {h' : MH} (x : Ext m m' H H') (r : RepH g m' H' h') : ∀ b, H' b = none → H b = none := fun b q => by
  cases e : H b with
  | none => rfl
  | some o =>
    by_cases hb : ∃ n, m n = some b
    · obtain ⟨n, hn⟩ := hb
      obtain ⟨u, e2, _⟩ := r.noTup (x.le n b hn)
      rw [q] at e2; cases e2
    · by_cases ht : ∃ ps, o = .tbl ps
      · obtain ⟨ps, rfl⟩ := ht
        obtain ⟨_, this⟩ := x.tbls b ps e fun n z => hb ⟨n, z⟩
        rw [q] at this; cases this
      · have := x.keep b o e (fun ps z => ht ⟨ps, z⟩) fun n z => hb ⟨n, z⟩
        rw [q] at this; cases this
theorem Ext.tr {g : G} {m1 m2 m3 : Mu} {H1 H2 H3 : Hp} {h2 : MH} (a : Ext m1 m2 H1 H2) (r : RepH g m2 H2 h2) (b : Ext m2 m3 H2 H3) : Ext m1 m3 H1 H3 := a.trans b (a.free r)
theorem Ext.sqt {g : G} {m m' : Mu} {H H' : Hp} {h : MH} (x : Ext m m' H H') (r : RepH g m H h) : Kp H H' := ⟨fun a xs q => by
    refine x.keep a _ q (fun _ z => by cases z) fun n z => ?_
    obtain ⟨u, e, n1, _⟩ := r.noTup z
    rw [q] at e; cases e; exact n1 _ rfl, fun a o xs q => by
    refine x.keep a _ q (fun _ z => by cases z) fun n z => ?_
    obtain ⟨u, e, _, n2, _⟩ := r.noTup z
    rw [q] at e; cases e; exact n2 _ _ rfl, fun a us q => by
    refine x.keep a _ q (fun _ z => by cases z) fun n z => ?_
    obtain ⟨u, e, _, _, _, _, n3⟩ := r.noTup z
    rw [q] at e; cases e; exact n3 _ rfl⟩
theorem Ext.rv {g : G} {m m' : Mu} {H H' : Hp} {h : MH} (x : Ext m m' H H') (r : RepH g m H h) {v : V} {y : Val} (q : RV g.K H m v y) : RV g.K H' m' v y := q.mono (x.sqt r) x.le
theorem Ext.rvs {g : G} {m m' : Mu} {H H' : Hp} {h : MH} (x : Ext m m' H H') (r : RepH g m H h) {v : List V} {y : List Val} (q : RVs g.K H m v y) : RVs g.K H' m' v y := q.mono (x.sqt r) x.le

structure REnv (K : PySem.W.Frag) (H : Hp) (m : Mu) (σ : St) (ρ : En) : Prop where
  len : σ.length = ρ.length
  at_ : ∀ (i : Nat) (x : Val), ρ[i]? = some (some x) → ∃ v, σ[i]? = some (some v) ∧ RV K H m v x
theorem Ext.env {g : G} {m m' : Mu} {H H' : Hp} {h : MH} (x : Ext m m' H H') (r : RepH g m H h) {σ : St} {ρ : En} (q : REnv g.K H m σ ρ) : REnv g.K H' m' σ ρ :=
  ⟨q.len, fun i y e => let ⟨v, h1, h2⟩ := q.at_ i y e; ⟨v, h1, x.rv r h2⟩⟩
theorem REnv.set {K : PySem.W.Frag} {H : Hp} {m : Mu} {σ : St} {ρ : En} (q : REnv K H m σ ρ) {v : V} {x : Val} (r : RV K H m v x) (i : Nat) : REnv K H m (σ.set i (some v)) (ρ.set i (some x)) := by
  refine ⟨by simp [q.len], fun j y e => ?_⟩
  by_cases hj : i = j
  · subst hj
    have hl : i < ρ.length := by
      rcases Nat.lt_or_ge i ρ.length with h | h
      · exact h
      · rw [List.getElem?_eq_none (by simpa using h)] at e; cases e
    rw [List.getElem?_set_self hl] at e
    cases e
    exact ⟨v, by rw [List.getElem?_set_self (by rw [q.len]; exact hl)], r⟩
  · rw [List.getElem?_set_ne hj] at e
    rw [List.getElem?_set_ne hj]
    exact q.at_ j y e

inductive O where
  | v (x : Val) | n (xs : List Val)
abbrev Rel (α β : Type) := Hp → Hp → Mu → β → α → Prop
def rO (g : G) : Rel O V := fun H0 H m v o => match o with
  | .v x => RV g.K H m v x
  | .n xs => ∃ a vs, v = .ref a ∧ H a = some (.lst vs) ∧ (∀ n, m n ≠ some a) ∧ H0 a = none ∧ RVs g.K H m vs xs
inductive rOs (g : G) (H0 H : Hp) (m : Mu) : List V → List O → Prop
  | nil : rOs g H0 H m [] []
  | cons {v : V} {vs : List V} {x : O} {xs : List O} : rO g H0 H m v x → rOs g H0 H m vs xs → rOs g H0 H m (v :: vs) (x :: xs)
abbrev rB : Rel Bool Bool := fun _ _ _ v x => v = x
abbrev rL (g : G) : Rel (List Val) (List V) := fun _ H m v x => RVs g.K H m v x
def Back {α β : Type} (rel : Rel α β) : Prop := ∀ (H0 H0' H : Hp) (m : Mu) (v : β) (x : α), (∀ b, H0' b = none → H0 b = none) → rel H0' H m v x → rel H0 H m v x
theorem back_O {g : G} : Back (rO g) := fun H0 H0' H m v x f r => by
  cases x with
  | v x => exact r
  | n xs => obtain ⟨a, vs, e1, e2, e3, e4, e5⟩ := r; exact ⟨a, vs, e1, e2, e3, f a e4, e5⟩
theorem back_Os {g : G} : Back (rOs g) := fun H0 H0' H m v x f r => by
  induction r with
  | nil => exact .nil
  | cons h _ ih => exact .cons (back_O _ _ _ _ _ _ f h) ih
theorem back_B : Back rB := fun _ _ _ _ _ _ _ r => r
theorem Ext.ro {g : G} {m m' : Mu} {H0 H H' : Hp} {h : MH} (x : Ext m m' H H') (r : RepH g m H h) {v : V} {y : O} (q : rO g H0 H m v y) : rO g H0 H' m' v y := by
  cases y with
  | v y => exact x.rv r q
  | n ys =>
    obtain ⟨a, vs, e1, e2, e3, e4, e5⟩ := q
    refine ⟨a, vs, e1, x.keep _ _ e2 (fun _ z => by cases z) e3, fun n z => ?_, e4, x.rvs r e5⟩
    rcases x.new n a z with q | q
    · exact e3 n q
    · rw [e2] at q; cases q
def Ct {α β : Type} (g : G) (W : WX) (rel : Rel α β) (m0 : Mu) (Hs : Hp) (r : R α) (σ : St) (Q : β → Hp → Prop) : Prop :=
  match r with
  | .ok x h' => ∀ m' H' v, Ext m0 m' Hs H' → RepH g m' H' h' → rel Hs H' m' v x → Q v H'
  | .ex c h' => ∀ m' H', Ext m0 m' Hs H' → RepH g m' H' h' → W (.ref (g.ca c)) none σ H'
  | .bad => False
section
variable {α β α' β' : Type} {g : G} {W : WX} {rel : Rel α β} {rel' : Rel α' β'} {m m' : Mu} {σ : St} {Hs H' : Hp} {h : MH}
theorem Ct.later {r : R α} {Q : β → Hp → Prop} (bk : Back rel) (x : Ext m m' Hs H') (q : RepH g m' H' h) (c : Ct g W rel m Hs r σ Q) : Ct g W rel m' H' r σ Q := by
  cases r with
  | ok y h' => exact fun m2 H2 v e r2 rv => c m2 H2 v (x.tr q e) r2 (bk _ _ _ _ _ _ (x.free q) rv)
  | ex y h' => exact fun m2 H2 e r2 => c m2 H2 (x.tr q e) r2
  | bad => exact c
theorem Ct.imp {r : R α} {Q Q' : β → Hp → Prop} (c : Ct g W rel m Hs r σ Q) (i : ∀ v H', Q v H' → Q' v H') : Ct g W rel m Hs r σ Q' := by
  cases r with
  | ok y h' => exact fun m2 H2 v e r2 rv => i _ _ (c m2 H2 v e r2 rv)
  | ex y h' => exact c
  | bad => exact c
theorem Ct.bind {r : R α} {f : α → MH → R α'} {Q : β' → Hp → Prop} (c : Ct g W rel' m Hs (r.bind f) σ Q) :
    Ct g W rel m Hs r σ fun v H1 => ∃ m1 x h1, Ext m m1 Hs H1 ∧ RepH g m1 H1 h1 ∧ rel Hs H1 m1 v x ∧ Ct g W rel' m Hs (f x h1) σ Q := by
  cases r with
  | ok y h' => exact fun m2 H2 v e r2 rv => ⟨m2, y, h', e, r2, rv, c⟩
  | ex y h' => exact c
  | bad => exact c
end

theorem Ct.step {α β α' β' : Type} {g : G} {W : WX} {rel : Rel α β} {rel' : Rel α' β'} {m m' : Mu} {σ : St} {Hs H' : Hp} {h : MH} {r : R α} {f : α → MH → R α'} {Q : β' → Hp → Prop} (x : Ext m m' Hs H') (q : RepH g m' H' h) (c : Ct g W rel' m Hs (r.bind f) σ Q) :
    Ct g W rel m' H' r σ fun v H1 => ∃ m1 x h1, Ext m' m1 H' H1 ∧ Ext m m1 Hs H1 ∧ RepH g m1 H1 h1 ∧ rel H' H1 m1 v x ∧ Ct g W rel' m Hs (f x h1) σ Q := by
  cases r with
  | ok y h' => exact fun m2 H2 v e r2 rv => ⟨m2, y, h', e, x.tr q e, r2, rv, c⟩
  | ex y h' => exact fun m2 H2 e r2 => c m2 H2 (x.tr q e) r2
  | bad => exact c

abbrev D := En → MH → R O
abbrev DA := En → MH → R (List O)
abbrev DB := En → MH → R Bool
def TVv {α β : Type} (g : G) (W : WX) (rel : Rel α β) (d : En → MH → R α) : St → Hp → (β → Hp → Prop) → Prop :=
  fun σ H Q => ∃ m ρ h, RepH g m H h ∧ REnv g.K H m σ ρ ∧ Ct g W rel m H (d ρ h) σ Q
abbrev TEv (g : G) (W : WX) (d : D) : TE := TVv g W (rO g) d
abbrev TAv (g : G) (W : WX) (d : DA) : TA := TVv g W (rOs g) d
abbrev TTv (g : G) (W : WX) (d : DB) : TT := TVv g W rB d
theorem TVv.bind {α β α' β' : Type} {g : G} {W : WX} {rel : Rel α β} {rel' : Rel α' β'} {d : En → MH → R α} {f : En → α → MH → R α'} {σ : St} {H : Hp} {Q : β' → Hp → Prop}
    (t : TVv g W rel' (fun ρ h => (d ρ h).bind (f ρ)) σ H Q) :
    TVv g W rel d σ H fun v H1 => ∃ m0 m1 ρ x h1, Ext m0 m1 H H1 ∧ RepH g m1 H1 h1 ∧ REnv g.K H1 m1 σ ρ ∧ rel H H1 m1 v x ∧ Ct g W rel' m0 H (f ρ x h1) σ Q := by
  obtain ⟨m, ρ, h, rh, re, c⟩ := t
  exact ⟨m, ρ, h, rh, re, (Ct.bind (rel := rel) c).imp fun v H1 ⟨m1, x, h1, e, r1, rv, c1⟩ => ⟨m, m1, ρ, x, h1, e, r1, e.env rh re, rv, c1⟩⟩

abbrev gx (X : Cx) (ca : CA) : G := ⟨X.K, ca⟩
def SE (X : Cx) (ca : CA) (W : WX) (e : Expr) (d : D) : Prop := PE X e (TEv (gx X ca) W d)
def ST (X : Cx) (ca : CA) (W : WX) (e : Expr) (d : DB) : Prop := PT X e (TTv (gx X ca) W d)
def SA (X : Cx) (ca : CA) (W : WX) (es : List Expr) (d : DA) : Prop := PA X es (TAv (gx X ca) W d)
section
variable {X : Cx}
theorem pe_w {e : Expr} {t t' : TE} (h : PE X e t) (i : ∀ σ H Q, t' σ H Q → t σ H Q) : PE X e t' := ⟨fun pins s σ H Q I q => h.run pins s σ H Q I (i σ H Q q)⟩
theorem pt_w {e : Expr} {t t' : TT} (h : PT X e t) (i : ∀ σ H Q, t' σ H Q → t σ H Q) : PT X e t' := ⟨fun pins s σ H Q I q => h.run pins s σ H Q I (i σ H Q q)⟩
theorem pa_w {e : List Expr} {t t' : TA} (h : PA X e t) (i : ∀ σ H Q, t' σ H Q → t σ H Q) : PA X e t' := ⟨fun p pins s σ H Q I q => h.run p pins s σ H Q I (i σ H Q q)⟩
theorem ps_w {e : Stmt} {t t' : TS} (h : PS X e t) (i : ∀ D σ H, t' D σ H → t D σ H) : PS X e t' := ⟨fun pins s σ H D I q => h.run pins s σ H D I (i D σ H q)⟩
theorem pss_w {e : List Stmt} {t t' : TS} (h : PSs X e t) (i : ∀ D σ H, t' D σ H → t D σ H) : PSs X e t' := ⟨fun pins s σ H D I q => h.run pins s σ H D I (i D σ H q)⟩
end

def Mu.add (m : Mu) (n : Nat) (a : Addr) : Mu := fun k => if k = n then some a else m k
theorem Mu.add_same {m : Mu} {n : Nat} {a : Addr} : m.add n a n = some a := if_pos rfl
theorem Mu.add_ne {m : Mu} {n k : Nat} {a : Addr} (h : k ≠ n) : m.add n a k = m k := if_neg h
section
variable {g : G} {m : Mu} {H : Hp} {h : MH}
theorem RepH.fresh (r : RepH g m H h) : m h.length = none := by
  cases e : m h.length with
  | none => rfl
  | some a => exact absurd (r.dom _ _ e) (Nat.lt_irrefl _)
theorem RepH.ne (r : RepH g m H h) {p : Addr} (hp : H p = none) {n : Nat} {a : Addr} (e : m n = some a) : a ≠ p := fun z => by
  obtain ⟨u, q, _⟩ := r.noTup e
  rw [z, hp] at q; cases q
theorem Ext.laid {p : Addr} {o : HO} (hp : H p = none) : Ext m m H (upd H p o) :=
  .of (fun _ _ e => e) (fun _ _ e => .inl e) (fun b u e _ => by rw [upd_ne (ne_of_none e hp)]; exact e) fun b _ u e => by rw [upd_ne (ne_of_none e hp)]; exact e
theorem RepH.laid (r : RepH g m H h) {p : Addr} {o : HO} (hp : H p = none) : RepH g m (upd H p o) h :=
  ⟨r.dom, r.inj, fun n u e => let ⟨a, e1, q⟩ := r.at_ n u e
    ⟨a, e1, q.mono ((Ext.laid (m := m) hp).sqt r) (fun _ _ z => z) (upd_ne (r.ne hp e1))⟩, r.tabs.ext fun b u e => by rw [upd_ne (ne_of_none e hp)]; exact e⟩
theorem Ext.num {p : Addr} {o : HO} (r : RepH g m H h) (hp : H p = none) : Ext m (m.add h.length p) H (upd H p o) := by
  refine .of (fun n a e => ?_) (fun n a e => ?_) (fun b u e _ => by rw [upd_ne (ne_of_none e hp)]; exact e) fun b _ u e => by rw [upd_ne (ne_of_none e hp)]; exact e
  · rw [Mu.add_ne]; exact e
    intro z; rw [z, r.fresh] at e; cases e
  · by_cases hn : n = h.length
    · subst hn; rw [Mu.add_same] at e; cases e; exact .inr hp
    · rw [Mu.add_ne hn] at e; exact .inl e
theorem Ext.numd {p : Addr} (r : RepH g m H h) {m0 : Mu} {H0 : Hp} (x : Ext m0 m H0 H) (hp : H0 p = none) : Ext m0 (m.add h.length p) H0 H := by
  refine ⟨fun n a e => ?_, fun n a e => ?_, x.keep, x.tbls, x.frzs⟩
  · rw [Mu.add_ne]; exact x.le n a e
    intro z; have := x.le n a e; rw [z, r.fresh] at this; cases this
  · by_cases hn : n = h.length
    · subst hn; rw [Mu.add_same] at e; cases e; exact .inr hp
    · rw [Mu.add_ne hn] at e; exact x.new n a e
theorem RepH.numd (r : RepH g m H h) {p : Addr} {o : Ob} (hp : ∀ n, m n ≠ some p) (q : RO g H (m.add h.length p) p o) : RepH g (m.add h.length p) H (h ++ [o]) := by
  refine ⟨fun n a e => ?_, fun n k a e e2 => ?_, fun n u e => ?_, r.tabs⟩
  · by_cases hn : n = h.length
    · subst hn; simp
    · rw [Mu.add_ne hn] at e; have := r.dom n a e; simp; omega
  · by_cases hn : n = h.length
    · by_cases hk : k = h.length
      · rw [hn, hk]
      · subst hn; rw [Mu.add_same] at e; cases e; rw [Mu.add_ne hk] at e2; exact absurd e2 (hp k)
    · by_cases hk : k = h.length
      · subst hk; rw [Mu.add_same] at e2; cases e2; rw [Mu.add_ne hn] at e; exact absurd e (hp n)
      · rw [Mu.add_ne hn] at e; rw [Mu.add_ne hk] at e2; exact r.inj n k a e e2
  · by_cases hn : n < h.length
    · rw [List.getElem?_append_left hn] at e
      obtain ⟨a, e1, q1⟩ := r.at_ n u e
      refine ⟨a, by rw [Mu.add_ne (Nat.ne_of_lt hn)]; exact e1, q1.mono Kp.refl (fun k b z => ?_) rfl⟩
      rw [Mu.add_ne]; exact z
      exact Nat.ne_of_lt (r.dom k b z)
    · have hn2 : n = h.length := by
        rcases Nat.lt_or_ge n (h.length + 1) with z | z
        · omega
        · rw [List.getElem?_eq_none (by simpa using z)] at e; cases e
      subst hn2
      rw [List.getElem?_append_right (Nat.le_refl _)] at e
      simp at e
      subst e
      exact ⟨p, Mu.add_same, q⟩
theorem Ext.upd {n : Nat} {a : Addr} {o : HO} (e : m n = some a) (nf : ∀ o u, H a ≠ some (.frz o u)) : Ext m m H (upd H a o) :=
  .of (fun _ _ z => z) (fun _ _ z => .inl z) (fun b u z q => by
    rw [upd_ne]; exact z
    intro w; exact q n (by rw [w]; exact e)) fun b o u z => by
    rw [upd_ne]; exact z
    intro w; exact nf o u (by rw [← w]; exact z)
theorem RepH.kpu (r : RepH g m H h) {n : Nat} {a : Addr} {o : HO} (e : m n = some a) : Kp H (L2.upd H a o) := by
  obtain ⟨u, eu, n1, n2, _, _, n3⟩ := r.noTup e
  refine ⟨fun b xs z => ?_, fun b o xs z => ?_, fun b us z => ?_⟩
  · rw [upd_ne]; exact z
    intro w; rw [w, eu] at z; cases z; exact n1 _ rfl
  · rw [upd_ne]; exact z
    intro w; rw [w, eu] at z; cases z; exact n2 _ _ rfl
  · rw [upd_ne]; exact z
    intro w; rw [w, eu] at z; cases z; exact n3 _ rfl
theorem RepH.upd (r : RepH g m H h) {n : Nat} {a : Addr} {o : HO} {u : Ob} (e : m n = some a) (q : RO g (L2.upd H a o) m a u) : RepH g m (L2.upd H a o) (h.set n u) := by
  refine ⟨fun k b z => by rw [List.length_set]; exact r.dom k b z, r.inj, fun k w z => ?_, ?_⟩
  rotate_left
  · obtain ⟨u', e', _, _, n1, n2, _⟩ := r.noTup e
    exact tabs_but (a := a) r.tabs (fun b o hb q => by rw [upd_ne hb]; exact q) (fun ps z => n1 ps (Option.some.inj (e'.symm.trans z))) (fun q z => n2 q (Option.some.inj (e'.symm.trans z)))
  by_cases hk : n = k
  · subst hk
    rw [List.getElem?_set_self (r.dom n a e)] at z
    cases z
    exact ⟨a, e, q⟩
  · rw [List.getElem?_set_ne hk] at z
    obtain ⟨b, e1, q1⟩ := r.at_ k w z
    refine ⟨b, e1, q1.mono (r.kpu e) (fun _ _ z => z) (upd_ne ?_)⟩
    intro z2; exact hk (r.inj n k b (by rw [z2]; exact e) e1)
end
end Mi

namespace Mi
open PySem L2

section
variable {g : G} {W : WX} {m : Mu} {σ : St} {H H0 : Hp} {h : MH}
theorem TVv.imp {α β : Type} {rel : Rel α β} {d : En → MH → R α} {Q Q' : β → Hp → Prop} (t : TVv g W rel d σ H Q) (i : ∀ v H', Q v H' → Q' v H') : TVv g W rel d σ H Q' := by
  obtain ⟨m, ρ, h, rh, re, c⟩ := t
  exact ⟨m, ρ, h, rh, re, c.imp i⟩
theorem Ct.val {m0 : Mu} {Hs : Hp} {x : Val} {v : V} {Q : VK} (c : Ct g W (rO g) m0 Hs (.ok (.v x) h) σ Q) (e : Ext m0 m Hs H) (r : RepH g m H h) (q : RV g.K H m v x) : Q v H := c m H v e r q
theorem Ct.new {m0 : Mu} {Hs : Hp} {xs : List Val} {vs : List V} {Q : VK} (c : Ct g W (rO g) m0 Hs (.ok (.n xs) h) σ Q) (e : Ext m0 m Hs H) (r : RepH g m H h) (q : RVs g.K H m vs xs) : ∀ p, H p = none → Q (.ref p) (upd H p (.lst vs)) := fun p hp =>
  c m _ _ (e.tr r (Ext.laid hp)) (r.laid hp) ⟨p, vs, rfl, upd_same, fun n e => r.ne hp e rfl, e.free r p hp, (Ext.laid hp).rvs r q⟩
theorem Ct.tup {m0 : Mu} {Hs : Hp} {xs : List Val} {vs : List V} {Q : VK} (c : Ct g W (rO g) m0 Hs (.ok (.v (.tup xs)) h) σ Q) (e : Ext m0 m Hs H) (r : RepH g m H h) (q : RVs g.K H m vs xs) : ∀ p, H p = none → Q (.ref p) (upd H p (.tup vs)) := fun p hp =>
  c m _ _ (e.tr r (Ext.laid hp)) (r.laid hp) (RV.tup upd_same ((Ext.laid hp).rvs r q))
end

inductive LK where | mu | fz | tp
def seqO (h : MH) : O → Option (LK × List Val)
  | .n xs => some (.mu, xs)
  | .v (.tup xs) => some (.tp, xs)
  | .v (.fl xs) => some (.fz, xs)
  | .v (.ref n) => match h[n]? with
    | some (.lst xs) => some (.mu, xs)
    | _ => none
  | _ => none
def LKOk (K : PySem.W.Frag) (H : Hp) (a : Addr) (vs : List V) : LK → Prop
  | .mu => H a = some (.lst vs)
  | .fz => FzL K H a vs
  | .tp => H a = some (.tup vs)
theorem LKOk.sq {K : PySem.W.Frag} {H : Hp} {a : Addr} {vs : List V} {k : LK} (x : LKOk K H a vs k) : SqL K H a vs ∨ SqT K H a vs := by
  cases k with
  | mu => exact .inl (SqL.of x)
  | fz => exact .inl (FzL.sql x)
  | tp => exact .inr (SqT.of x)
theorem LKOk.sql {K : PySem.W.Frag} {H : Hp} {a : Addr} {vs : List V} {k : LK} (x : LKOk K H a vs k) (hk : k ≠ .tp) : SqL K H a vs := by
  cases k with
  | mu => exact SqL.of x
  | fz => exact FzL.sql x
  | tp => exact absurd rfl hk
theorem seqO_ok {g : G} {m : Mu} {H H0 : Hp} {h : MH} {v : V} {o : O} {k : LK} {xs : List Val} (r : RepH g m H h) (q : rO g H0 H m v o) (e : seqO h o = some (k, xs)) :
    ∃ a vs, v = .ref a ∧ LKOk g.K H a vs k ∧ RVs g.K H m vs xs := by
  cases o with
  | n ys =>
    simp only [seqO, Option.some.injEq, Prod.mk.injEq] at e
    obtain ⟨rfl, rfl⟩ := e
    obtain ⟨a, vs, e1, e2, _, _, e5⟩ := q
    exact ⟨a, vs, e1, e2, e5⟩
  | v x =>
    cases x with
    | tup ys =>
      simp only [seqO, Option.some.injEq, Prod.mk.injEq] at e
      obtain ⟨rfl, rfl⟩ := e
      cases q with
      | tup h1 h2 => exact ⟨_, _, rfl, h1, h2⟩
    | fl ys =>
      simp only [seqO, Option.some.injEq, Prod.mk.injEq] at e
      obtain ⟨rfl, rfl⟩ := e
      cases q with
      | fl h1 h2 => exact ⟨_, _, rfl, h1, h2⟩
    | ref n =>
      simp only [seqO] at e
      cases q with
      | ref hm =>
        split at e
        · rename_i ys hy
          simp only [Option.some.injEq, Prod.mk.injEq] at e
          obtain ⟨rfl, rfl⟩ := e
          obtain ⟨a, e1, vs, e2, e3⟩ := r.at_ _ _ hy
          rw [hm] at e1; cases e1
          exact ⟨_, vs, rfl, e2, e3⟩
        · cases e
    | _ => simp [seqO] at e
theorem rO.int {g : G} {m : Mu} {H H0 : Hp} {v : V} {i : Int} (q : rO g H0 H m v (.v (.int i))) : v = .int i := by cases q; rfl
theorem rO.bl {g : G} {m : Mu} {H H0 : Hp} {v : V} {i : Bool} (q : rO g H0 H m v (.v (.bl i))) : v = .bl i := by cases q; rfl
theorem rO.str {g : G} {m : Mu} {H H0 : Hp} {v : V} {i : List Nat} (q : rO g H0 H m v (.v (.str i))) : v = .str (sOf i) := by cases q; rfl
theorem rO.strv {g : G} {m : Mu} {H H0 : Hp} {v : V} {i : List Nat} (q : rO g H0 H m v (.v (.str i))) : ∀ c ∈ i, c < 1114112 := by cases q; assumption
theorem rO.non {g : G} {m : Mu} {H H0 : Hp} {v : V} (q : rO g H0 H m v (.v .non)) : v = .non := by cases q; rfl

def dVar (i : Nat) : D := fun ρ h => match ρ[i]? with
  | some (some x) => .ok (.v x) h
  | _ => .bad
def dC (x : Val) : D := fun _ h => .ok (.v x) h
section
variable {X : Cx} {ca : CA} {W : WX} {a b c e : Expr} {da db dc d : D} {pos : Pos}
theorem se_var (i : Nat) {x : Str} (hN : X.N[i]? = some x := by rfl) (hv : Vis X.env.scope x := by first | exact Or.inl rfl | exact Or.inr (Or.inl rfl) | exact Or.inr (Or.inr rfl)) (hd : (x == ("__debug__" : Str)) = false := by decide +kernel)
    (hcd : (x == ("__classdict__" : Str)) = false := by decide +kernel) : SE X ca W (.Name x pos) (dVar i) :=
  pe_w (pe_var hN hv hd hcd) fun σ H Q ⟨m, ρ, h, rh, re, c⟩ => by
    unfold dVar at c
    split at c
    · rename_i x e
      obtain ⟨v, e1, rv⟩ := re.at_ i x e
      exact ⟨v, e1, Ct.val c Ext.refl rh rv⟩
    · exact c.elim
theorem se_c {x : Val} {v : V} {e : Expr} (hp : PE X e (tC v)) (hr : ∀ H m, RV X.K H m v x) : SE X ca W e (dC x) :=
  pe_w hp fun σ H Q ⟨m, ρ, h, rh, re, c⟩ => Ct.val c Ext.refl rh (hr H m)
theorem se_int {i : Int} {j : Nat} : SE X ca W (.Constant (.int i) j pos) (dC (.int i)) := se_c pe_int fun _ _ => .int i
theorem se_bl {i : Bool} {j : Nat} : SE X ca W (.Constant (.bool i) j pos) (dC (.bl i)) := se_c pe_bl fun _ _ => .bl i
theorem se_str (s : List Nat) {x : Str} {j : Nat} (hx : x = sOf s := by decide +kernel) (hv : s.all (fun c => decide (c < 1114112)) = true := by decide +kernel) : SE X ca W (.Constant (.str x) j pos) (dC (.str s)) := se_c pe_str fun _ _ => by
  rw [hx]
  exact .str s fun c hc => of_decide_eq_true (List.all_eq_true.mp hv c hc)
theorem SE.congr {d d' : D} (h : SE X ca W e d) (q : ∀ ρ h, d' ρ h = d ρ h) : SE X ca W e d' :=
  pe_w h fun σ H Q ⟨m, ρ, h, rh, re, c⟩ => ⟨m, ρ, h, rh, re, by rw [← q]; exact c⟩

def dOp (f : O → O → MH → R O) (da db : D) : D := fun ρ h => (da ρ h).bind fun x h1 => (db ρ h1).bind fun y h2 => f x y h2
def FOk (g : G) (W : WX) (f : O → O → MH → R O) (r : R2) : Prop :=
  ∀ (m0 m : Mu) (σ : St) (Hs H0 H1 H : Hp) (h : MH) (v u : V) (x y : O) (Q : VK), Ext m0 m Hs H → RepH g m H h → rO g H0 H m v x → rO g H1 H m u y → Ct g W (rO g) m0 Hs (f x y h) σ Q → r v u H Q
theorem tv_op {g : G} {f : O → O → MH → R O} {r : R2} (ho : FOk g W f r) {σ : St} {H : Hp} {Q : VK} (t : TEv g W (dOp f da db) σ H Q) : tOp r (TEv g W da) (TEv g W db) σ H Q := by
  refine TVv.imp (TVv.bind (rel := rO g) (f := fun ρ x h1 => (db ρ h1).bind fun y h2 => f x y h2) t) ?_
  rintro v H1 ⟨m0, m1, ρ, x, h1, fr, r1, e1, rv, c⟩
  refine ⟨m1, ρ, h1, r1, e1, (Ct.step (rel := rO g) fr r1 c).imp ?_⟩
  rintro u H2 ⟨m2, y, h2, ex, fr2, r2, rv2, c2⟩
  exact ho m0 m2 σ H H H1 H2 h2 v u x y Q fr2 r2 (ex.ro r1 rv) rv2 c2
theorem se_op {op : Operator} {f : O → O → MH → R O} {r : R2} (hr : OpR X (binaryOp op) r) (ho : FOk (gx X ca) W f r) (ha : SE X ca W a da) (hb : SE X ca W b db) : SE X ca W (.BinOp a op b pos) (dOp f da db) :=
  pe_w (pe_op hr ha hb) fun σ H Q t => tv_op ho t
theorem se_cmp {op : CmpOp} {f : O → O → MH → R O} {r : R2} (hr : OpR X (compareOp op) r) (ho : FOk (gx X ca) W f r) (ha : SE X ca W a da) (hb : SE X ca W b db) (hm : behindInMarks op b = false := by first | exact nomark _ | rfl) : SE X ca W (.Compare a [op] [b] pos) (dOp f da db) :=
  pe_w (pe_cmpR hr ha hb hm) fun σ H Q t => tv_op ho t
def asB (o : O) (h : MH) : R Bool := match o with
  | .v (.bl b) => .ok b h
  | _ => .bad
def dT (d : D) : DB := fun ρ h => (d ρ h).bind asB
theorem asB_ok {g : G} {W : WX} {m0 m : Mu} {σ : St} {H H0 : Hp} {h : MH} {v : V} {o : O} {Q : Bool → Hp → Prop} {Hs : Hp} (e : Ext m0 m Hs H) (r : RepH g m H h) (q : rO g H0 H m v o) (c : Ct g W rB m0 Hs (asB o h) σ Q) : ∃ k, v = .bl k ∧ Q k H := by
  unfold asB at c
  split at c
  · exact ⟨_, rO.bl q, c m H _ e r rfl⟩
  · exact c.elim
theorem tv_T {g : G} {t : TE} (i : ∀ σ H Q, TEv g W d σ H Q → t σ H Q) {σ : St} {H : Hp} {Q : Bool → Hp → Prop} (q : TTv g W (dT d) σ H Q) : tTest t σ H Q := by
  refine i σ H _ (TVv.imp (TVv.bind (rel := rO g) (f := fun _ => asB) q) ?_)
  rintro v H1 ⟨m0, m1, ρ, x, h1, fr, r1, e1, rv, c⟩
  exact asB_ok fr r1 rv c
theorem st_cmp {op : CmpOp} {f : O → O → MH → R O} {r : R2} (hr : OpR X (compareOp op) r) (ho : FOk (gx X ca) W f r) (ha : SE X ca W a da) (hb : SE X ca W b db) (hm : behindInMarks op b = false := by first | exact nomark _ | rfl) : ST X ca W (.Compare a [op] [b] pos) (dT (dOp f da db)) :=
  pt_w (pt_cmpR hr ha hb hm) fun σ H Q t => tv_T (fun σ H Q t => tv_op ho t) t
theorem st_val (he : SE X ca W e d) (hi : ∀ whole, isTrue e X.env whole = (do let v ← whole; standAt e.pos; holding [v] (truthy v)) := by intro _; rfl) : ST X ca W e (dT d) :=
  pt_w (pt_val he hi) fun σ H Q t => tv_T (t := TEv (gx X ca) W d) (fun σ H Q t => t) t
def dCh (f f' : O → O → MH → R O) (da db dc : D) : D := fun ρ h => (da ρ h).bind fun x h1 => (db ρ h1).bind fun y h2 => (f x y h2).bind fun z h3 => match z with
  | .v (.bl true) => (dc ρ h3).bind fun w h4 => f' y w h4
  | .v (.bl false) => .ok (.v (.bl false)) h3
  | _ => .bad
variable {ta tb : DB} {rest : List Expr}
def SW (X : Cx) (ca : CA) (W : WX) (e : Expr) (d : DB) : Prop := PW X e (TTv (gx X ca) W d)
theorem pw_w {e : Expr} {t t' : TT} (h : PW X e t) (i : ∀ σ H Q, t' σ H Q → t σ H Q) : PW X e t' := ⟨fun wh pins s σ H Q I q => h.run wh pins s σ H Q I (i σ H Q q)⟩
def bAnd (ta tb : DB) : DB := fun ρ h => (ta ρ h).bind fun b h1 => if b = true then tb ρ h1 else .ok false h1
def bOr (ta tb : DB) : DB := fun ρ h => (ta ρ h).bind fun b h1 => if b = true then .ok true h1 else tb ρ h1
def bNot (ta : DB) : DB := fun ρ h => (ta ρ h).bind fun b h1 => .ok (!b) h1
theorem SW.st (h : SW X ca W e ta) : ST X ca W e ta := h.pt
theorem sw_and1 (ha : ST X ca W a ta) : SW X ca W (.BoolOp .And [a] pos) ta := pw_and1 ha
theorem sw_or1 (ha : ST X ca W a ta) : SW X ca W (.BoolOp .Or [a] pos) ta := pw_or1 ha
theorem Ct.okB {g : G} {m0 m : Mu} {σ : St} {H : Hp} {h : MH} {k : Bool} {Hs : Hp} {Q : Bool → Hp → Prop} (c : Ct g W rB m0 Hs (.ok k h) σ Q) (e : Ext m0 m Hs H) (r : RepH g m H h) : Q k H := c m H k e r rfl
theorem sw_and (ha : ST X ca W a ta) (hb : SW X ca W (.BoolOp .And (b :: rest) pos) tb) : SW X ca W (.BoolOp .And (a :: b :: rest) pos) (bAnd ta tb) :=
  pw_w (pw_and ha hb) fun σ H Q t => by
    refine TVv.imp (TVv.bind (rel := rB) (f := fun ρ b h1 => if b = true then tb ρ h1 else .ok false h1) t) ?_
    rintro v H1 ⟨m0, m1, ρ, x, h1, fr, r1, e1, rfl, c⟩
    cases v with
    | true => rw [if_pos rfl]; rw [if_pos rfl] at c; exact ⟨m1, ρ, h1, r1, e1, c.later back_B fr r1⟩
    | false => rw [if_neg Bool.false_ne_true]; rw [if_neg Bool.false_ne_true] at c; exact Ct.okB c fr r1
theorem sw_or (ha : ST X ca W a ta) (hb : SW X ca W (.BoolOp .Or (b :: rest) pos) tb) : SW X ca W (.BoolOp .Or (a :: b :: rest) pos) (bOr ta tb) :=
  pw_w (pw_or ha hb) fun σ H Q t => by
    refine TVv.imp (TVv.bind (rel := rB) (f := fun ρ b h1 => if b = true then .ok true h1 else tb ρ h1) t) ?_
    rintro v H1 ⟨m0, m1, ρ, x, h1, fr, r1, e1, rfl, c⟩
    cases v with
    | true => rw [if_pos rfl]; rw [if_pos rfl] at c; exact Ct.okB c fr r1
    | false => rw [if_neg Bool.false_ne_true]; rw [if_neg Bool.false_ne_true] at c; exact ⟨m1, ρ, h1, r1, e1, c.later back_B fr r1⟩
theorem st_not (ha : ST X ca W a ta) : ST X ca W (.UnaryOp .Not a pos) (bNot ta) :=
  pt_w (L2.pt_not ha) fun σ H Q t => by
    refine TVv.imp (TVv.bind (rel := rB) (f := fun ρ b h1 => .ok (!b) h1) t) ?_
    rintro v H1 ⟨m0, m1, ρ, x, h1, fr, r1, e1, rfl, c⟩
    exact Ct.okB c fr r1
def dAnd (da db : D) : D := fun ρ h => (da ρ h).bind fun o h1 => match o with
  | .v (.bl true) => db ρ h1
  | .v (.bl false) => .ok (.v (.bl false)) h1
  | _ => .bad
def dOr (da db : D) : D := fun ρ h => (da ρ h).bind fun o h1 => match o with
  | .v (.bl true) => .ok (.v (.bl true)) h1
  | .v (.bl false) => db ρ h1
  | _ => .bad
def dNot (da : D) : D := fun ρ h => (da ρ h).bind fun o h1 => match o with
  | .v (.bl b) => .ok (.v (.bl (!b))) h1
  | _ => .bad
theorem se_one {op : BoolOp} (ha : SE X ca W a da) : SE X ca W (.BoolOp op [a] pos) da := pe_one ha
theorem se_and (ha : SE X ca W a da) (hb : SE X ca W (.BoolOp .And (b :: rest) pos) db) : SE X ca W (.BoolOp .And (a :: b :: rest) pos) (dAnd da db) :=
  pe_w (pe_and ha hb) fun σ H Q t => by
    refine TVv.imp (TVv.bind (rel := rO (gx X ca)) (f := fun ρ o h1 => match o with
  | .v (.bl true) => db ρ h1
  | .v (.bl false) => .ok (.v (.bl false)) h1
  | _ => .bad) t) ?_
    rintro v H1 ⟨m0, m1, ρ, x, h1, fr, r1, e1, rv, c⟩
    split at c
    · cases rO.bl rv
      exact ⟨true, rfl, by rw [if_pos rfl]; exact ⟨m1, ρ, h1, r1, e1, c.later back_O fr r1⟩⟩
    · cases rO.bl rv
      exact ⟨false, rfl, by rw [if_neg Bool.false_ne_true]; exact Ct.val c fr r1 (.bl _)⟩
    · exact c.elim
def dIf (t : DB) (da db : D) : D := fun ρ h => (t ρ h).bind fun b h1 => if b = true then da ρ h1 else db ρ h1
theorem se_if {c : Expr} (hc : ST X ca W c ta) (ha : SE X ca W a da) (hb : SE X ca W b db) : SE X ca W (.IfExp c a b pos) (dIf ta da db) :=
  pe_w (pe_ifExp hc ha hb) fun σ H Q t => by
    refine TVv.imp (TVv.bind (rel := rB) (f := fun ρ b h1 => if b = true then da ρ h1 else db ρ h1) t) ?_
    rintro v H1 ⟨m0, m1, ρ, x, h1, fr, r1, e1, rfl, c⟩
    cases v with
    | true => rw [if_pos rfl]; rw [if_pos rfl] at c; exact ⟨m1, ρ, h1, r1, e1, c.later back_O fr r1⟩
    | false => rw [if_neg Bool.false_ne_true]; rw [if_neg Bool.false_ne_true] at c; exact ⟨m1, ρ, h1, r1, e1, c.later back_O fr r1⟩
def dU (f : O → MH → R O) (da : D) : D := fun ρ h => (da ρ h).bind f
def FOk1 (g : G) (W : WX) (f : O → MH → R O) (r : V → Hp → VK → Prop) : Prop :=
  ∀ (m0 m : Mu) (σ : St) (Hs H0 H : Hp) (h : MH) (v : V) (x : O) (Q : VK), Ext m0 m Hs H → RepH g m H h → rO g H0 H m v x → Ct g W (rO g) m0 Hs (f x h) σ Q → r v H Q
theorem tv_U {g : G} {f : O → MH → R O} {r : V → Hp → VK → Prop} (ho : FOk1 g W f r) {σ : St} {H : Hp} {Q : VK} (t : TEv g W (dU f da) σ H Q) : TEv g W da σ H fun x H1 => r x H1 Q := by
  refine TVv.imp (TVv.bind (rel := rO g) (f := fun _ => f) t) ?_
  rintro v H1 ⟨m0, m1, ρ, x, h1, fr, r1, e1, rv, c⟩
  exact ho m0 m1 σ H H H1 h1 v x Q fr r1 rv c
def fIsN (o : O) (h : MH) : R O := match o with
  | .v .non => .ok (.v (.bl true)) h
  | _ => .ok (.v (.bl false)) h
theorem isN_rO {g : G} {H0 H : Hp} {m : Mu} {v : V} {o : O} (q : rO g H0 H m v o) : decide (v = .non) = (match o with | .v .non => true | _ => false) := by
  cases o with
  | n xs => obtain ⟨a, vs, rfl, _⟩ := q; rfl
  | v x => cases q <;> rfl
theorem fIsN_ok {g : G} : FOk1 g W fIsN (fun x H Q => Q (.bl (decide (x = .non))) H) := fun m0 m σ Hs H0 H h v x Q fr r q c => by
  show Q (.bl (decide (v = .non))) H
  rw [isN_rO q]
  cases x with
  | n xs => exact Ct.val c fr r (.bl _)
  | v x => cases x <;> exact Ct.val c fr r (.bl _)
theorem se_isN {j : Nat} {p : Pos} (ha : SE X ca W a da) : SE X ca W (.Compare a [.Is] [.Constant .none j p] pos) (dU fIsN da) :=
  pe_w (pe_cmp (pc_isN ha)) fun σ H Q t => tv_U fIsN_ok t
theorem st_isN {j : Nat} {p : Pos} (ha : SE X ca W a da) : ST X ca W (.Compare a [.Is] [.Constant .none j p] pos) (dT (dU fIsN da)) :=
  pt_w (pt_cmp (pc_isN ha)) fun σ H Q t => tv_T (fun σ H Q t => tv_U fIsN_ok t) t
def aNil : DA := fun _ h => .ok [] h
def aCons (d : D) (t : DA) : DA := fun ρ h => (d ρ h).bind fun o h1 => (t ρ h1).bind fun os h2 => .ok (o :: os) h2
variable {es : List Expr} {ds : DA}
theorem sa_nil : SA X ca W [] aNil := pa_w pa_nil fun σ H Q ⟨m, ρ, h, rh, re, c⟩ => c m H [] Ext.refl rh .nil
theorem sa_cons (ha : SE X ca W e d) (hr : SA X ca W es ds) (hs : starEach (e :: es) X.env = (false, eval e X.env) :: starEach es X.env := by rfl) : SA X ca W (e :: es) (aCons d ds) :=
  pa_w (pa_cons ha hr hs) fun σ H Q t => by
    refine TVv.imp (TVv.bind (rel := rO (gx X ca)) (f := fun ρ o h1 => (ds ρ h1).bind fun os h2 => .ok (o :: os) h2) t) ?_
    rintro v H1 ⟨m0, m1, ρ, x, h1, fr, r1, e1, rv, c⟩
    refine ⟨m1, ρ, h1, r1, e1, (Ct.step (rel := rOs (gx X ca)) fr r1 c).imp ?_⟩
    rintro vs H2 ⟨m2, xs, h2, ex, fr2, r2, rv2, c2⟩
    exact c2 m2 H2 (v :: vs) fr2 r2 (.cons (ex.ro r1 rv) (back_Os _ _ _ _ _ _ (fr.free r1) rv2))
end
end Mi

namespace Mi
open PySem L2

theorem sl_eq : sizeLine = 16777216 := sizeLine_eq
def fAdd (x y : O) (h : MH) : R O := match x, y with
  | .v (.int i), .v (.int j) => .ok (.v (.int (i + j))) h
  | .v (.str a), .v (.str b) => if a.length + b.length ≤ 16777216 then .ok (.v (.str (a ++ b))) h else .bad
  | _, _ => match seqO h x, seqO h y with
    | some (.mu, xs), some (.mu, ys) => if xs.length + ys.length ≤ 16777216 then .ok (.n (xs ++ ys)) h else .bad
    | some (.tp, xs), some (.tp, ys) => if xs.length + ys.length ≤ 16777216 then .ok (.v (.tup (xs ++ ys))) h else .bad
    | _, _ => .bad
abbrev rAddAll (K : PySem.W.Frag) : R2 := fun x y H Q => (∃ i j, x = .int i ∧ y = .int j ∧ Q (.int (i + j)) H) ∨ (∃ i j, x = .str i ∧ y = .str j ∧ i.length + j.length ≤ sizeLine ∧ Q (.str (i ++ j)) H) ∨ rCat x y H Q ∨ rCatA K x y H Q
theorem op_addAll {X : Cx} : OpR X (binaryOp .Add) (rAddAll X.K) := OpR.or op_add (OpR.or op_add_str (OpR.or op_cat op_catA))
theorem sOf_append (a b : List Nat) : sOf a ++ sOf b = sOf (a ++ b) := by
  show (⟨a.toArray ++ b.toArray⟩ : Str) = ⟨(a ++ b).toArray⟩
  simp
theorem sOf_length (a : List Nat) : (sOf a).length = a.length := by simp [sOf, Str.length]
theorem fAdd_ok {g : G} {W : WX} : FOk g W fAdd (rAddAll g.K) := by
  intro m0 m σ Hs H0 H1 H h v u x y Q fr r q1 q2 c
  unfold fAdd at c
  split at c
  · cases rO.int q1; cases rO.int q2
    exact .inl ⟨_, _, rfl, rfl, Ct.val c fr r (.int _)⟩
  · have w1 := q1
    have w2 := q2
    cases rO.str q1; cases rO.str q2
    split at c
    · rename_i a b hz
      refine .inr (.inl ⟨_, _, rfl, rfl, by rw [sOf_length, sOf_length, sl_eq]; exact hz, ?_⟩)
      rw [sOf_append]
      exact Ct.val c fr r (.str _ fun k hk => (List.mem_append.mp hk).elim (rO.strv w1 k) (rO.strv w2 k))
    · exact c.elim
  · split at c
    · rename_i xs ys ex ey
      split at c
      · rename_i hz
        obtain ⟨a, vs, rfl, la, ra⟩ := seqO_ok r q1 ex
        obtain ⟨b, us, rfl, lb, rb⟩ := seqO_ok r q2 ey
        refine .inr (.inr (.inl ⟨a, b, vs, us, rfl, rfl, la, lb, by rw [ra.length, rb.length, sl_eq]; exact hz, Ct.new c fr r (ra.append rb)⟩))
      · exact c.elim
    · rename_i xs ys ex ey
      split at c
      · rename_i hz
        obtain ⟨a, vs, rfl, la, ra⟩ := seqO_ok r q1 ex
        obtain ⟨b, us, rfl, lb, rb⟩ := seqO_ok r q2 ey
        have la' : H a = some (.tup vs) := la
        have lb' : H b = some (.tup us) := lb
        refine .inr (.inr (.inr ⟨a, b, vs, us, rfl, rfl, SqT.of la', SqT.of lb', by rw [ra.length, rb.length, sl_eq]; exact hz, fun e => ?_, fun _ e => ?_, fun _ _ => Ct.tup c fr r (ra.append rb)⟩))
        · subst e; cases ra; exact Ct.val c fr r (.tup lb' rb)
        · subst e; cases rb; rw [List.append_nil] at c; exact Ct.val c fr r (.tup la' ra)
      · exact c.elim
    · exact c.elim
def fSub (x y : O) (h : MH) : R O := match x, y with
  | .v (.int i), .v (.int j) => .ok (.v (.int (i - j))) h
  | _, _ => .bad
abbrev rMulS : R2 := fun x y H Q => ∃ (a : List Nat) (n : Int), x = .str (sOf a) ∧ y = .int n ∧ -(2 ^ 63) ≤ n ∧ n < 2 ^ 63 ∧ a.length * n.toNat ≤ 16777216 ∧ Q (.str (sOf (List.replicate n.toNat a).flatten)) H
theorem fold_rep (a : List Nat) : ∀ (k : Nat) (acc : List Nat), List.foldl (fun x1 x2 => x1 ++ x2) acc.toArray (List.replicate k a.toArray) = (acc ++ (List.replicate k a).flatten).toArray
  | 0, acc => by simp
  | k + 1, acc => by
    rw [List.replicate_succ, List.foldl_cons, List.replicate_succ, List.flatten_cons, ← List.append_assoc, ← fold_rep a k (acc ++ a)]
    simp
theorem txt_mul (a : List Nat) (n : Int) : Txt.mul (sOf a) n = sOf (List.replicate n.toNat a).flatten := by
  unfold Txt.mul
  split
  · rename_i hn
    have e : n.toNat = 0 := by omega
    rw [e]; rfl
  · split
    · rename_i hn hb
      rw [sOf_length] at hb
      have hb' : n = 1 ∨ a.length = 0 := by simpa using hb
      rcases hb' with e | e
      · subst e; simp
      · have : a = [] := List.eq_nil_of_length_eq_zero e
        subst this
        have e2 : ∀ k, (List.replicate k ([] : List Nat)).flatten = [] := fun k => by simp
        rw [e2]
    · have e := fold_rep a n.toNat []
      simp only [List.nil_append] at e
      show (⟨(List.replicate n.toNat a.toArray).foldl (fun x1 x2 => x1 ++ x2) #[]⟩ : Str) = _
      rw [e]
theorem op_mulS {X : Cx} : OpR X (binaryOp .Mult) rMulS := by
  intro pins s σ H x y v u Q I rx ry h
  obtain ⟨a, n, rfl, rfl, h1, h2, hz, q⟩ := h
  obtain ⟨t, rfl⟩ := rx
  obtain ⟨t', rfl⟩ := ry
  have hl : (sOf a).length = a.length := sOf_length a
  have ok : MulOk (sOf a) n := by
    refine ⟨?_, ?_, ?_⟩
    · have e1 : decide (n < -(2 ^ 63 : Int)) = false := decide_eq_false (by omega)
      have e2 : decide (n ≥ (2 ^ 63 : Int)) = false := decide_eq_false (by omega)
      rw [e1, e2]; rfl
    · intro hn hb hc
      rw [hl] at hc
      have e : ((a.length * n.toNat : Nat) : Int) = (a.length : Int) * n := by
        rw [Int.natCast_mul, Int.toNat_of_nonneg (by omega)]
      have h5 : (a.length : Int) * n ≤ 16777216 := by
        rw [← e]
        exact Int.ofNat_le.mpr hz
      have h6 : (a.length : Int) ≤ (2 ^ 63 - 1) / n := by
        rw [Int.le_ediv_iff_mul_le (by omega)]
        have : (16777216 : Int) ≤ 2 ^ 63 - 1 := by decide
        omega
      omega
    · intro _ _
      rw [hl]
      exact notLongL (n := a.length * n.toNat) (by rw [sl_eq]; exact hz)
  refine PySem.SB.mul ok fun t' k => ?_
  rw [txt_mul]
  exact ⟨.str _, H, I.tok _, ⟨_, rfl⟩, q⟩
def fMul (x y : O) (h : MH) : R O := match x, y with
  | .v (.int i), .v (.int j) => if (-18446744073709551616 < i ∧ i < 18446744073709551616) ∨ (-18446744073709551616 < j ∧ j < 18446744073709551616) then .ok (.v (.int (i * j))) h else .bad
  | .v (.str a), .v (.int n) => if -9223372036854775808 ≤ n ∧ n < 9223372036854775808 ∧ a.length * n.toNat ≤ 16777216 then .ok (.v (.str (List.replicate n.toNat a).flatten)) h else .bad
  | _, .v (.int n) => match seqO h x with
    | some (.mu, xs) => if -9223372036854775808 ≤ n ∧ n < 9223372036854775808 ∧ xs.length * n.toNat ≤ 16777216 then .ok (.n (List.replicate n.toNat xs).flatten) h else .bad
    | _ => .bad
  | _, _ => .bad
abbrev rMulAll : R2 := fun x y H Q => rI CMul (fun i j => .int (i * j)) x y H Q ∨ rMulS x y H Q ∨ rRep x y H Q
theorem op_mulAll {X : Cx} : OpR X (binaryOp .Mult) rMulAll := OpR.or op_mul (OpR.or op_mulS op_rep)
theorem fMul_ok {g : G} {W : WX} : FOk g W fMul rMulAll := by
  intro m0 m σ Hs H0 H1 H h v u x y Q fr r q1 q2 c
  unfold fMul at c
  split at c
  · cases rO.int q1; cases rO.int q2
    split at c
    · rename_i hz
      exact .inl ⟨_, _, rfl, rfl, hz, Ct.val c fr r (.int _)⟩
    · exact c.elim
  · have w1 := q1
    cases rO.str q1; cases rO.int q2
    split at c
    · rename_i hz
      refine .inr (.inl ⟨_, _, rfl, rfl, hz.1, hz.2.1, hz.2.2, Ct.val c fr r (.str _ fun k hk => ?_)⟩)
      obtain ⟨l, h1, h2⟩ := List.mem_flatten.mp hk
      rw [(List.mem_replicate.mp h1).2] at h2
      exact rO.strv w1 k h2
    · exact c.elim
  · cases rO.int q2
    split at c
    · rename_i ex
      obtain ⟨a, vs, rfl, la, ra⟩ := seqO_ok r q1 ex
      split at c
      · rename_i hz
        exact .inr (.inr ⟨a, _, vs, rfl, rfl, la, hz.1, hz.2.1, by rw [ra.length, sl_eq]; exact hz.2.2, Ct.new c fr r (ra.rep _)⟩)
      · exact c.elim
    · exact c.elim
  · exact c.elim
def fMod (x y : O) (h : MH) : R O := match x, y with
  | .v (.int i), .v (.int j) => if 0 < j then .ok (.v (.int (i % j))) h else .bad
  | _, _ => .bad
theorem fMod_ok {g : G} {W : WX} : FOk g W fMod (rI (fun _ j => 0 < j) fun i j => .int (i % j)) := by
  intro m0 m σ Hs H0 H1 H h v u x y Q fr r q1 q2 c
  unfold fMod at c
  split at c
  · cases rO.int q1; cases rO.int q2
    split at c
    · exact ⟨_, _, rfl, rfl, by assumption, Ct.val c fr r (.int _)⟩
    · exact c.elim
  · exact c.elim
theorem log2_64 {j : Int} (h0 : 0 < j) (h : j < 18446744073709551616) : j.natAbs.log2 < 9000 := by
  have h1 : j.natAbs < 2 ^ 64 := by omega
  have h2 : j.natAbs.log2 < 64 := (Nat.log2_lt (by omega)).2 h1
  omega
def fFdiv (x y : O) (h : MH) : R O := match x, y with
  | .v (.int i), .v (.int j) => if 0 < j ∧ j < 18446744073709551616 then .ok (.v (.int (i / j))) h else .bad
  | _, _ => .bad
theorem fFdiv_ok {g : G} {W : WX} : FOk g W fFdiv (rI CDivW fun i j => .int (i / j)) := by
  intro m0 m σ Hs H0 H1 H h v u x y Q fr r q1 q2 c
  unfold fFdiv at c
  split at c
  · cases rO.int q1; cases rO.int q2
    split at c
    · rename_i hz
      exact ⟨_, _, rfl, rfl, ⟨hz.1, log2_64 hz.1 hz.2⟩, Ct.val c fr r (.int _)⟩
    · exact c.elim
  · exact c.elim
def fPow (x y : O) (h : MH) : R O := match x, y with
  | .v (.int i), .v (.int j) => if 0 ≤ j ∧ j ≤ 1000000 ∧ i.natAbs < 18446744073709551616 then .ok (.v (.int (i ^ j.toNat))) h else .bad
  | _, _ => .bad
theorem fPow_ok {g : G} {W : WX} : FOk g W fPow (rI CPow fun i j => .int (i ^ j.toNat)) := by
  intro m0 m σ Hs H0 H1 H h v u x y Q fr r q1 q2 c
  unfold fPow at c
  split at c
  · cases rO.int q1; cases rO.int q2
    split at c
    · rename_i hz
      exact ⟨_, _, rfl, rfl, hz, Ct.val c fr r (.int _)⟩
    · exact c.elim
  · exact c.elim
def optAll {α β : Type} (f : α → Option β) : List α → Option (List β)
  | [] => some []
  | x :: xs => match f x, optAll f xs with
    | some d, some ds => some (d :: ds)
    | _, _ => none
def datS : Val → Option PyData
  | .non => some .none
  | .bl b => some (.bool b)
  | .int i => some (.int i)
  | .str s => some (.str (sOf s))
  | _ => none
def dat (h : MH) : Nat → Val → Option PyData
  | 0, x => datS x
  | n + 1, .tup xs => (optAll (dat h n) xs).map .tuple
  | n + 1, .fl xs => (optAll (dat h n) xs).map .list
  | n + 1, .ref k => match h[k]? with
    | some (.lst xs) => (optAll (dat h n) xs).map .list
    | _ => none
  | _ + 1, x => datS x
def datO (h : MH) (n : Nat) : O → Option PyData
  | .v x => dat h n x
  | .n xs => (optAll (dat h n) xs).map .list
theorem strOk_of {s : List Nat} (h : ∀ c ∈ s, c < 1114112) : PyData.strOk (sOf s) = true := by
  simp [PyData.strOk, sOf]
  exact h
theorem datS_ok {g : G} {m : Mu} {H : Hp} {v : V} {x : Val} {d : PyData} (q : RV g.K H m v x) (e : datS x = some d) : Dp g.K H v d ∧ d.canLay0 = true ∧ d.depth ≤ 0 := by
  cases q with
  | non => simp [datS] at e; subst e; exact ⟨.non, rfl, by simp [PyData.depth]⟩
  | bl b => simp [datS] at e; subst e; exact ⟨.bl b, rfl, by simp [PyData.depth]⟩
  | int b => simp [datS] at e; subst e; exact ⟨.int b, rfl, by simp [PyData.depth]⟩
  | str b hb => simp [datS] at e; subst e; exact ⟨.str _, strOk_of hb, by simp [PyData.depth]⟩
  | tup _ _ => simp [datS] at e
  | fl _ _ => simp [datS] at e
  | ref _ => simp [datS] at e
  | kt _ _ => simp [datS] at e
theorem datAll_ok {g : G} {m : Mu} {H : Hp} {f : Val → Option PyData} {n : Nat} (hf : ∀ (v : V) (x : Val) (d : PyData), RV g.K H m v x → f x = some d → Dp g.K H v d ∧ d.canLay0 = true ∧ d.depth ≤ n) :
    ∀ (vs : List V) (xs : List Val) (ds : List PyData), RVs g.K H m vs xs → optAll f xs = some ds → DpAll g.K H vs ds ∧ PyData.canLayAll0 ds = true ∧ PyData.depthAll ds ≤ n
  | _, _, ds, .nil, e => by
    simp [optAll] at e; subst e
    exact ⟨.nil, rfl, by simp [PyData.depthAll]⟩
  | _, _, ds, .cons r t, e => by
    simp only [optAll] at e
    split at e
    · rename_i d1 d2 e1 e2
      simp at e; subst e
      obtain ⟨a1, a2, a3⟩ := hf _ _ _ r e1
      obtain ⟨b1, b2, b3⟩ := datAll_ok hf _ _ _ t e2
      exact ⟨.cons a1 b1, by simp [PyData.canLayAll0, a2, b2], by simp only [PyData.depthAll]; exact Nat.max_le.mpr ⟨a3, b3⟩⟩
    · cases e
theorem dat_ok {g : G} {m : Mu} {H : Hp} {h : MH} (r : RepH g m H h) : ∀ (n : Nat) (v : V) (x : Val) (d : PyData), RV g.K H m v x → dat h n x = some d → Dp g.K H v d ∧ d.canLay0 = true ∧ d.depth ≤ n
  | 0, v, x, d, q, e => by
    have e' : datS x = some d := by cases x <;> simpa [dat] using e
    exact datS_ok q e'
  | n + 1, v, x, d, q, e => by
    have ih := fun v x d => dat_ok r n v x d
    cases q with
    | non => obtain ⟨a, b, c⟩ := datS_ok (g := g) (m := m) (H := H) .non e; exact ⟨a, b, by omega⟩
    | bl k => obtain ⟨a, b, c⟩ := datS_ok (g := g) (m := m) (H := H) (.bl k) e; exact ⟨a, b, by omega⟩
    | int k => obtain ⟨a, b, c⟩ := datS_ok (g := g) (m := m) (H := H) (.int k) e; exact ⟨a, b, by omega⟩
    | str k hk => obtain ⟨a, b, c⟩ := datS_ok (g := g) (m := m) (H := H) (.str k hk) e; exact ⟨a, b, by omega⟩
    | tup h1 h2 =>
      simp only [dat, Option.map_eq_some_iff] at e
      obtain ⟨ds, e1, rfl⟩ := e
      obtain ⟨a, b, c⟩ := datAll_ok ih _ _ _ h2 e1
      exact ⟨.tup (SqT.of h1) a, by simpa [PyData.canLay0] using b, by simp only [PyData.depth]; omega⟩
    | fl h1 h2 =>
      simp only [dat, Option.map_eq_some_iff] at e
      obtain ⟨ds, e1, rfl⟩ := e
      obtain ⟨a, b, c⟩ := datAll_ok ih _ _ _ h2 e1
      exact ⟨.lst h1.sql a, by simpa [PyData.canLay0] using b, by simp only [PyData.depth]; omega⟩
    | ref hm =>
      simp only [dat] at e
      split at e
      · rename_i ys hy
        simp only [Option.map_eq_some_iff] at e
        obtain ⟨ds, e1, rfl⟩ := e
        obtain ⟨p, e2, vs, e3, e4⟩ := r.at_ _ _ hy
        rw [hm] at e2; cases e2
        obtain ⟨a, b, c⟩ := datAll_ok ih _ _ _ e4 e1
        exact ⟨.lst (SqL.of e3) a, by simpa [PyData.canLay0] using b, by simp only [PyData.depth]; omega⟩
      · cases e
    | kt _ _ => simp [dat, datS] at e
theorem datO_ok {g : G} {m : Mu} {H H0 : Hp} {h : MH} (r : RepH g m H h) {v : V} {x : O} {d : PyData} {n : Nat} (hn : n ≤ 60) (q : rO g H0 H m v x) (e : datO h n x = some d) : Dp g.K H v d ∧ SeqAt.shaped d = true := by
  cases x with
  | v x =>
    obtain ⟨a, b, c⟩ := dat_ok r n v x d q e
    exact ⟨a, by simp [SeqAt.shaped, b]; omega⟩
  | n xs =>
    obtain ⟨p, vs, rfl, e2, _, _, e5⟩ := q
    simp only [datO, Option.map_eq_some_iff] at e
    obtain ⟨ds, e1, rfl⟩ := e
    obtain ⟨a, b, c⟩ := datAll_ok (fun v x d => dat_ok r n v x d) _ _ _ e5 e1
    refine ⟨.lst (SqL.of e2) a, ?_⟩
    have c' : (PyData.list ds).depth ≤ 64 := by simp only [PyData.depth]; omega
    have b' : (PyData.list ds).canLay0 = true := by simpa [PyData.canLay0] using b
    simp [SeqAt.shaped, b', c']

def scEq : O → O → Option Bool
  | .v (.int i), .v (.int j) => some (decide (i = j))
  | .v (.str a), .v (.str b) => some (decide (a = b))
  | .v (.bl a), .v (.bl b) => some (decide (a = b))
  | .v .non, .v .non => some true
  | _, _ => none
def eqB (x y : O) (h : MH) : Option Bool := match scEq x y with
  | some k => some k
  | none => match datO h 16 x, datO h 16 y with
    | some d, some e => some (PyData.eqv d e)
    | _, _ => none
def fEq (x y : O) (h : MH) : R O := match eqB x y h with
  | some k => .ok (.v (.bl k)) h
  | none => .bad
def fNe (x y : O) (h : MH) : R O := match eqB x y h with
  | some k => .ok (.v (.bl (!k))) h
  | none => .bad
theorem sOf_inj {a b : List Nat} : sOf a = sOf b ↔ a = b := by simp [sOf]
theorem eqB_ok {g : G} {m : Mu} {H H0 H1 : Hp} {h : MH} (r : RepH g m H h) {v u : V} {x y : O} {k : Bool} (q1 : rO g H0 H m v x) (q2 : rO g H1 H m u y) (e : eqB x y h = some k) :
    (scal v u = true ∧ k = decide (v = u)) ∨ ∃ d e, Dp g.K H v d ∧ Dp g.K H u e ∧ SeqAt.shaped d = true ∧ SeqAt.shaped e = true ∧ k = PyData.eqv d e := by
  unfold eqB at e
  split at e
  · rename_i k' e1
    simp at e; subst e
    unfold scEq at e1
    split at e1
    · simp at e1; subst e1; cases rO.int q1; cases rO.int q2; exact .inl ⟨rfl, by simp⟩
    · simp at e1; subst e1; cases rO.str q1; cases rO.str q2; exact .inl ⟨rfl, by simp⟩
    · simp at e1; subst e1; cases rO.bl q1; cases rO.bl q2; exact .inl ⟨rfl, by simp⟩
    · simp at e1; subst e1; cases rO.non q1; cases rO.non q2; exact .inl ⟨rfl, by simp⟩
    · cases e1
  · split at e
    · rename_i d1 d2 e1 e2
      simp at e; subst e
      obtain ⟨a1, a2⟩ := datO_ok r (by decide) q1 e1
      obtain ⟨b1, b2⟩ := datO_ok r (by decide) q2 e2
      exact .inr ⟨_, _, a1, b1, a2, b2, rfl⟩
    · cases e
abbrev rEqAll (K : PySem.W.Frag) : R2 := fun x y H Q => rEq x y H Q ∨ rEqD K x y H Q
abbrev rNeAll (K : PySem.W.Frag) : R2 := fun x y H Q => rNe x y H Q ∨ rNeD K x y H Q
theorem op_eqAll {X : Cx} (hu : X.A.units + 64 < cLine) : OpR X (compareOp .Eq) (rEqAll X.K) := OpR.or op_eq (op_eqD hu)
theorem op_neAll {X : Cx} (hu : X.A.units + 64 < cLine) : OpR X (compareOp .NotEq) (rNeAll X.K) := OpR.or op_ne (op_neD hu)
theorem fEq_ok {g : G} {W : WX} : FOk g W fEq (rEqAll g.K) := by
  intro m0 m σ Hs H0 H1 H h v u x y Q fr r q1 q2 c
  unfold fEq at c
  split at c
  · rename_i k ek
    rcases eqB_ok r q1 q2 ek with ⟨a, rfl⟩ | ⟨d, e, a, b, c1, c2, rfl⟩
    · exact .inl ⟨a, Ct.val c fr r (.bl _)⟩
    · exact .inr ⟨d, e, a, b, c1, c2, Ct.val c fr r (.bl _)⟩
  · exact c.elim
theorem fNe_ok {g : G} {W : WX} : FOk g W fNe (rNeAll g.K) := by
  intro m0 m σ Hs H0 H1 H h v u x y Q fr r q1 q2 c
  unfold fNe at c
  split at c
  · rename_i k ek
    rcases eqB_ok r q1 q2 ek with ⟨a, rfl⟩ | ⟨d, e, a, b, c1, c2, rfl⟩
    · exact .inl ⟨a, Ct.val c fr r (.bl _)⟩
    · exact .inr ⟨d, e, a, b, c1, c2, Ct.val c fr r (.bl _)⟩
  · exact c.elim
def fLt (x y : O) (h : MH) : R O := match x, y with
  | .v (.int i), .v (.int j) => .ok (.v (.bl (decide (i < j)))) h
  | .v (.str a), .v (.str b) => .ok (.v (.bl (decide (a < b)))) h
  | _, _ => .bad
abbrev rLtAll : R2 := fun x y H Q => rI0 (fun i j => .bl (decide (i < j))) x y H Q ∨ ∃ i j, x = .str i ∧ y = .str j ∧ Q (.bl (decide (i.cps.toList < j.cps.toList))) H
theorem op_ltAll {X : Cx} : OpR X (compareOp .Lt) rLtAll := OpR.or op_lt op_lt_str
theorem fLt_ok {g : G} {W : WX} : FOk g W fLt rLtAll := by
  intro m0 m σ Hs H0 H1 H h v u x y Q fr r q1 q2 c
  unfold fLt at c
  split at c
  · cases rO.int q1; cases rO.int q2; exact .inl ⟨_, _, rfl, rfl, Ct.val c fr r (.bl _)⟩
  · cases rO.str q1; cases rO.str q2; exact .inr ⟨_, _, rfl, rfl, by simpa using Ct.val c fr r (.bl _)⟩
  · exact c.elim
def fLe (x y : O) (h : MH) : R O := match x, y with
  | .v (.int i), .v (.int j) => .ok (.v (.bl (decide (i ≤ j)))) h
  | .v (.str a), .v (.str b) => .ok (.v (.bl (!decide (b < a)))) h
  | _, _ => .bad
def fGt (x y : O) (h : MH) : R O := match x, y with
  | .v (.int i), .v (.int j) => .ok (.v (.bl (decide (j < i)))) h
  | _, _ => .bad
def fGe (x y : O) (h : MH) : R O := match x, y with
  | .v (.int i), .v (.int j) => .ok (.v (.bl (decide (j ≤ i)))) h
  | _, _ => .bad
theorem fGt_ok {g : G} {W : WX} : FOk g W fGt (rI0 fun i j => .bl (decide (j < i))) := by
  intro m0 m σ Hs H0 H1 H h v u x y Q fr r q1 q2 c
  unfold fGt at c
  split at c
  · cases rO.int q1; cases rO.int q2; exact ⟨_, _, rfl, rfl, Ct.val c fr r (.bl _)⟩
  · exact c.elim
theorem fGe_ok {g : G} {W : WX} : FOk g W fGe (rI0 fun i j => .bl (decide (j ≤ i))) := by
  intro m0 m σ Hs H0 H1 H h v u x y Q fr r q1 q2 c
  unfold fGe at c
  split at c
  · cases rO.int q1; cases rO.int q2; exact ⟨_, _, rfl, rfl, Ct.val c fr r (.bl _)⟩
  · exact c.elim
end Mi

namespace Mi
open PySem L2

def num : O → MH → Val × MH
  | .v x, h => (x, h)
  | .n xs, h => (.ref h.length, h ++ [.lst xs])
theorem num_ok {g : G} {m0 m : Mu} {Hs H : Hp} {h : MH} {v : V} {o : O} (x : Ext m0 m Hs H) (r : RepH g m H h) (q : rO g Hs H m v o) :
    ∃ m', (∀ n a, m n = some a → m' n = some a) ∧ Ext m0 m' Hs H ∧ RepH g m' H (num o h).2 ∧ RV g.K H m' v (num o h).1 := by
  cases o with
  | v y => exact ⟨m, fun _ _ e => e, x, r, q⟩
  | n xs =>
    obtain ⟨a, vs, rfl, e2, e3, e4, e5⟩ := q
    have le : ∀ n b, m n = some b → m.add h.length a n = some b := fun n b e => by
      rw [Mu.add_ne]; exact e
      exact Nat.ne_of_lt (r.dom n b e)
    exact ⟨m.add h.length a, le, x.numd r e4, r.numd (o := .lst xs) e3 ⟨vs, e2, e5.mono Kp.refl le⟩, .ref Mu.add_same⟩
theorem REnv.le {K : PySem.W.Frag} {H : Hp} {m m' : Mu} {σ : St} {ρ : En} (q : REnv K H m σ ρ) (le : ∀ n a, m n = some a → m' n = some a) : REnv K H m' σ ρ :=
  ⟨q.len, fun i y e => let ⟨v, h1, h2⟩ := q.at_ i y e; ⟨v, h1, h2.mono Kp.refl le⟩⟩

abbrev DV := En → MH → R (List Val)
def vNil : DV := fun _ h => .ok [] h
def vCons (d : D) (t : DV) : DV := fun ρ h => (d ρ h).bind fun o h1 => (t ρ (num o h1).2).bind fun xs h2 => .ok ((num o h1).1 :: xs) h2
def SV (X : Cx) (ca : CA) (W : WX) (es : List Expr) (d : DV) : Prop := PA X es (TVv (gx X ca) W (rL (gx X ca)) d)
section
variable {X : Cx} {ca : CA} {W : WX} {a b e : Expr} {es : List Expr} {da db d : D} {ds : DV} {as : DA} {pos : Pos}
theorem sv_nil : SV X ca W [] vNil := pa_w pa_nil fun σ H Q ⟨m, ρ, h, rh, re, c⟩ => c m H [] Ext.refl rh .nil
theorem sv_cons (ha : SE X ca W e d) (hr : SV X ca W es ds) (hs : starEach (e :: es) X.env = (false, eval e X.env) :: starEach es X.env := by rfl) : SV X ca W (e :: es) (vCons d ds) :=
  pa_w (pa_cons ha hr hs) fun σ H Q t => by
    refine TVv.imp (TVv.bind (rel := rO (gx X ca)) (f := fun ρ o h1 => (ds ρ (num o h1).2).bind fun xs h2 => .ok ((num o h1).1 :: xs) h2) t) ?_
    rintro v H1 ⟨m0, m1, ρ, x, h1, fr, r1, e1, rv, c⟩
    obtain ⟨m2, le, fr2, r2, rv2⟩ := num_ok fr r1 rv
    refine ⟨m2, ρ, _, r2, e1.le le, (Ct.step (rel := rL (gx X ca)) fr2 r2 c).imp ?_⟩
    rintro vs H2 ⟨m3, xs, h2, ex, fr3, r3, rv3, c2⟩
    exact c2 m3 H2 (v :: vs) fr3 r3 (.cons (ex.rv r2 rv2) rv3)

def dTup (t : DV) : D := fun ρ h => (t ρ h).bind fun xs h1 => if xs.length ≤ 16777216 then .ok (.v (.tup xs)) h1 else .bad
def dLst (t : DV) : D := fun ρ h => (t ρ h).bind fun xs h1 => if xs.length ≤ 16777216 then .ok (.n xs) h1 else .bad
theorem se_tup {k : Nat} (h : SV X ca W es ds) : SE X ca W (.Tuple es k pos) (dTup ds) :=
  pe_w (pe_tup h) fun σ H Q t => by
    refine TVv.imp (TVv.bind (rel := rL (gx X ca)) (rel' := rO (gx X ca)) (f := fun ρ xs h1 => if xs.length ≤ 16777216 then .ok (.v (.tup xs)) h1 else .bad) t) ?_
    rintro vs H1 ⟨m0, m1, ρ, xs, h1, fr, r1, e1, rv, c⟩
    split at c
    · rename_i hz
      exact ⟨by rw [RVs.length rv, sl_eq]; exact hz, Ct.tup c fr r1 rv⟩
    · exact c.elim
theorem se_lst (h : SV X ca W es ds) : SE X ca W (.List es pos) (dLst ds) :=
  pe_w (pe_lst h) fun σ H Q t => by
    refine TVv.imp (TVv.bind (rel := rL (gx X ca)) (rel' := rO (gx X ca)) (f := fun ρ xs h1 => if xs.length ≤ 16777216 then .ok (.n xs) h1 else .bad) t) ?_
    rintro vs H1 ⟨m0, m1, ρ, xs, h1, fr, r1, e1, rv, c⟩
    split at c
    · rename_i hz
      exact ⟨by rw [RVs.length rv, sl_eq]; exact hz, Ct.new c fr r1 rv⟩
    · exact c.elim

def keyEq : Val → Val → Bool
  | .int i, .int j => decide (i = j)
  | .str a, .str b => decide (a = b)
  | _, _ => false
def keysEq : List Val → List Val → Bool
  | [], [] => true
  | x :: xs, y :: ys => keyEq x y && keysEq xs ys
  | _, _ => false
def isKey : Val → Bool
  | .int _ => true
  | .str _ => true
  | _ => false
def dgetO (h : MH) (x : O) (y : Val) : Option (Option Val) := match x with
  | .v (.ref n) => match h[n]? with
    | some (.dK kvs) => if isKey y then some ((kvs.find? fun p => keyEq p.1 y).map (·.2)) else none
    | some (.dT kvs) => match y with
      | .tup ks => if ks.all isKey then some ((kvs.find? fun p => keysEq p.1 ks).map (·.2)) else none
      | _ => none
    | some (.lk kvs) => if isKey y then some ((kvs.find? fun p => keyEq p.1 y).map (·.2)) else none
    | _ => none
  | _ => none
theorem key_of {K : PySem.W.Frag} {H : Hp} {m : Mu} {v : V} {y : Val} (q : RV K H m v y) (hk : isKey y = true) : ∃ k, keyOf y = some k ∧ v = kV k := by
  cases q with
  | int i => exact ⟨_, rfl, rfl⟩
  | str s hb => exact ⟨_, by simp only [keyOf]; rw [if_pos (List.all_eq_true.mpr fun c hc => decide_eq_true (hb c hc))], rfl⟩
  | _ => simp [isKey] at hk
theorem keyOf_str {s : List Nat} {k : Key} (e : keyOf (.str s) = some k) : (∀ c ∈ s, c < 1114112) ∧ k = .inr (sOf s) := by
  simp only [keyOf] at e
  split at e
  · rename_i h
    cases e
    exact ⟨fun c hc => of_decide_eq_true (List.all_eq_true.mp h c hc), rfl⟩
  · cases e
theorem keyOf_int {i : Int} {k : Key} (e : keyOf (.int i) = some k) : k = .inl i := by
  simp only [keyOf] at e; cases e; rfl
theorem key_eq {x y : Val} {k l : Key} (e1 : keyOf x = some k) (e2 : keyOf y = some l) : decide (k = l) = keyEq x y := by
  cases x <;> try (simp [keyOf] at e1; done)
  · cases y <;> try (simp [keyOf] at e2; done)
    · cases keyOf_int e1; cases keyOf_int e2; simp [keyEq]
    · cases keyOf_int e1; cases (keyOf_str e2).2; simp [keyEq]
  · cases y <;> try (simp [keyOf] at e2; done)
    · cases (keyOf_str e1).2; cases keyOf_int e2; simp [keyEq]
    · cases (keyOf_str e1).2; cases (keyOf_str e2).2; simp [keyEq, sOf_inj]
theorem rk_find {K : PySem.W.Frag} {H : Hp} {m : Mu} {y : Val} {l : Key} (e2 : keyOf y = some l) : ∀ {ks : List (Key × V)} {kvs : List (Val × Val)}, RK K H m ks kvs →
    (valV ks l = none ∧ (kvs.find? fun p => keyEq p.1 y) = none) ∨ ∃ v p, valV ks l = some v ∧ (kvs.find? fun p => keyEq p.1 y) = some p ∧ RV K H m v p.2
  | _, _, .nil => .inl ⟨rfl, rfl⟩
  | _, _, .cons (k := k) (x := x) (y := z) ek rv t => by
    have h := key_eq ek e2
    by_cases hd : k = l
    · rw [decide_eq_true hd] at h
      refine .inr ⟨_, (x, z), ?_, ?_, rv⟩
      · simp [valV, hd]
      · rw [List.find?_cons, ← h]
    · rw [decide_eq_false hd] at h
      rcases rk_find e2 t with ⟨a, b⟩ | ⟨v, p, a, b, c⟩
      · refine .inl ⟨?_, ?_⟩
        · unfold valV at a ⊢; rw [List.find?_cons]; simp only [decide_eq_false hd]; exact a
        · rw [List.find?_cons, ← h]; exact b
      · refine .inr ⟨v, p, ?_, ?_, c⟩
        · unfold valV at a ⊢; rw [List.find?_cons]; simp only [decide_eq_false hd]; exact a
        · rw [List.find?_cons, ← h]; exact b
theorem keys_of {K : PySem.W.Frag} {H : Hp} {m : Mu} : ∀ {vs : List V} {ys : List Val}, RVs K H m vs ys → ys.all isKey = true → ∃ ks, keysOf ys = some ks ∧ vs = ks.map kV
  | _, _, .nil, _ => ⟨[], rfl, rfl⟩
  | _, _, .cons r t, h => by
    simp only [List.all_cons, Bool.and_eq_true] at h
    obtain ⟨k, e1, e2⟩ := key_of r h.1
    obtain ⟨ks, e3, e4⟩ := keys_of t h.2
    exact ⟨k :: ks, by simp [keysOf, e1, e3], by rw [e2, e4]; rfl⟩
theorem keys_eq : ∀ {xs ys : List Val} {ks ls : List Key}, keysOf xs = some ks → keysOf ys = some ls → decide (ks = ls) = keysEq xs ys
  | [], [], _, _, e1, e2 => by simp [keysOf] at e1 e2; subst e1; subst e2; rfl
  | [], y :: ys, _, _, e1, e2 => by
    simp only [keysOf] at e2; split at e2
    · simp [keysOf] at e1; simp at e2; subst e1; subst e2; simp [keysEq]
    · cases e2
  | x :: xs, [], _, _, e1, e2 => by
    simp only [keysOf] at e1; split at e1
    · simp [keysOf] at e2; simp at e1; subst e1; subst e2; simp [keysEq]
    · cases e1
  | x :: xs, y :: ys, _, _, e1, e2 => by
    simp only [keysOf] at e1 e2
    split at e1
    · split at e2
      · simp at e1 e2; subst e1; subst e2
        rename_i a1 a2 b1 b2
        have h1 := key_eq (by assumption : keyOf x = _) (by assumption : keyOf y = _)
        have h2 := keys_eq (by assumption : keysOf xs = _) (by assumption : keysOf ys = _)
        rw [keysEq, ← h1, ← h2]
        simp [Bool.decide_and]
      · cases e2
    · cases e1
theorem rkt_find {K : PySem.W.Frag} {H : Hp} {m : Mu} {y : List Val} {l : List Key} (e2 : keysOf y = some l) : ∀ {ks : List (List Key × V)} {kvs : List (List Val × Val)}, RKT K H m ks kvs →
    (valV ks l = none ∧ (kvs.find? fun p => keysEq p.1 y) = none) ∨ ∃ v p, valV ks l = some v ∧ (kvs.find? fun p => keysEq p.1 y) = some p ∧ RV K H m v p.2
  | _, _, .nil => .inl ⟨rfl, rfl⟩
  | _, _, .cons (k := k) (x := x) (y := z) ek rv t => by
    have h := keys_eq ek e2
    by_cases hd : k = l
    · rw [decide_eq_true hd] at h
      refine .inr ⟨_, (x, z), ?_, ?_, rv⟩
      · simp [valV, hd]
      · rw [List.find?_cons, ← h]
    · rw [decide_eq_false hd] at h
      rcases rkt_find e2 t with ⟨a, b⟩ | ⟨v, p, a, b, c⟩
      · refine .inl ⟨?_, ?_⟩
        · unfold valV at a ⊢; rw [List.find?_cons]; simp only [decide_eq_false hd]; exact a
        · rw [List.find?_cons, ← h]; exact b
      · refine .inr ⟨v, p, ?_, ?_, c⟩
        · unfold valV at a ⊢; rw [List.find?_cons]; simp only [decide_eq_false hd]; exact a
        · rw [List.find?_cons, ← h]; exact b
theorem dget_ok {g : G} {m : Mu} {H H0 : Hp} {h : MH} {v u : V} {x : O} {y : Val} {o : Option Val} (r : RepH g m H h) (q : rO g H0 H m v x) (q2 : RV g.K H m u y) (e : dgetO h x y = some o) :
    ∃ a w, v = .ref a ∧ DGet H a u w ∧ ((w = none ∧ o = none) ∨ ∃ w' z, w = some w' ∧ o = some z ∧ RV g.K H m w' z) := by
  unfold dgetO at e
  split at e
  · rename_i n
    cases q with
    | ref hm =>
      split at e
      · rename_i kvs hk
        obtain ⟨a, e1, ks, e2, e3⟩ := r.at_ _ _ hk
        rw [hm] at e1; cases e1
        split at e
        · rename_i hy
          simp at e; subst e
          obtain ⟨l, e4, rfl⟩ := key_of q2 hy
          refine ⟨_, _, rfl, DGet.k e2, ?_⟩
          rcases rk_find e4 e3 with ⟨a1, a2⟩ | ⟨w, p, a1, a2, a3⟩
          · exact .inl ⟨a1, by rw [a2]; rfl⟩
          · exact .inr ⟨w, p.2, a1, by rw [a2]; rfl, a3⟩
        · cases e
      · rename_i kvs hk
        obtain ⟨a, e1, ks, e2, e3⟩ := r.at_ _ _ hk
        rw [hm] at e1; cases e1
        split at e
        · rename_i ys
          split at e
          · rename_i hy
            simp at e; subst e
            cases q2 with
            | tup h1 h2 =>
              obtain ⟨l, e4, rfl⟩ := keys_of h2 hy
              refine ⟨_, _, rfl, DGet.t e2 h1, ?_⟩
              rcases rkt_find e4 e3 with ⟨a1, a2⟩ | ⟨w, p, a1, a2, a3⟩
              · exact .inl ⟨a1, by rw [a2]; rfl⟩
              · exact .inr ⟨w, p.2, a1, by rw [a2]; rfl, a3⟩
          · cases e
        · cases e
      · rename_i kvs hk
        obtain ⟨a, e1, od, ks, e2, e3⟩ := r.at_ _ _ hk
        rw [hm] at e1; cases e1
        split at e
        · rename_i hy
          simp at e; subst e
          obtain ⟨l, e4, rfl⟩ := key_of q2 hy
          refine ⟨_, _, rfl, .inl ⟨ks, l, .inr ⟨od, e2⟩, rfl, rfl⟩, ?_⟩
          rcases rk_find e4 e3 with ⟨a1, a2⟩ | ⟨w, p, a1, a2, a3⟩
          · exact .inl ⟨a1, by rw [a2]; rfl⟩
          · exact .inr ⟨w, p.2, a1, by rw [a2]; rfl, a3⟩
        · cases e
      · cases e
  · cases e
def fIx (x y : O) (h : MH) : R O := match x, y with
  | .v (.str s), .v (.int i) => if s.length ≤ 16777216 then match atI s i with
    | some c => .ok (.v (.str [c])) h
    | none => .bad
    else .bad
  | x, .v y => match seqO h x, y with
    | some (_, xs), .int i => match atI xs i with
      | some z => .ok (.v z) h
      | none => .bad
    | _, _ => match dgetO h x y with
      | some (some z) => .ok (.v z) h
      | _ => .bad
  | _, _ => .bad
abbrev rIxD : R2 := fun x y H Q => ∃ a v, x = .ref a ∧ DGet H a y (some v) ∧ Q v H
theorem ix_dict {X : Cx} (hu : X.A.units + 1 < cLine) : IxR X rIxD := by
  intro value slice pins s σ H x y v u Q I rx ry q hs
  obtain ⟨a, w, rfl, g, q⟩ := q
  obtain rfl : v = Value.ref a := rx
  exact PyProof.Rows.tail_any (dict_typeIs I g) PySem.F.slot_dict_getitem.lookup (d_getItem hu I g ry fun w' s3 I3 rw' => ⟨w, H, I3, rw', q⟩) hs
abbrev rIxAll (K : PySem.W.Frag) : R2 := fun x y H Q => rIx K x y H Q ∨ rIxD x y H Q
theorem ix_all {X : Cx} (hu : X.A.units + 1 < cLine) : IxR X (rIxAll X.K) := IxR.or ix_seq (ix_dict hu)
theorem atI_rvs {K : PySem.W.Frag} {H : Hp} {m : Mu} {vs : List V} {xs : List Val} (r : RVs K H m vs xs) {i : Int} {x : Val} (e : atI xs i = some x) : ∃ v, atI vs i = some v ∧ RV K H m v x := by
  unfold atI at e ⊢
  rw [r.length]
  cases hk : ixN xs.length i with
  | none => rw [hk] at e; cases e
  | some j =>
    rw [hk] at e
    exact r.get e
theorem atI_map {α : Type} {xs : List α} {i : Int} {x : α} (e : atI xs i = some x) : x ∈ xs := by
  unfold atI at e
  cases hk : ixN xs.length i with
  | none => rw [hk] at e; cases e
  | some j => rw [hk] at e; exact List.mem_of_getElem? e
theorem fIx_ok {g : G} {W : WX} : FOk g W fIx (rIxAll g.K) := by
  intro m0 m σ Hs H0 H1 H h v u x y Q fr r q1 q2 c
  have dpart : ∀ (y : Val), RV g.K H m u y → Ct g W (rO g) m0 Hs (match dgetO h x y with
      | some (some z) => .ok (.v z) h
      | _ => .bad) σ Q → rIxAll g.K v u H Q := fun y q2 c => by
    split at c
    · rename_i z e
      obtain ⟨a, w, rfl, e2, ⟨_, z2⟩ | ⟨w', z', rfl, e4, e5⟩⟩ := dget_ok r q1 q2 e
      · cases z2
      · cases e4
        exact .inr ⟨a, w', rfl, e2, Ct.val c fr r e5⟩
    · exact c.elim
  unfold fIx at c
  split at c
  · have w1 := q1
    cases rO.str q1; cases rO.int q2
    split at c
    · split at c
      · rename_i s i hz _ k e
        refine .inl (.inr (.inr ⟨_, _, k, rfl, rfl, by rw [sOf_length, sl_eq]; exact hz, by simpa using e, Ct.val c fr r (.str [k] fun d hd => ?_)⟩))
        have : d = k := by simpa using hd
        subst this
        exact rO.strv w1 _ (atI_map e)
      · exact c.elim
    · exact c.elim
  · split at c
    · have ex := (by assumption : seqO h _ = some (_, _))
      obtain ⟨a, vs, rfl, la, ra⟩ := seqO_ok r q1 ex
      cases rO.int q2
      split at c
      · rename_i z e
        obtain ⟨w, e1, e2⟩ := atI_rvs ra e
        rcases la.sq with s1 | s1
        · exact .inl (.inl ⟨a, vs, _, w, rfl, rfl, s1, e1, Ct.val c fr r e2⟩)
        · exact .inl (.inr (.inl ⟨a, vs, _, w, rfl, rfl, s1, e1, Ct.val c fr r e2⟩))
      · exact c.elim
    · exact dpart _ q2 c
  · exact c.elim
section
variable {X : Cx} {ca : CA} {W : WX} {a b e : Expr} {da db d : D} {pos : Pos}
theorem se_ix (hu : X.A.units + 1 < cLine) (ha : SE X ca W a da) (hb : SE X ca W b db) (hs : PlainIx b := by intro _ _; rfl) : SE X ca W (.Subscript a b pos) (dOp fIx da db) :=
  pe_w (pe_ix (ix_all hu) ha hb hs) fun σ H Q t => tv_op fIx_ok t

abbrev DO := En → MH → R (Option Int)
abbrev rOpt : Rel (Option Int) (Option Int) := fun _ _ _ v x => v = x
def oNone : DO := fun _ h => .ok none h
def oSome (d : D) : DO := fun ρ h => (d ρ h).bind fun o h1 => match o with
  | .v (.int i) => .ok (some i) h1
  | _ => .bad
def SOp (X : Cx) (ca : CA) (W : WX) (e : Option Expr) (d : DO) : Prop := PO X e (TVv (gx X ca) W rOpt d)
theorem po_w {X : Cx} {e : Option Expr} {t t' : TO} (h : PO X e t) (i : ∀ σ H Q, t' σ H Q → t σ H Q) : PO X e t' := ⟨fun pins s σ H Q I q => h.run pins s σ H Q I (i σ H Q q)⟩
theorem so_none : SOp X ca W none oNone := po_w po_none fun σ H Q ⟨m, ρ, h, rh, re, c⟩ => c m H none Ext.refl rh rfl
theorem so_some (ha : SE X ca W e d) : SOp X ca W (some e) (oSome d) :=
  po_w (po_some ha) fun σ H Q t => by
    refine TVv.imp (TVv.bind (rel := rO (gx X ca)) (rel' := rOpt) (f := fun ρ o h1 => match o with
  | .v (.int i) => .ok (some i) h1
  | _ => .bad) t) ?_
    rintro v H1 ⟨m0, m1, ρ, x, h1, fr, r1, e1, rv, c⟩
    split at c
    · cases rO.int rv
      exact ⟨_, rfl, c m1 H1 _ fr r1 rfl⟩
    · exact c.elim
def cutL {α : Type} (xs : List α) (lo hi : Option Int) : List α := (xs.drop (HT.sIx xs.length 0 lo)).take (HT.sIx xs.length xs.length hi - HT.sIx xs.length 0 lo)
def fSl (x : O) (lo hi : Option Int) (h : MH) : R O := match x with
  | .v (.str s) => if s.length ≤ 16777216 then .ok (.v (.str (cutL s lo hi))) h else .bad
  | x => match seqO h x with
    | some (.tp, xs) => .ok (.v (.tup (cutL xs lo hi))) h
    | some (_, xs) => .ok (.n (cutL xs lo hi)) h
    | none => .bad
def dSl (d : D) (lo hi : DO) : D := fun ρ h => (d ρ h).bind fun x h1 => (lo ρ h1).bind fun l h2 => (hi ρ h2).bind fun u h3 => fSl x l u h3
theorem cut_rvs {K : PySem.W.Frag} {H : Hp} {m : Mu} {vs : List V} {xs : List Val} (r : RVs K H m vs xs) (lo hi : Option Int) : RVs K H m (cutV vs lo hi) (cutL xs lo hi) := by
  unfold cutV cutL
  rw [r.length]
  exact (r.drop _).take _
theorem cut_str (s : List Nat) (lo hi : Option Int) : cutS (sOf s) lo hi = sOf (cutL s lo hi) := by
  unfold cutS cutL
  rw [sOf_length]
theorem se_sl {lo hi : Option Expr} {dl dh : DO} {p2 : Pos} (ha : SE X ca W a da) (hl : SOp X ca W lo dl) (hh : SOp X ca W hi dh) : SE X ca W (.Subscript a (.Slice lo hi none p2) pos) (dSl da dl dh) :=
  pe_w (pe_slice (SlR.or sl_list (SlR.or sl_tupA sl_str)) ha hl hh) fun σ H Q t => by
    refine TVv.imp (TVv.bind (rel := rO (gx X ca)) (f := fun ρ x h1 => (dl ρ h1).bind fun l h2 => (dh ρ h2).bind fun u h3 => fSl x l u h3) t) ?_
    rintro v H1 ⟨m0, m1, ρ, x, h1, fr, r1, e1, rv, c⟩
    refine ⟨m1, ρ, h1, r1, e1, (Ct.step (rel := rOpt) fr r1 c).imp ?_⟩
    rintro l H2 ⟨m2, _, h2, ex, fr2, r2, rfl, c2⟩
    refine ⟨m2, ρ, h2, r2, ex.env r1 e1, (Ct.step (rel := rOpt) fr2 r2 c2).imp ?_⟩
    rintro u H3 ⟨m3, _, h3, ex3, fr3, r3, rfl, c3⟩
    have rv3 := ex3.ro r2 (ex.ro r1 rv)
    unfold fSl at c3
    split at c3
    · have w1 := rv3
      cases rO.str rv3
      split at c3
      · rename_i s hz
        refine .inr (.inr ⟨_, rfl, by rw [sOf_length, sl_eq]; exact hz, ?_⟩)
        rw [cut_str]
        exact Ct.val c3 fr3 r3 (.str _ fun k hk => rO.strv w1 k (List.mem_of_mem_drop (List.mem_of_mem_take hk)))
      · exact c3.elim
    · split at c3
      · rename_i xs ex
        obtain ⟨a, vs, rfl, la, ra⟩ := seqO_ok r3 rv3 ex
        have la' : H3 a = some (.tup vs) := la
        refine .inr (.inl ⟨a, vs, rfl, SqT.of la', fun ⟨z1, z2⟩ => ?_, fun _ => Ct.tup c3 fr3 r3 (cut_rvs ra _ _)⟩)
        have e2 : cutL xs l u = xs := by
          unfold cutL
          rw [← ra.length, z1, z2, ra.length]
          simp
        rw [e2] at c3
        exact Ct.val c3 fr3 r3 (.tup la' ra)
      · rename_i k xs hk ex
        obtain ⟨a, vs, rfl, la, ra⟩ := seqO_ok r3 rv3 ex
        exact .inl ⟨a, vs, rfl, la.sql (fun z => hk (by rw [z])), Ct.new c3 fr3 r3 (cut_rvs ra _ _)⟩
      · exact c3.elim
end
end
end Mi

namespace Mi
open PySem L2

inductive Out where
  | nx (ρ : En) (h : MH) | rt (x : Val) (h : MH) | bk (ρ : En) (h : MH) | ct (ρ : En) (h : MH) | ex (c : Nat) (ρ : En) (h : MH) | bad
abbrev SD := En → MH → Out
def R.out {α : Type} (r : R α) (ρ : En) (k : α → MH → Out) : Out := match r with
  | .ok x h => k x h
  | .ex c h => .ex c ρ h
  | .bad => .bad
def CtS (g : G) (W : WX) (m0 : Mu) (Hs : Hp) (o : Out) (D : Ends) : Prop := match o with
  | .nx ρ' h' => ∀ m' σ' H', Ext m0 m' Hs H' → RepH g m' H' h' → REnv g.K H' m' σ' ρ' → D.nx σ' H'
  | .rt x h' => ∀ m' H' v, Ext m0 m' Hs H' → RepH g m' H' h' → RV g.K H' m' v x → D.rt v H'
  | .bk ρ' h' => ∀ m' σ' H', Ext m0 m' Hs H' → RepH g m' H' h' → REnv g.K H' m' σ' ρ' → D.bk σ' H'
  | .ct ρ' h' => ∀ m' σ' H', Ext m0 m' Hs H' → RepH g m' H' h' → REnv g.K H' m' σ' ρ' → D.ct σ' H'
  | .ex c ρ' h' => ∀ m' σ' H', Ext m0 m' Hs H' → RepH g m' H' h' → REnv g.K H' m' σ' ρ' → W (.ref (g.ca c)) none σ' H'
  | .bad => False
def TSv (g : G) (W : WX) (s : SD) : TS := fun D σ H => ∃ m ρ h, RepH g m H h ∧ REnv g.K H m σ ρ ∧ CtS g W m H (s ρ h) D
section
variable {g : G} {W : WX} {m m' : Mu} {Hs H' : Hp} {h : MH}
theorem CtS.later {o : Out} {D : Ends} (x : Ext m m' Hs H') (q : RepH g m' H' h) (c : CtS g W m Hs o D) : CtS g W m' H' o D := by
  cases o with
  | nx ρ k => exact fun m2 σ2 H2 e => c m2 σ2 H2 (x.tr q e)
  | rt y k => exact fun m2 H2 v e => c m2 H2 v (x.tr q e)
  | bk ρ k => exact fun m2 σ2 H2 e => c m2 σ2 H2 (x.tr q e)
  | ct ρ k => exact fun m2 σ2 H2 e => c m2 σ2 H2 (x.tr q e)
  | ex y ρ k => exact fun m2 σ2 H2 e => c m2 σ2 H2 (x.tr q e)
  | bad => exact c
theorem CtS.out {α β : Type} {rel : Rel α β} {r : R α} {ρ : En} {σ : St} {k : α → MH → Out} {D : Ends} {H : Hp} (x : Ext m m' Hs H) (q : RepH g m' H h) (e : REnv g.K H m' σ ρ) (c : CtS g W m Hs (r.out ρ k) D) :
    Ct g W rel m' H r σ fun v H1 => ∃ m1 y h1, Ext m' m1 H H1 ∧ Ext m m1 Hs H1 ∧ RepH g m1 H1 h1 ∧ REnv g.K H1 m1 σ ρ ∧ rel H H1 m1 v y ∧ CtS g W m Hs (k y h1) D := by
  cases r with
  | ok y h' => exact fun m2 H2 v ex r2 rv => ⟨m2, y, h', ex, x.tr q ex, r2, ex.env q e, rv, c⟩
  | ex y h' => exact fun m2 H2 ex r2 => c m2 σ H2 (x.tr q ex) r2 (ex.env q e)
  | bad => exact c
theorem TSv.out {α β : Type} {rel : Rel α β} {d : En → MH → R α} {k : En → α → MH → Out} {D : Ends} {σ : St} {H : Hp} (t : TSv g W (fun ρ h => (d ρ h).out ρ (k ρ)) D σ H) :
    TVv g W rel d σ H fun v H1 => ∃ m0 m1 ρ x h1, Ext m0 m1 H H1 ∧ RepH g m1 H1 h1 ∧ REnv g.K H1 m1 σ ρ ∧ rel H H1 m1 v x ∧ CtS g W m0 H (k ρ x h1) D := by
  obtain ⟨m, ρ, h, rh, re, c⟩ := t
  exact ⟨m, ρ, h, rh, re, (CtS.out (rel := rel) Ext.refl rh re c).imp fun v H1 ⟨m1, y, h1, _, e2, r1, e1, rv, c1⟩ => ⟨m, m1, ρ, y, h1, e2, r1, e1, rv, c1⟩⟩
end
def SS (X : Cx) (ca : CA) (W : WX) (s : Stmt) (d : SD) : Prop := PS X s (TSv (gx X ca) W d)
def SSs (X : Cx) (ca : CA) (W : WX) (s : List Stmt) (d : SD) : Prop := PSs X s (TSv (gx X ca) W d)

def sNil : SD := fun ρ h => .nx ρ h
def sSeq (a b : SD) : SD := fun ρ h => match a ρ h with
  | .nx ρ' h' => b ρ' h'
  | o => o
def sRet (d : D) : SD := fun ρ h => (d ρ h).out ρ fun o h1 => .rt (num o h1).1 (num o h1).2
def sExpr (d : D) : SD := fun ρ h => (d ρ h).out ρ fun _ h1 => .nx ρ h1
def sSet (i : Nat) (d : D) : SD := fun ρ h => (d ρ h).out ρ fun o h1 => .nx (ρ.set i (some (num o h1).1)) (num o h1).2
def sIf (t : DB) (a b : SD) : SD := fun ρ h => (t ρ h).out ρ fun k h1 => if k = true then a ρ h1 else b ρ h1
section
variable {X : Cx} {ca : CA} {W : WX} {e : Expr} {d : D} {t : DB} {s : Stmt} {rest : List Stmt} {a b : SD} {pos : Pos}
theorem ss_nil : SSs X ca W [] sNil := pss_w pss_nil fun D σ H ⟨m, ρ, h, rh, re, c⟩ => c m σ H Ext.refl rh re
theorem tv_seq {g : G} {D : Ends} {σ : St} {H : Hp} (q : TSv g W (sSeq a b) D σ H) : tSeq (TSv g W a) (TSv g W b) D σ H := by
  obtain ⟨m, ρ, h, rh, re, c⟩ := q
  refine ⟨m, ρ, h, rh, re, ?_⟩
  show CtS g W m H (a ρ h) { D with nx := TSv g W b D }
  have c' : CtS g W m H (match a ρ h with
  | .nx ρ' h' => b ρ' h'
  | o => o) D := c
  cases hq : a ρ h with
  | nx ρ1 h1 =>
    rw [hq] at c'
    exact fun m2 σ2 H2 ex r2 e2 => ⟨m2, ρ1, h1, r2, e2, CtS.later ex r2 c'⟩
  | rt x k => rw [hq] at c'; exact c'
  | bk x k => rw [hq] at c'; exact c'
  | ct x k => rw [hq] at c'; exact c'
  | ex x y k => rw [hq] at c'; exact c'
  | bad => rw [hq] at c'; exact c'
theorem ss_cons (h1 : SS X ca W s a) (h2 : SSs X ca W rest b) : SSs X ca W (s :: rest) (sSeq a b) := pss_w (pss_cons h1 h2) fun D σ H q => tv_seq q
theorem ss_one (h1 : SS X ca W s a) : SSs X ca W [s] a := pss_one h1
theorem ss_ret (h : SE X ca W e d) : SS X ca W (.Return (some e) pos) (sRet d) :=
  ps_w (ps_ret h) fun D σ H t => by
    refine TVv.imp (TSv.out (rel := rO (gx X ca)) (k := fun ρ o h1 => .rt (num o h1).1 (num o h1).2) t) ?_
    rintro v H1 ⟨m0, m1, ρ, x, h1, fr, r1, e1, rv, c⟩
    obtain ⟨m2, le, fr2, r2, rv2⟩ := num_ok fr r1 rv
    exact c m2 H1 v fr2 r2 rv2
theorem ss_expr (h : SE X ca W e d) (hs : swapsWith e none pos.line X.env = pure false := by rfl) : SS X ca W (.Expr e pos) (sExpr d) :=
  ps_w (ps_expr h hs) fun D σ H t => by
    refine TVv.imp (TSv.out (rel := rO (gx X ca)) (k := fun ρ o h1 => .nx ρ h1) t) ?_
    rintro v H1 ⟨m0, m1, ρ, x, h1, fr, r1, e1, rv, c⟩
    exact c m1 σ H1 fr r1 e1
theorem ss_set (i : Nat) {x : Str} {p : Pos} (h : SE X ca W e d) (hN : X.N.Nodup) (hi : X.N[i]? = some x := by rfl) (hx : Loc X.env.scope x := by first | exact .inl rfl | exact .inr rfl) (hs : swapsWith e (some (.Name x p)) pos.line X.env = pure false := by rfl)
    (hf : X.fn x = true ∨ X.env.scope.names.lookup x = some .local := by first | exact .inl rfl | exact .inr rfl) : SS X ca W (.Assign [.Name x p] e pos) (sSet i d) :=
  ps_w (ps_set hN hi hx h hs hf) fun D σ H t => by
    refine TVv.imp (TSv.out (rel := rO (gx X ca)) (k := fun ρ o h1 => .nx (ρ.set i (some (num o h1).1)) (num o h1).2) t) ?_
    rintro v H1 ⟨m0, m1, ρ, x, h1, fr, r1, e1, rv, c⟩
    obtain ⟨m2, le, fr2, r2, rv2⟩ := num_ok fr r1 rv
    exact c m2 _ H1 fr2 r2 ((e1.le le).set rv2 i)
theorem ss_if {c : Expr} {ba bb : List Stmt} (hc : ST X ca W c t) (ha : SSs X ca W ba a) (hb : SSs X ca W bb b) : SS X ca W (.If c ba bb pos) (sIf t a b) :=
  ps_w (ps_if hc ha hb) fun D σ H q => by
    refine TVv.imp (TSv.out (rel := rB) (k := fun ρ k h1 => if k = true then a ρ h1 else b ρ h1) q) ?_
    rintro v H1 ⟨m0, m1, ρ, x, h1, fr, r1, e1, rfl, c⟩
    cases v with
    | true => rw [if_pos rfl]; rw [if_pos rfl] at c; exact ⟨m1, ρ, h1, r1, e1, c.later fr r1⟩
    | false => rw [if_neg Bool.false_ne_true]; rw [if_neg Bool.false_ne_true] at c; exact ⟨m1, ρ, h1, r1, e1, c.later fr r1⟩
end

inductive NT where
  | nm (i : Nat) | tp (is : List Nat)
def setN : List Nat → List Val → En → Option En
  | [], [], ρ => some ρ
  | i :: is, x :: xs, ρ => setN is xs (ρ.set i (some x))
  | _, _, _ => none
def setV : List Nat → List V → St → St
  | i :: is, v :: vs, σ => setV is vs (σ.set i (some v))
  | _, _, σ => σ
def NT.run : NT → Val → En → MH → Option En
  | .nm i, x, ρ, _ => some (ρ.set i (some x))
  | .tp is, .tup xs, ρ, _ => setN is xs ρ
  | .tp is, .ref n, ρ, h => match h[n]? with
    | some (.lst xs) => setN is xs ρ
    | _ => none
  | .tp _, _, _, _ => none
def NT.slots : NT → List Nat
  | .nm i => [i]
  | .tp is => is
def TGN : NT → TG
  | .nm i => fun v σ H Q => Q (σ.set i (some v)) H
  | .tp is => fun v σ H Q => ∃ a vs, v = .ref a ∧ (H a = some (.tup vs) ∨ H a = some (.lst vs)) ∧ vs.length = is.length ∧ Q (setV is vs σ) H
theorem wipe_set {σ : St} {v : Option V} : ∀ {vs : List Nat} {i : Nat}, i ∈ vs → wipe (σ.set i v) vs = wipe σ vs
  | w :: ws, i, hi => by
    show (wipe (σ.set i v) ws).set w none = (wipe σ ws).set w none
    by_cases h : i ∈ ws
    · rw [wipe_set h]
    · have e : i = w := by
        rcases List.mem_cons.mp hi with z | z
        · exact z
        · exact absurd z h
      subst e
      have g : ∀ (us : List Nat), i ∉ us → wipe (σ.set i v) us = (wipe σ us).set i v := fun us => by
        induction us with
        | nil => intro _; rfl
        | cons u us ih =>
          intro hn
          show (wipe (σ.set i v) us).set u none = ((wipe σ us).set u none).set i v
          rw [ih (fun z => hn (List.mem_cons_of_mem _ z)), List.set_comm _ _ (fun z => hn (by rw [z]; exact List.mem_cons_self))]
      rw [g ws h, List.set_set]
theorem setN_ok {K : PySem.W.Frag} {H : Hp} {m : Mu} : ∀ {is : List Nat} {xs : List Val} {vs : List V} {ρ ρ' : En} {σ : St}, RVs K H m vs xs → REnv K H m σ ρ → setN is xs ρ = some ρ' →
    vs.length = is.length ∧ REnv K H m (setV is vs σ) ρ' ∧ ∀ ws, (∀ i ∈ is, i ∈ ws) → wipe (setV is vs σ) ws = wipe σ ws
  | [], _, _, _, _, _, .nil, e, h => by
    simp [setN] at h; subst h
    exact ⟨rfl, e, fun _ _ => rfl⟩
  | [], _, _, _, _, _, .cons _ _, e, h => by simp [setN] at h
  | _ :: _, _, _, _, _, _, .nil, e, h => by simp [setN] at h
  | i :: is, _, _, _, _, _, .cons r t, e, h => by
    have h' := h
    simp only [setN] at h'
    obtain ⟨a, b, c⟩ := setN_ok t (e.set r i) h'
    refine ⟨by simp [a], b, fun ws hw => ?_⟩
    show wipe (setV is _ (_ : St)) ws = _
    rw [c ws fun j hj => hw j (List.mem_cons_of_mem _ hj)]
    exact wipe_set (hw i List.mem_cons_self)
theorem tgn_ok {g : G} {H : Hp} {m : Mu} {mh : MH} {nt : NT} {x : Val} {v : V} {ρ ρ' : En} {σ : St} {Q : St → Hp → Prop} (rh : RepH g m H mh) (r : RV g.K H m v x) (e : REnv g.K H m σ ρ) (h : nt.run x ρ mh = some ρ')
    (q : ∀ σ', REnv g.K H m σ' ρ' → (∀ ws, (∀ i ∈ nt.slots, i ∈ ws) → wipe σ' ws = wipe σ ws) → Q σ' H) : TGN nt v σ H Q := by
  cases nt with
  | nm i =>
    simp only [NT.run, Option.some.injEq] at h
    subst h
    exact q _ (e.set r i) fun ws hw => wipe_set (hw i List.mem_cons_self)
  | tp is =>
    cases r with
    | tup h1 h2 =>
      obtain ⟨a, b, c⟩ := setN_ok h2 e h
      exact ⟨_, _, rfl, .inl h1, a, q _ b c⟩
    | ref hm =>
      simp only [NT.run] at h
      split at h
      · rename_i xs e1
        obtain ⟨a', e2, vs, e3, e4⟩ := rh.at_ _ _ e1
        rw [hm] at e2; cases e2
        obtain ⟨a, b, c⟩ := setN_ok e4 e h
        exact ⟨_, _, rfl, .inr e3, a, q _ b c⟩
      · cases h
    | _ => simp [NT.run] at h
def SN (X : Cx) (target : Expr) (nt : NT) : Prop := PG X target (TGN nt)
section
variable {X : Cx} {pos : Pos}
theorem sn_nm (i : Nat) {x : Str} (hN : X.N.Nodup) (hi : X.N[i]? = some x := by rfl) (hx : Loc X.env.scope x := by first | exact .inl rfl | exact .inr rfl) (hf : X.fn x = true ∨ X.env.scope.names.lookup x = some .local := by first | exact .inl rfl | exact .inr rfl) : SN X (.Name x pos) (.nm i) :=
  pg_name hN hi hx hf
def SNs (X : Cx) (es : List Expr) (is : List Nat) : Prop := PGs X es fun vs σ H Q => vs.length = is.length ∧ Q (setV is vs σ) H
theorem sns_nil : SNs X [] [] := by
  refine ⟨fun pins s σ H vs us Q I r h => pgs_nil.run pins s σ H vs us Q I r ?_⟩
  obtain ⟨a, b⟩ := h
  have : vs = [] := List.eq_nil_of_length_eq_zero a
  subst this
  exact ⟨rfl, b⟩
theorem sns_cons {e : Expr} {es : List Expr} {i : Nat} {is : List Nat} (h1 : SN X e (.nm i)) (h2 : SNs X es is) (hs : (assignEach (e :: es) X.env).map (·.2) = assign e X.env :: (assignEach es X.env).map (·.2) := by rfl) : SNs X (e :: es) (i :: is) := by
  refine ⟨fun pins s σ H vs us Q I r h => (pgs_cons h1 h2 hs).run pins s σ H vs us Q I r ?_⟩
  obtain ⟨a, b⟩ := h
  cases vs with
  | nil => simp at a
  | cons v vs => exact ⟨v, vs, rfl, by simpa using a, b⟩
theorem sn_tp {es : List Expr} {is : List Nat} {k : Nat} (hc : X.calm = true) (h : SNs X es is) (hn : (assignEach es X.env).length = is.length := by rfl) (hst : (assignEach es X.env).findIdx? (·.1) = none := by rfl) : SN X (.Tuple es k pos) (.tp is) := by
  refine ⟨fun pins s σ H v u Q I r hq => ?_⟩
  obtain ⟨a, vs, rfl, e, l, q⟩ := hq
  rcases e with e | e
  · exact (pg_tup hc h hn hst).run pins s σ H _ u Q I r ⟨a, vs, rfl, SqT.of e, l, l, q⟩
  · exact (pg_unl hc h hn hst).run pins s σ H _ u Q I r ⟨a, vs, rfl, SqL.of e, l, l, q⟩
end

abbrev TD := Val → En → MH → Out
def CtG (g : G) (m0 : Mu) (Hs : Hp) (o : Out) (Q : St → Hp → Prop) : Prop := match o with
  | .nx ρ' h' => ∀ m' σ' H', Ext m0 m' Hs H' → RepH g m' H' h' → REnv g.K H' m' σ' ρ' → Q σ' H'
  | _ => False
def TGv (g : G) (t : TD) : TG := fun v σ H Q => ∃ m ρ h x, RepH g m H h ∧ REnv g.K H m σ ρ ∧ RV g.K H m v x ∧ CtG g m H (t x ρ h) Q
def SG (X : Cx) (ca : CA) (target : Expr) (t : TD) : Prop := PG X target (TGv (gx X ca) t)
theorem pg_w {X : Cx} {e : Expr} {t t' : TG} (h : PG X e t) (i : ∀ v σ H Q, t' v σ H Q → t v σ H Q) : PG X e t' := ⟨fun pins s σ H v u Q I r q => h.run pins s σ H v u Q I r (i v σ H Q q)⟩
def tdN (nt : NT) : TD := fun x ρ h => match nt.run x ρ h with
  | some ρ' => .nx ρ' h
  | none => .bad
section
variable {X : Cx} {ca : CA} {W : WX} {e : Expr} {d da di : D} {pos : Pos}
theorem sg_n {tg : Expr} {nt : NT} (h : SN X tg nt) : SG X ca tg (tdN nt) := pg_w h fun v σ H Q ⟨m, ρ, h, x, rh, re, rv, c⟩ => by
  unfold tdN at c
  cases hq : nt.run x ρ h with
  | none => rw [hq] at c; exact c.elim
  | some ρ' => rw [hq] at c; exact tgn_ok rh rv re hq fun σ' e' _ => c m σ' H Ext.refl rh e'
def sAsg (d : D) (t : TD) : SD := fun ρ h => (d ρ h).out ρ fun o h1 => match t (num o h1).1 ρ (num o h1).2 with
  | .nx ρ' h' => .nx ρ' h'
  | _ => .bad
theorem ss_asg {tg : Expr} {t : TD} (he : SE X ca W e d) (hg : SG X ca tg t) (hs : swapsWithSole [tg] e pos.line X.env = pure false := by rfl) (hw : swappedStores [tg] e X.env = pure none := by rfl)
    (h1 : (assignEach [tg] X.env).map (·.2) = [assign tg X.env] := by rfl) : SS X ca W (.Assign [tg] e pos) (sAsg d t) :=
  ps_w (ps_asg he hg hs hw h1) fun D σ H q => by
    refine TVv.imp (TSv.out (rel := rO (gx X ca)) (k := fun ρ o h1 => match t (num o h1).1 ρ (num o h1).2 with
  | .nx ρ' h' => .nx ρ' h'
  | _ => .bad) q) ?_
    rintro v H1 ⟨m0, m1, ρ, x, h1, fr, r1, e1, rv, c⟩
    obtain ⟨m2, le, fr2, r2, rv2⟩ := num_ok fr r1 rv
    refine ⟨m2, ρ, _, _, r2, e1.le le, rv2, ?_⟩
    cases hq : t (num x h1).1 ρ (num x h1).2 with
    | nx ρ' h' => rw [hq] at c; exact fun m3 σ3 H3 ex r3 e3 => c m3 σ3 H3 (fr2.tr r2 ex) r3 e3
    | _ => rw [hq] at c; exact c.elim
def sPar (is : List Nat) (ds : DV) : SD := fun ρ h => (ds ρ h).out ρ fun xs h1 => match setN is xs ρ with
  | some ρ' => .nx ρ' h1
  | none => .bad
theorem ss_par {i j : Nat} {x y : Str} {a b : Expr} {ds : DV} {px py pt : Pos} {kt k2 : Nat} {pt2 : Pos} (ha : SV X ca W [a, b] ds) (hc : X.calm = true) (hN : X.N.Nodup) (hi : X.N[i]? = some x := by rfl) (hj : X.N[j]? = some y := by rfl) (hij : i ≠ j := by decide)
    (hx : X.env.scope.names.lookup x = some .local := by rfl) (hy : X.env.scope.names.lookup y = some .local := by rfl)
    (hw : swappedStores [.Tuple [.Name x px, .Name y py] kt pt] (.Tuple [a, b] k2 pt2) X.env = pure (some [x, y]) := by rfl)
    (hs : swapsWithSole [.Tuple [.Name x px, .Name y py] kt pt] (.Tuple [a, b] k2 pt2) pos.line X.env = pure false := by rfl) :
    SS X ca W (.Assign [.Tuple [.Name x px, .Name y py] kt pt] (.Tuple [a, b] k2 pt2) pos) (sPar [i, j] ds) :=
  ps_w (ps_par hc hN hi hj hij hx hy ha hw hs) fun D σ H q => by
    refine TVv.imp (TSv.out (rel := rL (gx X ca)) (k := fun ρ xs h1 => match setN [i, j] xs ρ with
  | some ρ' => .nx ρ' h1
  | none => .bad) q) ?_
    rintro vs H1 ⟨m0, m1, ρ, xs, h1, fr, r1, e1, rv, c⟩
    cases hq : setN [i, j] xs ρ with
    | none => rw [hq] at c; exact c.elim
    | some ρ' =>
      rw [hq] at c
      obtain ⟨l, b, _⟩ := setN_ok rv e1 hq
      match vs, l with
      | [v, w], _ => exact ⟨v, w, rfl, c m1 _ H1 fr r1 b⟩
end
end Mi

namespace Mi
open PySem L2

def putD (kvs : List (Val × Val)) (k v : Val) : List (Val × Val) :=
  if (kvs.any fun p => keyEq p.1 k) = true then kvs.map (fun p => if keyEq p.1 k = true then (p.1, v) else p) else kvs ++ [(k, v)]
def putT (kvs : List (List Val × Val)) (k : List Val) (v : Val) : List (List Val × Val) :=
  if (kvs.any fun p => keysEq p.1 k) = true then kvs.map (fun p => if keysEq p.1 k = true then (p.1, v) else p) else kvs ++ [(k, v)]
def fSetIx (x y z : Val) (h : MH) : Option MH := match x with
  | .ref n => match h[n]? with
    | some (.lst xs) => match y with
      | .int i => match ixN xs.length i with
        | some j => some (h.set n (.lst (xs.set j z)))
        | none => none
      | _ => none
    | some (.dK kvs) => if isKey y = true ∧ kvs.length < 16777216 then some (h.set n (.dK (putD kvs y z))) else none
    | some (.dT kvs) => match y with
      | .tup ks => if ks.all isKey = true ∧ kvs.length < 16777216 then some (h.set n (.dT (putT kvs ks z))) else none
      | _ => none
    | _ => none
  | _ => none
theorem rk_length {K : PySem.W.Frag} {H : Hp} {m : Mu} {ks : List (Key × V)} {kvs : List (Val × Val)} (r : RK K H m ks kvs) : ks.length = kvs.length := by
  induction r with
  | nil => rfl
  | cons _ _ _ ih => simp [ih]
theorem rkt_length {K : PySem.W.Frag} {H : Hp} {m : Mu} {ks : List (List Key × V)} {kvs : List (List Val × Val)} (r : RKT K H m ks kvs) : ks.length = kvs.length := by
  induction r with
  | nil => rfl
  | cons _ _ _ ih => simp [ih]
theorem rk_any {K : PySem.W.Frag} {H : Hp} {m : Mu} {y : Val} {l : Key} (e2 : keyOf y = some l) {ks : List (Key × V)} {kvs : List (Val × Val)} (r : RK K H m ks kvs) : (ks.any fun kv => decide (kv.1 = l)) = (kvs.any fun p => keyEq p.1 y) := by
  induction r with
  | nil => rfl
  | cons ek _ _ ih => rw [List.any_cons, List.any_cons, ih, key_eq ek e2]
theorem rkt_any {K : PySem.W.Frag} {H : Hp} {m : Mu} {y : List Val} {l : List Key} (e2 : keysOf y = some l) {ks : List (List Key × V)} {kvs : List (List Val × Val)} (r : RKT K H m ks kvs) : (ks.any fun kv => decide (kv.1 = l)) = (kvs.any fun p => keysEq p.1 y) := by
  induction r with
  | nil => rfl
  | cons ek _ _ ih => rw [List.any_cons, List.any_cons, ih, keys_eq ek e2]
theorem RK.append {K : PySem.W.Frag} {H : Hp} {m : Mu} {ks : List (Key × V)} {kvs : List (Val × Val)} (r : RK K H m ks kvs) {ks' : List (Key × V)} {kvs' : List (Val × Val)} (r' : RK K H m ks' kvs') : RK K H m (ks ++ ks') (kvs ++ kvs') := by
  induction r with
  | nil => exact r'
  | cons a b _ ih => exact .cons a b ih
theorem RKT.append {K : PySem.W.Frag} {H : Hp} {m : Mu} {ks : List (List Key × V)} {kvs : List (List Val × Val)} (r : RKT K H m ks kvs) {ks' : List (List Key × V)} {kvs' : List (List Val × Val)} (r' : RKT K H m ks' kvs') : RKT K H m (ks ++ ks') (kvs ++ kvs') := by
  induction r with
  | nil => exact r'
  | cons a b _ ih => exact .cons a b ih
theorem putD_ok {K : PySem.W.Frag} {H : Hp} {m : Mu} {y z : Val} {l : Key} {w : V} (e2 : keyOf y = some l) (rz : RV K H m w z) {ks : List (Key × V)} {kvs : List (Val × Val)} (r : RK K H m ks kvs) : RK K H m (putK ks l w) (putD kvs y z) := by
  unfold putK putD
  rw [rk_any e2 r]
  split
  · rename_i h0
    clear h0
    induction r with
    | nil => exact .nil
    | @cons k v kv x y' xs ek rv t ih =>
      rw [List.map_cons, List.map_cons]
      have h := key_eq ek e2
      by_cases hd : k = l
      · rw [if_pos hd]; rw [decide_eq_true hd] at h; rw [if_pos h.symm]; exact .cons ek rz ih
      · rw [if_neg hd]; rw [decide_eq_false hd] at h; rw [if_neg (by rw [← h]; decide)]; exact .cons ek rv ih
  · exact r.append (.cons e2 rz .nil)
theorem putT_ok {K : PySem.W.Frag} {H : Hp} {m : Mu} {y : List Val} {z : Val} {l : List Key} {w : V} (e2 : keysOf y = some l) (rz : RV K H m w z) {ks : List (List Key × V)} {kvs : List (List Val × Val)} (r : RKT K H m ks kvs) : RKT K H m (putK ks l w) (putT kvs y z) := by
  unfold putK putT
  rw [rkt_any e2 r]
  split
  · rename_i h0
    clear h0
    induction r with
    | nil => exact .nil
    | @cons k v kv x y' xs ek rv t ih =>
      rw [List.map_cons, List.map_cons]
      have h := keys_eq ek e2
      by_cases hd : k = l
      · rw [if_pos hd]; rw [decide_eq_true hd] at h; rw [if_pos h.symm]; exact .cons ek rz ih
      · rw [if_neg hd]; rw [decide_eq_false hd] at h; rw [if_neg (by rw [← h]; decide)]; exact .cons ek rv ih
  · exact r.append (.cons e2 rz .nil)
abbrev rSetAll : TSet := fun o i v H Q => rSetL o i v H Q ∨ ∃ a H', o = .ref a ∧ DPut H a i v H' ∧ Q H'
theorem set_all {X : Cx} (hu : X.A.units + 1 < cLine) : PSet X rSetAll := by
  intro pins s σ H o i v ov iv u Q I ro ri rv h
  rcases h with h | ⟨a, H', rfl, g, q⟩
  · exact set_list pins s σ H o i v ov iv u Q I ro ri rv h
  · obtain rfl : ov = Value.ref a := ro
    exact d_setItem hu I g ri rv fun s' I' => ⟨H', I', q⟩
theorem fSetIx_ok {g : G} {m0 m : Mu} {Hs H : Hp} {h h' : MH} {v u w : V} {x y z : Val} (fr : Ext m0 m Hs H) (r : RepH g m H h) (qx : RV g.K H m v x) (qy : RV g.K H m u y) (qz : RV g.K H m w z) (e : fSetIx x y z h = some h') {Q : Hp → Prop}
    (q : ∀ H', Ext m0 m Hs H' → RepH g m H' h' → (∀ v x, RV g.K H m v x → RV g.K H' m v x) → Q H') : rSetAll v u w H Q := by
  unfold fSetIx at e
  split at e
  · rename_i n
    cases qx with
    | ref hm =>
      rename_i a
      have fin : ∀ (o : HO) (b : Ob), (∀ o u, H a ≠ some (.frz o u)) → RO g (upd H a o) m a b → h.set n b = h' → Q (upd H a o) := fun o b nf ro eh => by
        have x2 : Ext m m H (upd H a o) := Ext.upd hm nf
        exact q _ (fr.tr r x2) (by rw [← eh]; exact r.upd hm ro) fun v x rv => x2.rv r rv
      have mo : ∀ (o : HO), Kp H (upd H a o) := fun o => r.kpu hm
      split at e
      · rename_i xs hk
        obtain ⟨b, e1, vs, e2, e3⟩ := r.at_ _ _ hk
        rw [hm] at e1; cases e1
        split at e
        · rename_i i
          split at e
          · rename_i j hj
            simp at e
            cases qy
            exact .inl ⟨a, vs, i, j, rfl, rfl, e2, by rw [e3.length]; exact hj, fin _ (.lst (xs.set j z)) (fun _ _ z => by rw [e2] at z; cases z) ⟨_, upd_same, ((e3.set qz j).mono (mo _) fun _ _ z => z)⟩ e⟩
          · cases e
        · cases e
      · rename_i kvs hk
        obtain ⟨b, e1, ks, e2, e3⟩ := r.at_ _ _ hk
        rw [hm] at e1; cases e1
        split at e
        · rename_i hy
          simp at e
          obtain ⟨l, e4, rfl⟩ := key_of qy hy.1
          exact .inr ⟨a, _, rfl, DPut.k e2 (by rw [rk_length e3, sl_eq]; exact hy.2), fin _ (.dK (putD kvs y z)) (fun _ _ z => by rw [e2] at z; cases z) ⟨_, upd_same, (putD_ok e4 qz e3).mono (mo _) fun _ _ z => z⟩ e⟩
        · cases e
      · rename_i kvs hk
        obtain ⟨b, e1, ks, e2, e3⟩ := r.at_ _ _ hk
        rw [hm] at e1; cases e1
        split at e
        · rename_i ys
          split at e
          · rename_i hy
            simp at e
            cases qy with
            | tup h1 h2 =>
              obtain ⟨l, e4, rfl⟩ := keys_of h2 hy.1
              exact .inr ⟨a, _, rfl, DPut.t e2 h1 (by rw [rkt_length e3, sl_eq]; exact hy.2), fin _ (.dT (putT kvs ys z)) (fun _ _ z => by rw [e2] at z; cases z) ⟨_, upd_same, (putT_ok e4 qz e3).mono (mo _) fun _ _ z => z⟩ e⟩
          · cases e
        · cases e
      · cases e
  · cases e
def tdSub (da di : D) : TD := fun z ρ h => match da ρ h with
  | .ok (.v x) h1 => match di ρ h1 with
    | .ok (.v y) h2 => match fSetIx x y z h2 with
      | some h3 => .nx ρ h3
      | none => .bad
    | _ => .bad
  | _ => .bad
abbrev W0 : WX := fun _ _ _ _ => False
section
variable {X : Cx} {ca : CA} {W : WX} {a b e : Expr} {d da di : D} {pos : Pos}
theorem sg_sub (hu : X.A.units + 1 < cLine) (ha : SE X ca W a da) (hb : SE X ca W b di)
    (hh : ∀ v, assign (.Subscript a b pos) X.env v = (do
      let ov ← holding [v] (eval a X.env)
      let iv ← holding [v, ov] (eval b X.env)
      standAt pos
      holding [v, ov, iv] (setItem ov iv v)
      release [v, ov, iv] []) := by intro _; rfl) : SG X ca (.Subscript a b pos) (tdSub da di) :=
  pg_w (pg_sub ha hb (set_all hu) hh) fun v σ H Q ⟨m, ρ, h, z, rh, re, rz, c⟩ => by
    unfold tdSub at c
    refine ⟨m, ρ, h, rh, re, ?_⟩
    cases h1 : da ρ h with
    | bad => rw [h1] at c; exact c.elim
    | ex k hh => rw [h1] at c; exact c.elim
    | ok o h1' =>
      rw [h1] at c
      cases o with
      | n xs => exact c.elim
      | v x =>
        simp only at c
        intro m1 H1 v1 fr1 r1 rv1
        refine ⟨m1, ρ, h1', r1, fr1.env rh re, ?_⟩
        cases h2 : di ρ h1' with
        | bad => rw [h2] at c; exact c.elim
        | ex k hh => rw [h2] at c; exact c.elim
        | ok o2 h2' =>
          rw [h2] at c
          cases o2 with
          | n xs => exact c.elim
          | v y =>
            simp only at c
            intro m2 H2 v2 fr2 r2 rv2
            cases h3 : fSetIx x y z h2' with
            | none => rw [h3] at c; exact c.elim
            | some h4 =>
              rw [h3] at c
              have fr02 := fr1.tr r1 fr2
              refine fSetIx_ok fr02 r2 (fr2.rv r1 rv1) rv2 (fr02.rv rh rz) h3 fun H' x' r' mv => ?_
              exact c m2 σ H' x' r' ⟨re.len, fun i y e => let ⟨v, q1, q2⟩ := (fr02.env rh re).at_ i y e; ⟨v, q1, mv _ _ q2⟩⟩

structure Sv (g : G) (J : It) (m0 : Mu) (H0 : Hp) (xs : List Val) (lv : MH → Bool) : Prop where
  stop : ∀ i m H h, Ext m0 m H0 H → RepH g m H h → lv h = true → xs.length ≤ i → J.stop i H
  go : ∀ i m H h x, Ext m0 m H0 H → RepH g m H h → lv h = true → xs[i]? = some x → J.go i H ∧ ∀ v H', J.yld i H v H' → Ext m m H H' ∧ RepH g m H' h ∧ RV g.K H' m v x
abbrev DI := En → MH → R (List Val × (MH → Bool))
abbrev rI' (g : G) : Rel (List Val × (MH → Bool)) It := fun _ H m J p => Sv g J m H p.1 p.2
def SI (X : Cx) (ca : CA) (W : WX) (tg e : Expr) (d : DI) : Prop := PI X tg e (TVv (gx X ca) W (rI' (gx X ca)) d)
theorem pi_w {tg e : Expr} {t t' : TI} (h : PI X tg e t) (i : ∀ σ H Q, t' σ H Q → t σ H Q) : PI X tg e t' := ⟨fun pins s σ H Q I q => h.run pins s σ H Q I (i σ H Q q)⟩
def forL (nt : NT) (body : SD) (lv : MH → Bool) : List Val → En → MH → Out
  | [], ρ, h => if lv h = true then .nx ρ h else .bad
  | x :: xs, ρ, h => if lv h = true then match nt.run x ρ h with
    | some ρ1 => match body ρ1 h with
      | .nx ρ2 h2 => forL nt body lv xs ρ2 h2
      | .ct ρ2 h2 => forL nt body lv xs ρ2 h2
      | .bk ρ2 h2 => .nx ρ2 h2
      | o => o
    | none => .bad
    else .bad
def sFor (di : DI) (nt : NT) (body : SD) : SD := fun ρ h => (di ρ h).out ρ fun p h1 => forL nt body p.2 p.1 ρ h1
theorem ss_for {tg iter : Expr} {body : List Stmt} {di : DI} {nt : NT} {sb : SD} (hp : PassesOwn (model X.prog X.w) X.A X.env X.xe) (hc : X.calm = true) (hi : SI X ca W tg iter di) (hg : SN X tg nt) (hb : SSs X ca W body sb)
    (hs : ∀ x, foldedSetIterable iter X.env x = pure x := by intro _; rfl) : SS X ca W (.For tg iter body [] pos) (sFor di nt sb) :=
  ps_w (ps_for hp hc hi hg hb hs) fun D σ H t => by
    refine TVv.imp (TSv.out (rel := rI' (gx X ca)) (k := fun ρ p h1 => forL nt sb p.2 p.1 ρ h1) t) ?_
    rintro J H1 ⟨m0, m1, ρ, ⟨xs, lv⟩, h1, fr, r1, e1, sv, c⟩
    refine ⟨fun i k σ' H' => k = xs.length - i ∧ i ≤ xs.length ∧ ∃ m' ρ' h', Ext m1 m' H1 H' ∧ RepH (gx X ca) m' H' h' ∧ REnv X.K H' m' σ' ρ' ∧ CtS (gx X ca) W m0 H (forL nt sb lv (xs.drop i) ρ' h') D,
      ⟨xs.length, by simp, by simp, m1, ρ, h1, Ext.refl, r1, e1, by simpa using c⟩, ?_⟩
    rintro i k σ' H' ⟨rfl, hi', m2, ρ2, h2, x2, r2, e2, c2⟩
    by_cases hlt : i < xs.length
    · have hx : xs[i]? = some xs[i] := List.getElem?_eq_getElem hlt
      rw [List.drop_eq_getElem_cons hlt] at c2
      simp only [forL] at c2
      split at c2
      · rename_i hlv
        obtain ⟨gg, yy⟩ := sv.go i m2 H' h2 xs[i] x2 r2 hlv hx
        refine .inr ⟨gg, fun σ3 H3 => ∃ m' ρ' h', Ext m1 m' H1 H3 ∧ RepH (gx X ca) m' H3 h' ∧ REnv X.K H3 m' σ3 ρ' ∧ CtS (gx X ca) W m0 H (forL nt sb lv (xs.drop (i + 1)) ρ' h') D, fun σ3 H3 n3 => ⟨xs.length - (i + 1), by omega, rfl, hlt, n3⟩, fun v H3 y => ?_⟩
        obtain ⟨x3, r3, rv3⟩ := yy v H3 y
        have e3 := x3.env r2 e2
        cases hr : nt.run xs[i] ρ2 h2 with
        | none => rw [hr] at c2; exact c2.elim
        | some ρ3 =>
          rw [hr] at c2
          refine tgn_ok r3 rv3 e3 hr fun σ4 e4 _ => ?_
          refine ⟨m2, ρ3, h2, r3, e4, ?_⟩
          have x13 := x2.tr r2 x3
          have x03 := fr.tr r1 x13
          simp only at c2
          cases hbo : sb ρ3 h2 with
          | nx ρ5 h5 => rw [hbo] at c2; exact fun m5 σ5 H5 e5 r5 n5 => ⟨m5, ρ5, h5, x13.tr r3 e5, r5, n5, c2⟩
          | ct ρ5 h5 => rw [hbo] at c2; exact fun m5 σ5 H5 e5 r5 n5 => ⟨m5, ρ5, h5, x13.tr r3 e5, r5, n5, c2⟩
          | bk ρ5 h5 => rw [hbo] at c2; exact fun m5 σ5 H5 e5 r5 n5 => c2 m5 σ5 H5 (x03.tr r3 e5) r5 n5
          | rt w h5 => rw [hbo] at c2; exact fun m5 H5 v5 e5 r5 n5 => c2 m5 H5 v5 (x03.tr r3 e5) r5 n5
          | ex w ρ5 h5 => rw [hbo] at c2; exact fun m5 σ5 H5 e5 r5 n5 => c2 m5 σ5 H5 (x03.tr r3 e5) r5 n5
          | bad => rw [hbo] at c2; exact c2.elim
      · exact c2.elim
    · rw [List.drop_eq_nil_of_le (by omega)] at c2
      simp only [forL] at c2
      split at c2
      · rename_i hlv
        exact .inl ⟨sv.stop i m2 H' h2 x2 r2 hlv (Nat.le_of_not_lt hlt), c2 m2 σ' H' (fr.tr r1 x2) r2 e2⟩
      · exact c2.elim
def whileL (t : DB) (body : SD) : Nat → En → MH → Out
  | 0, _, _ => .bad
  | n + 1, ρ, h => (t ρ h).out ρ fun k h1 => if k = true then match body ρ h1 with
      | .nx ρ2 h2 => whileL t body n ρ2 h2
      | .ct ρ2 h2 => whileL t body n ρ2 h2
      | .bk ρ2 h2 => .nx ρ2 h2
      | o => o
    else .nx ρ h1
def sWhile (n : Nat) (t : DB) (body : SD) : SD := whileL t body n
theorem Ext.put {m0 m : Mu} {H0 H : Hp} {D : Addr} {o : HO} (x : Ext m0 m H0 H) (h0 : H0 D = none) (hn : ∀ n, m n ≠ some D) : Ext m0 m H0 (L2.upd H D o) :=
  ⟨x.le, x.new, fun b u e t q => by
    rw [L2.upd_ne (ne_of_none e h0)]
    exact x.keep b u e t q, fun b u e q => by
    rw [L2.upd_ne (ne_of_none e h0)]
    exact x.tbls b u e q, fun b o u e => by
    rw [L2.upd_ne (ne_of_none e h0)]
    exact x.frzs b o u e⟩
theorem Kp.of_lst {H : Hp} {D : Addr} {o : HO} {vs : List V} (d : H D = some (.lst vs)) : Kp H (L2.upd H D o) := by
  refine ⟨fun a xs z => ?_, fun a o xs z => ?_, fun a xs z => ?_⟩
  · rw [L2.upd_ne]; exact z
    intro w; rw [w, d] at z; cases z
  · rw [L2.upd_ne]; exact z
    intro w; rw [w, d] at z; cases z
  · rw [L2.upd_ne]; exact z
    intro w; rw [w, d] at z; cases z
theorem RepH.put {g : G} {m : Mu} {H : Hp} {h : MH} {D : Addr} {vs ws : List V} (r : RepH g m H h) (hd : H D = some (.lst vs)) (hn : ∀ n, m n ≠ some D) : RepH g m (L2.upd H D (.lst ws)) h :=
  ⟨r.dom, r.inj, fun n u e => (by
    obtain ⟨a, e1, q⟩ := r.at_ n u e
    refine ⟨a, e1, q.mono ⟨fun b xs z => ?_, fun b o xs z => ?_, fun b xs z => ?_⟩ (fun _ _ z => z) (L2.upd_ne fun w => hn n (by rw [← w]; exact e1))⟩
    · rw [L2.upd_ne]; exact z
      intro w; rw [w, hd] at z; cases z
    · rw [L2.upd_ne]; exact z
      intro w; rw [w, hd] at z; cases z
    · rw [L2.upd_ne]; exact z
      intro w; rw [w, hd] at z; cases z), tabs_but (a := D) r.tabs (fun b o hb q => by rw [L2.upd_ne hb]; exact q) (fun ps z => by rw [hd] at z; cases z) (fun q z => by rw [hd] at z; unfold LamX.CodeO at z; cases z)⟩
def R.get {α β : Type} (r : R α) (f : α → MH → R β) : R β := match r with
  | .ok a h => f a h
  | _ => .bad
def wipeE (ρ : En) : List Nat → En
  | [] => ρ
  | v :: vs => (wipeE ρ vs).set v none
def compL (nt : NT) (tst : DB) (elt : D) (lv : MH → Bool) : List Val → En → MH → R (List Val)
  | [], _, h => if lv h = true then .ok [] h else .bad
  | x :: xs, ρ, h => if lv h = true then match nt.run x ρ h with
    | some ρ1 => (tst ρ1 h).get fun b h1 => if b = true then (elt ρ1 h1).get fun o h2 => (compL nt tst elt lv xs ρ (num o h2).2).get fun ys h3 => .ok ((num o h2).1 :: ys) h3
      else compL nt tst elt lv xs ρ h1
    | none => .bad
    else .bad
def dComp (own : List Nat) (di : DI) (nt : NT) (tst : DB) (elt : D) : D := fun ρ h => (di ρ h).bind fun p h1 => if p.1.length ≤ 16777216 then (compL nt tst elt p.2 p.1 (wipeE ρ own) h1).get fun ys h2 => .ok (.n ys) h2 else .bad
def tYesB : DB := fun _ h => .ok true h
theorem wipe_env {K : PySem.W.Frag} {H : Hp} {m : Mu} {σ : St} {ρ : En} (e : REnv K H m σ ρ) : ∀ vs, REnv K H m (wipe σ vs) (wipeE ρ vs)
  | [] => e
  | v :: vs => by
    have ih := wipe_env e vs
    refine ⟨?_, fun i x q => ?_⟩
    · show ((wipe σ vs).set v none).length = ((wipeE ρ vs).set v none).length
      rw [List.length_set, List.length_set, ih.len]
    · have q' : ((wipeE ρ vs).set v none)[i]? = some (some x) := q
      by_cases hi : v = i
      · subst hi
        by_cases hl : v < (wipeE ρ vs).length
        · rw [List.getElem?_set_self hl] at q'; cases q'
        · rw [List.getElem?_eq_none (by simpa using hl)] at q'; cases q'
      · rw [List.getElem?_set_ne hi] at q'
        obtain ⟨w, h1, h2⟩ := ih.at_ i x q'
        exact ⟨w, by show ((wipe σ vs).set v none)[i]? = _; rw [List.getElem?_set_ne hi]; exact h1, h2⟩
end
abbrev InBlk (X : Cx) (scope : Scope) (P : Cx → Prop) : Prop := ∀ (s : Shared) (H : Hp) (C : Addr) (cl : List (Str × Addr)) (fp : List Addr), P (X.blk s H scope (compEnvC scope cl C X.env) fp)
def STs (X : Cx) (ca : CA) (W : WX) (ifs : List Expr) (d : DB) : Prop := PTs X ifs (TTv (gx X ca) W d)
section
variable {X : Cx} {ca : CA} {W : WX}
theorem pts_w {ifs : List Expr} {t t' : TT} (h : PTs X ifs t) (i : ∀ σ H Q, t' σ H Q → t σ H Q) : PTs X ifs t' := ⟨fun pins s σ H Q I q => h.run pins s σ H Q I (i σ H Q q)⟩
theorem sts_nil : STs X ca W [] tYesB := pts_w pts_nil fun σ H Q ⟨m, ρ, h, rh, re, c⟩ => c m H true Ext.refl rh rfl
theorem sts_one {c : Expr} {d : DB} (h : ST X ca W c d) : STs X ca W [c] d := pts_one h
theorem tv_comp {g : G} {own : List Nat} {di : DI} {nt : NT} {tst : DB} {elt : D} (hsl : ∀ i ∈ nt.slots, i ∈ own) {σ : St} {H : Hp} {Q : VK} (t : TEv g W (dComp own di nt tst elt) σ H Q) :
    tLc (TVv g W (rI' g) di) (TGN nt) (TTv g W0 tst) (TEv g W0 elt) own σ H Q := by
  refine TVv.imp (TVv.bind (rel := rI' g) (rel' := rO g) (f := fun ρ p h1 => if p.1.length ≤ 16777216 then (compL nt tst elt p.2 p.1 (wipeE ρ own) h1).get fun ys h2 => .ok (.n ys) h2 else .bad) t) ?_
  rintro J H1 ⟨m0, m1, ρ, ⟨xs, lv⟩, h1, fr, r1, e1, sv, c⟩
  intro D hD
  simp only at c
  split at c
  · rename_i hz
    cases hq : compL nt tst elt lv xs (wipeE ρ own) h1 with
    | bad => rw [hq] at c; exact c.elim
    | ex k hh => rw [hq] at c; exact c.elim
    | ok zs h9 =>
      rw [hq] at c
      have c : Ct g W (rO g) m0 H (.ok (.n zs) h9) σ Q := c
      have x1 : Ext m1 m1 H1 (upd H1 D (.lst [])) := Ext.laid hD
      have hD0 : H D = none := fr.free r1 D hD
      have ew := wipe_env e1 own
      refine ⟨fun i k H' => k = xs.length - i ∧ i ≤ xs.length ∧ ∃ m' h' acc vs ys, Ext m1 m' H1 H' ∧ RepH g m' H' h' ∧ H' D = some (.lst vs) ∧ (∀ n, m' n ≠ some D) ∧ RVs g.K H' m' vs acc ∧ acc.length ≤ i ∧ zs = acc ++ ys ∧ compL nt tst elt lv (xs.drop i) (wipeE ρ own) h' = .ok ys h9,
        ⟨xs.length, by simp, by simp, m1, h1, [], [], zs, x1, r1.laid hD, upd_same, fun n e => r1.ne hD e rfl, .nil, by simp, by simp, by simpa using hq⟩, ?_⟩
      rintro i k H' ⟨rfl, hi', m2, h2, acc, vs, ys, x2, r2, d2, n2, ra, la, rfl, c2⟩
      by_cases hlt : i < xs.length
      · have hx : xs[i]? = some xs[i] := List.getElem?_eq_getElem hlt
        rw [List.drop_eq_getElem_cons hlt] at c2
        simp only [compL] at c2
        split at c2
        · rename_i hlv
          obtain ⟨gg, yy⟩ := sv.go i m2 H' h2 xs[i] x2 r2 hlv hx
          refine .inr ⟨gg, fun H3 => ∃ m' h' acc' vs' ys', Ext m1 m' H1 H3 ∧ RepH g m' H3 h' ∧ H3 D = some (.lst vs') ∧ (∀ n, m' n ≠ some D) ∧ RVs g.K H3 m' vs' acc' ∧ acc'.length ≤ i + 1 ∧ acc ++ ys = acc' ++ ys' ∧ compL nt tst elt lv (xs.drop (i + 1)) (wipeE ρ own) h' = .ok ys' h9,
            fun H3 n3 => ⟨xs.length - (i + 1), by omega, rfl, hlt, n3⟩, fun v H3 y => ?_⟩
          obtain ⟨x3, r3, rv3⟩ := yy v H3 y
          have d3 : H3 D = some (.lst vs) := x3.keep _ _ d2 (fun _ z => by cases z) n2
          have x13 := x2.tr r2 x3
          have e3 : REnv g.K H3 m2 (wipe σ own) (wipeE ρ own) := (x13.env r1 ew)
          cases hr : nt.run xs[i] (wipeE ρ own) h2 with
          | none => rw [hr] at c2; cases c2
          | some ρ3 =>
            rw [hr] at c2
            simp only at c2
            refine tgn_ok r3 rv3 e3 hr fun σ4 e4 w4 => ⟨?_, ?_⟩
            · rw [w4 own hsl]
              have idem : ∀ (us : List Nat) (τ : St), wipe (wipe τ us) us = wipe τ us := fun us τ => by
                have key : ∀ (as bs : List Nat), wipe (wipe τ bs) as = wipe (wipe τ as) bs := by
                  intro as bs
                  apply List.ext_getElem?
                  intro j
                  have l1 : ∀ (us : List Nat) (τ : St) (j : Nat), (wipe τ us)[j]? = if j ∈ us then (if j < τ.length then some none else none) else τ[j]? := by
                    intro us
                    induction us with
                    | nil => intro τ j; simp [wipe]
                    | cons u us ih =>
                      intro τ j
                      show ((wipe τ us).set u none)[j]? = _
                      rw [List.getElem?_set, ih, wipe_length]
                      by_cases hju : u = j
                      · subst hju; simp
                      · have : j ≠ u := fun z => hju z.symm
                        simp [hju, this]
                  rw [l1, l1, l1, l1, wipe_length, wipe_length]
                  by_cases ha : j ∈ as <;> by_cases hb : j ∈ bs <;> simp [ha, hb]
                have l1 : ∀ (us : List Nat) (τ : St) (j : Nat), (wipe τ us)[j]? = if j ∈ us then (if j < τ.length then some none else none) else τ[j]? := by
                  intro us
                  induction us with
                  | nil => intro τ j; simp [wipe]
                  | cons u us ih =>
                    intro τ j
                    show ((wipe τ us).set u none)[j]? = _
                    rw [List.getElem?_set, ih, wipe_length]
                    by_cases hju : u = j
                    · subst hju; simp
                    · have : j ≠ u := fun z => hju z.symm
                      simp [hju, this]
                apply List.ext_getElem?
                intro j
                rw [l1, l1, wipe_length]
                by_cases ha : j ∈ us <;> simp [ha]
              exact idem own σ
            · refine ⟨m2, ρ3, h2, r3, e4, ?_⟩
              cases ht : tst ρ3 h2 with
              | bad => rw [ht] at c2; cases c2
              | ex k hh => rw [ht] at c2; cases c2
              | ok b h4 =>
                rw [ht] at c2
                have c2 : (if b = true then (elt ρ3 h4).get fun o h2 => (compL nt tst elt lv (xs.drop (i + 1)) (wipeE ρ own) (num o h2).2).get fun ys h3 => .ok ((num o h2).1 :: ys) h3
                  else compL nt tst elt lv (xs.drop (i + 1)) (wipeE ρ own) h4) = .ok ys h9 := c2
                intro m4 H4 b4 x4 r4 eb
                rw [show b4 = b from eb]
                have x14 := x13.tr r3 x4
                have d4 : H4 D = some (.lst vs) := x4.keep _ _ d3 (fun _ z => by cases z) n2
                have n4 : ∀ n, m4 n ≠ some D := fun n z => by
                  rcases x4.new n D z with q | q
                  · exact n2 n q
                  · rw [d3] at q; cases q
                have ra4 : RVs g.K H4 m4 vs acc := x4.rvs r3 (x3.rvs r2 ra)
                cases b with
                | false =>
                  rw [if_neg Bool.false_ne_true] at c2 ⊢
                  exact ⟨m4, h4, acc, vs, ys, x14, r4, d4, n4, ra4, by omega, rfl, c2⟩
                | true =>
                  rw [if_pos rfl] at c2 ⊢
                  refine ⟨m4, ρ3, h4, r4, x4.env r3 e4, ?_⟩
                  cases he : elt ρ3 h4 with
                  | bad => rw [he] at c2; cases c2
                  | ex k hh => rw [he] at c2; cases c2
                  | ok o h5 =>
                    rw [he] at c2
                    have c2 : ((compL nt tst elt lv (xs.drop (i + 1)) (wipeE ρ own) (num o h5).2).get fun ys h3 => .ok ((num o h5).1 :: ys) h3) = .ok ys h9 := c2
                    intro m5 H5 v5 x5 r5 rv5
                    have d5 : H5 D = some (.lst vs) := x5.keep _ _ d4 (fun _ z => by cases z) n4
                    have n5 : ∀ n, m5 n ≠ some D := fun n z => by
                      rcases x5.new n D z with q | q
                      · exact n4 n q
                      · rw [d4] at q; cases q
                    obtain ⟨m6, le6, x6, r6, rv6⟩ := num_ok x5 r5 rv5
                    have ra6 : RVs g.K H5 m6 vs acc := (x5.rvs r4 ra4).mono Kp.refl le6
                    have n6 : ∀ n, m6 n ≠ some D := fun n z => by
                      rcases x6.new n D z with q | q
                      · exact n4 n q
                      · rw [d4] at q; cases q
                    cases hcc : compL nt tst elt lv (xs.drop (i + 1)) (wipeE ρ own) (num o h5).2 with
                    | bad => rw [hcc] at c2; cases c2
                    | ex k hh => rw [hcc] at c2; cases c2
                    | ok ys2 h7 =>
                      rw [hcc] at c2
                      have c2 : R.ok ((num o h5).1 :: ys2) h7 = .ok ys h9 := c2
                      injection c2 with c3 c4
                      subst c3 c4
                      refine ⟨vs, d5, by rw [ra.length, sl_eq]; omega, ?_⟩
                      have x16 := x14.tr r4 x6
                      have hup : Kp H5 (upd H5 D (.lst (vs ++ [v5]))) := Kp.of_lst d5
                      exact ⟨m6, _, acc ++ [(num o h5).1], vs ++ [v5], ys2, x16.put hD n6, r6.put d5 n6, upd_same, n6, (ra6.append (.cons rv6 .nil)).mono hup (fun _ _ z => z), by simp; omega, by simp, hcc⟩
        · cases c2
      · rw [List.drop_eq_nil_of_le (by omega)] at c2
        simp only [compL] at c2
        split at c2
        · rename_i hlv
          injection c2 with c3 c4
          subst c3 c4
          refine .inl ⟨sv.stop i m2 H' h2 x2 r2 hlv (Nat.le_of_not_lt hlt), ?_⟩
          rw [List.append_nil] at c
          exact c m2 H' _ (fr.tr r1 x2) r2 ⟨D, vs, rfl, d2, n2, hD0, ra⟩
        · cases c2
  · exact c.elim
end
end Mi

namespace Mi
open PySem L2

def live (o : O) (xs : List Val) (h : MH) : Bool := match o with
  | .v (.ref n) => match h[n]? with
    | some (.lst ys) => decide (ys = xs)
    | _ => false
  | _ => true
def SqK (K : PySem.W.Frag) (H : Hp) (a : Addr) (vs : List V) : LK → Prop
  | .tp => SqT K H a vs
  | _ => SqL K H a vs
theorem seq_live {g : G} {m1 : Mu} {H0 H1 : Hp} {h1 : MH} {v : V} {o : O} {k : LK} {xs : List Val} (r1 : RepH g m1 H1 h1) (q : rO g H0 H1 m1 v o) (e : seqO h1 o = some (k, xs)) :
    ∃ a, v = .ref a ∧ ∀ m H h, Ext m1 m H1 H → RepH g m H h → live o xs h = true → ∃ vs, SqK g.K H a vs k ∧ RVs g.K H m vs xs := by
  cases o with
  | n ys =>
    simp only [seqO, Option.some.injEq, Prod.mk.injEq] at e
    obtain ⟨rfl, rfl⟩ := e
    obtain ⟨a, vs, rfl, e2, e3, _, e5⟩ := q
    exact ⟨a, rfl, fun m H h x r _ => ⟨vs, SqL.of (x.keep _ _ e2 (fun _ z => by cases z) e3), x.rvs r1 e5⟩⟩
  | v y =>
    cases q with
    | tup h1' h2 =>
      simp only [seqO, Option.some.injEq, Prod.mk.injEq] at e
      obtain ⟨rfl, rfl⟩ := e
      exact ⟨_, rfl, fun m H h x r _ => ⟨_, SqT.of ((x.sqt r1).tup _ _ h1'), x.rvs r1 h2⟩⟩
    | fl h1' h2 =>
      simp only [seqO, Option.some.injEq, Prod.mk.injEq] at e
      obtain ⟨rfl, rfl⟩ := e
      exact ⟨_, rfl, fun m H h x r _ => ⟨_, FzL.sql ((x.sqt r1).fzl h1'), x.rvs r1 h2⟩⟩
    | @ref nn aa hm =>
      refine ⟨_, rfl, fun m H h x r hl => ?_⟩
      have hm' := x.le _ _ hm
      have hk : k ≠ .tp := by
        simp only [seqO] at e
        split at e
        · simp at e; rw [← e.1]; intro z; cases z
        · cases e
      have fin : ∀ vs, SqL g.K H aa vs → SqK g.K H aa vs k := fun vs z => by cases k <;> first | exact z | exact absurd rfl hk
      simp only [live] at hl
      split at hl
      · rename_i ys hy
        obtain ⟨b, e1, vs, e2, e3⟩ := r.at_ _ _ hy
        rw [hm'] at e1; cases e1
        rw [of_decide_eq_true hl] at e3
        exact ⟨vs, fin vs (SqL.of e2), e3⟩
      · cases hl
    | _ => simp [seqO] at e
section
variable {g : G} {m1 : Mu} {H1 : Hp} {a b : Addr} {xs ys : List Val} {lv lv2 : MH → Bool}
def Lives (g : G) (m1 : Mu) (H1 : Hp) (a : Addr) (xs : List Val) (lv : MH → Bool) (k : LK) : Prop := ∀ m H h, Ext m1 m H1 H → RepH g m H h → lv h = true → ∃ vs, SqK g.K H a vs k ∧ RVs g.K H m vs xs
theorem sv_list {k : LK} (hk : k ≠ .tp) (L : Lives g m1 H1 a xs lv k) : Sv g (Itl g.K a) m1 H1 xs lv := by
  have sq : ∀ {H vs}, SqK g.K H a vs k → SqL g.K H a vs := fun z => by cases k <;> first | exact z | exact absurd rfl hk
  refine ⟨fun i m H h x r l hi => ?_, fun i m H h y x r l hy => ?_⟩
  · obtain ⟨vs, s, rv⟩ := L m H h x r l
    exact ⟨vs, sq s, by rw [rv.length]; exact hi⟩
  · obtain ⟨vs, s, rv⟩ := L m H h x r l
    obtain ⟨w, e1, e2⟩ := rv.get hy
    refine ⟨⟨vs, w, sq s, e1⟩, fun v H' y => ?_⟩
    obtain ⟨rfl, f⟩ := y
    have := f vs (sq s)
    rw [e1] at this; cases this
    exact ⟨Ext.refl, r, e2⟩
theorem sv_tup (L : Lives g m1 H1 a xs lv .tp) : Sv g (Itt g.K a) m1 H1 xs lv := by
  refine ⟨fun i m H h x r l hi => ?_, fun i m H h y x r l hy => ?_⟩
  · obtain ⟨vs, s, rv⟩ := L m H h x r l
    exact ⟨vs, s, by rw [rv.length]; exact hi⟩
  · obtain ⟨vs, s, rv⟩ := L m H h x r l
    obtain ⟨w, e1, e2⟩ := rv.get hy
    refine ⟨⟨vs, w, s, e1⟩, fun v H' y => ?_⟩
    obtain ⟨rfl, f⟩ := y
    have := f vs s
    rw [e1] at this; cases this
    exact ⟨Ext.refl, r, e2⟩
def enumF (n : Nat) : List Val → List Val
  | [] => []
  | x :: xs => .tup [.int n, x] :: enumF (n + 1) xs
theorem enumF_get : ∀ {xs : List Val} {n i : Nat} {y : Val}, (enumF n xs)[i]? = some y → ∃ x, xs[i]? = some x ∧ y = .tup [.int ((n + i : Nat) : Int), x]
  | [], _, _, _, h => by simp [enumF] at h
  | x :: xs, n, 0, y, h => by simp [enumF] at h; exact ⟨x, rfl, h.symm⟩
  | x :: xs, n, i + 1, y, h => by
    simp only [enumF, List.getElem?_cons_succ] at h
    obtain ⟨z, e1, e2⟩ := enumF_get h
    exact ⟨z, by simpa using e1, by rw [e2]; simp [Nat.add_assoc, Nat.add_comm 1 i]⟩
theorem enumF_length : ∀ {xs : List Val} {n : Nat}, (enumF n xs).length = xs.length
  | [], _ => rfl
  | x :: xs, n => by simp [enumF, enumF_length (xs := xs)]
theorem sv_enum {k : LK} (hk : k ≠ .tp) (L : Lives g m1 H1 a xs lv k) : Sv g (Ite g.K a) m1 H1 (enumF 0 xs) lv := by
  have sq : ∀ {H vs}, SqK g.K H a vs k → SqL g.K H a vs := fun z => by cases k <;> first | exact z | exact absurd rfl hk
  refine ⟨fun i m H h x r l hi => ?_, fun i m H h y x r l hy => ?_⟩
  · obtain ⟨vs, s, rv⟩ := L m H h x r l
    exact ⟨vs, sq s, by rw [rv.length, ← enumF_length (n := 0)]; exact hi⟩
  · obtain ⟨vs, s, rv⟩ := L m H h x r l
    obtain ⟨z, e0, rfl⟩ := enumF_get hy
    obtain ⟨w, e1, e2⟩ := rv.get e0
    refine ⟨⟨vs, w, sq s, e1⟩, fun v H' y => ?_⟩
    obtain ⟨T, x', rfl, hT, rfl, f⟩ := y
    have := f vs (sq s)
    rw [e1] at this; cases this
    refine ⟨Ext.laid hT, r.laid hT, .tup upd_same ?_⟩
    rw [Nat.zero_add]
    exact .cons (.int _) (.cons ((Ext.laid (m := m) hT).rv r e2) .nil)
def zipF : List Val → List Val → List Val
  | x :: xs, y :: ys => .tup [x, y] :: zipF xs ys
  | _, _ => []
theorem zipF_get : ∀ {xs ys : List Val} {i : Nat} {z : Val}, (zipF xs ys)[i]? = some z → ∃ x y, xs[i]? = some x ∧ ys[i]? = some y ∧ z = .tup [x, y]
  | [], _, _, _, h => by simp [zipF] at h
  | _ :: _, [], _, _, h => by simp [zipF] at h
  | x :: xs, y :: ys, 0, z, h => by simp [zipF] at h; exact ⟨x, y, rfl, rfl, h.symm⟩
  | x :: xs, y :: ys, i + 1, z, h => by
    simp only [zipF, List.getElem?_cons_succ] at h
    obtain ⟨a, b, e1, e2, e3⟩ := zipF_get h
    exact ⟨a, b, by simpa using e1, by simpa using e2, e3⟩
theorem zipF_length : ∀ {xs ys : List Val}, (zipF xs ys).length = min xs.length ys.length
  | [], _ => by simp [zipF]
  | _ :: _, [] => by simp [zipF]
  | x :: xs, y :: ys => by simp [zipF, zipF_length (xs := xs)]
theorem sv_zip {k k2 : LK} (hk : k ≠ .tp) (hk2 : k2 ≠ .tp) (L : Lives g m1 H1 a xs lv k) (Lb : Lives g m1 H1 b ys lv2 k2) : Sv g (Itz g.K a b) m1 H1 (zipF xs ys) (fun h => lv h && lv2 h) := by
  have sq : ∀ {H vs}, SqK g.K H a vs k → SqL g.K H a vs := fun z => by cases k <;> first | exact z | exact absurd rfl hk
  have sq2 : ∀ {H vs}, SqK g.K H b vs k2 → SqL g.K H b vs := fun z => by cases k2 <;> first | exact z | exact absurd rfl hk2
  refine ⟨fun i m H h x r l hi => ?_, fun i m H h y x r l hy => ?_⟩
  · simp only [Bool.and_eq_true] at l
    obtain ⟨vs, s, rv⟩ := L m H h x r l.1
    obtain ⟨us, s2, rv2⟩ := Lb m H h x r l.2
    refine ⟨vs, us, sq s, sq2 s2, ?_⟩
    rw [zipF_length] at hi
    rw [rv.length, rv2.length]
    omega
  · simp only [Bool.and_eq_true] at l
    obtain ⟨vs, s, rv⟩ := L m H h x r l.1
    obtain ⟨us, s2, rv2⟩ := Lb m H h x r l.2
    obtain ⟨z1, z2, e1, e2, rfl⟩ := zipF_get hy
    obtain ⟨w, f1, f2⟩ := rv.get e1
    obtain ⟨w2, f3, f4⟩ := rv2.get e2
    refine ⟨⟨vs, us, w, w2, sq s, sq2 s2, f1, f3⟩, fun v H' y => ?_⟩
    obtain ⟨T, x', y', rfl, hT, rfl, f, f'⟩ := y
    have q1 := f vs (sq s)
    have q2 := f' us (sq2 s2)
    rw [f1] at q1; cases q1
    rw [f3] at q2; cases q2
    exact ⟨Ext.laid hT, r.laid hT, .tup upd_same (.cons ((Ext.laid (m := m) hT).rv r f2) (.cons ((Ext.laid (m := m) hT).rv r f4) .nil))⟩
theorem sv_zipT (L : Lives g m1 H1 a xs lv .tp) (Lb : Lives g m1 H1 b ys lv2 .tp) : Sv g (RZ.ItzT g.K a b) m1 H1 (zipF xs ys) (fun h => lv h && lv2 h) := by
  refine ⟨fun i m H h x r l hi => ?_, fun i m H h y x r l hy => ?_⟩
  · simp only [Bool.and_eq_true] at l
    obtain ⟨vs, s, rv⟩ := L m H h x r l.1
    obtain ⟨us, s2, rv2⟩ := Lb m H h x r l.2
    refine ⟨vs, us, s, s2, ?_⟩
    rw [zipF_length] at hi
    rw [rv.length, rv2.length]
    omega
  · simp only [Bool.and_eq_true] at l
    obtain ⟨vs, s, rv⟩ := L m H h x r l.1
    obtain ⟨us, s2, rv2⟩ := Lb m H h x r l.2
    obtain ⟨z1, z2, e1, e2, rfl⟩ := zipF_get hy
    obtain ⟨w, f1, f2⟩ := rv.get e1
    obtain ⟨w2, f3, f4⟩ := rv2.get e2
    refine ⟨⟨vs, us, w, w2, s, s2, f1, f3⟩, fun v H' y => ?_⟩
    obtain ⟨T, x', y', rfl, hT, rfl, f, f'⟩ := y
    have q1 := f vs s
    have q2 := f' us s2
    rw [f1] at q1; cases q1
    rw [f3] at q2; cases q2
    exact ⟨Ext.laid hT, r.laid hT, .tup upd_same (.cons ((Ext.laid (m := m) hT).rv r f2) (.cons ((Ext.laid (m := m) hT).rv r f4) .nil))⟩
def rngF (lo : Int) : Nat → List Val
  | 0 => []
  | n + 1 => .int lo :: rngF (lo + 1) n
theorem rngF_length : ∀ {n : Nat} {lo : Int}, (rngF lo n).length = n
  | 0, _ => rfl
  | n + 1, lo => by simp [rngF, rngF_length (n := n)]
theorem rngF_get : ∀ {n : Nat} {lo : Int} {i : Nat} {y : Val}, (rngF lo n)[i]? = some y → i < n ∧ y = .int (lo + i)
  | 0, _, _, _, h => by simp [rngF] at h
  | n + 1, lo, 0, y, h => by simp [rngF] at h; exact ⟨Nat.succ_pos _, by rw [← h]; simp⟩
  | n + 1, lo, i + 1, y, h => by
    simp only [rngF, List.getElem?_cons_succ] at h
    obtain ⟨a, b⟩ := rngF_get h
    exact ⟨by omega, by rw [b]; congr 1; omega⟩
theorem sv_rng {lo : Int} {n : Nat} : Sv g (Itr lo n) m1 H1 (rngF lo n) (fun _ => true) := by
  refine ⟨fun i m H h x r l hi => ?_, fun i m H h y x r l hy => ?_⟩
  · rw [rngF_length] at hi; exact hi
  · obtain ⟨a, rfl⟩ := rngF_get hy
    refine ⟨a, fun v H' y => ?_⟩
    obtain ⟨rfl, rfl⟩ := y
    exact ⟨Ext.refl, r, .int _⟩
theorem sv_str {s : List Nat} (hs : ∀ c ∈ s, c < 1114112) : Sv g (Its (sOf s)) m1 H1 (s.map fun c => .str [c]) (fun _ => true) := by
  refine ⟨fun i m H h x r l hi => ?_, fun i m H h y x r l hy => ?_⟩
  · simpa [Its, sOf] using hi
  · rw [List.getElem?_map] at hy
    cases hc : s[i]? with
    | none => rw [hc] at hy; cases hy
    | some c =>
      rw [hc] at hy
      simp at hy; subst hy
      have hlt := (List.getElem?_eq_some_iff.mp hc).1
      refine ⟨by simpa [Its, sOf] using hlt, fun v H' y => ?_⟩
      obtain ⟨rfl, c', e, rfl⟩ := y
      have : c' = c := by simp [hc] at e; exact e.symm
      subst this
      exact ⟨Ext.refl, r, .str [c'] fun d hd => by
        have : d = c' := by simpa using hd
        subst this
        exact hs d (List.mem_of_getElem? hc)⟩
end

def itV (o : O) (h1 : MH) : R (List Val × (MH → Bool)) := match o with
  | .v (.str s) => .ok (s.map fun c => .str [c], fun _ => true) h1
  | o => match seqO h1 o with
    | some (_, xs) => .ok (xs, live o xs) h1
    | none => .bad
def diV (d : D) : DI := fun ρ h => (d ρ h).bind itV
def diR1 (d : D) : DI := fun ρ h => (d ρ h).bind fun o h1 => match o with
  | .v (.int j) => if -4611686018427387904 ≤ j ∧ j < 4611686018427387904 then .ok (rngF 0 j.toNat, fun _ => true) h1 else .bad
  | _ => .bad
def diE (d : D) : DI := fun ρ h => (d ρ h).bind fun o h1 => match seqO h1 o with
  | some (.mu, xs) => .ok (enumF 0 xs, live o xs) h1
  | some (.fz, xs) => .ok (enumF 0 xs, live o xs) h1
  | _ => .bad
def isTp : LK → Bool
  | .tp => true
  | _ => false
def diZ (da db : D) : DI := fun ρ h => (da ρ h).bind fun o h1 => (db ρ h1).bind fun o2 h2 => match seqO h2 o, seqO h2 o2 with
  | some (k, xs), some (k2, ys) => if isTp k = isTp k2 then .ok (zipF xs ys, fun h => live o xs h && live o2 ys h) h2 else .bad
  | _, _ => .bad
section
variable {X : Cx} {ca : CA} {W : WX} {e e2 : Expr} {d da db : D} {p pos : Pos}
theorem pi_or {X : Cx} {tg e : Expr} {t t' : TI} (h : PI X tg e t) (h' : PI X tg e t') : PI X tg e (fun σ H R => t σ H R ∨ t' σ H R) :=
  ⟨fun pins s σ H R I q => q.elim (h.run pins s σ H R I) (h'.run pins s σ H R I)⟩
theorem si_v {tg : Expr} (he : SE X ca W e d) : SI X ca W tg e (diV d) :=
  pi_w (pi_or (pi_list he) (pi_or (pi_tup he) (pi_str he))) fun σ H Q ⟨m, ρ, h, rh, re, c⟩ => by
    have c : Ct (gx X ca) W (rI' (gx X ca)) m H ((d ρ h).bind itV) σ Q := c
    cases hd : d ρ h with
    | bad => rw [hd] at c; exact c.elim
    | ex k hh => exact .inl ⟨m, ρ, h, rh, re, by rw [hd] at c ⊢; exact c⟩
    | ok o h1 =>
      rw [hd] at c
      have c : Ct (gx X ca) W (rI' (gx X ca)) m H (itV o h1) σ Q := c
      unfold itV at c
      split at c
      · rename_i s
        refine .inr (.inr ⟨m, ρ, h, rh, re, ?_⟩)
        rw [hd]
        intro m1 H1 v x1 r1 rv
        have w1 := rv
        cases rO.str rv
        exact ⟨_, rfl, c m1 H1 _ x1 r1 (sv_str (rO.strv w1))⟩
      · split at c
        · rename_i k xs hs
          by_cases hk : k = .tp
          · subst hk
            refine .inr (.inl ⟨m, ρ, h, rh, re, ?_⟩)
            rw [hd]
            intro m1 H1 v x1 r1 rv
            obtain ⟨a, rfl, L⟩ := seq_live r1 rv hs
            have L' : Lives (gx X ca) m1 H1 a xs (live o xs) .tp := L
            obtain ⟨a', vs, e1, la, ra⟩ := seqO_ok r1 rv hs
            cases e1
            exact ⟨a, rfl, ⟨vs, SqT.of la⟩, c m1 H1 _ x1 r1 (sv_tup L')⟩
          · refine .inl ⟨m, ρ, h, rh, re, ?_⟩
            rw [hd]
            intro m1 H1 v x1 r1 rv
            obtain ⟨a, rfl, L⟩ := seq_live r1 rv hs
            have L' : Lives (gx X ca) m1 H1 a xs (live o xs) k := L
            obtain ⟨a', vs, e1, la, ra⟩ := seqO_ok r1 rv hs
            cases e1
            exact ⟨a, rfl, ⟨vs, la.sql hk⟩, c m1 H1 _ x1 r1 (sv_list hk L')⟩
        · exact c.elim
theorem si_r1 {tg : Expr} (hm : X.mg "range" = none) (he : SE X ca W e d) (hg : Gl X "range" := by rfl) (hs : starEach [e] X.env = [(false, eval e X.env)] := by rfl) : SI X ca W tg (.Call (.Name "range" p) [e] [] pos) (diR1 d) :=
  pi_w (pi_range1 hg hm (pa_cons he pa_nil hs) hs) fun σ H Q t => by
    refine TVv.imp (TVv.bind (rel := rO (gx X ca)) (rel' := rI' (gx X ca)) (f := fun ρ o h1 => match o with
  | .v (.int j) => if -4611686018427387904 ≤ j ∧ j < 4611686018427387904 then .ok (rngF 0 j.toNat, fun _ => true) h1 else .bad
  | _ => .bad) t) ?_
    rintro v H1 ⟨m0, m1, ρ, x, h1, fr, r1, e1, rv, c⟩
    split at c
    · cases rO.int rv
      split at c
      · rename_i hz
        exact ⟨_, rfl, hz.1, hz.2, c m1 H1 _ fr r1 sv_rng⟩
      · exact c.elim
    · exact c.elim
theorem si_en {elts : List Expr} {kk : Nat} {tpos : Pos} (hm : X.mg "enumerate" = none) (he : SE X ca W e d) (hg : Gl X "enumerate" := by rfl) (hs : starEach [e] X.env = [(false, eval e X.env)] := by rfl) : SI X ca W (.Tuple elts kk tpos) (.Call (.Name "enumerate" p) [e] [] pos) (diE d) :=
  pi_w (pi_enum hg hm (pa_cons he pa_nil hs) hs) fun σ H Q t => by
    refine TVv.imp (TVv.bind (rel := rO (gx X ca)) (rel' := rI' (gx X ca)) (f := fun ρ o h1 => match seqO h1 o with
  | some (.mu, xs) => .ok (enumF 0 xs, live o xs) h1
  | some (.fz, xs) => .ok (enumF 0 xs, live o xs) h1
  | _ => .bad) t) ?_
    rintro v H1 ⟨m0, m1, ρ, x, h1, fr, r1, e1, rv, c⟩
    have fin : ∀ (k : LK) (xs : List Val), k ≠ .tp → seqO h1 x = some (k, xs) → Ct (gx X ca) W (rI' (gx X ca)) m0 H (.ok (enumF 0 xs, live x xs) h1) σ Q → ∃ a ys, [v] = [.ref a] ∧ SqL X.K H1 a ys ∧ Q (Ite X.K a) H1 := fun k xs hk hs c => by
      obtain ⟨a, rfl, L⟩ := seq_live r1 rv hs
      have L' : Lives (gx X ca) m1 H1 a xs (live x xs) k := L
      obtain ⟨a', vs, e1, la, ra⟩ := seqO_ok r1 rv hs
      cases e1
      exact ⟨a, vs, rfl, la.sql hk, c m1 H1 _ fr r1 (sv_enum hk L')⟩
    split at c
    · rename_i xs hx
      exact fin .mu xs (by intro z; cases z) hx c
    · rename_i xs hx
      exact fin .fz xs (by intro z; cases z) hx c
    · exact c.elim
theorem si_z {elts : List Expr} {kk : Nat} {tpos : Pos} (hm : X.mg "zip" = none) (ha : SE X ca W e da) (hb : SE X ca W e2 db) (hg : Gl X "zip" := by rfl) (hs : starEach [e, e2] X.env = (false, eval e X.env) :: starEach [e2] X.env := by rfl) (hs2 : starEach [e2] X.env = (false, eval e2 X.env) :: starEach [] X.env := by rfl) (hpl : (backTo pos (starEach [e2] X.env)).any (·.1) = false := by rfl) :
    SI X ca W (.Tuple elts kk tpos) (.Call (.Name "zip" p) [e, e2] [] pos) (diZ da db) :=
  pi_w (RZ.pi_zipA hg hm (pa_cons ha (pa_cons hb pa_nil hs2) hs) hs hpl) fun σ H Q t => by
    refine TVv.imp (TVv.bind (rel := rO (gx X ca)) (rel' := rI' (gx X ca)) (f := fun ρ o h1 => (db ρ h1).bind fun o2 h2 => match seqO h2 o, seqO h2 o2 with
  | some (k, xs), some (k2, ys) => if isTp k = isTp k2 then .ok (zipF xs ys, fun h => live o xs h && live o2 ys h) h2 else .bad
  | _, _ => .bad) t) ?_
    rintro v H1 ⟨m0, m1, ρ, x, h1, fr, r1, e1, rv, c⟩
    refine ⟨m1, ρ, h1, r1, e1, (Ct.step (rel := rO (gx X ca)) fr r1 c).imp ?_⟩
    rintro u H2 ⟨m2, y, h2, ex, fr2, r2, rv2, c2⟩
    have rv' := ex.ro r1 rv
    split at c2
    · rename_i k xs k2 ys hs1 hs2
      split at c2
      · rename_i hk
        obtain ⟨a, rfl, L⟩ := seq_live r2 rv' hs1
        obtain ⟨b, rfl, Lb⟩ := seq_live r2 rv2 hs2
        have L' : Lives (gx X ca) m2 H2 a xs (live x xs) k := L
        have L2' : Lives (gx X ca) m2 H2 b ys (live y ys) k2 := Lb
        obtain ⟨a', vs, e1, la, ra⟩ := seqO_ok r2 rv' hs1
        obtain ⟨b', us, e2, lb, rb⟩ := seqO_ok r2 rv2 hs2
        cases e1; cases e2
        refine ⟨a, b, vs, us, rfl, ?_⟩
        cases k with
        | tp =>
          cases k2 with
          | tp => exact .inr ⟨SqT.of la, SqT.of lb, c2 m2 H2 _ fr2 r2 (sv_zipT L' L2')⟩
          | mu => cases hk
          | fz => cases hk
        | mu =>
          cases k2 with
          | tp => cases hk
          | mu => exact .inl ⟨la.sql (by intro z; cases z), lb.sql (by intro z; cases z), c2 m2 H2 _ fr2 r2 (sv_zip (by intro z; cases z) (by intro z; cases z) L' L2')⟩
          | fz => exact .inl ⟨la.sql (by intro z; cases z), lb.sql (by intro z; cases z), c2 m2 H2 _ fr2 r2 (sv_zip (by intro z; cases z) (by intro z; cases z) L' L2')⟩
        | fz =>
          cases k2 with
          | tp => cases hk
          | mu => exact .inl ⟨la.sql (by intro z; cases z), lb.sql (by intro z; cases z), c2 m2 H2 _ fr2 r2 (sv_zip (by intro z; cases z) (by intro z; cases z) L' L2')⟩
          | fz => exact .inl ⟨la.sql (by intro z; cases z), lb.sql (by intro z; cases z), c2 m2 H2 _ fr2 r2 (sv_zip (by intro z; cases z) (by intro z; cases z) L' L2')⟩
      · exact c2.elim
    · exact c2.elim

theorem se_comp {elt tg iter : Expr} {ifs : List Expr} {scope : Scope} {own : List (Str × Nat)} {di : DI} {nt : NT} {tst : DB} {de : D} (hc : X.calm = true) (hN : X.N.Nodup) (ok : BlkOk X.N X.env.scope scope own) (hsl : ∀ i ∈ nt.slots, i ∈ own.map (·.2)) (hi : SI X ca W tg iter di)
    (hg : InBlk X scope fun Y => SN Y tg nt) (ht : InBlk X scope fun Y => STs Y ca W0 ifs tst) (he : InBlk X scope fun Y => SE Y ca W0 elt de) (hs : ∀ x, foldedSetIterable iter X.env x = pure x := by intro _; rfl) :
    SE X ca W (.ListComp elt [⟨tg, iter, ifs, 0⟩] scope pos) (dComp (own.map (·.2)) di nt tst de) :=
  pe_w (pe_lc (tt := TTv (gx X ca) W0 tst) (te := TEv (gx X ca) W0 de) hc hN hi ok hg ht he hs) fun σ H Q t => tv_comp hsl t
theorem ss_setComp (i : Nat) {y : Str} {py : Pos} {elt tg iter : Expr} {ifs : List Expr} {scope : Scope} {own : List (Str × Nat)} {spos : Pos} {di : DI} {nt : NT} {tst : DB} {de : D} (hc : X.calm = true) (hN : X.N.Nodup) (ok : BlkOk X.N X.env.scope scope own) (hsl : ∀ i ∈ nt.slots, i ∈ own.map (·.2)) (hi : SI X ca W tg iter di)
    (hg : InBlk X scope fun Y => SN Y tg nt) (ht : InBlk X scope fun Y => STs Y ca W0 ifs tst) (he : InBlk X scope fun Y => SE Y ca W0 elt de)
    (hsw : swapsWith (.ListComp elt [⟨tg, iter, ifs, 0⟩] scope pos) (some (.Name y py)) spos.line X.env = pure true) (hy : X.N[i]? = some y := by rfl) (hyl : X.env.scope.names.lookup y = some .local := by rfl) (hs : ∀ x, foldedSetIterable iter X.env x = pure x := by intro _; rfl) :
    SS X ca W (.Assign [.Name y py] (.ListComp elt [⟨tg, iter, ifs, 0⟩] scope pos) spos) (sSet i (dComp (own.map (·.2)) di nt tst de)) :=
  ps_w (ps_setLc (tt := TTv (gx X ca) W0 tst) (te := TEv (gx X ca) W0 de) hc hN hy hyl hsw hi ok hg ht he hs) fun D σ H t => by
    refine tv_comp (W := W) hsl ?_
    refine TVv.imp (TSv.out (rel := rO (gx X ca)) (k := fun ρ o h1 => .nx (ρ.set i (some (num o h1).1)) (num o h1).2) t) ?_
    rintro v H1 ⟨m0, m1, ρ, x, h1, fr, r1, e1, rv, c⟩
    obtain ⟨m2, le, fr2, r2, rv2⟩ := num_ok fr r1 rv
    exact c m2 _ H1 fr2 r2 ((e1.le le).set rv2 i)
end
end Mi

namespace Mi
open PySem L2

abbrev DF := List Val → MH → R Val
def runB (n : Nat) (body : SD) : DF := fun xs h => match body (xs.map some ++ List.replicate (n - xs.length) none) h with
  | .nx _ h' => .ok .non h'
  | .rt x h' => .ok x h'
  | .ex c _ h' => .ex c h'
  | _ => .bad
def CtF (g : G) (m0 : Mu) (Hs : Hp) (r : R Val) (Q : VK) (E : XK) : Prop := match r with
  | .ok x h' => ∀ m' H' v, Ext m0 m' Hs H' → RepH g m' H' h' → RV g.K H' m' v x → Q v H'
  | .ex c h' => ∀ m' H', Ext m0 m' Hs H' → RepH g m' H' h' → E (.ref (g.ca c)) none H'
  | .bad => False
def spE (g : G) (n : Nat) (fn : DF) : Sp := fun vs H Q E => ∃ m h xs, RepH g m H h ∧ RVs g.K H m vs xs ∧ xs.length = n ∧ CtF g m H (fn xs h) Q E
structure FnG (P : Program) (w : World) (K : PySem.W.Frag) (mg : Str → Option Value) (base : Heap) (k : Nat) (f : Addr) (fd : FuncData) (ps : List Str) (sp : Sp) : Prop where
  len : ∀ vs H Q E, sp vs H Q E → vs.length = ps.length
  run : ∀ (A : Around) (outer : List PySem.Env) (s : Shared) (H : Hp) (args : Args) (us : List Value) (vs : List V) (Q : VK) (E : XK), A.guards = some [] → Room k A →
    Env0 P w K mg base A outer s H → BindsTo s fd args (ps.zip us) → Vals vs us → sp vs H Q E → codeAny (model P w) A (.call (.ref f) args) (CR (L2.CX P w) outer P w H s Q E) s
section
variable {P : Program} {w : World} {K : PySem.W.Frag} {mg : Str → Option Value} {base : Heap}
theorem start_env {g : G} {H : Hp} {m : Mu} {vs : List V} {xs : List Val} (N : List Str) (r : RVs g.K H m vs xs) : REnv g.K H m (L2.start N vs) (xs.map some ++ List.replicate (N.length - xs.length) none) := by
  refine ⟨by simp [L2.start, r.length], fun i x e => ?_⟩
  unfold L2.start
  by_cases hi : i < xs.length
  · rw [List.getElem?_append_left (by simpa using hi), List.getElem?_map] at e
    cases hx : xs[i]? with
    | none => rw [hx] at e; cases e
    | some y =>
      rw [hx] at e
      simp at e; subst e
      obtain ⟨v, h1, h2⟩ := r.get hx
      refine ⟨v, ?_, h2⟩
      rw [List.getElem?_append_left (by simpa [r.length] using hi), List.getElem?_map, h1]
      rfl
  · rw [List.getElem?_append_right (by simpa using hi), List.getElem?_replicate] at e
    split at e <;> cases e
abbrev WE1 (E : XK) : WX := fun c d _ H => E c d H
theorem fnG_of' {x qual : Str} {st : Stmt} {f : Addr} {fd : FuncData} {N ps : List Str} {k : Nat} {ca : CA} {sd : SD} (F : Fun K x qual st f fd) (S : FnScope N ps (defScope st))
    (body : ∀ (cdv : Value), fd.code = cdv → ∀ (A : Around) (outer : List PySem.Env) (s : Shared) (H : Hp) (E : XK), (A.deeper (PyProof.Rows.envOfC qual (defScope st) s.heap.objs.size f cdv)).guards = some [] → Room k (A.deeper (PyProof.Rows.envOfC qual (defScope st) s.heap.objs.size f cdv)) →
      SSs (cxOf (L2.CX P w) P w K mg base N qual (defScope st) f cdv A outer s H E) ca (WE1 E) (defBody st) sd) :
    FnG P w K mg base (k + 1) f fd ps (spE ⟨K, ca⟩ ps.length (runB N.length sd)) := by
  have len : ∀ vs H Q E, spE ⟨K, ca⟩ ps.length (runB N.length sd) vs H Q E → vs.length = ps.length := fun vs H Q E ⟨m, h, xs, r, rv, l, c⟩ => by rw [rv.length, l]
  obtain ⟨oc, od, kV, doc, pm, an, cdv, ct, osl, rfl, lk, hcd⟩ := F.ex
  refine ⟨len, fun A outer s H args us vs Q E hg hr e0 hb rvals hsp => ?_⟩
  have vlen := len _ _ _ _ hsp
  have inK : K.In s.heap := e0.mod.kin.keeps fun b o q => (e0.bs b o q).1
  have noLim : s.heap.NoLimit := e0.mod.nolimit.keeps fun b o q => (e0.bs b o q).1
  have kinds : ∀ y ∈ ps.zip us, (defScope st).names.lookup y.1 = some .local ∨ ((defScope st).names.lookup y.1 = some .cell ∧ ((cellsFrom (s.heap.objs.size + 1) (defScope st).names []).lookup y.1).isSome = true) := by
    rintro ⟨nm, v⟩ hy
    have hm : nm ∈ ps := (List.of_mem_zip hy).1
    exact (S.par nm hm).imp (fun q => q) fun q => ⟨q, PySem.W.cellsFrom_some _ _ _ (.inl q)⟩
  apply codeAny_call_function hr.depth (inK _ _ lk) rfl S.co S.gen rfl (PySem.W.codeRec_of inK hcd)
  apply hb
  apply wpAny_newFunctionEnv_cells S.kind kinds
  intro env henv s1 inc
  subst henv
  refine ⟨noLim.keeps inc.toInCall.keep, codeAny_func ?_⟩
  have I1 : Inv (cxOf (L2.CX P w) P w K mg base N qual (defScope st) f cdv A outer s H E) [] (L2.start N vs) H s1 := inv_start S hr.hd e0 vlen rvals inc
  obtain ⟨m, h, xs, rh, rv, lx, c⟩ := hsp
  have B := body cdv rfl A outer s H E hg (hr.deeper _)
  have want : TSv ⟨K, ca⟩ (WE1 E) sd { nx := fun _ H' => Q .non H', rt := Q } (L2.start N vs) H := by
    refine ⟨m, _, h, rh, start_env N rv, ?_⟩
    have c : CtF ⟨K, ca⟩ m H (match sd (xs.map some ++ List.replicate (N.length - xs.length) none) h with
  | .nx _ h' => .ok .non h'
  | .rt x h' => .ok x h'
  | .ex c _ h' => .ex c h'
  | _ => .bad) Q E := c
    cases hq : sd (xs.map some ++ List.replicate (N.length - xs.length) none) h with
    | nx ρ h' => rw [hq] at c; exact fun m2 σ2 H2 e r2 _ => c m2 H2 _ e r2 .non
    | rt y h' => rw [hq] at c; exact fun m2 H2 v e r2 q => c m2 H2 v e r2 q
    | ex y ρ h' => rw [hq] at c; exact fun m2 σ2 H2 e r2 _ => c m2 H2 e r2
    | bk ρ h' => rw [hq] at c; exact c.elim
    | ct ρ h' => rw [hq] at c; exact c.elim
    | bad => rw [hq] at c; exact c.elim
  apply wpAny_mono (B.run [] s1 (L2.start N vs) H _ I1 want)
  · intro fl s' hs
    cases fl with
    | ret u =>
      obtain ⟨v, σ', H', J, rq, q⟩ := hs
      exact ⟨v, H', J.os, J.bare, J.base, J.hok, rq, q⟩
    | next =>
      obtain ⟨σ', H', J, q⟩ := hs
      exact ⟨V.non, H', J.os, J.bare, J.base, J.hok, rfl, q⟩
    | brk => obtain ⟨_, _, _, q⟩ := hs; exact q.elim
    | cont => obtain ⟨_, _, _, q⟩ := hs; exact q.elim
  · exact fun _ _ q => q
theorem fnG_of {x qual : Str} {st : Stmt} {f : Addr} {fd : FuncData} {N ps : List Str} {k : Nat} {ca : CA} {sd : SD} (F : Fun K x qual st f fd) (S : FnScope N ps (defScope st))
    (body : ∀ (cdv : Value) (A : Around) (outer : List PySem.Env) (s : Shared) (H : Hp) (E : XK), (A.deeper (PyProof.Rows.envOfC qual (defScope st) s.heap.objs.size f cdv)).guards = some [] → Room k (A.deeper (PyProof.Rows.envOfC qual (defScope st) s.heap.objs.size f cdv)) →
      SSs (cxOf (L2.CX P w) P w K mg base N qual (defScope st) f cdv A outer s H E) ca (WE1 E) (defBody st) sd) :
    FnG P w K mg base (k + 1) f fd ps (spE ⟨K, ca⟩ ps.length (runB N.length sd)) := fnG_of' F S fun cdv _ => body cdv
end

def Cal (P : Program) (w : World) (K : PySem.W.Frag) (mg : Str → Option Value) (base : Heap) (ca : CA) (k : Nat) (x : Str) (n : Nat) (fn : DF) : Prop :=
  ∃ (f : Addr) (fd : FuncData) (ps : List Str), FnG P w K mg base k f fd ps (spE ⟨K, ca⟩ n fn) ∧ mg x = some (.ref f) ∧ PySem.W.keepIn K (.ref f) = true ∧ Binds K fd ps []
theorem Cal.mono {P : Program} {w : World} {K : PySem.W.Frag} {mg : Str → Option Value} {base : Heap} {ca : CA} {j k : Nat} {x : Str} {n : Nat} {fn : DF} (c : Cal P w K mg base ca j x n fn) (h : j ≤ k) : Cal P w K mg base ca k x n fn := by
  obtain ⟨f, fd, ps, F, a, b, d⟩ := c
  exact ⟨f, fd, ps, ⟨F.len, fun A outer s H args us vs Q E hg hr => F.run A outer s H args us vs Q E hg (hr.mono h)⟩, a, b, d⟩
def liftV (r : R Val) : R O := match r with
  | .ok x h => .ok (.v x) h
  | .ex c h => .ex c h
  | .bad => .bad
def dCall (n : Nat) (fn : DF) (ds : DV) : D := fun ρ h => (ds ρ h).bind fun xs h1 => if xs.length = n then liftV (fn xs h1) else .bad
section
variable {X : Cx} {ca : CA} {W : WX} {x : Str} {p pos : Pos} {e : Expr} {es : List Expr} {ds : DV} {k n : Nat} {fn : DF}
theorem run_fnG {f : Addr} {fd : FuncData} {ps : List Str} {sp : Sp} {E : St → XK} {pins : List (Addr × Obj)} {σ : St} {H : Hp} {s : Shared} {Q : VK} {us : List Value} {vs : List V} (F : FnG X.prog X.w X.K X.mg X.base k f fd ps sp) (hg : X.A.guards = some []) (hr : Room k X.A) (hb : Binds X.K fd ps [])
    (hx : PassesAt (L2.CX X.prog X.w) X σ (E σ)) (I : Inv X pins σ H s) (r : Vals vs us) (h : sp vs H Q (E σ)) : wpAny (model X.prog X.w) X.A (call (.ref f) us) (EP X pins σ Q) X.xe s := by
  have l : us.length = ps.length := by rw [← r.length]; exact F.len _ _ _ _ h
  have bd := hb s us I.kIn (by simpa using l)
  simp only [List.append_nil] at bd
  apply wpAny_call
  apply codeAny_mono (F.run X.A X.stack s H ⟨us, []⟩ us vs Q (E σ) hg hr I.env0 bd r h)
  intro q s' hq
  match q, hq with
  | .error z, hq => exact hx pins H s z s' I hq
  | .ok (.ret u), hq => exact I.after hq
  | .ok .next, hq => exact hq.elim
  | .ok .brk, hq => exact hq.elim
  | .ok .cont, hq => exact hq.elim
def Pas (X : Cx) (W : WX) : Prop := ∀ σ, PassesAt (L2.CX X.prog X.w) X σ (WE W σ)
theorem ct_call {g : G} {m0 m : Mu} {σ : St} {Hs H : Hp} {h1 : MH} {Q : VK} {xs : List Val} {vs : List V} (fr : Ext m0 m Hs H) (r1 : RepH g m H h1) (rv : RVs g.K H m vs xs) (hn : xs.length = n) (c : Ct g W (rO g) m0 Hs (liftV (fn xs h1)) σ Q) : spE g n fn vs H Q (WE W σ) := by
  refine ⟨m, h1, xs, r1, rv, hn, ?_⟩
  cases hq : fn xs h1 with
  | ok y h' => rw [hq] at c; exact fun m2 H2 v e r2 q => c m2 H2 v (fr.tr r1 e) r2 q
  | ex y h' => rw [hq] at c; exact fun m2 H2 e r2 => c m2 H2 (fr.tr r1 e) r2
  | bad => rw [hq] at c; exact c.elim
theorem se_call (C : Cal X.prog X.w X.K X.mg X.base ca k x n fn) (hg : X.A.guards = some []) (hr : Room k X.A) (tk : Pas X W) (ha : SV X ca W (e :: es) ds) (hl : (e :: es).length = n := by rfl) (gl : Gl X x := by rfl)
    (hdb : (x == ("__debug__" : Str)) = false := by decide +kernel) (he : starEach (e :: es) X.env = (false, eval e X.env) :: starEach es X.env := by rfl) (hpl : (backTo pos (starEach es X.env)).any (·.1) = false := by rfl) :
    SE X ca W (.Call (.Name x p) (e :: es) [] pos) (dCall n fn ds) := by
  obtain ⟨f, fd, ps, F, hm, hk, hb⟩ := C
  refine pe_w (t := tCallS (spE (gx X ca) n fn) (WE W) (TVv (gx X ca) W (rL (gx X ca)) ds)) ⟨fun pins s σ H Q I h => ?_⟩ fun σ H Q t => ?_
  · apply wpAny_Call_Name_kw
    apply ld_glob I gl hm _ hdb
    apply PySem.W.callWith_K (h₀ := X.base) I.ok.mod.kin hk _ he hpl
    apply thn (ha.run pos pins s σ H _ I h)
    rintro us s1 ⟨vs, H1, I1, r, q⟩
    exact ⟨I1.kIn, run_fnG F hg hr hb (tk σ) I1 r q⟩
  · obtain ⟨m, ρ, h, rh, re, c⟩ := t
    refine ⟨m, ρ, h, rh, re, ?_⟩
    have c : Ct (gx X ca) W (rO (gx X ca)) m H ((ds ρ h).bind fun xs h1 => if xs.length = n then liftV (fn xs h1) else .bad) σ Q := c
    cases hq : ds ρ h with
    | bad => rw [hq] at c; exact c.elim
    | ex a b => rw [hq] at c; exact c
    | ok xs h1 =>
      rw [hq] at c
      have c : Ct (gx X ca) W (rO (gx X ca)) m H (if xs.length = n then liftV (fn xs h1) else .bad) σ Q := c
      split at c
      · rename_i hn
        exact fun m1 H1 vs x1 r1 rv => ct_call x1 r1 rv hn c
      · exact c.elim
end
end Mi

namespace Mi
open PySem L2
open PyProof.Rows (IntsAre AllBare)

theorem rep_nil {g : G} {H : Hp} (hT : LamX.Tabs g.ca.T H) : RepH g (fun _ => none) H [] where
  tabs := hT
  dom := fun _ _ e => nomatch e
  inj := fun _ _ _ e => nomatch e
  at_ := fun n o e => by simp at e
theorem rvs_ints {K : PySem.W.Frag} {H : Hp} {m : Mu} : ∀ ns : List Int, RVs K H m (ns.map V.int) (ns.map Val.int)
  | [] => .nil
  | n :: ns => .cons (.int n) (rvs_ints ns)
structure TabF (K : PySem.W.Frag) (mg : Str → Option Value) (h : Heap) (cs : List (Addr × Addr)) : Prop where
  emp : ∀ p ∈ cs, h.get? p.2 = some { cls := .none, data := .fields #[] }
  out : ∀ p ∈ cs, K.lookup p.2 = none
  hd : ∀ p ∈ cs, PySem.W.CodeHd h p.1 p.2
theorem lawG {P : Program} {w : World} {K : PySem.W.Frag} {mg mb : Str → Option Value} {k : Nat} {fa a : Addr} {fd : FuncData} {x : Str} {ca : CA} {fn : DF} {s1 : Shared} {vs : List Value} {ns : List Int} {cs : List (Addr × Addr)}
    (KX : K.In s1.heap) (hns : s1.heap.Ns mainGlobals mg) (hb : s1.heap.Ns builtinsNs mb) (hbb : ∀ x : Str, x ≠ "__name__" → mb x = bootBuiltins x) (hlim : s1.heap.NoLimit) (hgen : s1.gens = #[])
    (tf : TabF K mg s1.heap cs) (hbm : ∃ (bm : Addr) (ob : Obj), mg "__builtins__" = some (.ref bm) ∧ bm ≠ builtinsNs ∧ s1.heap.get? bm = some ob ∧ ob.cls = .type "module" ∧ ob.dict = some builtinsNs ∧ ob.data = .plain)
    (ha : s1.heap.get? a = some { cls := .type "list", data := .seq vs.toArray }) (hi : IntsAre vs ns) (hl : ns.length ≤ sizeLine) (hr : Room k callerA)
    (F : ∀ base : Heap, K.In base → base.Ns mainGlobals mg → (∀ p ∈ cs, LamX.TabB base mg p.1 p.2) → FnG P w K mg base k fa fd [x] (spE ⟨K, ca⟩ 1 fn)) (hbind : ∀ (s : Shared) (u : Value), BindsTo s fd ⟨[u], []⟩ [(x, u)])
    (hca : ∀ t ∈ ca.T, t.1 ∈ cs.map (·.2)) (hfn : ∃ h', fn [.fl (ns.map Val.int)] [] = .ok (.bl true) h') :
    codeAny (model P w) callerA (.call (.ref fa) ⟨[.ref a], []⟩) (fun r s' => r = .ok (.ret (.bool true)) ∧ OldK s1.heap s'.heap ∧ s'.os = s1.os ∧ AllBare s'.gens) s1 := by
  have rv := vals_ints hi
  have lenV := hi.length
  have tabAt : ∀ b ∈ cs.map (·.2), s1.heap.get? b = some { cls := .none, data := .fields #[] } := fun b hb => by
    obtain ⟨p, hp, rfl⟩ := List.mem_map.mp hb
    exact tf.emp p hp
  have aOut : a ∉ cs.map (·.2) := fun z => by
    have := tabAt a z
    rw [ha] at this; cases this
  have main : ∀ H : Hp, (∀ b u, H b = some u → (b = a ∧ ∃ o xs, u = .frz o (.lst xs)) ∨ b ∈ cs.map (·.2) ∧ u = .tbl #[]) → (∀ b ∈ cs.map (·.2), H b = some (.tbl #[])) → FzL K H a (ns.map V.int) → HOk P w H s1.heap → (H a ≠ none → K.lookup a = none) →
      codeAny (model P w) callerA (.call (.ref fa) ⟨[.ref a], []⟩) (fun r s' => r = .ok (.ret (.bool true)) ∧ OldK s1.heap s'.heap ∧ s'.os = s1.os ∧ AllBare s'.gens) s1 := by
    intro H only tabs hS hok hK
    have vis : ∀ {b : Addr} {o : Obj}, s1.heap.get? b = some o → H b = none → (hidT s1.heap H).get? b = some o := fun e n => hidT_get e n
    have free : ∀ {b : Addr} {o : Obj}, s1.heap.get? b = some o → (∀ v n, o.data ≠ .seq v n) → o.data ≠ .fields #[] → H b = none := by
      intro b o e d1 d2
      cases q : H b with
      | none => rfl
      | some u =>
        rcases only b u q with ⟨rfl, _⟩ | ⟨hb, _⟩
        · rw [ha] at e; cases e
          exact (d1 _ _ rfl).elim
        · rw [tabAt b hb] at e; cases e
          exact (d2 rfl).elim
    have isD : ∀ {b : Addr} {o : Obj} {es : Array DictEntry} {ep : Nat}, s1.heap.get? b = some o → o.data = .dict es ep → H b = none := fun e d => free e (fun _ _ z => by rw [d] at z; cases z) fun z => by rw [d] at z; cases z
    have nsT : ∀ {b : Addr} {m : Str → Option Value}, s1.heap.Ns b m → (hidT s1.heap H).Ns b m := fun {b m} ⟨o, es, ep, e, d, z⟩ => ⟨o, es, ep, vis e (isD e d), d, z⟩
    have kT : K.In (hidT s1.heap H) := by
      intro b o e
      refine vis (KX b o e) ?_
      cases q : H b with
      | none => rfl
      | some u =>
        rcases only b u q with ⟨rfl, _⟩ | ⟨hb, _⟩
        · rw [hK (by rw [q]; simp)] at e; cases e
        · obtain ⟨p, hp, rfl⟩ := List.mem_map.mp hb
          rw [tf.out p hp] at e; cases e
    have md : Mod K mg (hidT s1.heap H) := ⟨kT, nsT hns, ⟨mb, nsT hb, hbb⟩, hlim.elim fun mc z => ⟨mc, nsT z.1, z.2⟩⟩
    have tb : ∀ p ∈ cs, LamX.TabB (hidT s1.heap H) mg p.1 p.2 := by
      intro p hp
      obtain ⟨og, es, ep, eg, dg, _⟩ := id hns
      refine ⟨?_, ?_, fun z => ?_⟩
      · obtain ⟨o, us, fl, tfl, fg, tg, inF, tx, tt, e1, r1, r2, r3, rest⟩ := tf.hd p hp
        refine ⟨o, us, fl, tfl, fg, tg, inF, tx, tt, vis e1 (free e1 (fun _ _ z => ?_) fun z => ?_), r1, r2, r3, rest⟩
        · rw [r2] at z; cases z
        · rw [r2] at z; cases z; simp at r3
      · obtain ⟨bm, ob, b1, b2, b3, b4, b5, b6⟩ := hbm
        refine ⟨bm, ob, b1, b2, fun q => ?_, fun q => ?_, vis b3 (free b3 (fun _ _ z => ?_) fun z => ?_), b4, b5, b6⟩
        · rw [q, eg] at b3; cases b3; rw [dg] at b6; cases b6
        · rw [q, tf.emp p hp] at b3; cases b3; cases b6
        · rw [b6] at z; cases z
        · rw [b6] at z; cases z
      · rw [z, tf.emp p hp] at eg; cases eg; cases dg
    have e0 : Env0 P w K mg (hidT s1.heap H) callerA [] s1 H :=
      ⟨rfl, md, fun b o e => of_hidT e, Nat.le_of_eq (hidT_size _ _), trivial, (fun b hb => nomatch hb), hok, AllBare.of_eq hgen⟩
    have promise : spE ⟨K, ca⟩ 1 fn [.ref a] H (fun v _ => v = .bl true) (fun _ _ _ => False) := by
      obtain ⟨h', e⟩ := hfn
      refine ⟨fun _ => none, [], _, rep_nil fun t ht => LamX.TabS.nil (tabs _ (hca t ht)), .cons (.fl hS (rvs_ints ns)) .nil, rfl, ?_⟩
      rw [e]
      intro m' H' v x1 r1 q
      cases q; rfl
    apply codeAny_mono ((F _ kT (nsT hns) tb).run callerA [] s1 H ⟨[.ref a], []⟩ [.ref a] [.ref a] _ _ rfl hr e0 (hbind s1 (.ref a)) (.cons rfl .nil) promise)
    intro r s' h
    match r, h with
    | .error e, h =>
      have h : L2.CX P w [] H s1 (fun _ _ _ => False) e s' := h
      obtain ⟨_, _, _, _, _, _, _, _, _, _, _, _, z⟩ := h
      exact z.elim
    | .ok .next, h => exact h.elim
    | .ok .brk, h => exact h.elim
    | .ok .cont, h => exact h.elim
    | .ok (.ret u), h =>
      obtain ⟨v, H', os, bare, un, hok', ru, q⟩ := h
      have q : v = .bl true := q
      subst q
      obtain rfl : u = Value.bool true := ru
      have stays : ∀ b o, b ∉ cs.map (·.2) → s1.heap.get? b = some o → s'.heap.get? b = some o := fun b o nb e => by
        cases q : H b with
        | none => exact un.keep b o e q (fun z => nomatch z) (fun z => nomatch z)
        | some u =>
          rcases only b u q with ⟨rfl, ob, xs, rfl⟩ | ⟨hb, _⟩
          · obtain ⟨e1, _⟩ := hok b _ q
            obtain ⟨e2, _⟩ := hok' b _ (un.frzs b ob _ q)
            rw [e] at e1; cases e1
            exact e2
          · exact absurd hb nb
      have grows : ∀ b ∈ cs.map (·.2), ∃ more : Array Value, s'.heap.get? b = some { cls := .none, data := .fields more } := fun b hb => by
        obtain ⟨more, z⟩ := un.tbls b #[] (tabs b hb)
        exact ⟨_, hok' b _ z⟩
      refine ⟨rfl, ⟨fun b o e => ?_, fun b o e => ?_⟩, os, bare⟩
      · by_cases hb : b ∈ cs.map (·.2)
        · obtain ⟨p, hp, ep⟩ := List.mem_map.mp hb
          obtain ⟨more, hm⟩ := grows b hb
          subst ep
          rw [tf.emp p hp] at e; cases e
          refine .inr (.inl ⟨((tf.hd p hp).tab (tf.emp p hp)).isCodeTable, rfl, #[], more, rfl, ?_⟩)
          rw [Array.empty_append]; exact hm
        · exact .inl (stays b o hb e)
      · by_cases hb : b ∈ cs.map (·.2)
        · obtain ⟨more, hm⟩ := grows b hb
          exact ⟨_, hm⟩
        · exact ⟨o, stays b o hb e⟩
  cases hk : K.lookup a with
  | some o =>
    have e := KX a o hk
    rw [ha] at e; cases e
    refine main (fun b => if b ∈ cs.map (·.2) then some (.tbl #[]) else none) (fun b u z => ?_) (fun b hb => if_pos hb) (.inr ⟨_, vs.toArray, _, hk, rfl, rfl, rfl, by simpa [lenV] using hl, by simpa using rv⟩) (fun b u z => ?_) (fun z => absurd (if_neg aOut) z)
    · by_cases hb : b ∈ cs.map (·.2)
      · simp only [if_pos hb] at z; cases z; exact .inr ⟨hb, rfl⟩
      · simp only [if_neg hb] at z; cases z
    · by_cases hb : b ∈ cs.map (·.2)
      · simp only [if_pos hb] at z; cases z; exact tabAt b hb
      · simp only [if_neg hb] at z; cases z
  | none =>
    have at_a : (fun b => if b = a then some (HO.frz { cls := .type "list", data := .seq vs.toArray } (.lst (ns.map V.int))) else if b ∈ cs.map (·.2) then some (.tbl #[]) else none) a = some (HO.frz { cls := .type "list", data := .seq vs.toArray } (.lst (ns.map V.int))) := if_pos rfl
    refine main (fun b => if b = a then some (.frz { cls := .type "list", data := .seq vs.toArray } (.lst (ns.map V.int))) else if b ∈ cs.map (·.2) then some (.tbl #[]) else none) (fun b u z => ?_) (fun b hb => ?_) (.inl ⟨_, at_a⟩) (fun b u z => ?_) (fun _ => hk)
    · by_cases hb : b = a
      · simp only [if_pos hb] at z; cases z; exact .inl ⟨hb, _, _, rfl⟩
      · by_cases hc : b ∈ cs.map (·.2)
        · simp only [if_neg hb, if_pos hc] at z; cases z; exact .inr ⟨hc, rfl⟩
        · simp only [if_neg hb, if_neg hc] at z; cases z
    · have : b ≠ a := fun z => aOut (by rw [← z]; exact hb)
      simp only [if_neg this, if_pos hb]
    · by_cases hb : b = a
      · simp only [if_pos hb] at z; cases z
        subst hb
        exact ⟨ha, by rw [List.length_map]; exact hl, vs, _, rv, ha⟩
      · by_cases hc : b ∈ cs.map (·.2)
        · simp only [if_neg hb, if_pos hc] at z; cases z; exact tabAt b hc
        · simp only [if_neg hb, if_neg hc] at z; cases z
theorem walkG {l : PySem.W.OpenLaw} {n k : Nat} {q : Program} {loose : List Str} {XP : (Str → Option Value) → Heap → Prop} {YP : World → Heap → Prop} {d : DefRec} {x : Str} {fn : DF}
    (hn : l.most = some n) (hn2 : n ≤ sizeLine) (hdf : d.params.defaults = []) (hr : Room k callerA)
    (F : ∀ (w : World) (mg : Str → Option Value) (fa : Addr) (h : Heap), YP w h → h.Ns mainGlobals mg → mg d.name = some (.ref fa) →
      ∃ (K : PySem.W.Frag) (fd : FuncData) (ca : CA) (cs : List (Addr × Addr)), K.In h ∧ TabF K mg h cs ∧ (∀ t ∈ ca.T, t.1 ∈ cs.map (·.2)) ∧ (∀ (s : Shared) (u : Value), BindsTo s fd ⟨[u], []⟩ [(x, u)]) ∧
        ∀ base : Heap, K.In base → base.Ns mainGlobals mg → (∀ p ∈ cs, LamX.TabB base mg p.1 p.2) → FnG l.prog w K mg base k fa fd [x] (spE ⟨K, ca⟩ 1 fn))
    (hfn : ∀ ns : List Int, ns.length ≤ n → ∃ h', fn [.fl (ns.map Val.int)] [] = .ok (.bl true) h') :
    PySem.W.WalkO q loose XP YP l.row.toRowW d [] (fun f vs => PySem.call f vs) := by
  apply Att.attach_call hn hdf
  intro w s0 s1 mg mb fa o pm cd doc a vs ns G Y ho hd hcd hmg hobj hints hlen hg
  obtain ⟨K, fd, ca, cs, KX, tf, hca, hb, hF⟩ := F w mg fa _ Y G.T.g hmg
  exact lawG KX G.T.g G.T.b G.T.builtins G.T.nolimit hg tf G.T.bmain hobj hints (Nat.le_trans hlen hn2) hr hF hb hca (hfn ns hlen)
end Mi

namespace Mi
open PySem L2

def COk (g : G) (W : WX) (f : List O → MH → R O) (r : List V → Hp → VK → Prop) : Prop :=
  ∀ (m0 m : Mu) (σ : St) (Hs H0 H : Hp) (h : MH) (vs : List V) (os : List O) (Q : VK), Ext m0 m Hs H → RepH g m H h → rOs g H0 H m vs os → Ct g W (rO g) m0 Hs (f os h) σ Q → r vs H Q
def dB (f : List O → MH → R O) (ds : DA) : D := fun ρ h => (ds ρ h).bind f
theorem rOs.one {g : G} {H0 H : Hp} {m : Mu} {vs : List V} {o : O} (q : rOs g H0 H m vs [o]) : ∃ v, vs = [v] ∧ rO g H0 H m v o := by
  cases q with
  | cons a b => cases b; exact ⟨_, rfl, a⟩
theorem rOs.two {g : G} {H0 H : Hp} {m : Mu} {vs : List V} {o o2 : O} (q : rOs g H0 H m vs [o, o2]) : ∃ v u, vs = [v, u] ∧ rO g H0 H m v o ∧ rO g H0 H m u o2 := by
  cases q with
  | cons a b =>
    obtain ⟨u, rfl, c⟩ := rOs.one b
    exact ⟨_, u, rfl, a, c⟩
section
variable {X : Cx} {ca : CA} {W : WX} {x : Str} {p pos : Pos} {e : Expr} {es : List Expr} {ds : DA} {f : List O → MH → R O} {r : List V → Hp → VK → Prop} {id T : String}
theorem tv_B {g : G} (ho : COk g W f r) {σ : St} {H : Hp} {Q : VK} (t : TEv g W (dB f ds) σ H Q) : tCB r (TAv g W ds) σ H Q := by
  refine TVv.imp (TVv.bind (rel := rOs g) (f := fun _ => f) t) ?_
  rintro v H1 ⟨m0, m1, ρ, x, h1, fr, r1, e1, rv, c⟩
  exact ho m0 m1 σ H H H1 h1 v x Q fr r1 rv c
theorem se_bi (hc : CallR X (.builtin id) r) (ho : COk (gx X ca) W f r) (hm : X.mg x = none) (ha : SA X ca W (e :: es) ds) (hv : bootBuiltins x = some (.builtin id) := by decide +kernel) (hg : Gl X x := by rfl) (hn : x ≠ "__name__" := by decide +kernel) (hdb : (x == ("__debug__" : Str)) = false := by decide +kernel)
    (he : starEach (e :: es) X.env = (false, eval e X.env) :: starEach es X.env := by rfl) (hpl : (backTo pos (starEach es X.env)).any (·.1) = false := by rfl) : SE X ca W (.Call (.Name x p) (e :: es) [] pos) (dB f ds) :=
  pe_w (pe_callB hc hg hm hv ha hn hdb he hpl) fun σ H Q t => tv_B ho t
theorem se_ty (hc : CallR X (.type T) r) (ho : COk (gx X ca) W f r) (hm : X.mg x = none) (ha : SA X ca W (e :: es) ds) (hv : bootBuiltins x = some (.type T) := by decide +kernel) (hg : Gl X x := by rfl) (hn : x ≠ "__name__" := by decide +kernel) (hdb : (x == ("__debug__" : Str)) = false := by decide +kernel)
    (he : starEach (e :: es) X.env = (false, eval e X.env) :: starEach es X.env := by rfl) (hpl : (backTo pos (starEach es X.env)).any (·.1) = false := by rfl) : SE X ca W (.Call (.Name x p) (e :: es) [] pos) (dB f ds) :=
  pe_w (pe_callTy hc hg hm hv ha hn hdb he hpl) fun σ H Q t => tv_B ho t
end
def bLen (os : List O) (h : MH) : R O := match os with
  | [.v (.str s)] => if s.length ≤ 16777216 then .ok (.v (.int s.length)) h else .bad
  | [o] => match seqO h o with
    | some (_, xs) => .ok (.v (.int xs.length)) h
    | none => match o with
      | .v (.ref n) => match h[n]? with
        | some (.dK kvs) => .ok (.v (.int kvs.length)) h
        | some (.dT kvs) => .ok (.v (.int kvs.length)) h
        | some (.lk kvs) => .ok (.v (.int kvs.length)) h
        | _ => .bad
      | _ => .bad
  | _ => .bad
abbrev rLenAll (K : PySem.W.Frag) : List V → Hp → VK → Prop := fun xs H Q => (∃ x n, xs = [x] ∧ LenV K x H n ∧ Q (.int n) H) ∨ (∃ a kvs, xs = [V.ref a] ∧ Rd H a (.dK kvs) ∧ Q (.int kvs.length) H) ∨ rLenT xs H Q
theorem call_lenR {X : Cx} : CallR X (.builtin "len") (fun xs H Q => ∃ a kvs, xs = [V.ref a] ∧ Rd H a (.dK kvs) ∧ Q (.int kvs.length) H) := by
  rintro pins s σ H xs us Q I r ⟨a, kvs, rfl, ha, q⟩
  obtain ⟨u, rfl, ru⟩ := vals1 r
  cases ru
  exact d_len I ha fun t s' J => ⟨.int kvs.length, H, J, ⟨t, rfl⟩, q⟩
theorem cr_len {X : Cx} : CallR X (.builtin "len") (rLenAll X.K) := CallR.or call_len (CallR.or call_lenR call_len_dT)
theorem bLen_ok {g : G} {W : WX} : COk g W bLen (rLenAll g.K) := by
  intro m0 m σ Hs H0 H h vs os Q fr r rs c
  unfold bLen at c
  split at c
  · obtain ⟨v, rfl, q⟩ := rs.one
    cases rO.str q
    split at c
    · rename_i hz
      exact .inl ⟨_, _, rfl, ⟨by rw [sOf_length, sl_eq]; exact hz, (sOf_length _).symm⟩, Ct.val c fr r (.int _)⟩
    · exact c.elim
  · obtain ⟨v, rfl, q⟩ := rs.one
    split at c
    · rename_i k xs ex
      obtain ⟨a, vs, rfl, la, ra⟩ := seqO_ok r q ex
      refine .inl ⟨_, xs.length, rfl, ?_, Ct.val c fr r (.int _)⟩
      rcases la.sq with s | s
      · exact .inl ⟨vs, s, ra.length.symm⟩
      · exact .inr ⟨vs, s, ra.length.symm⟩
    · split at c
      · cases q with
        | ref hm =>
          split at c
          · rename_i kvs hk
            obtain ⟨b, e1, ks, e2, e3⟩ := r.at_ _ _ hk
            rw [hm] at e1; cases e1
            have hl : ks.length = kvs.length := by
              clear hk c e2
              induction e3 with
              | nil => rfl
              | cons _ _ _ ih => simp [ih]
            exact .inr (.inl ⟨_, ks, rfl, .inl e2, by rw [hl]; exact Ct.val c fr r (.int _)⟩)
          · rename_i kvs hk
            obtain ⟨b, e1, ks, e2, e3⟩ := r.at_ _ _ hk
            rw [hm] at e1; cases e1
            have hl : ks.length = kvs.length := by
              clear hk c e2
              induction e3 with
              | nil => rfl
              | cons _ _ _ ih => simp [ih]
            exact .inr (.inr ⟨_, ks, rfl, e2, by rw [hl]; exact Ct.val c fr r (.int _)⟩)
          · rename_i kvs hk
            obtain ⟨b, e1, od, ks, e2, e3⟩ := r.at_ _ _ hk
            rw [hm] at e1; cases e1
            have hl : ks.length = kvs.length := by
              clear hk c e2
              induction e3 with
              | nil => rfl
              | cons _ _ _ ih => simp [ih]
            exact .inr (.inl ⟨_, ks, rfl, .inr ⟨od, e2⟩, by rw [hl]; exact Ct.val c fr r (.int _)⟩)
          · exact c.elim
      · exact c.elim
  · exact c.elim
def bAbs (os : List O) (h : MH) : R O := match os with
  | [.v (.int i)] => .ok (.v (.int (if i < 0 then -i else i))) h
  | _ => .bad
theorem bAbs_ok {g : G} {W : WX} : COk g W bAbs (fun xs H Q => ∃ i, xs = [.int i] ∧ Q (.int (if i < 0 then -i else i)) H) := by
  intro m0 m σ Hs H0 H h vs os Q fr r rs c
  unfold bAbs at c
  split at c
  · obtain ⟨v, rfl, q⟩ := rs.one
    cases rO.int q
    exact ⟨_, rfl, Ct.val c fr r (.int _)⟩
  · exact c.elim
def bInt (os : List O) (h : MH) : R O := match os with
  | [.v (.int i)] => .ok (.v (.int i)) h
  | [.v (.bl b)] => .ok (.v (.int (if b then 1 else 0))) h
  | _ => .bad
theorem bInt_ok {g : G} {W : WX} : COk g W bInt (fun xs H Q => (∃ i, xs = [.int i] ∧ Q (.int i) H) ∨ ∃ k, xs = [.bl k] ∧ Q (.int (if k then 1 else 0)) H) := by
  intro m0 m σ Hs H0 H h vs os Q fr r rs c
  unfold bInt at c
  split at c
  · obtain ⟨v, rfl, q⟩ := rs.one
    cases rO.int q
    exact .inl ⟨_, rfl, Ct.val c fr r (.int _)⟩
  · obtain ⟨v, rfl, q⟩ := rs.one
    cases rO.bl q
    exact .inr ⟨_, rfl, Ct.val c fr r (.int _)⟩
  · exact c.elim
def bMax (os : List O) (h : MH) : R O := match os with
  | [.v (.int i), .v (.int j)] => .ok (.v (.int (if j > i then j else i))) h
  | _ => .bad
theorem bMax_ok {g : G} {W : WX} : COk g W bMax (fun xs H Q => ∃ i j, xs = [.int i, .int j] ∧ Q (.int (if j > i then j else i)) H) := by
  intro m0 m σ Hs H0 H h vs os Q fr r rs c
  unfold bMax at c
  split at c
  · obtain ⟨v, u, rfl, q, q2⟩ := rs.two
    cases rO.int q; cases rO.int q2
    exact ⟨_, _, rfl, Ct.val c fr r (.int _)⟩
  · exact c.elim
def bDivmod (os : List O) (h : MH) : R O := match os with
  | [.v (.int i), .v (.int j)] => if 0 < j ∧ j < 18446744073709551616 then .ok (.v (.tup [.int (i / j), .int (i % j)])) h else .bad
  | _ => .bad
theorem bDivmod_ok {g : G} {W : WX} : COk g W bDivmod (fun xs H Q => ∃ i j, xs = [.int i, .int j] ∧ CDivP i j ∧ ∀ p, H p = none → Q (.ref p) (upd H p (.tup [.int (i / j), .int (i % j)]))) := by
  intro m0 m σ Hs H0 H h vs os Q fr r rs c
  unfold bDivmod at c
  split at c
  · obtain ⟨v, u, rfl, q, q2⟩ := rs.two
    cases rO.int q; cases rO.int q2
    split at c
    · rename_i hz
      exact ⟨_, _, rfl, ⟨hz.1, PyProof.noPylong_of_log2 (log2_64 hz.1 hz.2)⟩, Ct.tup c fr r (.cons (.int _) (.cons (.int _) .nil))⟩
    · exact c.elim
  · exact c.elim
def bList (os : List O) (h : MH) : R O := match os with
  | [o] => match seqO h o with
    | some (_, xs) => .ok (.n xs) h
    | none => .bad
  | _ => .bad
theorem bList_ok {g : G} {W : WX} : COk g W bList (fun xs H Q => ∃ p ys, xs = [.ref p] ∧ (SqL g.K H p ys ∨ SqT g.K H p ys) ∧ ∀ l, H l = none → Q (.ref l) (upd H l (.lst ys))) := by
  intro m0 m σ Hs H0 H h vs os Q fr r rs c
  unfold bList at c
  split at c
  · obtain ⟨v, rfl, q⟩ := rs.one
    split at c
    · rename_i k xs ex
      obtain ⟨a, vs, rfl, la, ra⟩ := seqO_ok r q ex
      exact ⟨a, vs, rfl, la.sq, Ct.new c fr r ra⟩
    · exact c.elim
  · exact c.elim
def bTuple (os : List O) (h : MH) : R O := match os with
  | [o] => match seqO h o with
    | some (_, xs) => .ok (.v (.tup xs)) h
    | none => .bad
  | _ => .bad
theorem bTuple_ok {g : G} {W : WX} : COk g W bTuple (fun xs H Q => ∃ p ys, xs = [.ref p] ∧ ((SqL g.K H p ys ∧ ∀ l, H l = none → Q (.ref l) (upd H l (.tup ys))) ∨ (SqT g.K H p ys ∧ Q (.ref p) H))) := by
  intro m0 m σ Hs H0 H h vs os Q fr r rs c
  unfold bTuple at c
  split at c
  · obtain ⟨v, rfl, q⟩ := rs.one
    split at c
    · rename_i k xs ex
      obtain ⟨a, vs, rfl, la, ra⟩ := seqO_ok r q ex
      refine ⟨a, vs, rfl, ?_⟩
      cases k with
      | tp => exact .inr ⟨SqT.of la, Ct.val c fr r (.tup la ra)⟩
      | mu => exact .inl ⟨SqL.of la, Ct.tup c fr r ra⟩
      | fz => exact .inl ⟨FzL.sql la, Ct.tup c fr r ra⟩
    · exact c.elim
  · exact c.elim
def blsOf : List Val → Option (List Bool)
  | [] => some []
  | .bl b :: xs => match blsOf xs with
    | some bs => some (b :: bs)
    | none => none
  | _ => none
def strsOf : List Val → Option (List (List Nat))
  | [] => some []
  | .str b :: xs => match strsOf xs with
    | some bs => some (b :: bs)
    | none => none
  | _ => none
theorem rvs_bls {K : PySem.W.Frag} {H : Hp} {m : Mu} : ∀ {vs : List V} {xs : List Val} {bs : List Bool}, RVs K H m vs xs → blsOf xs = some bs → vs = bs.map V.bl
  | _, _, _, .nil, e => by simp [blsOf] at e; subst e; rfl
  | _, x :: xs, _, .cons r t, e => by
    cases r with
    | bl b =>
      simp only [blsOf] at e
      split at e
      · rename_i bs' e1
        simp at e; subst e
        rw [rvs_bls t e1]; rfl
      · cases e
    | _ => simp [blsOf] at e
def lstO (h : MH) (o : O) : Option (List Val) := match seqO h o with
  | some (.mu, xs) => some xs
  | some (.fz, xs) => some xs
  | _ => none
theorem lstO_ok {g : G} {m : Mu} {H H0 : Hp} {h : MH} {v : V} {o : O} {xs : List Val} (r : RepH g m H h) (q : rO g H0 H m v o) (e : lstO h o = some xs) : ∃ a vs, v = .ref a ∧ SqL g.K H a vs ∧ RVs g.K H m vs xs := by
  unfold lstO at e
  split at e
  · rename_i ys hs
    simp at e; subst e
    obtain ⟨a, vs, rfl, la, ra⟩ := seqO_ok r q hs
    exact ⟨a, vs, rfl, la.sql (by intro z; cases z), ra⟩
  · rename_i ys hs
    simp at e; subst e
    obtain ⟨a, vs, rfl, la, ra⟩ := seqO_ok r q hs
    exact ⟨a, vs, rfl, la.sql (by intro z; cases z), ra⟩
  · cases e
def bAll (os : List O) (h : MH) : R O := match os with
  | [o] => match (lstO h o).bind blsOf with
    | some bs => .ok (.v (.bl (bs.all id))) h
    | none => .bad
  | _ => .bad
theorem bAll_ok {g : G} {W : WX} : COk g W bAll (rAll g.K) := by
  intro m0 m σ Hs H0 H h vs os Q fr r rs c
  unfold bAll at c
  split at c
  · obtain ⟨v, rfl, q⟩ := rs.one
    split at c
    · rename_i bs e
      obtain ⟨xs, e1, e2⟩ := Option.bind_eq_some_iff.mp e
      obtain ⟨a, vs, rfl, la, ra⟩ := lstO_ok r q e1
      exact ⟨a, bs, rfl, by rw [← rvs_bls ra e2]; exact la, Ct.val c fr r (.bl _)⟩
    · exact c.elim
  · exact c.elim
inductive Ty where | int | bool | str | non | tup | lst | dct
deriving DecidableEq
def Ty.name : Ty → String
  | .int => "int" | .bool => "bool" | .str => "str" | .non => "NoneType" | .tup => "tuple" | .lst => "list" | .dct => "dict"
def Ty.sub : Ty → Ty → Bool
  | .bool, .int => true
  | a, b => decide (a = b)
theorem ty_kit (a b : Ty) : kitB a.name b.name = some (a.sub b) := by
  cases a <;> cases b <;> decide +kernel
def tyO (h : MH) : O → Option Ty
  | .n _ => some .lst
  | .v .non => some .non
  | .v (.bl _) => some .bool
  | .v (.int _) => some .int
  | .v (.str _) => some .str
  | .v (.tup _) => some .tup
  | .v (.fl _) => some .lst
  | .v (.kt _) => some .tup
  | .v (.ref n) => match h[n]? with
    | some (.lst _) => some .lst
    | some (.dK _) => some .dct
    | some (.dT _) => some .dct
    | some (.lk _) => some .dct
    | _ => none
theorem tyO_ok {g : G} {m : Mu} {H H0 : Hp} {h : MH} {v : V} {o : O} {t : Ty} (r : RepH g m H h) (q : rO g H0 H m v o) (e : tyO h o = some t) : TyX g.K H v (.type t.name) := by
  cases o with
  | n xs =>
    simp [tyO] at e; subst e
    obtain ⟨a, vs, rfl, e2, _⟩ := q
    exact .base (.lst e2)
  | v x =>
    cases q with
    | non => simp [tyO] at e; subst e; exact .base .non
    | bl b => simp [tyO] at e; subst e; exact .base (.bl b)
    | int i => simp [tyO] at e; subst e; exact .base (.int i)
    | str s _ => simp [tyO] at e; subst e; exact .base (.str _)
    | tup h1 _ => simp [tyO] at e; subst e; exact .base (.tup h1)
    | fl h1 _ =>
      simp [tyO] at e; subst e
      rcases h1 with ⟨o, z⟩ | ⟨o, its, n, z1, z2, _⟩
      · exact .base (.frz z)
      · exact .kList z1 z2
    | kt h1 _ =>
      simp [tyO] at e; subst e
      obtain ⟨o, its, n, z1, z2, _⟩ := h1
      exact .kTuple z1 z2
    | ref hm =>
      simp only [tyO] at e
      split at e
      · rename_i hk
        obtain ⟨b, e1, ks, e2, e3⟩ := r.at_ _ _ hk
        rw [hm] at e1; cases e1
        simp at e; subst e; exact .base (.lst e2)
      · rename_i hk
        obtain ⟨b, e1, ks, e2, e3⟩ := r.at_ _ _ hk
        rw [hm] at e1; cases e1
        simp at e; subst e; exact .base (.dK e2)
      · rename_i hk
        obtain ⟨b, e1, ks, e2, e3⟩ := r.at_ _ _ hk
        rw [hm] at e1; cases e1
        simp at e; subst e; exact .base (.dT e2)
      · rename_i hk
        obtain ⟨b, e1, od, ks, e2, e3⟩ := r.at_ _ _ hk
        rw [hm] at e1; cases e1
        simp at e; subst e; exact .fDict e2
      · cases e
def fIsi (t : Ty) (o : O) (h : MH) : R O := match tyO h o with
  | some u => .ok (.v (.bl (u.sub t))) h
  | none => .bad
def fIsi2 (t t2 : Ty) (o : O) (h : MH) : R O := match tyO h o with
  | some u => .ok (.v (.bl (u.sub t || u.sub t2))) h
  | none => .bad
section
variable {X : Cx} {ca : CA} {W : WX} {p p2 p3 p4 pos : Pos} {e : Expr} {d : D} {x y : Str}
theorem se_isi (t : Ty) (hm : X.mg "isinstance" = none) (hmT : X.mg x = none) (he : SE X ca W e d) (hvT : bootBuiltins x = some (.type t.name) := by decide +kernel) (hg : Gl X "isinstance" := by rfl) (hgT : Gl X x := by rfl) (hnT : x ≠ "__name__" := by decide +kernel) (hdT : (x == ("__debug__" : Str)) = false := by decide +kernel)
    (h1 : starEach [e, .Name x p2] X.env = (false, eval e X.env) :: starEach [.Name x p2] X.env := by rfl) (h2 : starEach [.Name x p2] X.env = (false, eval (.Name x p2) X.env) :: starEach [] X.env := by rfl) (hpl : (backTo pos (starEach [.Name x p2] X.env)).any (·.1) = false := by rfl) :
    SE X ca W (.Call (.Name "isinstance" p) [e, .Name x p2] [] pos) (dU (fIsi t) d) :=
  pe_w (pe_callB call_isi hg hm (by decide +kernel) (pa_cons he (pa_cons (pe_bltn (v := .ty t.name) hgT hmT hvT rfl hnT hdT) pa_nil h2) h1) (by decide) (by decide) h1 hpl) fun σ H Q q => by
    refine TVv.imp (TVv.bind (rel := rO (gx X ca)) (f := fun _ => fIsi t) q) ?_
    rintro v H1 ⟨m0, m1, ρ, z, h1, fr, r1, e1, rv, c⟩
    unfold fIsi at c
    split at c
    · rename_i u hu
      exact ⟨v, _, _, _, _, rfl, .ty _, tyO_ok r1 rv hu, kit_ty (ty_kit u t), Ct.val c fr r1 (.bl _)⟩
    · exact c.elim
theorem se_isi2 (t t2 : Ty) (hm : X.mg "isinstance" = none) (hmT : X.mg x = none) (hmU : X.mg y = none) (he : SE X ca W e d) (hvT : bootBuiltins x = some (.type t.name) := by decide +kernel) (hvU : bootBuiltins y = some (.type t2.name) := by decide +kernel) (hg : Gl X "isinstance" := by rfl) (hgT : Gl X x := by rfl) (hgU : Gl X y := by rfl)
    (hnT : x ≠ "__name__" := by decide +kernel) (hdT : (x == ("__debug__" : Str)) = false := by decide +kernel) (hnU : y ≠ "__name__" := by decide +kernel) (hdU : (y == ("__debug__" : Str)) = false := by decide +kernel) {k : Nat}
    (h1 : starEach [e, .Tuple [.Name x p2, .Name y p3] k p4] X.env = (false, eval e X.env) :: starEach [.Tuple [.Name x p2, .Name y p3] k p4] X.env := by rfl) (h2 : starEach [.Tuple [.Name x p2, .Name y p3] k p4] X.env = (false, eval (.Tuple [.Name x p2, .Name y p3] k p4) X.env) :: starEach [] X.env := by rfl)
    (h3 : starEach [.Name x p2, .Name y p3] X.env = (false, eval (.Name x p2) X.env) :: starEach [.Name y p3] X.env := by rfl) (h4 : starEach [.Name y p3] X.env = (false, eval (.Name y p3) X.env) :: starEach [] X.env := by rfl) (hpl : (backTo pos (starEach [.Tuple [.Name x p2, .Name y p3] k p4] X.env)).any (·.1) = false := by rfl) :
    SE X ca W (.Call (.Name "isinstance" p) [e, .Tuple [.Name x p2, .Name y p3] k p4] [] pos) (dU (fIsi2 t t2) d) :=
  pe_w (pe_callB call_isiT hg hm (by decide +kernel) (pa_cons he (pa_cons (pe_tup (pa_cons (pe_bltn (v := .ty t.name) hgT hmT hvT rfl hnT hdT) (pa_cons (pe_bltn (v := .ty t2.name) hgU hmU hvU rfl hnU hdU) pa_nil h4) h3)) pa_nil h2) h1) (by decide) (by decide) h1 hpl) fun σ H Q q => by
    refine TVv.imp (TVv.bind (rel := rO (gx X ca)) (f := fun _ => fIsi2 t t2) q) ?_
    rintro v H1 ⟨m0, m1, ρ, z, h1, fr, r1, e1, rv, c⟩
    refine ⟨by show 2 ≤ sizeLine; decide, fun tp htp => ?_⟩
    unfold fIsi2 at c
    split at c
    · rename_i u hu
      have x1 : Ext m1 m1 H1 (upd H1 tp (.tup [.ty t.name, .ty t2.name])) := Ext.laid htp
      have r2 := r1.laid (o := .tup [.ty t.name, .ty t2.name]) htp
      refine ⟨v, tp, _, _, _, _, rfl, upd_same, .cons (.ty _) (.cons (.ty _) .nil), tyO_ok r2 (x1.ro r1 rv) hu, ?_, Ct.val c (fr.tr r1 x1) r2 (.bl _)⟩
      refine kitAny_cons (kit_ty (ty_kit u t)) (fun hf => ?_) (fun ht => by rw [ht]; rfl)
      refine kitAny_cons (kit_ty (ty_kit u t2)) (fun hf2 => ?_) (fun ht => by rw [hf, ht]; rfl)
      rw [hf, hf2]; rfl
    · exact c.elim
end
end Mi

namespace Mi
open PySem L2

def runT : List TD → List Val → En → MH → Out
  | [], [], ρ, h => .nx ρ h
  | t :: ts, x :: xs, ρ, h => match t x ρ h with
    | .nx ρ1 h1 => runT ts xs ρ1 h1
    | _ => .bad
  | _, _, _, _ => .bad
def TGsv (g : G) (ts : List TD) : TGs := fun vs σ H Q => vs.length = ts.length ∧ ∃ m ρ h xs, RepH g m H h ∧ REnv g.K H m σ ρ ∧ RVs g.K H m vs xs ∧ CtG g m H (runT ts xs ρ h) Q
def SGs (X : Cx) (ca : CA) (es : List Expr) (ts : List TD) : Prop := PGs X es (TGsv (gx X ca) ts)
theorem pgs_w {X : Cx} {es : List Expr} {t t' : TGs} (h : PGs X es t) (i : ∀ v σ H Q, t' v σ H Q → t v σ H Q) : PGs X es t' := ⟨fun pins s σ H v u Q I r q => h.run pins s σ H v u Q I r (i v σ H Q q)⟩
theorem CtG.later {g : G} {m m' : Mu} {Hs H' : Hp} {h : MH} {o : Out} {Q : St → Hp → Prop} (x : Ext m m' Hs H') (q : RepH g m' H' h) (c : CtG g m Hs o Q) : CtG g m' H' o Q := by
  cases o with
  | nx ρ k => exact fun m2 σ2 H2 e => c m2 σ2 H2 (x.tr q e)
  | _ => exact c
def tdT (ts : List TD) : TD := fun x ρ h => match x with
  | .tup xs => if xs.length = ts.length then runT ts xs ρ h else .bad
  | _ => .bad
section
variable {X : Cx} {ca : CA} {W : WX} {e : Expr} {es : List Expr} {t : TD} {ts : List TD} {d : D} {pos : Pos}
theorem sgs_nil : SGs X ca [] [] := pgs_w pgs_nil fun v σ H Q ⟨l, m, ρ, h, xs, rh, re, rv, c⟩ => by
  have : v = [] := List.eq_nil_of_length_eq_zero l
  subst this
  cases rv
  exact ⟨rfl, c m σ H Ext.refl rh re⟩
theorem sgs_cons (h1 : SG X ca e t) (h2 : SGs X ca es ts) (hs : (assignEach (e :: es) X.env).map (·.2) = assign e X.env :: (assignEach es X.env).map (·.2) := by rfl) : SGs X ca (e :: es) (t :: ts) :=
  pgs_w (pgs_cons h1 h2 hs) fun vs σ H Q ⟨l, m, ρ, h, xs, rh, re, rv, c⟩ => by
    cases rv with
    | nil => simp at l
    | @cons v vs x xs r1 r2 =>
      refine ⟨v, vs, rfl, m, ρ, h, x, rh, re, r1, ?_⟩
      simp only [runT] at c
      cases hq : t x ρ h with
      | nx ρ1 h1 =>
        rw [hq] at c
        intro m2 σ2 H2 x2 rr2 e2
        exact ⟨by simpa using l, m2, ρ1, h1, xs, rr2, e2, x2.rvs rh r2, CtG.later x2 rr2 c⟩
      | _ => rw [hq] at c; exact c.elim
theorem sg_t {k : Nat} (hc : X.calm = true) (h : SGs X ca es ts) (hn : (assignEach es X.env).length = ts.length := by rfl) (hst : (assignEach es X.env).findIdx? (·.1) = none := by rfl) : SG X ca (.Tuple es k pos) (tdT ts) :=
  pg_w (pg_tup hc h hn hst) fun v σ H Q ⟨m, ρ, h, x, rh, re, rv, c⟩ => by
    unfold tdT at c
    split at c
    · cases rv with
      | tup h1 h2 =>
        split at c
        · rename_i hl
          exact ⟨_, _, rfl, SqT.of h1, by rw [h2.length]; exact hl, by rw [h2.length]; exact hl, m, ρ, h, _, rh, re, h2, c⟩
        · exact c.elim
    · exact c.elim
end
end Mi

namespace Mi
open PySem L2
section
variable {P : Program} {w : World} {K : PySem.W.Frag} {mg : Str → Option Value} {base : Heap} {N : List Str} {qual : Str} {scope : Scope} {f : Addr} {cd : Value} {A : Around} {outer : List PySem.Env} {s : Shared} {H : Hp} {E : XK}
theorem tk_of : Pas (cxOf (L2.CX P w) P w K mg base N qual scope f cd A outer s H E) (WE1 E) := fun σ => passAt (takes_of rfl rfl rfl rfl) σ
theorem po_of : PassesOwn (model P w) (cxOf (L2.CX P w) P w K mg base N qual scope f cd A outer s H E).A (cxOf (L2.CX P w) P w K mg base N qual scope f cd A outer s H E).env (cxOf (L2.CX P w) P w K mg base N qual scope f cd A outer s H E).xe := passes_of rfl
end
theorem pas0 {X : Cx} : Pas X W0 := fun σ _ _ _ _ _ _ c => by
  obtain ⟨_, _, _, _, _, _, _, _, _, _, _, _, z⟩ := c
  exact z.elim
end Mi

namespace Mi
open PySem L2
abbrev MD := Val → List Val → MH → R O
def dMt (ty : Val → MH → Bool) (f : MD) (d : D) (ds : DV) : D := fun ρ h => (d ρ h).bind fun o h1 => if ty (num o h1).1 (num o h1).2 = true then (ds ρ (num o h1).2).bind fun xs h2 => f (num o h1).1 xs h2 else .bad
def tyW (K : PySem.W.Frag) (T : String) (x : V) (H : Hp) : Prop := tyV K T x H ∨ (T = "dict" ∧ ∃ a, x = .ref a ∧ IsD H a)
section
open PyProof.Rows
variable {X : Cx} {o e : Expr} {es : List Expr} {to : TE} {t : TA} {name : Str} {apos cpos : Pos} {T id : String} {r : V → List V → Hp → VK → Prop}
theorem tyW_at {pins : List (Addr × Obj)} {σ : L2.St} {H : Hp} {s : Shared} {x : V} {v : Value} (I : Inv X pins σ H s) (q : RelV x v) (ty : tyW X.K T x H) : s.TypeIs v T ∧ ∀ a, v = .ref a → ∃ ob, s.heap.get? a = some ob ∧ ob.dict = none := by
  rcases ty with ty | ⟨rfl, a, rfl, d⟩
  · exact tyV_is I q ty
  · cases q
    exact ⟨(isD_at I d).1, (isD_at I d).2.1⟩
theorem pe_bmW0 (pa : PlainAttrs T) (slot : Slot T name id) (hty : typeOf (.builtin id) = pure (.type "method_descriptor")) (hm : MtR X id r) (ho : PE X o to)
    (hb : attributeBase o name X.env (eval o X.env) = eval o X.env := by rfl) (hl : (apos.endLine == cpos.line) = true := by rfl) : PE X (.Call (.Attribute o name apos) [] [] cpos) (fun σ H Q => to σ H fun x H1 => tyW X.K T x H1 ∧ r x [] H1 Q) := by
  constructor
  intro pins s σ H Q I h
  refine wpAny_Call_method0_late hb hl ?_
  refine thn (ho.run pins s σ H _ I h) ?_
  rintro v s1 ⟨x, H1, J, q, ty, w⟩
  exact ⟨T, id, pa, slot, hty, (tyW_at J q ty).1, (tyW_at J q ty).2, Calls.callWith_builtin rfl (PySem.evalArgs_none (hm pins s1 σ H1 x [] v [] Q J q .nil w))⟩
theorem pe_bmW (pa : PlainAttrs T) (slot : Slot T name id) (hty : typeOf (.builtin id) = pure (.type "method_descriptor")) (hm : MtR X id r) (ho : PE X o to) (ha : PA X (e :: es) t)
    (hb : attributeBase o name X.env (eval o X.env) = eval o X.env := by rfl)
    (hf : ((backTo cpos (starEach (e :: es) X.env)).all (fun x => !x.1) && (backToKw cpos (keywordEach [] X.env)).all (fun x => x.1.isSome) && decide ((e :: es).length + ([] : List Keyword).length + (if ([] : List Keyword).isEmpty then 0 else 1) < 30)) = true := by rfl)
    (hl : (apos.endLine == cpos.line) = true := by rfl) (hs : starEach (e :: es) X.env = (false, eval e X.env) :: starEach es X.env := by rfl) (hp : (backTo cpos (starEach es X.env)).any (·.1) = false := by rfl) :
    PE X (.Call (.Attribute o name apos) (e :: es) [] cpos) (fun σ H Q => to σ H fun x H1 => tyW X.K T x H1 ∧ t σ H1 fun xs H2 => r x xs H2 Q) := by
  constructor
  intro pins s σ H Q I h
  refine wpAny_Call_method_late hb hf hl rfl ?_
  refine thn (ho.run pins s σ H _ I h) ?_
  rintro v s1 ⟨x, H1, J, q, ty, w⟩
  refine ⟨T, id, pa, slot, hty, (tyW_at J q ty).1, (tyW_at J q ty).2, ?_⟩
  have run := ha.run cpos pins s1 σ H1 _ J w
  rw [hs] at run ⊢
  refine Calls.callWith_builtin ?_ ?_
  · show (false || (backTo cpos (starEach es X.env)).any (·.1)) = false
    rw [hp]; rfl
  · refine Calls.evalArgs_plain ?_
    refine thn run ?_
    rintro us s2 ⟨vs, H2, J2, q2, w2⟩
    exact hm pins s2 σ H2 x vs v us Q J2 q q2 w2
end
def TyOk (g : G) (T : String) (ty : Val → MH → Bool) : Prop := ∀ (m : Mu) (H : Hp) (h : MH) (v : V) (x : Val), RepH g m H h → RV g.K H m v x → ty x h = true → tyW g.K T v H
def MOk (g : G) (W : WX) (f : MD) (r : V → List V → Hp → VK → Prop) : Prop :=
  ∀ (m0 m : Mu) (σ : St) (Hs H : Hp) (h : MH) (v : V) (x : Val) (vs : List V) (xs : List Val) (Q : VK), Ext m0 m Hs H → RepH g m H h → RV g.K H m v x → RVs g.K H m vs xs → Ct g W (rO g) m0 Hs (f x xs h) σ Q → r v vs H Q
section
variable {X : Cx} {ca : CA} {W : WX} {o e : Expr} {es : List Expr} {name : Str} {apos cpos : Pos} {T id : String} {r : V → List V → Hp → VK → Prop} {ty : Val → MH → Bool} {f : MD} {d : D} {ds : DV}
theorem se_mt (pa : PlainAttrs T) (slot : Slot T name id) (hm : MtR X id r) (tk : TyOk (gx X ca) T ty) (mk : MOk (gx X ca) W f r) (ho : SE X ca W o d) (ha : SV X ca W (e :: es) ds) (hty : typeOf (.builtin id) = pure (.type "method_descriptor") := by rfl)
    (hbase : attributeBase o name X.env (eval o X.env) = eval o X.env := by rfl)
    (hfew : ((backTo cpos (starEach (e :: es) X.env)).all (fun x => !x.1) && (backToKw cpos (keywordEach [] X.env)).all (fun x => x.1.isSome)
      && decide ((e :: es).length + ([] : List Keyword).length + (if ([] : List Keyword).isEmpty then 0 else 1) < 30)) = true := by rfl)
    (hline : (apos.endLine == cpos.line) = true := by rfl) (hs : starEach (e :: es) X.env = (false, eval e X.env) :: starEach es X.env := by rfl) (hplain : (backTo cpos (starEach es X.env)).any (·.1) = false := by rfl) :
    SE X ca W (.Call (.Attribute o name apos) (e :: es) [] cpos) (dMt ty f d ds) :=
  pe_w (pe_bmW pa slot hty hm ho ha hbase hfew hline hs hplain) fun σ H Q t => by
    refine TVv.imp (TVv.bind (rel := rO (gx X ca)) (f := fun ρ o h1 => if ty (num o h1).1 (num o h1).2 = true then (ds ρ (num o h1).2).bind fun xs h2 => f (num o h1).1 xs h2 else .bad) t) ?_
    rintro v H1 ⟨m0, m1, ρ, x, h1, fr, r1, e1, rv, c⟩
    obtain ⟨m2, le, fr2, r2, rv2⟩ := num_ok fr r1 rv
    split at c
    · rename_i ht
      refine ⟨tk _ _ _ _ _ r2 rv2 ht, m2, ρ, _, r2, e1.le le, (Ct.step (rel := rL (gx X ca)) fr2 r2 c).imp ?_⟩
      rintro vs H2 ⟨m3, xs, h2, ex, fr3, r3, rv3, c2⟩
      exact mk _ _ _ _ _ _ _ _ _ _ _ fr3 r3 (ex.rv r2 rv2) rv3 c2
    · exact c.elim
theorem se_mt0 (pa : PlainAttrs T) (slot : Slot T name id) (hm : MtR X id r) (tk : TyOk (gx X ca) T ty) (mk : MOk (gx X ca) W f r) (ho : SE X ca W o d) (hty : typeOf (.builtin id) = pure (.type "method_descriptor") := by rfl)
    (hbase : attributeBase o name X.env (eval o X.env) = eval o X.env := by rfl) (hline : (apos.endLine == cpos.line) = true := by rfl) : SE X ca W (.Call (.Attribute o name apos) [] [] cpos) (dMt ty f d vNil) :=
  pe_w (pe_bmW0 pa slot hty hm ho hbase hline) fun σ H Q t => by
    refine TVv.imp (TVv.bind (rel := rO (gx X ca)) (f := fun ρ o h1 => if ty (num o h1).1 (num o h1).2 = true then (vNil ρ (num o h1).2).bind fun xs h2 => f (num o h1).1 xs h2 else .bad) t) ?_
    rintro v H1 ⟨m0, m1, ρ, x, h1, fr, r1, e1, rv, c⟩
    obtain ⟨m2, le, fr2, r2, rv2⟩ := num_ok fr r1 rv
    split at c
    · rename_i ht
      exact ⟨tk _ _ _ _ _ r2 rv2 ht, mk _ _ _ _ _ _ _ _ _ _ _ fr2 r2 rv2 .nil c⟩
    · exact c.elim
end
def isL (x : Val) (h : MH) : Bool := match x with
  | .ref n => match h[n]? with
    | some (.lst _) => true
    | _ => false
  | _ => false
theorem isL_of {x : Val} {h : MH} (e : isL x h = true) : ∃ n xs, x = .ref n ∧ h[n]? = some (.lst xs) := by
  unfold isL at e
  split at e
  · split at e
    · rename_i n _ ys hy
      exact ⟨n, ys, rfl, hy⟩
    · cases e
  · cases e
theorem isL_ok {g : G} : TyOk g "list" isL := fun m H h v x r rv e => by
  obtain ⟨n, xs, rfl, e1⟩ := isL_of e
  cases rv with
  | ref hm =>
    obtain ⟨b, e2, vs, e3, _⟩ := r.at_ _ _ e1
    rw [hm] at e2; cases e2
    exact .inl (.inl ⟨rfl, vs, SqL.of e3⟩)
def onL (f : List Val → List Val → Option (Val × List Val)) : MD := fun x ys h => match x with
  | .ref n => match h[n]? with
    | some (.lst xs) => match f xs ys with
      | some (z, xs') => .ok (.v z) (h.set n (.lst xs'))
      | none => .bad
    | _ => .bad
  | _ => .bad
theorem onL_ok {g : G} {W : WX} {f : List Val → List Val → Option (Val × List Val)} {r : V → List V → Hp → VK → Prop}
    (k : ∀ (m : Mu) (H : Hp) (a : Addr) (vs : List V) (xs : List Val) (us : List V) (ys : List Val) (z : Val) (xs' : List Val) (Q : VK), H a = some (.lst vs) → RVs g.K H m vs xs → RVs g.K H m us ys → f xs ys = some (z, xs') →
      (∀ w vs', RV g.K H m w z → RVs g.K H m vs' xs' → Q w (upd H a (.lst vs'))) → r (.ref a) us H Q) : MOk g W (onL f) r := by
  intro m0 m σ Hs H h v x us ys Q fr r1 rv rvs c
  unfold onL at c
  split at c
  · rename_i n
    split at c
    · rename_i xs hx
      split at c
      · rename_i z xs' hf
        cases rv with
        | ref hm =>
          rename_i a
          obtain ⟨b, e2, vs, e3, e4⟩ := r1.at_ _ _ hx
          rw [hm] at e2; cases e2
          refine k m H _ vs xs us ys z xs' Q e3 e4 rvs hf fun w vs' rw rvs' => ?_
          have x2 : Ext m m H (upd H a (.lst vs')) := Ext.upd hm (fun _ _ z => by rw [e3] at z; cases z)
          have mo : Kp H (upd H a (.lst vs')) := x2.sqt r1
          exact c m (upd H a (.lst vs')) w (fr.tr r1 x2) (r1.upd hm ⟨_, upd_same, rvs'.mono mo fun _ _ z => z⟩) (x2.rv r1 rw)
      · exact c.elim
    · exact c.elim
  · exact c.elim
def lAppend : List Val → List Val → Option (Val × List Val) := fun xs ys => match ys with
  | [y] => if xs.length < 16777216 then some (.non, xs ++ [y]) else none
  | _ => none
theorem lAppend_ok {g : G} {W : WX} : MOk g W (onL lAppend) rAppend := onL_ok fun m H a vs xs us ys z xs' Q e rv ru hf q => by
  unfold lAppend at hf
  split at hf
  · rename_i y
    split at hf
    · rename_i hl
      cases hf
      cases ru with
      | cons r1 r2 => cases r2; exact ⟨a, vs, _, rfl, rfl, e, by rw [rv.length, sizeLine_eq]; exact hl, q _ _ .non (rv.append (.cons r1 .nil))⟩
    · cases hf
  · cases hf
def lPop : List Val → List Val → Option (Val × List Val) := fun xs ys => match ys with
  | [] => match xs[xs.length - 1]? with
    | some y => some (y, xs.dropLast)
    | none => none
  | _ => none
theorem lPop_ok {g : G} {W : WX} : MOk g W (onL lPop) rPop := onL_ok fun m H a vs xs us ys z xs' Q e rv ru hf q => by
  unfold lPop at hf
  split at hf
  · split at hf
    · rename_i y hy
      cases hf
      cases ru
      obtain ⟨w, h1, h2⟩ := rv.get hy
      exact ⟨a, vs, w, rfl, rfl, e, by rw [rv.length]; exact h1, q _ _ h2 rv.dropLast⟩
    · cases hf
  · cases hf
def lPopAt : List Val → List Val → Option (Val × List Val) := fun xs ys => match ys with
  | [.int i] => match ixN xs.length i with
    | some k => match xs[k]? with
      | some y => if -9223372036854775808 ≤ i ∧ i < 9223372036854775808 then some (y, xs.eraseIdx k) else none
      | none => none
    | none => none
  | _ => none
theorem lPopAt_ok {g : G} {W : WX} : MOk g W (onL lPopAt) rPopAt := onL_ok fun m H a vs xs us ys z xs' Q e rv ru hf q => by
  unfold lPopAt at hf
  split at hf
  · rename_i i
    split at hf
    · rename_i k hk
      split at hf
      · rename_i y hy
        split at hf
        · rename_i hl
          cases hf
          cases ru with
          | cons r1 r2 =>
            cases r2; cases r1
            obtain ⟨w, h1, h2⟩ := rv.get hy
            exact ⟨a, vs, i, k, w, rfl, rfl, e, by omega, by omega, by rw [rv.length]; exact (ixN_seq hk).1, h1, q _ _ h2 (rv.eraseIdx k)⟩
        · cases hf
      · cases hf
    · cases hf
  · cases hf
def lReverse : List Val → List Val → Option (Val × List Val) := fun xs ys => match ys with
  | [] => some (.non, xs.reverse)
  | _ => none
theorem lReverse_ok {g : G} {W : WX} : MOk g W (onL lReverse) rReverse := onL_ok fun m H a vs xs us ys z xs' Q e rv ru hf q => by
  unfold lReverse at hf
  split at hf
  · cases hf; cases ru; exact ⟨a, vs, rfl, rfl, e, q _ _ .non rv.reverse⟩
  · cases hf
abbrev rInsert : V → List V → Hp → VK → Prop := fun x vs H Q => ∃ (l : Addr) (xs : List V) (i : Int) (y : V), x = .ref l ∧ vs = [.int i, y] ∧ H l = some (.lst xs) ∧ xs.length < sizeLine ∧ 0 ≤ i ∧ i < 2 ^ 63 ∧
    Q .non (upd H l (.lst (xs.take i.toNat ++ [y] ++ xs.drop i.toNat)))
def lInsert : List Val → List Val → Option (Val × List Val) := fun xs ys => match ys with
  | [.int i, y] => if xs.length < 16777216 ∧ 0 ≤ i ∧ i < 9223372036854775808 then some (.non, xs.take i.toNat ++ [y] ++ xs.drop i.toNat) else none
  | _ => none
theorem lInsert_ok {g : G} {W : WX} : MOk g W (onL lInsert) rInsert := onL_ok fun m H a vs xs us ys z xs' Q e rv ru hf q => by
  unfold lInsert at hf
  split at hf
  · rename_i i y
    split at hf
    · rename_i hl
      cases hf
      cases ru with
      | cons r1 r2 =>
        cases r1
        cases r2 with
        | cons r3 r4 =>
          cases r4
          exact ⟨a, vs, i, _, rfl, rfl, e, by rw [rv.length, sizeLine_eq]; exact hl.1, hl.2.1, by omega, q _ _ .non (((rv.take i.toNat).append (.cons r3 .nil)).append (rv.drop i.toNat))⟩
    · cases hf
  · cases hf
end Mi

namespace Mi
open PySem L2
def Cok (x : Str) : Prop := ∀ c ∈ x.cps.toList, c < 1114112
theorem Cok.ap {x y : Str} (a : Cok x) (b : Cok y) : Cok (x ++ y) := fun c hc => by
  have : (x ++ y).cps.toList = x.cps.toList ++ y.cps.toList := by
    show (x.cps ++ y.cps).toList = _
    simp
  rw [this, List.mem_append] at hc
  exact hc.elim (a c) (b c)
theorem Cok.of (s : String) : Cok (Str.ofString s) := fun c hc => by
  have e : (Str.ofString s).cps.toList = s.toList.map Char.toNat := by
    show (cpsOfBytes 0 0 s.toByteArray.data.toList).toArray.toList = _
    rw [cpsOfBytes_string]
  rw [e] at hc
  obtain ⟨d, _, rfl⟩ := List.mem_map.mp hc
  have := d.valid
  show d.val.toNat < 1114112
  rcases this with h | h
  · have : d.val.toNat < 55296 := h
    omega
  · exact h.2
theorem textFrom_ok : ∀ (ts : List Str) (k : Nat) (acc : Str), Cok acc → (∀ t ∈ ts, Cok t) → Cok (textFrom k acc ts)
  | [], _, _, a, _ => a
  | t :: ts, k, acc, a, b => textFrom_ok ts (k + 1) _ ((a.ap (by split <;> exact Cok.of _)).ap (b t (by simp))) fun x hx => b x (by simp [hx])
theorem listText_ok (ts : List Str) (b : ∀ t ∈ ts, Cok t) : Cok (listText ts) := (textFrom_ok ts 0 _ (Cok.of _) b).ap (Cok.of _)
theorem join_ok (sep : Str) (hs : Cok sep) : ∀ ts : List Str, (∀ t ∈ ts, Cok t) → Cok (Str.join sep ts)
  | [], _ => fun c hc => by cases hc
  | [x], b => b x (by simp)
  | x :: y :: r, b => ((b x (by simp)).ap hs).ap (join_ok sep hs (y :: r) fun z hz => b z (by simp [hz]))
theorem tupleText_ok (ts : List Str) (b : ∀ t ∈ ts, Cok t) : Cok (tupleText ts) := ((Cok.of _).ap (join_ok _ (Cok.of _) ts b)).ap (by split <;> exact Cok.of _)
theorem hex_ok (w c d : Nat) (h : d ∈ List.replicate (w - ((Nat.toDigits 16 c).map Char.toNat).length) 48 ++ (Nat.toDigits 16 c).map Char.toNat) : d < 1114112 := by
  rcases List.mem_append.mp h with q | q
  · have := (List.mem_replicate.mp q).2; omega
  · obtain ⟨e, _, rfl⟩ := List.mem_map.mp q
    have := e.valid
    show e.val.toNat < 1114112
    rcases this with h | h
    · have : e.val.toNat < 55296 := h
      omega
    · exact h.2
theorem reprChar_ok (q c : Nat) (hc : c < 1114112) : ∀ d ∈ Builtin.Str.reprChar q c, d < 1114112 := by
  intro d hd
  unfold Builtin.Str.reprChar at hd
  dsimp only at hd
  repeat' split at hd
  all_goals first
    | (simp only [List.mem_cons, List.not_mem_nil, or_false] at hd; omega)
    | (rcases List.mem_append.mp hd with h | h
       · simp only [List.mem_cons, List.not_mem_nil, or_false] at h; omega
       · exact hex_ok _ _ _ h)
theorem foldl_repr_ok (q : Nat) : ∀ (l : List Nat) (acc : Array Nat), (∀ c ∈ l, c < 1114112) → (∀ c ∈ acc.toList, c < 1114112) → ∀ c ∈ (l.foldl (fun out c => out ++ (Builtin.Str.reprChar q c).toArray) acc).toList, c < 1114112
  | [], _, _, b => b
  | d :: r, acc, a, b => by
    rw [List.foldl_cons]
    refine foldl_repr_ok q r _ (fun c hc => a c (by simp [hc])) fun c hc => ?_
    rw [Array.toList_append, List.mem_append] at hc
    rcases hc with h | h
    · exact b c h
    · exact reprChar_ok q d (a d (by simp)) c (by simpa using h)
theorem reprText_ok {x : Str} (h : Cok x) : Cok (reprText x) := fun c hc => by
  have q : reprQuote x < 1114112 := by unfold reprQuote; split <;> omega
  have e : (reprText x).cps.toList = (x.cps.toList.foldl (fun out c => out ++ (Builtin.Str.reprChar (reprQuote x) c).toArray) #[reprQuote x]).toList ++ [reprQuote x] := by
    show ((x.cps.foldl (fun out c => out ++ (Builtin.Str.reprChar (reprQuote x) c).toArray) #[reprQuote x]).push (reprQuote x)).toList = _
    rw [Array.toList_push, ← Array.foldl_toList]
  rw [e, List.mem_append] at hc
  rcases hc with h1 | h1
  · exact foldl_repr_ok _ _ _ h (fun d hd => by simp at hd; omega) c h1
  · simp at h1; omega
mutual
theorem shown_ok : ∀ d : PyData, d.canLay0 = true → Cok d.shown
  | .none, _ => by simp only [PyData.shown]; exact Cok.of _
  | .bool b, _ => by simp only [PyData.shown]; split <;> exact Cok.of _
  | .int i, _ => by simp only [PyData.shown]; exact Cok.of _
  | .str x, h => by
    simp only [PyData.shown]
    refine reprText_ok fun c hc => ?_
    have h : PyData.strOk x = true := by simpa [PyData.canLay0] using h
    unfold PyData.strOk at h
    obtain ⟨i, hi, rfl⟩ := List.mem_iff_getElem.mp hc
    have := (Array.all_eq_true.mp h) i (by simpa using hi)
    simpa using this
  | .list xs, h => by
    simp only [PyData.shown]
    exact listText_ok _ (shownAll_ok xs (by simpa [PyData.canLay0] using h))
  | .tuple xs, h => by
    simp only [PyData.shown]
    exact tupleText_ok _ (shownAll_ok xs (by simpa [PyData.canLay0] using h))
  | .dict _, h => by simp [PyData.canLay0] at h
theorem shownAll_ok : ∀ xs : List PyData, PyData.canLayAll0 xs = true → ∀ t ∈ PyData.shownAll xs, Cok t
  | [], _, t, ht => by simp [PyData.shownAll] at ht
  | x :: xs, h, t, ht => by
    have h' : x.canLay0 = true ∧ PyData.canLayAll0 xs = true := by simpa [PyData.canLayAll0] using h
    simp only [PyData.shownAll, List.mem_cons] at ht
    rcases ht with rfl | ht
    · exact shown_ok x h'.1
    · exact shownAll_ok xs h'.2 t ht
end
abbrev rStrD (K : PySem.W.Frag) : List V → Hp → VK → Prop := fun xs H Q => ∃ a d, xs = [.ref a] ∧ Dp K H (.ref a) d ∧ d.canLay0 = true ∧ d.showable = true ∧ d.depth ≤ 17 ∧ d.shown.length ≤ sizeLine ∧ Q (.str d.shown) H
section
variable {X : Cx}
theorem cr_reprD (hg : X.A.guards = some []) (hu : X.A.units + 64 < cLine) : CallR X (.builtin "repr") (rStrD X.K) := by
  intro pins s σ H xs us Q I r h
  obtain ⟨a, d, rfl, hd, h0, h1, h2, h3, q⟩ := h
  obtain ⟨as, rd⟩ := Dp.reads I d (.ref a) (.ref a) hd rfl
  rw [Vals.ref1 r]
  exact repr_of_reads' rd h1 (PyData.noDict_hsm (PyData.hasDict_of_canLay d h0)) hg (by omega) (fun _ _ z => z) (fun h' u tk hk => ⟨.str _, H, I.kept hk, ⟨_, rfl⟩, q⟩) h3
end
def itoa (i : Int) : List Nat := (Str.ofString (toString i)).cps.toList
def codesOf (x : Str) : List Nat := x.cps.toList
theorem sOf_codes (x : Str) : sOf (codesOf x) = x := by
  cases x; simp [codesOf]
def isCon : O → Bool
  | .n _ => true
  | .v (.tup _) => true
  | .v (.fl _) => true
  | .v (.ref _) => true
  | _ => false
def shOk (d : PyData) : Bool := d.showable && decide (d.shown.length ≤ 16777216)
theorem datO_lay {g : G} {m : Mu} {H H0 : Hp} {h : MH} (r : RepH g m H h) {v : V} {x : O} {d : PyData} (q : rO g H0 H m v x) (e : datO h 16 x = some d) : Dp g.K H v d ∧ d.canLay0 = true ∧ d.depth ≤ 17 := by
  cases x with
  | v x =>
    obtain ⟨a, b, c⟩ := dat_ok r 16 v x d q e
    exact ⟨a, b, by omega⟩
  | n xs =>
    obtain ⟨p, vs, rfl, e2, _, _, e5⟩ := q
    simp only [datO, Option.map_eq_some_iff] at e
    obtain ⟨ds, e1, rfl⟩ := e
    obtain ⟨a, b, c⟩ := datAll_ok (fun v x d => dat_ok r 16 v x d) _ _ _ e5 e1
    exact ⟨.lst (SqL.of e2) a, by simpa [PyData.canLay0] using b, by simp only [PyData.depth]; omega⟩
theorem isCon_ref {g : G} {m : Mu} {H H0 : Hp} {v : V} {o : O} (q : rO g H0 H m v o) (e : isCon o = true) : ∃ a, v = .ref a := by
  cases o with
  | n xs => obtain ⟨a, _, rfl, _⟩ := q; exact ⟨a, rfl⟩
  | v x => cases q <;> first | exact ⟨_, rfl⟩ | cases e
theorem itoa_ok (i : Int) : ∀ c ∈ itoa i, c < 1114112 := Cok.of _
end Mi

namespace Mi
open PySem L2 PyProof.Rows
section
variable {X : Cx} {ca : CA} {W : WX} {a b c d : Expr} {ta tb tc td : TE} {da db dc dd : D} {pos : Pos} {op op' op'' : CmpOp} {r r' r'' : R2} {f f' f'' : O → O → MH → R O}
def dCh3 (f f' f'' : O → O → MH → R O) (da db dc dd : D) : D := fun ρ h => (da ρ h).bind fun x h1 => (db ρ h1).bind fun y h2 => (f x y h2).bind fun z h3 => match z with
  | .v (.bl true) => dCh f' f'' (fun _ h => .ok y h) dc dd ρ h3
  | .v (.bl false) => .ok (.v (.bl false)) h3
  | _ => .bad
end
end Mi

namespace Mi
open PySem L2
def isFl : Val → Bool
  | .non => true
  | .bl _ => true
  | .int _ => true
  | .str _ => true
  | _ => false
def eqS : Val → Val → Bool
  | .non, .non => true
  | .bl a, .bl b => a == b
  | .bl a, .int b => (if a then 1 else 0) == b
  | .int a, .bl b => a == (if b then 1 else 0)
  | .int a, .int b => a == b
  | .str a, .str b => a == b
  | _, _ => false
theorem sOf_beq0 (a b : List Nat) : (sOf a == sOf b) = (a == b) := by
  by_cases e : a = b
  · subst e; simp
  · have : sOf a ≠ sOf b := fun q => e (sOf_inj.1 q)
    rw [beq_eq_false_iff_ne.2 this, beq_eq_false_iff_ne.2 e]
theorem isFl_v {K : PySem.W.Frag} {H : Hp} {m : Mu} {v : V} {x : Val} (r : RV K H m v x) (f : isFl x = true) : flatV v = true := by
  cases r <;> first | rfl | cases f
theorem eqS_v {K : PySem.W.Frag} {H : Hp} {m : Mu} {v u : V} {x y : Val} (r : RV K H m v x) (q : RV K H m u y) (f : isFl x = true) (f2 : isFl y = true) : eqV v u = eqS x y := by
  cases r <;> cases q <;> first | rfl | exact sOf_beq0 _ _ | cases f | cases f2
theorem allFl_v {K : PySem.W.Frag} {H : Hp} {m : Mu} : ∀ {vs : List V} {xs : List Val}, RVs K H m vs xs → xs.all isFl = true → vs.all flatV = true
  | _, _, .nil, _ => rfl
  | _, _, .cons a b, f => by
    simp only [List.all_cons, Bool.and_eq_true] at f ⊢
    exact ⟨isFl_v a f.1, allFl_v b f.2⟩
theorem inV_v {K : PySem.W.Frag} {H : Hp} {m : Mu} {u : V} {y : Val} (q : RV K H m u y) (f2 : isFl y = true) : ∀ {vs : List V} {xs : List Val}, RVs K H m vs xs → xs.all isFl = true → inV u vs = xs.any fun z => eqS z y
  | _, _, .nil, _ => rfl
  | _, _, .cons a b, f => by
    simp only [List.all_cons, Bool.and_eq_true] at f
    have := inV_v q f2 b f.2
    simp only [inV, List.any_cons] at this ⊢
    rw [this, eqS_v a q f.1 f2]
def inB (x y : O) (h : MH) : Option Bool := match x, y with
  | .v (.str [c]), .v (.str s) => some (decide (c ∈ s))
  | .v x, y => match seqO h y with
    | some (_, ys) => if isFl x = true ∧ ys.all isFl = true then some (ys.any fun z => eqS z x) else none
    | none => match dgetO h y x with
      | some o => some o.isSome
      | none => none
  | _, _ => none
def fIn (x y : O) (h : MH) : R O := match inB x y h with
  | some b => .ok (.v (.bl b)) h
  | none => .bad
def fNotIn (x y : O) (h : MH) : R O := match inB x y h with
  | some b => .ok (.v (.bl (!b))) h
  | none => .bad
abbrev rInSg (n : Bool) : R2 := fun x y H Q => ∃ (c : Nat) (z : Str), x = .str ⟨#[c]⟩ ∧ y = .str z ∧ Q (.bl (if n then !decide (c ∈ z.cps.toList) else decide (c ∈ z.cps.toList))) H
abbrev rInDc (n : Bool) : R2 := fun x y H Q => ∃ a ov, y = .ref a ∧ DGet H a x ov ∧ Q (.bl (if n then !ov.isSome else ov.isSome)) H
abbrev rInAll (K : PySem.W.Frag) (n : Bool) : R2 := fun x y H Q => rInSg n x y H Q ∨ rIn K n x y H Q ∨ rInDc n x y H Q
section
variable {X : Cx}
theorem op_inSg : OpR X (compareOp .In) (rInSg false) := fun pins s σ H x y v u Q I rx ry h => op_in_sign pins s σ H x y v u Q I rx ry h
theorem op_inDc (hu : X.A.units + 1 < cLine) : OpR X (compareOp .In) (rInDc false) := by
  intro pins s σ H x y v u Q I rx ry h
  obtain ⟨a, ov, rfl, g, q⟩ := h
  obtain rfl : u = Value.ref a := ry
  exact d_in hu I g rx fun s3 I3 => ⟨.bl ov.isSome, H, I3, rfl, q⟩
theorem op_inAll (hu : X.A.units + 64 < cLine) : OpR X (compareOp .In) (rInAll X.K false) := OpR.or op_inSg (OpR.or op_in_seq (op_inDc (by omega)))
end
theorem inB_ok {g : G} {m : Mu} {H H0 H1 : Hp} {h : MH} {v u : V} {x y : O} {b n : Bool} {Q : VK} (r : RepH g m H h) (q1 : rO g H0 H m v x) (q2 : rO g H1 H m u y) (e : inB x y h = some b) (k : Q (.bl (if n then !b else b)) H) : rInAll g.K n v u H Q := by
  unfold inB at e
  split at e
  · cases e
    cases rO.str q1; cases rO.str q2
    exact .inl ⟨_, _, rfl, rfl, k⟩
  · have q1' : RV g.K H m v _ := q1
    split at e
    · rename_i sq
      split at e
      · rename_i f
        cases e
        obtain ⟨a, vs, rfl, l, rv⟩ := seqO_ok r q2 sq
        refine .inr (.inl ⟨a, vs, rfl, l.sq, isFl_v q1' f.1, allFl_v rv f.2, ?_⟩)
        rw [inV_v q1' f.1 rv f.2]
        exact k
      · cases e
    · split at e
      · rename_i o ed
        cases e
        obtain ⟨a, w, rfl, dg, hw⟩ := dget_ok r q2 q1' ed
        refine .inr (.inr ⟨a, w, rfl, dg, ?_⟩)
        have : w.isSome = o.isSome := by
          rcases hw with ⟨rfl, rfl⟩ | ⟨_, _, rfl, rfl, _⟩ <;> rfl
        rw [this]
        exact k
      · cases e
  · cases e
theorem fIn_ok {g : G} {W : WX} : FOk g W fIn (rInAll g.K false) := by
  intro m0 m σ Hs H0 H1 H h v u x y Q fr r q1 q2 c
  unfold fIn at c
  split at c
  · rename_i b e
    exact inB_ok r q1 q2 e (Ct.val c fr r (.bl _))
  · exact c.elim
def isS (x : Val) (_ : MH) : Bool := match x with
  | .str _ => true
  | _ => false
theorem isS_ok {g : G} : TyOk g "str" isS := fun m H h v x r rv e => by
  cases x <;> first | cases e | skip
  cases rv
  exact .inl rfl
def jn (S : List Nat) : List (List Nat) → List Nat
  | [] => []
  | [p] => p
  | p :: q :: r => p ++ (S ++ jn S (q :: r))
theorem jn_eq (S : List Nat) : ∀ ps, TL.joinL S ps = jn S ps
  | [] => rfl
  | [p] => rfl
  | p :: q :: r => by simp only [TL.joinL, jn, jn_eq S (q :: r)]
theorem sOf_jn (a : List Nat) (ys : List (List Nat)) : Txt.join (sOf a) (ys.map sOf) = sOf (jn a ys) := by
  have e := TL.tl_join (sOf a) (ys.map sOf)
  rw [TL.join_eq]
  have e2 : ((ys.map sOf).map TL.tl) = ys := by
    rw [List.map_map]
    have : (TL.tl ∘ sOf) = id := by funext z; simp [TL.tl, sOf]
    rw [this, List.map_id]
  rw [e2, jn_eq] at e
  have : (Str.join (sOf a) (ys.map sOf)).cps.toList = jn a ys := e
  cases q : Str.join (sOf a) (ys.map sOf) with
  | mk c => rw [q] at this; simp [sOf, ← this]
def mJoin : MD := fun x ys h => match x, ys with
  | .str a, [y] => match seqO h (.v y) with
    | some (_, xs) => match strsOf xs with
      | some zs => if (zs.map List.length).sum + zs.length * a.length ≤ 16777216 then .ok (.v (.str (jn a zs))) h else .bad
      | none => .bad
    | none => .bad
  | _, _ => .bad
abbrev rJoin (K : PySem.W.Frag) : V → List V → Hp → VK → Prop := fun x xs H Q => ∃ a p, ∃ ys : List Str, x = .str a ∧ xs = [.ref p] ∧ (SqL K H p (ys.map V.str) ∨ SqT K H p (ys.map V.str)) ∧
    (ys.map (·.length)).sum + ys.length * a.length ≤ 16777216 ∧ Q (.str (Txt.join a ys)) H
theorem strs_v {K : PySem.W.Frag} {H : Hp} {m : Mu} : ∀ {vs : List V} {xs : List Val} {zs : List (List Nat)}, RVs K H m vs xs → strsOf xs = some zs → vs = (zs.map sOf).map V.str ∧ ∀ z ∈ zs, ∀ c ∈ z, c < 1114112
  | _, _, _, .nil, e => by cases e; exact ⟨rfl, fun _ h => by cases h⟩
  | _, _, _, .cons a b, e => by
    cases a <;> simp only [strsOf, reduceCtorEq] at e
    rename_i s hs
    split at e
    · rename_i bs eb
      cases e
      obtain ⟨rfl, q⟩ := strs_v b eb
      refine ⟨rfl, fun z hz => ?_⟩
      rcases List.mem_cons.mp hz with rfl | hz
      · exact hs
      · exact q z hz
    · cases e
theorem jn_mem {S : List Nat} {c : Nat} : ∀ {ps : List (List Nat)}, c ∈ jn S ps → c ∈ S ∨ ∃ p ∈ ps, c ∈ p
  | [], h => by cases h
  | [p], h => .inr ⟨p, by simp, h⟩
  | p :: q :: r, h => by
    simp only [jn, List.mem_append] at h
    rcases h with h | h | h
    · exact .inr ⟨p, by simp, h⟩
    · exact .inl h
    · rcases jn_mem h with h | ⟨z, hz, h⟩
      · exact .inl h
      · exact .inr ⟨z, List.mem_cons_of_mem _ hz, h⟩
theorem mJoin_ok {g : G} {W : WX} : MOk g W mJoin (rJoin g.K) := by
  intro m0 m σ Hs H h v x vs xs Q fr r rv rvs c
  unfold mJoin at c
  split at c
  · rename_i a y
    split at c
    · rename_i k ys sq
      split at c
      · rename_i zs ez
        split at c
        · rename_i hz
          cases rv with
          | str _ ha =>
            cases rvs with
            | cons ry rn =>
              cases rn
              obtain ⟨p, us, rfl, l, ru⟩ := seqO_ok (H0 := H) r (show rO g H H m _ (.v y) from ry) sq
              obtain ⟨rfl, hc⟩ := strs_v ru ez
              refine ⟨_, p, zs.map sOf, rfl, rfl, l.sq, ?_, ?_⟩
              · rw [List.map_map, List.length_map, sOf_length]
                have : (fun x : Str => x.length) ∘ sOf = List.length := by funext z; exact sOf_length z
                rw [this]; exact hz
              · rw [sOf_jn]
                refine Ct.val c fr r (.str _ fun d hd => ?_)
                rcases jn_mem hd with q | ⟨z, q1, q2⟩
                · exact ha d q
                · exact hc z q1 d q2
        · exact c.elim
      · exact c.elim
    · exact c.elim
  · exact c.elim
abbrev rReprS : List V → Hp → VK → Prop := fun xs H Q => (∃ b, xs = [.bl b] ∧ Q (.str (if b then "True" else "False")) H) ∨ (xs = [.non] ∧ Q (.str "None") H) ∨ (∃ i, xs = [.int i] ∧ i.natAbs.log2 < 1920 ∧ Q (.str (toString i)) H) ∨ ∃ a, xs = [.str a] ∧ (reprText a).length ≤ sizeLine ∧ Q (.str (reprText a)) H
section
variable {X : Cx}
theorem cr_reprS : CallR X (.builtin "repr") rReprS := by
  intro pins s σ H xs us Q I r h
  rcases h with ⟨b, rfl, q⟩ | ⟨rfl, q⟩ | ⟨i, rfl, l, q⟩ | ⟨a, rfl, l, q⟩
  · obtain ⟨u, rfl, r1⟩ := vals1 r
    cases r1
    refine PySem.P.repr_of_bool ⟨.str (if b then "True" else "False"), H, I.tok _, ?_, q⟩
    cases b <;> exact ⟨_, rfl⟩
  · obtain ⟨u, rfl, r1⟩ := vals1 r
    cases r1
    exact PySem.P.repr_of_none ⟨.str _, H, I.tok _, ⟨_, rfl⟩, q⟩
  · obtain ⟨u, rfl, t, rfl⟩ := vals1 r
    exact PySem.P.repr_of_int l ⟨.str _, H, I.tok _, ⟨_, rfl⟩, q⟩
  · obtain ⟨u, rfl, t, rfl⟩ := vals1 r
    exact PySem.P.repr_of_str ⟨.str _, H, I.tok _, ⟨_, rfl⟩, q⟩ l
abbrev rReprAll (K : PySem.W.Frag) : List V → Hp → VK → Prop := fun xs H Q => rReprS xs H Q ∨ rStrD K xs H Q
theorem cr_repr (hg : X.A.guards = some []) (hu : X.A.units + 64 < cLine) : CallR X (.builtin "repr") (rReprAll X.K) := CallR.or cr_reprS (cr_reprD hg hu)
end
def bRepr (os : List O) (h : MH) : R O := match os with
  | [.v (.str s)] => if (reprText (sOf s)).length ≤ 16777216 then .ok (.v (.str (codesOf (reprText (sOf s))))) h else .bad
  | [.v (.int i)] => if i.natAbs.log2 < 1920 then .ok (.v (.str (itoa i))) h else .bad
  | [.v (.bl b)] => .ok (.v (.str (if b then [84, 114, 117, 101] else [70, 97, 108, 115, 101]))) h
  | [.v .non] => .ok (.v (.str [78, 111, 110, 101])) h
  | [o] => if isCon o = true then match datO h 16 o with
    | some d => if shOk d = true then .ok (.v (.str (codesOf d.shown))) h else .bad
    | none => .bad
    else .bad
  | _ => .bad
theorem bRepr_ok {g : G} {W : WX} : COk g W bRepr (rReprAll g.K) := by
  intro m0 m σ Hs H0 H h vs os Q fr r rs c
  unfold bRepr at c
  split at c
  · obtain ⟨v, rfl, q⟩ := rs.one
    have hk := rO.strv q
    cases rO.str q
    split at c
    · rename_i hz
      have := Ct.val c fr r (.str _ (reprText_ok hk))
      rw [show sOf (codesOf (reprText (sOf _))) = reprText (sOf _) from sOf_codes _] at this
      exact .inl (.inr (.inr (.inr ⟨_, rfl, by rw [sizeLine_eq]; exact hz, this⟩)))
    · exact c.elim
  · rename_i i
    obtain ⟨v, rfl, q⟩ := rs.one
    cases rO.int q
    split at c
    · rename_i hz
      have := Ct.val c fr r (.str _ (itoa_ok i))
      rw [show sOf (itoa i) = Str.ofString (toString i) from sOf_codes _] at this
      exact .inl (.inr (.inr (.inl ⟨i, rfl, hz, this⟩)))
    · exact c.elim
  · rename_i b
    obtain ⟨v, rfl, q⟩ := rs.one
    cases rO.bl q
    refine .inl (.inl ⟨b, rfl, ?_⟩)
    cases b with
    | true => exact (show Str.ofString "True" = sOf [84, 114, 117, 101] by decide +kernel) ▸ Ct.val c fr r (.str _ (by decide))
    | false => exact (show Str.ofString "False" = sOf [70, 97, 108, 115, 101] by decide +kernel) ▸ Ct.val c fr r (.str _ (by decide))
  · obtain ⟨v, rfl, q⟩ := rs.one
    cases rO.non q
    exact .inl (.inr (.inl ⟨rfl, (show Str.ofString "None" = sOf [78, 111, 110, 101] by decide +kernel) ▸ Ct.val c fr r (.str _ (by decide))⟩))
  · obtain ⟨v, rfl, q⟩ := rs.one
    split at c
    · rename_i hc
      obtain ⟨a, rfl⟩ := isCon_ref q hc
      split at c
      · rename_i d ed
        obtain ⟨p1, p2, p3⟩ := datO_lay r q ed
        split at c
        · rename_i hs
          have hs' : d.showable = true ∧ d.shown.length ≤ 16777216 := by simpa [shOk] using hs
          have := Ct.val c fr r (.str _ (shown_ok d p2))
          rw [show sOf (codesOf d.shown) = d.shown from sOf_codes _] at this
          exact .inr ⟨a, d, rfl, p1, p2, hs'.1, p3, by rw [sizeLine_eq]; exact hs'.2, this⟩
        · exact c.elim
      · exact c.elim
    · exact c.elim
  · exact c.elim
end Mi

namespace HTR
open PySem PySem.Calls PyProof.Rows HT
section
variable {prog : Program} {w : World} {A : Around} {E : Value → Shared → Prop} {s : Shared}
end
end HTR
namespace L2
open PySem PySem.Spec PyProof.Rows
section
variable {X : Cx}
end
end L2
namespace Mi
open PySem L2
section
variable {X : Cx} {ca : CA} {W : WX} {a : Expr} {da : D} {k : Nat} {p1 p2 p3 pos : Pos}
def fRev (x : O) (h : MH) : R O := match seqO h x with
    | some (.tp, xs) => .ok (.v (.tup xs.reverse)) h
    | some (_, xs) => .ok (.n xs.reverse) h
    | none => .bad
theorem setN_len : ∀ {is : List Nat} {xs : List Val} {ρ ρ' : En}, setN is xs ρ = some ρ' → xs.length = is.length
  | [], [], _, _, _ => rfl
  | [], _ :: _, _, _, e => by cases e
  | _ :: _, [], _, _, e => by cases e
  | i :: is, x :: xs, _, _, e => by rw [List.length_cons, List.length_cons, setN_len (is := is) (xs := xs) e]
theorem ss_parC {st : Stmt} {is : List Nat} {ds : DV} (hl : is.length ≤ 16777216) (h : SS X ca W st (sAsg (dTup ds) (tdN (.tp is)))) : SS X ca W st (sPar is ds) :=
  ps_w h fun D σ H q => by
    obtain ⟨m, ρ, h, rh, re, c⟩ := q
    refine ⟨m, ρ, h, rh, re, ?_⟩
    have : sPar is ds ρ h = .bad ∨ sAsg (dTup ds) (tdN (.tp is)) ρ h = sPar is ds ρ h := by
      unfold sAsg sPar dTup
      cases e : ds ρ h with
      | ok xs h1 =>
        cases e2 : setN is xs ρ with
        | none => exact .inl (by simp only [R.out, e2])
        | some ρ' =>
          have l := setN_len e2
          refine .inr ?_
          simp only [R.bind, R.out, e2]
          rw [if_pos (by omega)]
          simp only [num, tdN, NT.run, e2]
      | ex c h1 => exact .inr rfl
      | bad => exact .inr rfl
    rcases this with z | z
    · rw [z] at c; exact c.elim
    · rw [z]; exact c
theorem fnG_bad {P : Program} {w : World} {K : PySem.W.Frag} {mg : Str → Option Value} {base : Heap} {k : Nat} {f : Addr} {fd : FuncData} {ps : List Str} {n : Nat} {ca : CA} :
    FnG P w K mg base k f fd ps (spE ⟨K, ca⟩ n fun _ _ => .bad) :=
  ⟨fun _ _ _ _ ⟨_, _, _, _, _, _, c⟩ => c.elim, fun _ _ _ _ _ _ _ _ _ _ _ _ _ _ ⟨_, _, _, _, _, _, c⟩ => c.elim⟩
end
end Mi

namespace Mi
open PySem L2 PyProof.Rows
section
variable {X : Cx} {ca : CA} {W : WX} {a b e : Expr} {da db d : D} {pos : Pos}
def rngB (n : Bool) (lo hi i : Int) : Bool := if n then !decide (lo ≤ i ∧ i < hi) else decide (lo ≤ i ∧ i < hi)
end
end Mi

namespace Mi
open PySem L2
abbrev SP := V × Val × PyData
def rSortedD (K : PySem.W.Frag) : List V → Hp → VK → Prop := fun vs H Q => ∃ (a : Addr) (ps : List SP), vs = [.ref a] ∧ SqL K H a (ps.map (·.1)) ∧ (∀ p ∈ ps, Dp K H p.1 p.2.2 ∧ p.2.2.depth ≤ 17) ∧
  PySem.W.AllAlike (ps.map (·.2.2)) ∧ PySem.W.Sortable (ps.map (·.2.2)) ∧ ∀ q, H q = none → Q (.ref q) (upd H q (.lst ((ps.mergeSort (PySem.W.dataLe false (·.2.2))).map (·.1))))
theorem each_of {ps : List SP} : ∀ {its : List Value}, Vals (ps.map (·.1)) its → PySem.W.EachIs (fun v (p : SP) => RelV p.1 v) its ps := by
  induction ps with
  | nil => intro its r; rw [List.map_nil] at r; cases r; exact .nil
  | cons p ps ih =>
    intro its r
    rw [List.map_cons] at r
    cases r with
    | cons a b => exact .cons a (ih b)
theorem vals_of {ps : List SP} : ∀ {its : List Value}, PySem.W.EachIs (fun v (p : SP) => RelV p.1 v) its ps → Vals (ps.map (·.1)) its := by
  induction ps with
  | nil => intro its r; cases r; exact .nil
  | cons p ps ih =>
    intro its r
    cases r with
    | cons a b => exact .cons a (ih b)
theorem each_reads {X : Cx} {pins : List (Addr × Obj)} {σ : St} {H : Hp} {s : Shared} (I : Inv X pins σ H s) {ps : List SP} : ∀ {its : List Value}, PySem.W.EachIs (fun v (p : SP) => RelV p.1 v) its ps → (∀ p ∈ ps, Dp X.K H p.1 p.2.2 ∧ p.2.2.depth ≤ 17) →
    PySem.W.EachIs (fun v (p : SP) => ∃ as, PySem.Reads s.heap v p.2.2 as) its ps := by
  induction ps with
  | nil => intro its r _; cases r; exact .nil
  | cons p ps ih =>
    intro its r h
    cases r with
    | cons a b => exact .cons (Dp.reads I _ _ _ (h p (List.mem_cons_self ..)).1 a) (ih b fun q hq => h q (List.mem_cons_of_mem _ hq))
section
variable {X : Cx}
theorem cr_sortedD (hu : X.A.units + 64 < cLine) : CallR X (.builtin "sorted") (rSortedD X.K) := by
  intro pins s σ H vs us Q I r h
  obtain ⟨a, ps, rfl, hs, hd, al, so, q⟩ := h
  obtain ⟨its, rv, hl, hz⟩ := I.list hs
  rw [Vals.ref1 r]
  have e := each_of rv
  rw [List.length_map] at hz
  refine PySem.W.sorted_data (enc := fun p : SP => p.2.2) (R := fun v (p : SP) => RelV p.1 v) hl.isList e (each_reads I e hd) al so hz (fun p hp => by have := (hd p hp).2; omega) fun out hlen ho => ?_
  obtain ⟨c, hc⟩ := PyProof.Rows.sortedAll_at s.heap its out.toArray
  refine ⟨.ref _, upd H _ (.lst ((ps.mergeSort (PySem.W.dataLe false fun p : SP => p.2.2)).map (·.1))), I.laid (t' := s.toks) (fun b o e => PyProof.Rows.sortedAll_old e) (Nat.le_succ _) ⟨?_, out, c, vals_of ho, hc⟩, rfl, q _ (I.hok.fresh (Nat.le_succ _))⟩
  rw [List.length_map, (List.mergeSort_perm ..).length_eq]; exact hz
end
abbrev leD (a b : PyData) : Bool := PySem.W.dataLe false (fun z : PyData => z) a b
def alikeB (ds : List PyData) : Bool := ds.all fun d => ds.all fun e => PySem.W.alike d e
def isTupD : PyData → Bool
  | .tuple (_ :: _) => true
  | _ => false
def noTupD : PyData → Bool
  | .none => false
  | .tuple _ => false
  | _ => true
def sortB (ds : List PyData) : Bool := alikeB ds && (ds.all isTupD || ds.all noTupD)
theorem sortB_ok {ds : List PyData} (h : sortB ds = true) : PySem.W.AllAlike ds ∧ PySem.W.Sortable ds := by
  simp only [sortB, Bool.and_eq_true, Bool.or_eq_true] at h
  refine ⟨fun d hd e he => ?_, ?_⟩
  · have := List.all_eq_true.mp (List.all_eq_true.mp h.1 d hd) e he
    exact this
  · rcases h.2 with q | q
    · refine .inl fun d hd => ?_
      have := List.all_eq_true.mp q d hd
      unfold isTupD at this
      split at this
      · exact ⟨_, _, rfl⟩
      · cases this
    · refine .inr fun d hd => ?_
      have := List.all_eq_true.mp q d hd
      unfold noTupD at this
      split at this
      · cases this
      · cases this
      · rename_i n1 n2; exact ⟨n1, fun xs z => n2 xs z⟩
def tri : List V → List Val → List PyData → List SP
  | v :: vs, x :: xs, d :: ds => (v, x, d) :: tri vs xs ds
  | _, _, _ => []
theorem tri_ok {g : G} {m : Mu} {H : Hp} {h : MH} (r : RepH g m H h) : ∀ {vs : List V} {xs : List Val} {ds : List PyData}, RVs g.K H m vs xs → optAll (dat h 16) xs = some ds →
    (tri vs xs ds).map (·.1) = vs ∧ (tri vs xs ds).map (·.2) = xs.zip ds ∧ (tri vs xs ds).map (·.2.2) = ds ∧ ∀ p ∈ tri vs xs ds, RV g.K H m p.1 p.2.1 ∧ Dp g.K H p.1 p.2.2 ∧ p.2.2.depth ≤ 17
  | _, _, ds, .nil, e => by
    simp [optAll] at e; subst e
    exact ⟨rfl, rfl, rfl, fun p hp => nomatch hp⟩
  | _, _, ds, .cons rv t, e => by
    simp only [optAll] at e
    split at e
    · rename_i d1 d2 e1 e2
      simp at e; subst e
      obtain ⟨a1, a2, a3, a4⟩ := tri_ok r t e2
      obtain ⟨b1, b2, b3⟩ := dat_ok r 16 _ _ _ rv e1
      refine ⟨by simp [tri, a1], by simp [tri, a2], by simp [tri, a3], fun p hp => ?_⟩
      rcases List.mem_cons.mp hp with rfl | hp
      · exact ⟨rv, b1, by show d1.depth ≤ 17; omega⟩
      · exact a4 p hp
    · cases e
theorem rvs_map {K : PySem.W.Frag} {H : Hp} {m : Mu} : ∀ {ps : List SP}, (∀ p ∈ ps, RV K H m p.1 p.2.1) → RVs K H m (ps.map (·.1)) (ps.map (·.2.1))
  | [], _ => .nil
  | p :: ps, h => .cons (h p (List.mem_cons_self ..)) (rvs_map fun q hq => h q (List.mem_cons_of_mem _ hq))
def sortV (xs : List Val) (ds : List PyData) : List Val := ((xs.zip ds).mergeSort fun a b => leD a.2 b.2).map (·.1)
def bSorted (os : List O) (h : MH) : R O := match os with
  | [o] => match lstO h o with
    | some xs => match optAll (dat h 16) xs with
      | some ds => if sortB ds = true then .ok (.n (sortV xs ds)) h else .bad
      | none => .bad
    | none => .bad
  | _ => .bad
theorem sort_tri {ps : List SP} {xs : List Val} {ds : List PyData} (e : ps.map (·.2) = xs.zip ds) : (ps.mergeSort (PySem.W.dataLe false fun p : SP => p.2.2)).map (·.2.1) = sortV xs ds := by
  have := PySem.W.sort_maps (r := PySem.W.dataLe false fun p : SP => p.2.2) (s := fun a b : Val × PyData => leD a.2 b.2) (fun p : SP => p.2) (l := ps) fun a _ b _ => rfl
  unfold sortV
  rw [← e, ← this, List.map_map]
  rfl
theorem bSorted_ok {g : G} {W : WX} : COk g W bSorted (rSortedD g.K) := by
  intro m0 m σ Hs H0 H h vs os Q fr r rs c
  unfold bSorted at c
  split at c
  · obtain ⟨v, rfl, q⟩ := rs.one
    split at c
    · rename_i xs e1
      obtain ⟨a, us, rfl, la, ra⟩ := lstO_ok r q e1
      split at c
      · rename_i ds e2
        split at c
        · rename_i hs
          obtain ⟨a1, a2, a3, a4⟩ := tri_ok r ra e2
          obtain ⟨s1, s2⟩ := sortB_ok hs
          refine ⟨a, tri us xs ds, rfl, by rw [a1]; exact la, fun p hp => (a4 p hp).2, by rw [a3]; exact s1, by rw [a3]; exact s2, Ct.new c fr r ?_⟩
          rw [← sort_tri a2]
          exact rvs_map fun p hp => (a4 p ((List.mergeSort_perm ..).mem_iff.mp hp)).1
        · exact c.elim
      · exact c.elim
    · exact c.elim
  · exact c.elim
def isNonD : PyData → Bool
  | .none => true
  | _ => false
end Mi

namespace Mi
open PySem L2
structure Trk (X : Cx) (H : Hp) (s : Shared) (H' : Hp) (s' : Shared) : Prop where
  os : s'.os = s.os
  bare : PyProof.Rows.AllBare s'.gens
  un : Un (frs X.stack) [] H H' s.heap s'.heap
  hok : HOk X.prog X.w H' s'.heap
section
variable {X : Cx} {pins : List (Addr × Obj)} {σ : St} {H H1 : Hp} {s t : Shared}
theorem Trk.inv (I : Inv X pins σ H s) (T : Trk X H s H1 t) : Inv X pins σ H1 t := I.call' T.os T.un T.hok T.bare fun b z => absurd z (by simp)
theorem Trk.heap (T : Trk X H s H1 t) {g : Heap} {tk : Nat} (k : ∀ b o, t.heap.get? b = some o → ((s.heap.get? b).isSome = true ∨ H1 b ≠ none) → g.get? b = some o) : Trk X H s H1 { t with heap := g, toks := tk } := by
  refine ⟨T.os, T.bare, ⟨fun b o e n nf nx => k b o (T.un.keep b o e n nf nx) (.inl (by rw [e]; rfl)), fun b o e n nf nx => ?_, T.un.free, fun b o e nx => ?_, T.un.tups, T.un.frzs, T.un.tbls⟩, fun b o e => ?_⟩
  · obtain ⟨sl, e1⟩ := T.un.slot b o e n nf nx
    exact ⟨sl, k _ _ e1 (.inl (by rw [e]; rfl))⟩
  · obtain ⟨o', e1⟩ := T.un.there b o e nx
    exact ⟨o', k _ _ e1 (.inl (by rw [e]; rfl))⟩
  · refine (T.hok b o e).stay (fun c u hc eu => k c u eu (.inr fun z => ?_)) (fun _ z => z) fun _ _ z => z
    rcases hc with rfl | hc
    · rw [e] at z; cases z
    · rw [hc] at z; cases z
theorem Trk.refl (I : Inv X pins σ H s) : Trk X H s H s := ⟨rfl, I.bare, ⟨fun _ _ e _ _ _ => e, fun b o e _ _ _ => ⟨o.slots, e⟩, fun _ _ _ n _ => n, fun b o e _ => ⟨o, e⟩, fun _ _ z => z, fun _ _ _ z => z, fun b ps z => ⟨#[], by simpa using z⟩⟩, I.hok⟩
theorem Trk.call {ca : CA} {k : Nat} {f : Addr} {fd : FuncData} {ps : List Str} {fn : DF} {m : Mu} {h h1 : MH} {x y : Val} {v : V} {u : Value} (I : Inv X pins σ H s) (T : Trk X H s H1 t) (F : FnG X.prog X.w X.K X.mg X.base k f fd ps (spE ⟨X.K, ca⟩ 1 fn)) (hg : X.A.guards = some []) (hr : Room (k + 2) X.A) (hb : Binds X.K fd ps [])
    (r : RepH ⟨X.K, ca⟩ m H1 h) (rv : RV X.K H1 m v x) (ru : RelV v u) (e : fn [x] h = .ok y h1) :
    wpAny (model X.prog X.w) X.A.in1.in1 (call (.ref f) [u]) (fun w t2 => ∃ H2 m2 z, Trk X H s H2 t2 ∧ Un (frs X.stack) [] H1 H2 t.heap t2.heap ∧ Ext m m2 H1 H2 ∧ RepH ⟨X.K, ca⟩ m2 H2 h1 ∧ RV X.K H2 m2 z y ∧ RelV z w) (fun _ _ => False) t := by
  have J := T.inv I
  have sp : spE ⟨X.K, ca⟩ 1 fn [v] H1 (fun z H2 => ∃ m2, Ext m m2 H1 H2 ∧ RepH ⟨X.K, ca⟩ m2 H2 h1 ∧ RV X.K H2 m2 z y) (fun _ _ _ => False) :=
    ⟨m, h, [x], r, .cons rv .nil, rfl, by rw [e]; exact fun m2 H2 z ex r2 q => ⟨m2, ex, r2, q⟩⟩
  have l : [u].length = ps.length := F.len _ _ _ _ sp
  have bd := hb t [u] J.kIn (by simpa using l)
  simp only [List.append_nil] at bd
  apply wpAny_call
  apply codeAny_mono (F.run X.A.in1.in1 X.stack t H1 ⟨[u], []⟩ [u] [v] _ _ hg (Room.in1 (Room.in1 hr)) J.env0.in1.in1 bd (.cons ru .nil) sp)
  intro q t2 hq
  match q, hq with
  | .error z, hq =>
    have hq : L2.CX X.prog X.w X.stack H1 t (fun _ _ _ => False) z t2 := hq
    obtain ⟨_, _, _, _, _, _, _, _, _, _, _, _, z⟩ := hq
    exact z.elim
  | .ok (.ret w), hq =>
    obtain ⟨z, H2, os, bare, un, hok, rz, m2, ex, r2, q⟩ := hq
    exact ⟨H2, m2, z, ⟨os.trans T.os, bare, T.un.trans un, hok⟩, un, ex, r2, q, rz⟩
  | .ok .next, hq => exact hq.elim
  | .ok .brk, hq => exact hq.elim
  | .ok .cont, hq => exact hq.elim
end
section
variable {X : Cx} {ca : CA} {k : Nat} {f : Addr} {fd : FuncData} {ps : List Str} {fn : DF} {pins : List (Addr × Obj)} {σ : St} {H : Hp} {s : Shared} {m : Mu} {h h2 : MH} {l : Addr} {us : List V} {xs ks : List Val} {ds : List PyData} {Q : VK}
end
end Mi

namespace Pq
open PySem L2 Mi

inductive PV where
  | non | bl (b : Bool) | int (i : Int) | str (s : List Nat) | tup (xs : List PV) | lst (xs : List PV) | frz (xs : List PV) | dct (ks vs : List PV) | kt (xs : List PV)
deriving Inhabited
mutual
def PV.eqb : PV → PV → Bool
  | .non, .non => true
  | .bl a, .bl b => a == b
  | .int a, .int b => a == b
  | .str a, .str b => a == b
  | .tup a, .tup b => PV.eqbs a b
  | .lst a, .lst b => PV.eqbs a b
  | .frz a, .frz b => PV.eqbs a b
  | .dct a c, .dct b d => PV.eqbs a b && PV.eqbs c d
  | .kt a, .kt b => PV.eqbs a b
  | _, _ => false
  termination_by structural x => x
def PV.eqbs : List PV → List PV → Bool
  | [], [] => true
  | x :: xs, y :: ys => PV.eqb x y && PV.eqbs xs ys
  | _, _ => false
  termination_by structural x => x
end
mutual
theorem PV.eqb_iff : ∀ (x y : PV), PV.eqb x y = true ↔ x = y
  | .non, y => by cases y <;> simp [PV.eqb]
  | .bl a, y => by cases y <;> simp [PV.eqb]
  | .int a, y => by cases y <;> simp [PV.eqb]
  | .str a, y => by cases y <;> simp [PV.eqb]
  | .tup a, y => by cases y <;> simp [PV.eqb, PV.eqbs_iff a]
  | .lst a, y => by cases y <;> simp [PV.eqb, PV.eqbs_iff a]
  | .frz a, y => by cases y <;> simp [PV.eqb, PV.eqbs_iff a]
  | .dct a c, y => by cases y <;> simp [PV.eqb, PV.eqbs_iff a, PV.eqbs_iff c]
  | .kt a, y => by cases y <;> simp [PV.eqb, PV.eqbs_iff a]
theorem PV.eqbs_iff : ∀ (x y : List PV), PV.eqbs x y = true ↔ x = y
  | [], y => by cases y <;> simp [PV.eqbs]
  | x :: xs, y => by cases y <;> simp [PV.eqbs, PV.eqb_iff x, PV.eqbs_iff xs]
end
instance : DecidableEq PV := fun x y => if h : PV.eqb x y = true then isTrue ((PV.eqb_iff x y).1 h) else isFalse fun e => h ((PV.eqb_iff x y).2 e)

def obD : Ob → Option (List Val × List Val)
  | .dK kvs => some (.kt [.kt []] :: kvs.map (·.1), kvs.map (·.2))
  | .dT kvs => some (.kt [] :: kvs.map (fun p => .tup p.1), kvs.map (·.2))
  | _ => none
def obR : Ob → Option (List Val × List Val)
  | .dK kvs => some (.kt [.kt []] :: kvs.map (·.1), kvs.map (·.2))
  | .dT kvs => some (.kt [] :: kvs.map (fun p => .tup p.1), kvs.map (·.2))
  | .lk kvs => some (.kt [.kt []] :: kvs.map (·.1), kvs.map (·.2))
  | _ => none
theorem obR_of {o : Ob} {x : List Val × List Val} (e : obD o = some x) : obR o = some x := by
  cases o <;> first | exact e | cases e
mutual
inductive Im (h : MH) (S : Nat → Prop) : Val → PV → Prop
  | non : Im h S .non .non
  | bl (b : Bool) : Im h S (.bl b) (.bl b)
  | int (i : Int) : Im h S (.int i) (.int i)
  | str (s : List Nat) : Im h S (.str s) (.str s)
  | tup {xs : List Val} {ds : List PV} : Ims h S xs ds → Im h S (.tup xs) (.tup ds)
  | fl {xs : List Val} {ds : List PV} : Ims h S xs ds → Im h S (.fl xs) (.frz ds)
  | ref {n : Nat} {xs : List Val} {ds : List PV} : ¬ S n → h[n]? = some (.lst xs) → Ims h S xs ds → Im h S (.ref n) (.lst ds)
  | dct {n : Nat} {o : Ob} {ks vs : List Val} {kd vd : List PV} : ¬ S n → h[n]? = some o → obR o = some (ks, vs) → Ims h S ks kd → Ims h S vs vd → Im h S (.ref n) (.dct kd vd)
  | kt {xs : List Val} {ds : List PV} : Ims h S xs ds → Im h S (.kt xs) (.kt ds)
inductive Ims (h : MH) (S : Nat → Prop) : List Val → List PV → Prop
  | nil : Ims h S [] []
  | cons {x : Val} {xs : List Val} {d : PV} {ds : List PV} : Im h S x d → Ims h S xs ds → Ims h S (x :: xs) (d :: ds)
end
section
variable {h h' : MH} {S S' : Nat → Prop}
mutual
theorem Im.mono (k : ∀ n o, ¬ S n → h[n]? = some o → h'[n]? = some o ∧ ¬ S' n) : ∀ {v : Val} {d : PV}, Im h S v d → Im h' S' v d
  | _, _, .non => .non
  | _, _, .bl b => .bl b
  | _, _, .int b => .int b
  | _, _, .str b => .str b
  | _, _, .tup r => .tup (Ims.mono k r)
  | _, _, .fl r => .fl (Ims.mono k r)
  | _, _, .ref a b c => .ref (k _ _ a b).2 (k _ _ a b).1 (Ims.mono k c)
  | _, _, .dct a b c e f => .dct (k _ _ a b).2 (k _ _ a b).1 c (Ims.mono k e) (Ims.mono k f)
  | _, _, .kt r => .kt (Ims.mono k r)
theorem Ims.mono (k : ∀ n o, ¬ S n → h[n]? = some o → h'[n]? = some o ∧ ¬ S' n) : ∀ {v : List Val} {d : List PV}, Ims h S v d → Ims h' S' v d
  | _, _, .nil => .nil
  | _, _, .cons a b => .cons (Im.mono k a) (Ims.mono k b)
end
theorem Im.weak (k : ∀ n, S' n → S n) {v : Val} {d : PV} (r : Im h S v d) : Im h S' v d := r.mono fun n o a b => ⟨b, fun z => a (k n z)⟩
theorem Ims.weak (k : ∀ n, S' n → S n) {v : List Val} {d : List PV} (r : Ims h S v d) : Ims h S' v d := r.mono fun n o a b => ⟨b, fun z => a (k n z)⟩
theorem Ims.length : ∀ {xs : List Val} {ds : List PV}, Ims h S xs ds → xs.length = ds.length
  | _, _, .nil => rfl
  | _, _, .cons _ t => by simp [Ims.length t]
theorem Ims.get : ∀ {xs : List Val} {ds : List PV} {i : Nat} {d : PV}, Ims h S xs ds → ds[i]? = some d → ∃ x, xs[i]? = some x ∧ Im h S x d
  | _, _, _, _, .nil, e => by simp at e
  | _, _, 0, _, .cons r _, e => by simp at e; subst e; exact ⟨_, rfl, r⟩
  | _, _, i + 1, _, .cons _ t, e => by
    obtain ⟨v, h1, h2⟩ := Ims.get (i := i) t (by simpa using e)
    exact ⟨v, by simpa using h1, h2⟩
theorem Ims.append : ∀ {xs ys : List Val} {ds es : List PV}, Ims h S xs ds → Ims h S ys es → Ims h S (xs ++ ys) (ds ++ es)
  | _, _, _, _, .nil, s => s
  | _, _, _, _, .cons r t, s => .cons r (Ims.append t s)
theorem Ims.take : ∀ {xs : List Val} {ds : List PV} (n : Nat), Ims h S xs ds → Ims h S (xs.take n) (ds.take n)
  | _, _, 0, _ => .nil
  | _, _, _ + 1, .nil => .nil
  | _, _, n + 1, .cons r t => .cons r (Ims.take n t)
theorem Ims.drop : ∀ {xs : List Val} {ds : List PV} (n : Nat), Ims h S xs ds → Ims h S (xs.drop n) (ds.drop n)
  | _, _, 0, r => r
  | _, _, _ + 1, .nil => .nil
  | _, _, n + 1, .cons _ t => Ims.drop n t
theorem Ims.set {x : Val} {d : PV} (r : Im h S x d) : ∀ {xs : List Val} {ds : List PV} (i : Nat), Ims h S xs ds → Ims h S (xs.set i x) (ds.set i d)
  | _, _, _, .nil => .nil
  | _, _, 0, .cons _ t => .cons r t
  | _, _, i + 1, .cons q t => .cons q (Ims.set r i t)
theorem Ims.eraseIdx : ∀ {xs : List Val} {ds : List PV} (i : Nat), Ims h S xs ds → Ims h S (xs.eraseIdx i) (ds.eraseIdx i)
  | _, _, _, .nil => .nil
  | _, _, 0, .cons _ t => t
  | _, _, i + 1, .cons q t => .cons q (Ims.eraseIdx i t)
theorem Ims.reverse {xs : List Val} {ds : List PV} (r : Ims h S xs ds) : Ims h S xs.reverse ds.reverse := by
  match r with
  | .nil => exact .nil
  | .cons r t => rw [List.reverse_cons, List.reverse_cons]; exact (Ims.reverse t).append (.cons r .nil)
theorem Ims.rep {xs : List Val} {ds : List PV} (r : Ims h S xs ds) : ∀ k : Nat, Ims h S (List.replicate k xs).flatten (List.replicate k ds).flatten
  | 0 => .nil
  | k + 1 => by
    rw [List.replicate_succ, List.replicate_succ, List.flatten_cons, List.flatten_cons]
    exact r.append (Ims.rep r k)
theorem Ims.dropLast {xs : List Val} {ds : List PV} (r : Ims h S xs ds) : Ims h S xs.dropLast ds.dropLast := by
  rw [List.dropLast_eq_take, List.dropLast_eq_take, r.length]
  exact r.take _
end
def OC (h : MH) (S : Nat → Prop) : Ob → PV → Prop
  | .lst xs, .lst ds => Ims h S xs ds
  | o, .dct kd vd => ∃ ks vs, obD o = some (ks, vs) ∧ Ims h S ks kd ∧ Ims h S vs vd
  | _, _ => False
theorem OC.mono {h h' : MH} {S S' : Nat → Prop} (k : ∀ n o, ¬ S n → h[n]? = some o → h'[n]? = some o ∧ ¬ S' n) {o : Ob} {d : PV} (r : OC h S o d) : OC h' S' o d := by
  cases d with
  | lst ds => cases o <;> first | exact Ims.mono k r | exact r.elim
  | dct kd vd =>
    have r' : ∃ ks vs, obD o = some (ks, vs) ∧ Ims h S ks kd ∧ Ims h S vs vd := by cases o <;> exact r
    obtain ⟨ks, vs, e, a, b⟩ := r'
    have : ∃ ks vs, obD o = some (ks, vs) ∧ Ims h' S' ks kd ∧ Ims h' S' vs vd := ⟨ks, vs, e, a.mono k, b.mono k⟩
    cases o <;> exact this
  | _ => cases o <;> exact r.elim
theorem OC.im {h : MH} {S : Nat → Prop} {o : Ob} {d : PV} {n : Nat} (r : OC h S o d) (a : ¬ S n) (e : h[n]? = some o) : Im h S (.ref n) d := by
  cases d with
  | lst ds => cases o <;> first | exact .ref a e r | exact r.elim
  | dct kd vd =>
    have r' : ∃ ks vs, obD o = some (ks, vs) ∧ Ims h S ks kd ∧ Ims h S vs vd := by cases o <;> exact r
    obtain ⟨ks, vs, e2, p, q⟩ := r'
    exact .dct a e (obR_of e2) p q
  | _ => cases o <;> exact r.elim
theorem OC.lst {h : MH} {S : Nat → Prop} {o : Ob} {ds : List PV} (r : OC h S o (.lst ds)) : ∃ xs, o = .lst xs ∧ Ims h S xs ds := by
  cases o <;> first | exact ⟨_, rfl, r⟩ | exact r.elim
theorem OC.dct {h : MH} {S : Nat → Prop} {o : Ob} {kd vd : List PV} (r : OC h S o (.dct kd vd)) : ∃ ks vs, obD o = some (ks, vs) ∧ Ims h S ks kd ∧ Ims h S vs vd := by
  cases o <;> exact r

inductive PS where
  | im (d : PV) | ow (d : PV) | io (d : PV)
deriving Inhabited
def PS.own : PS → Option PV
  | PS.im _ => none
  | PS.ow d => some d
  | PS.io d => some d
def PS.put : PS → PV → PS
  | .im _, d => .im d
  | .ow _, d => .ow d
  | .io _, d => .io d
abbrev PEn := List (Option PS)
abbrev Aa := Nat → Option Nat
def Av (A : Aa) (T : Nat → Prop) : Nat → Prop := fun n => (∃ i, A i = some n) ∨ T n
structure Rn (T : Nat → Prop) (A : Aa) (h : MH) (ρ : En) (π : PEn) : Prop where
  len : ρ.length = π.length
  im : ∀ (i : Nat) (d : PV), π[i]? = some (some (PS.im d)) → ∃ v, ρ[i]? = some (some v) ∧ Im h (Av A T) v d
  ow : ∀ (i : Nat) (s : PS) (d : PV), π[i]? = some (some s) → s.own = some d → ∃ n o, A i = some n ∧ ρ[i]? = some (some (.ref n)) ∧ h[n]? = some o ∧ OC h (Av A T) o d
  dom : ∀ i n, A i = some n → ∃ s d, π[i]? = some (some s) ∧ s.own = some d
  inj : ∀ i j n, A i = some n → A j = some n → i = j
  tl : ∀ n, T n → n < h.length
  ta : ∀ i n, A i = some n → ¬ T n
structure Fx (A A' : Aa) (π π' : PEn) (h h' : MH) : Prop where
  le : h.length ≤ h'.length
  keep : ∀ n, n < h.length → (∀ i, A i ≠ some n) → h'[n]? = h[n]?
  new : ∀ i n, A' i = some n → (∃ j, A j = some n) ∨ h.length ≤ n
  io : ∀ (i : Nat) (d : PV), π[i]? = some (some (PS.io d)) → A' i = A i ∧ ∃ d', π'[i]? = some (some (PS.io d'))
theorem Fx.refl {A : Aa} {π : PEn} {h : MH} : Fx A A π π h h := ⟨Nat.le_refl _, fun _ _ _ => rfl, fun i n e => .inl ⟨i, e⟩, fun _ d e => ⟨rfl, d, e⟩⟩
theorem Fx.tr {A A' A'' : Aa} {π π' π'' : PEn} {h h' h'' : MH} (x : Fx A A' π π' h h') (y : Fx A' A'' π' π'' h' h'') : Fx A A'' π π'' h h'' := by
  refine ⟨Nat.le_trans x.le y.le, fun n l q => ?_, fun i n e => ?_, fun i d e => ?_⟩
  · rw [y.keep n (Nat.lt_of_lt_of_le l x.le) fun i z => ?_, x.keep n l q]
    rcases x.new i n z with ⟨j, w⟩ | w
    · exact q j w
    · omega
  · rcases y.new i n e with ⟨j, w⟩ | w
    · exact x.new j n w
    · exact .inr (Nat.le_trans x.le w)
  · obtain ⟨a, d', e'⟩ := x.io i d e
    obtain ⟨b, d'', e''⟩ := y.io i d' e'
    exact ⟨b.trans a, d'', e''⟩
theorem lt_of_get {α : Type} {l : List α} {n : Nat} {o : α} (e : l[n]? = some o) : n < l.length := (List.getElem?_eq_some_iff.mp e).1
theorem Rn.lt {T : Nat → Prop} {A : Aa} {h : MH} {ρ : En} {π : PEn} (r : Rn T A h ρ π) {i n : Nat} (e : A i = some n) : n < h.length := by
  obtain ⟨s, d, a, b⟩ := r.dom i n e
  obtain ⟨n', o, c, _, f, _⟩ := r.ow i s d a b
  rw [e] at c; cases c
  exact lt_of_get f
theorem Fx.kp {A A' : Aa} {π π' : PEn} {h h' : MH} (x : Fx A A' π π' h h') {T : Nat → Prop} : ∀ n o, ¬ Av A T n → h[n]? = some o → h'[n]? = some o ∧ ¬ Av A' T n := fun n o a e => by
  have l := lt_of_get e
  refine ⟨by rw [x.keep n l fun i z => a (.inl ⟨i, z⟩), e], fun z => ?_⟩
  rcases z with ⟨i, z⟩ | z
  · rcases x.new i n z with w | w
    · exact a (.inl w)
    · omega
  · exact a (.inr z)
theorem Rn.weak {T T' : Nat → Prop} {A : Aa} {h : MH} {ρ : En} {π : PEn} (r : Rn T' A h ρ π) (k : ∀ n, T n → T' n) : Rn T A h ρ π := by
  have w : ∀ n, Av A T n → Av A T' n := fun n z => z.elim .inl fun q => .inr (k n q)
  refine ⟨r.len, fun i d e => ?_, fun i s d e q => ?_, r.dom, r.inj, fun n t => r.tl n (k n t), fun i n e t => r.ta i n e (k n t)⟩
  · obtain ⟨v, a, b⟩ := r.im i d e
    exact ⟨v, a, b.weak w⟩
  · obtain ⟨n, o, a, b, c, f⟩ := r.ow i s d e q
    exact ⟨n, o, a, b, c, f.mono fun n o p q => ⟨q, fun z => p (w n z)⟩⟩

inductive PO where
  | im (d : PV) | ow (d : PV) | br (i : Nat)
deriving Inhabited
inductive PR (α : Type) where
  | ok (a : α) (π : PEn) | ex (c : Nat) (π : PEn) | bad
def PR.bind {α β : Type} (r : PR α) (f : α → PEn → PR β) : PR β := match r with
  | .ok a π => f a π
  | .ex c π => .ex c π
  | .bad => .bad
abbrev PD := PEn → PR PO
abbrev PDB := PEn → PR Bool
abbrev PDV := PEn → PR (List PV)
def RO (h : MH) (A : Aa) (T T2 : Nat → Prop) (L : Nat) (x : O) : PO → Prop
  | .im d => ∃ v, x = .v v ∧ Im h (Av A T2) v d
  | .ow d => (∃ xs ds, x = .n xs ∧ d = .lst ds ∧ Ims h (Av A T2) xs ds) ∨ ∃ n o, x = .v (.ref n) ∧ T2 n ∧ (∀ i, A i ≠ some n) ∧ L ≤ n ∧ h[n]? = some o ∧ OC h (Av A T2) o d
  | .br i => ∃ n, x = .v (.ref n) ∧ A i = some n
abbrev Rs (α β : Type) : Type := MH → Aa → (Nat → Prop) → (Nat → Prop) → Nat → α → β → Prop
def Go {α β : Type} (rel : Rs α β) (T : Nat → Prop) (A : Aa) (L : Nat) (ρ : En) (h : MH) (π : PEn) (r : R α) (q : PR β) : Prop := match q with
  | .ok o π' => ∃ x h' T2, r = .ok x h' ∧ Fx A A π π' h h' ∧ ((∀ n, T n → T2 n) ∧ ∀ n, T2 n → T n ∨ L ≤ n) ∧ Rn T2 A h' ρ π' ∧ rel h' A T T2 L x o
  | .ex c π' => ∃ h', r = .ex c h' ∧ Fx A A π π' h h' ∧ Rn T A h' ρ π'
  | .bad => True
def Pu {α β : Type} (rel : Rs α β) (d : En → MH → R α) (p : PEn → PR β) : Prop := ∀ T A h ρ π, Rn T A h ρ π → Go rel T A h.length ρ h π (d ρ h) (p π)
abbrev PuE (d : D) (p : PD) : Prop := Pu RO d p
def rPB : Rs Bool Bool := fun _ _ _ _ _ x b => x = b
abbrev PuB (d : DB) (p : PDB) : Prop := Pu rPB d p
def rPV : Rs (List Val) (List PV) := fun h A T T2 _ xs ds => Ims h (Av A T) xs ds
abbrev PuV (d : DV) (p : PDV) : Prop := Pu rPV d p
section
variable {α β α' β' : Type} {rel : Rs α β} {rel' : Rs α' β'} {T Tm : Nat → Prop} {A : Aa} {L Lm : Nat} {ρ : En} {h h1 : MH} {π π1 : PEn} {r : R α} {q : PR β} {f : α → MH → R α'} {g : β → PEn → PR β'}
theorem Go.from (x : Fx A A π π1 h h1) (g : Go rel T A L ρ h1 π1 r q) : Go rel T A L ρ h π r q := by
  cases q with
  | ok o π' =>
    obtain ⟨y, h', T2, e, y2, z⟩ := g
    exact ⟨y, h', T2, e, x.tr y2, z⟩
  | ex c π' =>
    obtain ⟨h', e, y2, z⟩ := g
    exact ⟨h', e, x.tr y2, z⟩
  | bad => trivial
theorem Go.bind (tm : ∀ n, T n → Tm n) (a : Go rel Tm A Lm ρ h π r q) (k : ∀ x h1 T2 o π1, Fx A A π π1 h h1 → (∀ n, Tm n → T2 n) → (∀ n, T2 n → Tm n ∨ Lm ≤ n) → Rn T2 A h1 ρ π1 → rel h1 A Tm T2 Lm x o → Go rel' T A L ρ h1 π1 (f x h1) (g o π1)) :
    Go rel' T A L ρ h π (r.bind f) (q.bind g) := by
  cases q with
  | ok o π' =>
    obtain ⟨y, h', T2, rfl, y2, ⟨t, t'⟩, z, w⟩ := a
    exact (k y h' T2 o π' y2 t t' z w).from y2
  | ex c π' =>
    obtain ⟨h', rfl, y2, z⟩ := a
    exact ⟨h', rfl, y2, z.weak tm⟩
  | bad => trivial
theorem Go.ok {x : α} {o : β} (rn : Rn T A h ρ π) (w : rel h A T T L x o) : Go rel T A L ρ h π (.ok x h) (.ok o π) := ⟨x, h, T, rfl, Fx.refl, ⟨fun _ t => t, fun _ t => .inl t⟩, rn, w⟩
end
def ROw (h : MH) (S : Nat → Prop) (A : Aa) (x : O) : PO → Prop
  | .im d => ∃ v, x = .v v ∧ Im h S v d
  | .ow d => (∃ xs ds, x = .n xs ∧ d = .lst ds ∧ Ims h S xs ds) ∨ ∃ n o, x = .v (.ref n) ∧ (∀ i, A i ≠ some n) ∧ h[n]? = some o ∧ OC h S o d
  | .br i => ∃ n, x = .v (.ref n) ∧ A i = some n
theorem Av.sub {A : Aa} {T T2 : Nat → Prop} (t : ∀ n, T n → T2 n) : ∀ n, Av A T n → Av A T2 n := fun n z => z.elim .inl fun q => .inr (t n q)
theorem sub_mk {h : MH} {S S' : Nat → Prop} (k : ∀ n, S' n → S n) : ∀ n o, ¬ S n → h[n]? = some o → h[n]? = some o ∧ ¬ S' n := fun n _ a b => ⟨b, fun z => a (k n z)⟩
theorem RO.w {h : MH} {A : Aa} {T T2 : Nat → Prop} {L : Nat} {x : O} {o : PO} (t : ∀ n, T n → T2 n) (r : RO h A T T2 L x o) : ROw h (Av A T) A x o := by
  cases o with
  | im d => obtain ⟨v, e, r⟩ := r; exact ⟨v, e, r.weak (Av.sub t)⟩
  | ow d =>
    rcases r with ⟨xs, ds, e, e2, r⟩ | ⟨n, o, e, t2, a, l, e2, r⟩
    · exact .inl ⟨xs, ds, e, e2, r.weak (Av.sub t)⟩
    · exact .inr ⟨n, o, e, a, e2, r.mono (sub_mk (Av.sub t))⟩
  | br i => exact r
theorem ROw.kept {h h' : MH} {A : Aa} {T : Nat → Prop} {π π' : PEn} {x : O} {o : PO} (f : Fx A A π π' h h') (r : ROw h (Av A T) A x o) : ROw h' (Av A T) A x o := by
  cases o with
  | im d => obtain ⟨v, e, r⟩ := r; exact ⟨v, e, r.mono f.kp⟩
  | ow d =>
    rcases r with ⟨xs, ds, e, e2, r⟩ | ⟨n, o, e, a, e2, r⟩
    · exact .inl ⟨xs, ds, e, e2, r.mono f.kp⟩
    · exact .inr ⟨n, o, e, a, by rw [f.keep n (lt_of_get e2) a, e2], r.mono f.kp⟩
  | br i => exact r
def RD (h : MH) (S : Nat → Prop) (x : O) (d : PV) : Prop := (∃ v, x = .v v ∧ Im h S v d) ∨ (∃ xs ds, x = .n xs ∧ d = .lst ds ∧ Ims h S xs ds) ∨ ∃ n o, x = .v (.ref n) ∧ h[n]? = some o ∧ OC h S o d
def ps (π : PEn) (i : Nat) : Option PS := match π[i]? with
  | some (some s) => some s
  | _ => none
theorem ps_some {π : PEn} {i : Nat} {s : PS} (e : ps π i = some s) : π[i]? = some (some s) := by
  unfold ps at e
  split at e
  · cases e; assumption
  · cases e
theorem ps_of {π : PEn} {i : Nat} {s : PS} (e : π[i]? = some (some s)) : ps π i = some s := by simp [ps, e]
def pv (π : PEn) : PO → Option PV
  | .im d => some d
  | .ow d => some d
  | .br i => (ps π i).bind PS.own
theorem ROw.rd {T T2 : Nat → Prop} {h : MH} {A : Aa} {ρ : En} {π : PEn} {x : O} {o : PO} {d : PV} (rn : Rn T2 A h ρ π) (t : ∀ n, T n → T2 n) (r : ROw h (Av A T) A x o) (e : pv π o = some d) : RD h (Av A T) x d := by
  cases o with
  | im d' => cases e; exact .inl r
  | ow d' =>
    cases e
    rcases r with ⟨xs, ds, e, e2, r⟩ | ⟨n, o, e, a, e2, r⟩
    · exact .inr (.inl ⟨xs, ds, e, e2, r⟩)
    · exact .inr (.inr ⟨n, o, e, e2, r⟩)
  | br i =>
    obtain ⟨n, rfl, ha⟩ := r
    simp only [pv, Option.bind_eq_some_iff] at e
    obtain ⟨s, es, eo⟩ := e
    obtain ⟨n', ob, a1, _, a3, a4⟩ := rn.ow i s d (ps_some es) eo
    rw [ha] at a1; cases a1
    exact .inr (.inr ⟨n, ob, rfl, a3, a4.mono (sub_mk (Av.sub t))⟩)
def RN (h : MH) (S : Nat → Prop) (x : O) : PO → Prop
  | .im d => ∃ v, x = .v v ∧ Im h S v d
  | .ow d => ∃ xs ds, x = .n xs ∧ d = .lst ds ∧ Ims h S xs ds
  | .br _ => False
theorem RN.ro {h : MH} {A : Aa} {T : Nat → Prop} {L : Nat} {x : O} {o : PO} (r : RN h (Av A T) x o) : RO h A T T L x o := by
  cases o with
  | im d => exact r
  | ow d => exact .inl r
  | br i => exact r.elim
end Pq

namespace Pq
open PySem L2 Mi

def pVar (i : Nat) : PD := fun π => match ps π i with
  | some (.im d) => .ok (.im d) π
  | some _ => .ok (.br i) π
  | none => .bad
def pC (d : PV) : PD := fun π => .ok (.im d) π
def optP {α : Type} (o : Option α) (π : PEn) : PR α := match o with
  | some a => .ok a π
  | none => .bad
def see2 (f : PV → PV → Option PO) (x y : PO) : PEn → PR PO := fun π => match pv π x, pv π y with
  | some d, some e => optP (f d e) π
  | _, _ => .bad
def see1 (f : PV → Option PO) (x : PO) : PEn → PR PO := fun π => match pv π x with
  | some d => optP (f d) π
  | none => .bad
def pOp (f : PV → PV → Option PO) (a b : PD) : PD := fun π => (a π).bind fun x π1 => (b π1).bind fun y π2 => see2 f x y π2
def pU (f : PV → Option PO) (a : PD) : PD := fun π => (a π).bind fun x π1 => see1 f x π1
def pasB (o : PO) (π : PEn) : PR Bool := match o with
  | .im (.bl b) => .ok b π
  | _ => .bad
def pT (a : PD) : PDB := fun π => (a π).bind pasB
def pbAnd (a b : PDB) : PDB := fun π => (a π).bind fun k π1 => if k = true then b π1 else .ok false π1
def pbOr (a b : PDB) : PDB := fun π => (a π).bind fun k π1 => if k = true then .ok true π1 else b π1
def pbNot (a : PDB) : PDB := fun π => (a π).bind fun k π1 => .ok (!k) π1
def pAnd (a b : PD) : PD := fun π => (a π).bind fun o π1 => (pasB o π1).bind fun k π1 => if k = true then b π1 else .ok (.im (.bl false)) π1
def pOr (a b : PD) : PD := fun π => (a π).bind fun o π1 => (pasB o π1).bind fun k π1 => if k = true then .ok (.im (.bl true)) π1 else b π1
def pNot (a : PD) : PD := fun π => (a π).bind fun o π1 => (pasB o π1).bind fun k π1 => .ok (.im (.bl (!k))) π1
def pIf (t : PDB) (a b : PD) : PD := fun π => (t π).bind fun k π1 => if k = true then a π1 else b π1
def pCh (f f' : PV → PV → Option PO) (a b c : PD) : PD := fun π => (a π).bind fun x π1 => (b π1).bind fun y π2 => (see2 f x y π2).bind fun z π3 => (pasB z π3).bind fun k π3 => if k = true then (c π3).bind fun w π4 => see2 f' y w π4 else .ok (.im (.bl false)) π3
abbrev PDA := PEn → PR (List PO)
def paNil : PDA := fun π => .ok [] π
def paCons (a : PD) (t : PDA) : PDA := fun π => (a π).bind fun o π1 => (t π1).bind fun os π2 => .ok (o :: os) π2
def pvAll (π : PEn) : List PO → Option (List PV)
  | [] => some []
  | o :: os => match pv π o, pvAll π os with
    | some d, some ds => some (d :: ds)
    | _, _ => none
def seeA (f : List PV → Option PO) (os : List PO) : PEn → PR PO := fun π => match pvAll π os with
  | some ds => optP (f ds) π
  | none => .bad
def pB (f : List PV → Option PO) (t : PDA) : PD := fun π => (t π).bind fun os π1 => seeA f os π1
def poI (o : PO) (π : PEn) : PR PV := match o with
  | .im d => .ok d π
  | .ow d => .ok d π
  | .br _ => .bad
def pvNil : PDV := fun π => .ok [] π
def pvCons (a : PD) (t : PDV) : PDV := fun π => (a π).bind fun o π1 => (poI o π1).bind fun d π1 => (t π1).bind fun ds π2 => .ok (d :: ds) π2
def pTup (t : PDV) : PD := fun π => (t π).bind fun ds π1 => if ds.length ≤ 16777216 then .ok (.im (.tup ds)) π1 else .bad
def pLst (t : PDV) : PD := fun π => (t π).bind fun ds π1 => if ds.length ≤ 16777216 then .ok (.ow (.lst ds)) π1 else .bad

def F2 (f : O → O → MH → R O) (p : PV → PV → Option PO) : Prop := ∀ (h : MH) (S : Nat → Prop) (x y : O) (d e : PV) (o : PO), RD h S x d → RD h S y e → p d e = some o → ∃ r, f x y h = .ok r h ∧ RN h S r o
def F1 (f : O → MH → R O) (p : PV → Option PO) : Prop := ∀ (h : MH) (S : Nat → Prop) (x : O) (d : PV) (o : PO), RD h S x d → p d = some o → ∃ r, f x h = .ok r h ∧ RN h S r o
inductive RDs (h : MH) (S : Nat → Prop) : List O → List PV → Prop
  | nil : RDs h S [] []
  | cons {x : O} {xs : List O} {d : PV} {ds : List PV} : RD h S x d → RDs h S xs ds → RDs h S (x :: xs) (d :: ds)
def FA (f : List O → MH → R O) (p : List PV → Option PO) : Prop := ∀ (h : MH) (S : Nat → Prop) (xs : List O) (ds : List PV) (o : PO), RDs h S xs ds → p ds = some o → ∃ r, f xs h = .ok r h ∧ RN h S r o
inductive ROws (h : MH) (S : Nat → Prop) (A : Aa) : List O → List PO → Prop
  | nil : ROws h S A [] []
  | cons {x : O} {xs : List O} {o : PO} {os : List PO} : ROw h S A x o → ROws h S A xs os → ROws h S A (x :: xs) (o :: os)
def rPA : Rs (List O) (List PO) := fun h A T T2 _ xs os => ROws h (Av A T) A xs os
abbrev PuA (d : DA) (p : PDA) : Prop := Pu rPA d p
theorem ROws.kept {h h' : MH} {A : Aa} {T : Nat → Prop} {π π' : PEn} {xs : List O} {os : List PO} (f : Fx A A π π' h h') (r : ROws h (Av A T) A xs os) : ROws h' (Av A T) A xs os := by
  induction r with
  | nil => exact .nil
  | cons a _ ih => exact .cons (a.kept f) ih
theorem ROws.rds {T T2 : Nat → Prop} {h : MH} {A : Aa} {ρ : En} {π : PEn} (rn : Rn T2 A h ρ π) (t : ∀ n, T n → T2 n) {xs : List O} {os : List PO} (r : ROws h (Av A T) A xs os) : ∀ {ds : List PV}, pvAll π os = some ds → RDs h (Av A T) xs ds := by
  induction r with
  | nil => intro ds e; cases e; exact .nil
  | cons a _ ih =>
    intro ds e
    simp only [pvAll] at e
    split at e
    · rename_i e1 e2
      cases e
      exact .cons (a.rd rn t e1) (ih e2)
    · cases e
section
variable {α β : Type} {rel : Rs α β} {T Tm T2 : Nat → Prop} {A : Aa} {L Lm : Nat} {ρ : En} {h h1 : MH} {π π1 : PEn}
theorem go_see2 {f : O → O → MH → R O} {p : PV → PV → Option PO} (hf : F2 f p) {x y : O} {o o' : PO} (rn : Rn T2 A h ρ π) (t : ∀ n, T n → T2 n) (rx : ROw h (Av A T) A x o) (ry : ROw h (Av A T) A y o') : Go RO T A L ρ h π (f x y h) (see2 p o o' π) := by
  unfold see2
  split
  · rename_i d e ed ee
    unfold optP
    split
    · rename_i r er
      obtain ⟨z, ez, rz⟩ := hf h _ x y d e _ (rx.rd rn t ed) (ry.rd rn t ee) er
      rw [ez]
      exact Go.ok (rn.weak t) rz.ro
    · trivial
  · trivial
theorem go_see1 {f : O → MH → R O} {p : PV → Option PO} (hf : F1 f p) {x : O} {o : PO} (rn : Rn T2 A h ρ π) (t : ∀ n, T n → T2 n) (rx : ROw h (Av A T) A x o) : Go RO T A L ρ h π (f x h) (see1 p o π) := by
  unfold see1
  split
  · rename_i d ed
    unfold optP
    split
    · rename_i r er
      obtain ⟨z, ez, rz⟩ := hf h _ x d _ (rx.rd rn t ed) er
      rw [ez]
      exact Go.ok (rn.weak t) rz.ro
    · trivial
  · trivial
theorem go_seeA {f : List O → MH → R O} {p : List PV → Option PO} (hf : FA f p) {x : List O} {o : List PO} (rn : Rn T2 A h ρ π) (t : ∀ n, T n → T2 n) (rx : ROws h (Av A T) A x o) : Go RO T A L ρ h π (f x h) (seeA p o π) := by
  unfold seeA
  split
  · rename_i d ed
    unfold optP
    split
    · rename_i r er
      obtain ⟨z, ez, rz⟩ := hf h _ x d _ (rx.rds rn t ed) er
      rw [ez]
      exact Go.ok (rn.weak t) rz.ro
    · trivial
  · trivial
theorem pu_var (i : Nat) : PuE (dVar i) (pVar i) := fun T A h ρ π rn => by
  unfold pVar
  cases e : ps π i with
  | none => trivial
  | some s =>
    cases s with
    | im d =>
      obtain ⟨v, ev, rv⟩ := rn.im i d (ps_some e)
      have : dVar i ρ h = .ok (.v v) h := by simp [dVar, ev]
      rw [this]
      exact Go.ok rn ⟨v, rfl, rv⟩
    | ow d =>
      obtain ⟨n, o, a1, a2, a3, a4⟩ := rn.ow i _ d (ps_some e) rfl
      have : dVar i ρ h = .ok (.v (.ref n)) h := by simp [dVar, a2]
      rw [this]
      exact Go.ok rn ⟨n, rfl, a1⟩
    | io d =>
      obtain ⟨n, o, a1, a2, a3, a4⟩ := rn.ow i _ d (ps_some e) rfl
      have : dVar i ρ h = .ok (.v (.ref n)) h := by simp [dVar, a2]
      rw [this]
      exact Go.ok rn ⟨n, rfl, a1⟩
theorem pu_c {x : Val} {d : PV} (i : ∀ h S, Im h S x d) : PuE (dC x) (pC d) := fun T A h ρ π rn => Go.ok rn ⟨x, rfl, i _ _⟩
theorem pu_ci {i : Int} : PuE (dC (.int i)) (pC (.int i)) := pu_c fun _ _ => .int i
theorem pu_cb {i : Bool} : PuE (dC (.bl i)) (pC (.bl i)) := pu_c fun _ _ => .bl i
theorem pu_cs {i : List Nat} : PuE (dC (.str i)) (pC (.str i)) := pu_c fun _ _ => .str i
theorem tt {T : Nat → Prop} : ∀ n, T n → T n := fun _ t => t
theorem go_two {da db : D} {pa pb : PD} (ha : PuE da pa) (hb : PuE db pb) {f : O → O → MH → R α} {g : PO → PO → PEn → PR β} (rn : Rn T A h ρ π)
    (k : ∀ x y h2 T2 o o' π2, Rn T2 A h2 ρ π2 → (∀ n, T n → T2 n) → ROw h2 (Av A T) A x o → ROw h2 (Av A T) A y o' → Go rel T A L ρ h2 π2 (f x y h2) (g o o' π2)) :
    Go rel T A L ρ h π ((da ρ h).bind fun x h1 => (db ρ h1).bind fun y h2 => f x y h2) ((pa π).bind fun o π1 => (pb π1).bind fun o' π2 => g o o' π2) := by
  refine Go.bind tt (ha T A h ρ π rn) fun x h1 T2 o π1 fx1 t1 tq1 rn1 rx => ?_
  refine Go.bind t1 (hb T2 A h1 ρ π1 rn1) fun y h2 T3 o' π2 fx2 t2 tq2 rn2 ry => ?_
  have ry' : ROw h2 (Av A T) A y o' := by
    have := RO.w (T := T2) t2 ry
    cases o' with
    | im d => obtain ⟨v, e, r⟩ := this; exact ⟨v, e, r.weak (Av.sub t1)⟩
    | ow d =>
      rcases this with ⟨xs, ds, e, e2, r⟩ | ⟨n, o, e, a, e2, r⟩
      · exact .inl ⟨xs, ds, e, e2, r.weak (Av.sub t1)⟩
      · exact .inr ⟨n, o, e, a, e2, r.mono (sub_mk (Av.sub t1))⟩
    | br i => exact this
  exact k x y h2 T3 o o' π2 rn2 (fun n z => t2 n (t1 n z)) ((rx.w t1).kept fx2) ry'
theorem ROw.sub {h : MH} {A : Aa} {S S' : Nat → Prop} {x : O} {o : PO} (k : ∀ n, S' n → S n) (r : ROw h S A x o) : ROw h S' A x o := by
  cases o with
  | im d => obtain ⟨v, e, r⟩ := r; exact ⟨v, e, r.weak k⟩
  | ow d =>
    rcases r with ⟨xs, ds, e, e2, r⟩ | ⟨n, o, e, a, e2, r⟩
    · exact .inl ⟨xs, ds, e, e2, r.weak k⟩
    · exact .inr ⟨n, o, e, a, e2, r.mono (sub_mk k)⟩
  | br i => exact r
theorem pu_op {f : O → O → MH → R O} {p : PV → PV → Option PO} (hf : F2 f p) {da db : D} {pa pb : PD} (ha : PuE da pa) (hb : PuE db pb) : PuE (dOp f da db) (pOp p pa pb) := fun T A h ρ π rn =>
  go_two ha hb rn fun x y h2 T2 o o' π2 rn2 t rx ry => go_see2 hf rn2 t rx ry
theorem pu_u {f : O → MH → R O} {p : PV → Option PO} (hf : F1 f p) {da : D} {pa : PD} (ha : PuE da pa) : PuE (dU f da) (pU p pa) := fun T A h ρ π rn =>
  Go.bind tt (ha T A h ρ π rn) fun x h1 T2 o π1 fx t tq rn1 rx => go_see1 hf rn1 t (rx.w t)
theorem go_asB {x : O} {o : PO} (rn : Rn T2 A h ρ π) (t : ∀ n, T n → T2 n) (rx : ROw h (Av A T) A x o) : Go rPB T A L ρ h π (asB x h) (pasB o π) := by
  unfold pasB
  split
  · obtain ⟨v, rfl, r⟩ := rx
    cases r
    exact Go.ok (rn.weak t) rfl
  · trivial
theorem pu_T {da : D} {pa : PD} (ha : PuE da pa) : PuB (dT da) (pT pa) := fun T A h ρ π rn =>
  Go.bind tt (ha T A h ρ π rn) fun x h1 T2 o π1 fx t tq rn1 rx => go_asB rn1 t (rx.w t)
theorem Pu.at {α β : Type} {rel : Rs α β} {d : En → MH → R α} {p : PEn → PR β} (a : Pu rel d p) (rn : Rn T2 A h ρ π) (t : ∀ n, T n → T2 n) (l : L ≤ h.length) (hr : ∀ h A T T2 L L' x o, L' ≤ L → rel h A T T2 L x o → rel h A T T2 L' x o) : Go rel T A L ρ h π (d ρ h) (p π) := by
  have g := a T A h ρ π (rn.weak t)
  cases q : p π with
  | ok o π' =>
    rw [q] at g
    obtain ⟨y, h', T2, e, y2, ⟨tt, tq⟩, z, w⟩ := g
    exact ⟨y, h', T2, e, y2, ⟨tt, fun n z => (tq n z).imp id (Nat.le_trans l)⟩, z, hr _ _ _ _ _ _ _ _ l w⟩
  | ex c π' => rw [q] at g; exact g
  | bad => trivial
theorem free_B : ∀ h A T T2 L L' x o, L' ≤ L → rPB h A T T2 L x o → rPB h A T T2 L' x o := fun _ _ _ _ _ _ _ _ _ r => r
theorem free_O : ∀ h A T T2 L L' x o, L' ≤ L → RO h A T T2 L x o → RO h A T T2 L' x o := fun h A T T2 L L' x o l w => by
  cases o with
  | im d => exact w
  | ow d =>
    rcases w with w | ⟨n, o, e, t, a, l2, e2, r⟩
    · exact .inl w
    · exact .inr ⟨n, o, e, t, a, Nat.le_trans l l2, e2, r⟩
  | br i => exact w
theorem PuE.at {d : D} {p : PD} (a : PuE d p) (rn : Rn T2 A h ρ π) (t : ∀ n, T n → T2 n) (l : L ≤ h.length) : Go RO T A L ρ h π (d ρ h) (p π) := Pu.at a rn t l free_O
theorem pu_bAnd {a b : DB} {pa pb : PDB} (ha : PuB a pa) (hb : PuB b pb) : PuB (bAnd a b) (pbAnd pa pb) := fun T A h ρ π rn =>
  Go.bind tt (ha T A h ρ π rn) fun x h1 T2 o π1 fx t tq rn1 rx => by
    cases rx
    cases x with
    | true => exact hb.at rn1 t fx.le free_B
    | false => exact Go.ok (rn1.weak t) rfl
theorem pu_bOr {a b : DB} {pa pb : PDB} (ha : PuB a pa) (hb : PuB b pb) : PuB (bOr a b) (pbOr pa pb) := fun T A h ρ π rn =>
  Go.bind tt (ha T A h ρ π rn) fun x h1 T2 o π1 fx t tq rn1 rx => by
    cases rx
    cases x with
    | true => exact Go.ok (rn1.weak t) rfl
    | false => exact hb.at rn1 t fx.le free_B
theorem pu_bNot {a : DB} {pa : PDB} (ha : PuB a pa) : PuB (bNot a) (pbNot pa) := fun T A h ρ π rn =>
  Go.bind tt (ha T A h ρ π rn) fun x h1 T2 o π1 fx t tq rn1 rx => by
    cases rx
    exact Go.ok (rn1.weak t) rfl
theorem go_onB {x : O} {o : PO} (rn : Rn T2 A h ρ π) (t : ∀ n, T n → T2 n) (rx : ROw h (Av A T) A x o) {f : Bool → R α} {g : Bool → PEn → PR β} (k : ∀ b, Go rel T A L ρ h π (f b) (g b π)) :
    Go rel T A L ρ h π (match (generalizing := false) x with | .v (.bl b) => f b | _ => .bad) ((pasB o π).bind g) := by
  cases o with
  | im d =>
    cases d with
    | bl b =>
      obtain ⟨v, rfl, r⟩ := rx
      cases r
      exact k _
    | _ => trivial
  | _ => trivial
theorem pu_and {a b : D} {pa pb : PD} (ha : PuE a pa) (hb : PuE b pb) : PuE (dAnd a b) (pAnd pa pb) := fun T A h ρ π rn =>
  Go.bind tt (ha T A h ρ π rn) fun x h1 T2 o π1 fx t tq rn1 rx => by
    have g := go_onB (rel := RO) (L := h.length) rn1 t (rx.w t) (f := fun k => if k = true then b ρ h1 else .ok (.v (.bl false)) h1) (g := fun k π1 => if k = true then pb π1 else .ok (.im (.bl false)) π1) fun k => by
      cases k with
      | true => exact hb.at rn1 t fx.le
      | false => exact Go.ok (rn1.weak t) ⟨_, rfl, .bl _⟩
    refine Eq.mp (congrArg (fun z => Go RO T A h.length ρ h1 π1 z _) ?_) g
    cases x with
    | n _ => rfl
    | v x => cases x <;> first | rfl | (rename_i k; cases k <;> rfl)
theorem pu_if {t : DB} {pt : PDB} {a b : D} {pa pb : PD} (ht : PuB t pt) (ha : PuE a pa) (hb : PuE b pb) : PuE (dIf t a b) (pIf pt pa pb) := fun T A h ρ π rn =>
  Go.bind tt (ht T A h ρ π rn) fun x h1 T2 o π1 fx t tq rn1 rx => by
    cases rx
    cases x with
    | true => exact ha.at rn1 t fx.le
    | false => exact hb.at rn1 t fx.le
theorem pu_aNil : PuA aNil paNil := fun T A h ρ π rn => Go.ok rn .nil
theorem pu_aCons {d : D} {p : PD} {ds : DA} {ps : PDA} (ha : PuE d p) (hb : PuA ds ps) : PuA (aCons d ds) (paCons p ps) := fun T A h ρ π rn =>
  Go.bind tt (ha T A h ρ π rn) fun x h1 T2 o π1 fx t tq rn1 rx =>
    Go.bind (L := h.length) (Lm := h1.length) tt (hb T A h1 ρ π1 (rn1.weak t)) fun xs h2 T3 os π2 fx2 t2 tq2 rn2 rxs =>
      Go.ok (rn2.weak t2) (.cons ((rx.w t).kept fx2) rxs)
theorem pu_b {f : List O → MH → R O} {p : List PV → Option PO} (hf : FA f p) {da : DA} {pa : PDA} (ha : PuA da pa) : PuE (dB f da) (pB p pa) := fun T A h ρ π rn =>
  Go.bind tt (ha T A h ρ π rn) fun x h1 T2 o π1 fx t tq rn1 rx => go_seeA hf rn1 t rx
end
theorem Fx.app {A : Aa} {π : PEn} {h : MH} (l : List Ob) : Fx A A π π h (h ++ l) := ⟨by simp, fun n q _ => List.getElem?_append_left q, fun i n e => .inl ⟨i, e⟩, fun _ d e => ⟨rfl, d, e⟩⟩
theorem Rn.keep {T : Nat → Prop} {A : Aa} {h h' : MH} {ρ : En} {π : PEn} (r : Rn T A h ρ π) (k : ∀ (n : Nat) (o : Ob), h[n]? = some o → h'[n]? = some o) : Rn T A h' ρ π := by
  have l : h.length ≤ h'.length := by
    rcases Nat.lt_or_ge h'.length h.length with z | z
    · have := k h'.length _ (List.getElem?_eq_getElem z)
      rw [List.getElem?_eq_none (Nat.le_refl _)] at this
      cases this
    · exact z
  refine ⟨r.len, fun i d e => ?_, fun i s d e q => ?_, r.dom, r.inj, fun n t => Nat.lt_of_lt_of_le (r.tl n t) l, r.ta⟩
  · obtain ⟨v, a, b⟩ := r.im i d e
    exact ⟨v, a, b.mono fun n o z w => ⟨k n o w, z⟩⟩
  · obtain ⟨n, o, a, b, c, f⟩ := r.ow i s d e q
    exact ⟨n, o, a, b, k n o c, f.mono fun n o z w => ⟨k n o w, z⟩⟩
theorem new_ref' (h : MH) (o : Ob) : (h ++ [o])[h.length]? = some o := by simp
theorem app_keep {h : MH} {l : List Ob} : ∀ (n : Nat) (o : Ob), h[n]? = some o → (h ++ l)[n]? = some o := fun n o e => by rw [List.getElem?_append_left (lt_of_get e), e]
theorem Rn.av_lt {T : Nat → Prop} {A : Aa} {h : MH} {ρ : En} {π : PEn} (r : Rn T A h ρ π) {n : Nat} (z : Av A T n) : n < h.length := by
  rcases z with ⟨i, e⟩ | z
  · exact r.lt e
  · exact r.tl n z
theorem go_num {α β : Type} {rel : Rs α β} {T T2 : Nat → Prop} {A : Aa} {L L0 : Nat} {ρ : En} {h : MH} {π : PEn} {x : O} {o : PO} (rn : Rn T2 A h ρ π) (t : ∀ n, T n → T2 n) (tl : ∀ n, T n → n < L0) (rx : RO h A T T2 L0 x o)
    {f : Val → MH → R α} {g : PV → PEn → PR β} (k : ∀ v h1 d, Fx A A π π h h1 → Rn T A h1 ρ π → Im h1 (Av A T) v d → Go rel T A L ρ h1 π (f v h1) (g d π)) :
    Go rel T A L ρ h π (f (num x h).1 (num x h).2) ((poI o π).bind g) := by
  cases o with
  | im d =>
    obtain ⟨v, rfl, r⟩ := rx
    exact k v h d Fx.refl (rn.weak t) (r.weak (Av.sub t))
  | ow d =>
    rcases rx with ⟨xs, ds, rfl, rfl, r⟩ | ⟨n, ob, rfl, tn, an, l, e, r⟩
    · refine (k (.ref h.length) (h ++ [.lst xs]) (.lst ds) (Fx.app _) ((rn.weak t).keep app_keep) (.ref (fun z => ?_) (new_ref' _ _) ?_)).from (Fx.app _)
      · exact absurd ((rn.weak t).av_lt z) (Nat.lt_irrefl _)
      · exact r.mono fun n o z w => ⟨app_keep n o w, fun q => z (Av.sub t n q)⟩
    · refine k (.ref n) h d Fx.refl (rn.weak t) (OC.im (r.mono (sub_mk (Av.sub t))) (fun z => ?_) e)
      rcases z with ⟨i, z⟩ | z
      · exact an i z
      · exact absurd (tl n z) (Nat.not_lt.mpr l)
  | br i => trivial
theorem pu_vNil : PuV vNil pvNil := fun T A h ρ π rn => Go.ok rn .nil
theorem pu_vCons {d : D} {p : PD} {ds : DV} {ps : PDV} (ha : PuE d p) (hb : PuV ds ps) : PuV (vCons d ds) (pvCons p ps) := fun T A h ρ π rn =>
  Go.bind tt (ha T A h ρ π rn) fun x h1 T2 o π1 fx t tq rn1 rx =>
    go_num rn1 t rn.tl rx (f := fun v h1 => (ds ρ h1).bind fun xs h2 => .ok (v :: xs) h2) fun v h2 d fx2 rn2 rv =>
      Go.bind (L := h.length) (Lm := h2.length) tt (hb T A h2 ρ π1 rn2) fun xs h3 T3 es π3 fx3 t3 tq3 rn3 rxs =>
        Go.ok (rn3.weak t3) (.cons (rv.mono fx3.kp) rxs)
theorem pu_tup {ds : DV} {ps : PDV} (h : PuV ds ps) : PuE (dTup ds) (pTup ps) := fun T A hh ρ π rn =>
  Go.bind tt (h T A hh ρ π rn) fun x h1 T2 o π1 fx t tq rn1 rx => by
    have rx : Ims h1 (Av A T) x o := rx
    have l := rx.length
    by_cases c : o.length ≤ 16777216
    · rw [if_pos c, if_pos (by rw [l]; exact c)]
      exact Go.ok (rn1.weak t) ⟨_, rfl, .tup rx⟩
    · rw [if_neg c]; trivial
theorem pu_lst {ds : DV} {ps : PDV} (h : PuV ds ps) : PuE (dLst ds) (pLst ps) := fun T A hh ρ π rn =>
  Go.bind tt (h T A hh ρ π rn) fun x h1 T2 o π1 fx t tq rn1 rx => by
    have rx : Ims h1 (Av A T) x o := rx
    have l := rx.length
    by_cases c : o.length ≤ 16777216
    · rw [if_pos c, if_pos (by rw [l]; exact c)]
      exact Go.ok (rn1.weak t) (.inl ⟨_, _, rfl, rfl, rx⟩)
    · rw [if_neg c]; trivial
end Pq

namespace Pq
open PySem L2 Mi
section
variable {h : MH} {S : Nat → Prop} {x : O}
theorem rd_int {i : Int} (r : RD h S x (.int i)) : x = .v (.int i) := by
  rcases r with ⟨v, rfl, r⟩ | ⟨_, _, _, e, _⟩ | ⟨_, o, _, _, r⟩
  · cases r; rfl
  · cases e
  · cases o <;> exact r.elim
theorem rd_bl {i : Bool} (r : RD h S x (.bl i)) : x = .v (.bl i) := by
  rcases r with ⟨v, rfl, r⟩ | ⟨_, _, _, e, _⟩ | ⟨_, o, _, _, r⟩
  · cases r; rfl
  · cases e
  · cases o <;> exact r.elim
theorem rd_str {i : List Nat} (r : RD h S x (.str i)) : x = .v (.str i) := by
  rcases r with ⟨v, rfl, r⟩ | ⟨_, _, _, e, _⟩ | ⟨_, o, _, _, r⟩
  · cases r; rfl
  · cases e
  · cases o <;> exact r.elim
theorem rd_non (r : RD h S x .non) : x = .v .non := by
  rcases r with ⟨v, rfl, r⟩ | ⟨_, _, _, e, _⟩ | ⟨_, o, _, _, r⟩
  · cases r; rfl
  · cases e
  · cases o <;> exact r.elim
theorem rd_tup {ds : List PV} (r : RD h S x (.tup ds)) : ∃ xs, x = .v (.tup xs) ∧ Ims h S xs ds := by
  rcases r with ⟨v, rfl, r⟩ | ⟨_, _, _, e, _⟩ | ⟨_, o, _, _, r⟩
  · cases r with | tup r => exact ⟨_, rfl, r⟩
  · cases e
  · cases o <;> exact r.elim
theorem rd_frz {ds : List PV} (r : RD h S x (.frz ds)) : ∃ xs, x = .v (.fl xs) ∧ Ims h S xs ds := by
  rcases r with ⟨v, rfl, r⟩ | ⟨_, _, _, e, _⟩ | ⟨_, o, _, _, r⟩
  · cases r with | fl r => exact ⟨_, rfl, r⟩
  · cases e
  · cases o <;> exact r.elim
theorem rd_kt {ds : List PV} (r : RD h S x (.kt ds)) : ∃ xs, x = .v (.kt xs) ∧ Ims h S xs ds := by
  rcases r with ⟨v, rfl, r⟩ | ⟨_, _, _, e, _⟩ | ⟨_, o, _, _, r⟩
  · cases r with | kt r => exact ⟨_, rfl, r⟩
  · cases e
  · cases o <;> exact r.elim
theorem rd_lst {ds : List PV} (r : RD h S x (.lst ds)) : ∃ xs, seqO h x = some (.mu, xs) ∧ Ims h S xs ds ∧ (x = .n xs ∨ ∃ n, x = .v (.ref n) ∧ h[n]? = some (.lst xs)) := by
  rcases r with ⟨v, rfl, r⟩ | ⟨xs, ds', rfl, e, r⟩ | ⟨n, o, rfl, e, r⟩
  · cases r with | ref a b c => exact ⟨_, by simp [seqO, b], c, .inr ⟨_, rfl, b⟩⟩
  · cases e; exact ⟨xs, rfl, r, .inl rfl⟩
  · obtain ⟨xs, rfl, r⟩ := r.lst
    exact ⟨xs, by simp [seqO, e], r, .inr ⟨_, rfl, e⟩⟩
theorem rd_dct {ks vs : List PV} (r : RD h S x (.dct ks vs)) : ∃ n o kl vl, x = .v (.ref n) ∧ h[n]? = some o ∧ obR o = some (kl, vl) ∧ Ims h S kl ks ∧ Ims h S vl vs := by
  rcases r with ⟨v, rfl, r⟩ | ⟨xs, ds', rfl, e, r⟩ | ⟨n, o, rfl, e, r⟩
  · cases r with | dct a b c e f => exact ⟨_, _, _, _, rfl, b, c, e, f⟩
  · cases e
  · obtain ⟨kl, vl, a, b, c⟩ := r.dct
    exact ⟨n, o, kl, vl, rfl, e, obR_of a, b, c⟩
end
def seqP : PV → Option (List PV)
  | .tup xs => some xs
  | .lst xs => some xs
  | .frz xs => some xs
  | _ => none
theorem rd_seq {h : MH} {S : Nat → Prop} {x : O} {d : PV} {ds : List PV} (r : RD h S x d) (e : seqP d = some ds) : ∃ k xs, seqO h x = some (k, xs) ∧ Ims h S xs ds := by
  cases d <;> simp only [seqP, Option.some.injEq, reduceCtorEq] at e <;> subst e
  · obtain ⟨xs, rfl, q⟩ := rd_tup r; exact ⟨.tp, xs, rfl, q⟩
  · obtain ⟨xs, a, r, _⟩ := rd_lst r; exact ⟨.mu, xs, a, r⟩
  · obtain ⟨xs, rfl, q⟩ := rd_frz r; exact ⟨.fz, xs, rfl, q⟩
def szs (n : Nat) (o : PO) : Option PO := if n ≤ 16777216 then some o else none
theorem szs_s {n : Nat} {o o' : PO} (e : szs n o = some o') : n ≤ 16777216 ∧ o' = o := by
  unfold szs at e
  split at e
  · cases e; exact ⟨by assumption, rfl⟩
  · cases e
def pAdd : PV → PV → Option PO
  | .int i, .int j => some (.im (.int (i + j)))
  | .str a, .str b => szs (a.length + b.length) (.im (.str (a ++ b)))
  | .lst a, .lst b => szs (a.length + b.length) (.ow (.lst (a ++ b)))
  | .tup a, .tup b => szs (a.length + b.length) (.im (.tup (a ++ b)))
  | _, _ => none
theorem f2_add : F2 fAdd pAdd := by
  intro h S x y d e o rx ry ho
  unfold pAdd at ho
  split at ho
  · cases ho; cases rd_int rx; cases rd_int ry; exact ⟨_, rfl, _, rfl, .int _⟩
  · obtain ⟨c, rfl⟩ := szs_s ho
    cases rd_str rx; cases rd_str ry
    exact ⟨_, by simp only [fAdd]; rw [if_pos c], _, rfl, .str _⟩
  · obtain ⟨c, rfl⟩ := szs_s ho
    obtain ⟨xs, ex, ix, qx⟩ := rd_lst rx
    obtain ⟨ys, ey, iy, qy⟩ := rd_lst ry
    refine ⟨.n (xs ++ ys), ?_, _, _, rfl, rfl, ix.append iy⟩
    have l : xs.length + ys.length ≤ 16777216 := by rw [ix.length, iy.length]; exact c
    have : fAdd x y h = match seqO h x, seqO h y with
      | some (.mu, xs), some (.mu, ys) => if xs.length + ys.length ≤ 16777216 then .ok (.n (xs ++ ys)) h else .bad
      | some (.tp, xs), some (.tp, ys) => if xs.length + ys.length ≤ 16777216 then .ok (.v (.tup (xs ++ ys))) h else .bad
      | _, _ => .bad := by
      rcases qx with rfl | ⟨n, rfl, _⟩ <;> rfl
    rw [this, ex, ey]
    simp only [l, if_true]
  · obtain ⟨c, rfl⟩ := szs_s ho
    obtain ⟨xs, rfl, ix⟩ := rd_tup rx
    obtain ⟨ys, rfl, iy⟩ := rd_tup ry
    have l : xs.length + ys.length ≤ 16777216 := by rw [ix.length, iy.length]; exact c
    exact ⟨.v (.tup (xs ++ ys)), by simp only [fAdd, seqO, l, if_true], _, rfl, .tup (ix.append iy)⟩
  · cases ho
def pSub : PV → PV → Option PO
  | .int i, .int j => some (.im (.int (i - j)))
  | _, _ => none
def gd (c : Prop) [Decidable c] (o : PO) : Option PO := if c then some o else none
theorem gd_s {c : Prop} [Decidable c] {o o' : PO} (e : gd c o = some o') : c ∧ o' = o := by
  unfold gd at e
  split at e
  · cases e; exact ⟨by assumption, rfl⟩
  · cases e
def pMul : PV → PV → Option PO
  | .int i, .int j => gd ((-18446744073709551616 < i ∧ i < 18446744073709551616) ∨ (-18446744073709551616 < j ∧ j < 18446744073709551616)) (.im (.int (i * j)))
  | .str a, .int n => gd (-9223372036854775808 ≤ n ∧ n < 9223372036854775808 ∧ a.length * n.toNat ≤ 16777216) (.im (.str (List.replicate n.toNat a).flatten))
  | .lst a, .int n => gd (-9223372036854775808 ≤ n ∧ n < 9223372036854775808 ∧ a.length * n.toNat ≤ 16777216) (.ow (.lst (List.replicate n.toNat a).flatten))
  | _, _ => none
theorem f2_mul : F2 fMul pMul := by
  intro h S x y d e o rx ry ho
  unfold pMul at ho
  split at ho
  · obtain ⟨c, rfl⟩ := gd_s ho
    cases rd_int rx; cases rd_int ry
    exact ⟨_, by simp only [fMul]; rw [if_pos c], _, rfl, .int _⟩
  · obtain ⟨c, rfl⟩ := gd_s ho
    cases rd_str rx; cases rd_int ry
    exact ⟨_, by simp only [fMul]; rw [if_pos c], _, rfl, .str _⟩
  · obtain ⟨c, rfl⟩ := gd_s ho
    obtain ⟨xs, ex, ix, qx⟩ := rd_lst rx
    cases rd_int ry
    rename_i n
    have l : -9223372036854775808 ≤ n ∧ n < 9223372036854775808 ∧ xs.length * n.toNat ≤ 16777216 := by rw [ix.length]; exact c
    refine ⟨.n (List.replicate n.toNat xs).flatten, ?_, _, _, rfl, rfl, ix.rep _⟩
    have : fMul x (.v (.int n)) h = match seqO h x with
      | some (.mu, xs) => if -9223372036854775808 ≤ n ∧ n < 9223372036854775808 ∧ xs.length * n.toNat ≤ 16777216 then .ok (.n (List.replicate n.toNat xs).flatten) h else .bad
      | _ => .bad := by rcases qx with rfl | ⟨n, rfl, _⟩ <;> rfl
    rw [this, ex]
    simp only
    rw [if_pos l]
  · cases ho
def pMod : PV → PV → Option PO
  | .int i, .int j => gd (0 < j) (.im (.int (i % j)))
  | _, _ => none
theorem f2_mod : F2 fMod pMod := by
  intro h S x y d e o rx ry ho
  unfold pMod at ho
  split at ho
  · obtain ⟨c, rfl⟩ := gd_s ho
    cases rd_int rx; cases rd_int ry
    exact ⟨_, by simp only [fMod]; rw [if_pos c], _, rfl, .int _⟩
  · cases ho
def pFdiv : PV → PV → Option PO
  | .int i, .int j => gd (0 < j ∧ j < 18446744073709551616) (.im (.int (i / j)))
  | _, _ => none
theorem f2_fdiv : F2 fFdiv pFdiv := by
  intro h S x y d e o rx ry ho
  unfold pFdiv at ho
  split at ho
  · obtain ⟨c, rfl⟩ := gd_s ho
    cases rd_int rx; cases rd_int ry
    exact ⟨_, by simp only [fFdiv]; rw [if_pos c], _, rfl, .int _⟩
  · cases ho
def pPow : PV → PV → Option PO
  | .int i, .int j => gd (0 ≤ j ∧ j ≤ 1000000 ∧ i.natAbs < 18446744073709551616) (.im (.int (i ^ j.toNat)))
  | _, _ => none
def pNeg : PV → Option PO
  | .int i => some (.im (.int (-i)))
  | _ => none
def pLt : PV → PV → Option PO
  | .int i, .int j => some (.im (.bl (decide (i < j))))
  | .str a, .str b => some (.im (.bl (decide (a < b))))
  | _, _ => none
def pLe : PV → PV → Option PO
  | .int i, .int j => some (.im (.bl (decide (i ≤ j))))
  | .str a, .str b => some (.im (.bl (!decide (b < a))))
  | _, _ => none
def pGt : PV → PV → Option PO
  | .int i, .int j => some (.im (.bl (decide (j < i))))
  | _, _ => none
def pGe : PV → PV → Option PO
  | .int i, .int j => some (.im (.bl (decide (j ≤ i))))
  | _, _ => none
theorem f2_lt : F2 fLt pLt := by
  intro h S x y d e o rx ry ho
  unfold pLt at ho
  split at ho
  · cases ho; cases rd_int rx; cases rd_int ry; exact ⟨_, rfl, _, rfl, .bl _⟩
  · cases ho; cases rd_str rx; cases rd_str ry; exact ⟨_, rfl, _, rfl, .bl _⟩
  · cases ho
theorem f2_gt : F2 fGt pGt := by
  intro h S x y d e o rx ry ho
  unfold pGt at ho
  split at ho
  · cases ho; cases rd_int rx; cases rd_int ry; exact ⟨_, rfl, _, rfl, .bl _⟩
  · cases ho
theorem f2_ge : F2 fGe pGe := by
  intro h S x y d e o rx ry ho
  unfold pGe at ho
  split at ho
  · cases ho; cases rd_int rx; cases rd_int ry; exact ⟨_, rfl, _, rfl, .bl _⟩
  · cases ho
def pIsN : PV → Option PO
  | .non => some (.im (.bl true))
  | _ => some (.im (.bl false))
def pNotN : PV → Option PO
  | .non => some (.im (.bl false))
  | _ => some (.im (.bl true))
theorem rd_ne {h : MH} {S : Nat → Prop} {x : O} {d : PV} (r : RD h S x d) (n : d ≠ .non) : x ≠ .v .non := fun e => by
  subst e
  rcases r with ⟨v, e, r⟩ | ⟨_, _, e, _⟩ | ⟨_, o, e, _, r⟩
  · cases e; cases r; exact n rfl
  · cases e
  · cases e
theorem f1_isN : F1 fIsN pIsN := by
  intro h S x d o rx ho
  unfold pIsN at ho
  split at ho
  · cases ho; cases rd_non rx; exact ⟨_, rfl, _, rfl, .bl _⟩
  · rename_i n
    cases ho
    have := rd_ne rx n
    refine ⟨.v (.bl false), ?_, _, rfl, .bl _⟩
    cases x with
    | n _ => rfl
    | v x => cases x <;> first | rfl | exact absurd rfl this
mutual
def PV.eqv : PV → PV → Bool
  | .non, .non => true
  | .bl a, .bl b => a == b
  | .bl a, .int j => (if a then 1 else 0) == j
  | .int i, .bl b => i == (if b then 1 else 0)
  | .int i, .int j => i == j
  | .str x, .str y => x == y
  | .lst xs, .lst ys => PV.eqvs xs ys
  | .lst xs, .frz ys => PV.eqvs xs ys
  | .frz xs, .lst ys => PV.eqvs xs ys
  | .frz xs, .frz ys => PV.eqvs xs ys
  | .tup xs, .tup ys => PV.eqvs xs ys
  | _, _ => false
  termination_by structural x => x
def PV.eqvs : List PV → List PV → Bool
  | [], [] => true
  | x :: xs, y :: ys => PV.eqv x y && PV.eqvs xs ys
  | _, _ => false
  termination_by structural x => x
end
def pdatS : PV → Option PyData
  | .non => some .none
  | .bl b => some (.bool b)
  | .int i => some (.int i)
  | .str s => some (.str (sOf s))
  | _ => none
def pdat : Nat → PV → Option PyData
  | 0, x => pdatS x
  | n + 1, .tup xs => (optAll (pdat n) xs).map .tuple
  | n + 1, .lst xs => (optAll (pdat n) xs).map .list
  | n + 1, .frz xs => (optAll (pdat n) xs).map .list
  | _ + 1, x => pdatS x
theorem ims_dat {h : MH} {S : Nat → Prop} {f : PV → Option PyData} {g : Val → Option PyData} (k : ∀ v d e, Im h S v d → f d = some e → g v = some e) : ∀ {xs : List Val} {ds : List PV}, Ims h S xs ds → ∀ es, optAll f ds = some es → optAll g xs = some es
  | _, _, .nil, es, e => e
  | _, _, .cons a b, es, e => by
    simp only [optAll] at e ⊢
    split at e
    · rename_i p q ep eq
      rw [k _ _ _ a ep, ims_dat k b _ eq]
      exact e
    · cases e
theorem im_dat {h : MH} {S : Nat → Prop} : ∀ (n : Nat) (v : Val) (d : PV) (e : PyData), Im h S v d → pdat n d = some e → dat h n v = some e
  | 0, _, _, e, r, q => by
    cases r <;> simp only [pdat, pdatS, reduceCtorEq] at q <;> exact q
  | n + 1, _, _, e, r, q => by
    cases r with
    | tup r =>
      simp only [pdat, Option.map_eq_some_iff] at q
      obtain ⟨es, q, rfl⟩ := q
      simp only [dat, ims_dat (im_dat n) r es q, Option.map_some]
    | fl r =>
      simp only [pdat, Option.map_eq_some_iff] at q
      obtain ⟨es, q, rfl⟩ := q
      simp only [dat, ims_dat (im_dat n) r es q, Option.map_some]
    | ref a b r =>
      simp only [pdat, Option.map_eq_some_iff] at q
      obtain ⟨es, q, rfl⟩ := q
      simp only [dat, b, ims_dat (im_dat n) r es q, Option.map_some]
    | dct => simp [pdat, pdatS] at q
    | _ => exact q
theorem optAll_mono {α β : Type} {f g : α → Option β} (k : ∀ x y, f x = some y → g x = some y) : ∀ (xs : List α) (ys : List β), optAll f xs = some ys → optAll g xs = some ys
  | [], _, e => e
  | x :: xs, ys, e => by
    simp only [optAll] at e ⊢
    split at e
    · rename_i p q ep eq
      rw [k _ _ ep, optAll_mono k xs _ eq]
      exact e
    · cases e
theorem dat_mono {h : MH} : ∀ (n : Nat) (v : Val) (e : PyData), dat h n v = some e → dat h (n + 1) v = some e
  | 0, v, e, q => by cases v <;> first | exact q | simp [dat, datS] at q
  | n + 1, v, e, q => by
    cases v with
    | tup xs =>
      simp only [dat, Option.map_eq_some_iff] at q
      obtain ⟨es, q, rfl⟩ := q
      rw [dat, optAll_mono (dat_mono n) _ _ q]; rfl
    | fl xs =>
      simp only [dat, Option.map_eq_some_iff] at q
      obtain ⟨es, q, rfl⟩ := q
      rw [dat, optAll_mono (dat_mono n) _ _ q]; rfl
    | ref k =>
      simp only [dat] at q
      rw [dat]
      split at q
      · rename_i xs ex
        simp only [Option.map_eq_some_iff] at q
        obtain ⟨es, q, rfl⟩ := q
        simp only [optAll_mono (dat_mono n) _ _ q, Option.map_some]
      · cases q
    | _ => exact q
theorem rd_dat {h : MH} {S : Nat → Prop} {x : O} {d : PV} {e : PyData} {n : Nat} (r : RD h S x d) (q : pdat (n + 1) d = some e) : datO h (n + 1) x = some e := by
  rcases r with ⟨v, rfl, r⟩ | ⟨xs, ds, rfl, rfl, r⟩ | ⟨m, o, rfl, e, r⟩
  · exact im_dat _ _ _ _ r q
  · simp only [pdat, Option.map_eq_some_iff] at q
    obtain ⟨es, q, rfl⟩ := q
    simp only [datO, optAll_mono (dat_mono n) _ _ (ims_dat (im_dat n) r es q), Option.map_some]
  · cases d with
    | lst ds =>
      obtain ⟨xs, rfl, r⟩ := r.lst
      simp only [pdat, Option.map_eq_some_iff] at q
      obtain ⟨es, q, rfl⟩ := q
      simp only [datO, dat, e, ims_dat (im_dat n) r es q, Option.map_some]
    | dct => simp [pdat, pdatS] at q
    | _ => cases o <;> exact r.elim
mutual
def PV.okd : Nat → PV → Bool
  | _, .non => true
  | _, .bl _ => true
  | _, .int _ => true
  | _, .str _ => true
  | 0, _ => false
  | n + 1, .tup xs => PV.okds n xs
  | n + 1, .lst xs => PV.okds n xs
  | n + 1, .frz xs => PV.okds n xs
  | _, .dct _ _ => false
  | _, .kt _ => false
  termination_by structural _ x => x
def PV.okds : Nat → List PV → Bool
  | _, [] => true
  | n, x :: xs => PV.okd n x && PV.okds n xs
  termination_by structural _ x => x
end
mutual
def PV.dat : PV → PyData
  | .non => .none
  | .bl b => .bool b
  | .int i => .int i
  | .str s => .str (sOf s)
  | .tup xs => .tuple (PV.dats xs)
  | .lst xs => .list (PV.dats xs)
  | .frz xs => .list (PV.dats xs)
  | .dct _ _ => .none
  | .kt _ => .none
  termination_by structural x => x
def PV.dats : List PV → List PyData
  | [] => []
  | x :: xs => PV.dat x :: PV.dats xs
  termination_by structural x => x
end
mutual
theorem pdat_of : ∀ (n : Nat) (d : PV), PV.okd n d = true → pdat n d = some d.dat
  | 0, .non, _ => rfl
  | 0, .bl _, _ => rfl
  | 0, .int _, _ => rfl
  | 0, .str _, _ => rfl
  | 0, .tup _, e => by simp [PV.okd] at e
  | 0, .lst _, e => by simp [PV.okd] at e
  | 0, .frz _, e => by simp [PV.okd] at e
  | 0, .dct _ _, e => by simp [PV.okd] at e
  | 0, .kt _, e => by simp [PV.okd] at e
  | _ + 1, .non, _ => rfl
  | _ + 1, .bl _, _ => rfl
  | _ + 1, .int _, _ => rfl
  | _ + 1, .str _, _ => rfl
  | n + 1, .tup xs, e => by rw [pdat, pdats_of n xs (by simpa [PV.okd] using e)]; rfl
  | n + 1, .lst xs, e => by rw [pdat, pdats_of n xs (by simpa [PV.okd] using e)]; rfl
  | n + 1, .frz xs, e => by rw [pdat, pdats_of n xs (by simpa [PV.okd] using e)]; rfl
  | n + 1, .dct _ _, e => by simp [PV.okd] at e
  | n + 1, .kt _, e => by simp [PV.okd] at e
theorem pdats_of : ∀ (n : Nat) (ds : List PV), PV.okds n ds = true → optAll (pdat n) ds = some (PV.dats ds)
  | _, [], _ => rfl
  | n, x :: xs, e => by
    simp only [PV.okds, Bool.and_eq_true] at e
    simp only [optAll, pdat_of n x e.1, pdats_of n xs e.2, PV.dats]
end
theorem sOf_beq (a b : List Nat) : (sOf a == sOf b) = (a == b) := by
  by_cases e : a = b
  · subst e; simp
  · have : sOf a ≠ sOf b := fun q => e (sOf_inj.1 q)
    rw [beq_eq_false_iff_ne.2 this, beq_eq_false_iff_ne.2 e]
theorem sOf_beqd (a b : List Nat) : (sOf a == sOf b) = decide (a = b) := by
  rw [sOf_beq]
  by_cases e : a = b
  · simp [e]
  · rw [beq_eq_false_iff_ne.2 e, decide_eq_false e]
theorem okd_tup {n : Nat} {xs : List PV} (e : PV.okd n (.tup xs) = true) : ∃ m, PV.okds m xs = true := by
  cases n with
  | zero => simp [PV.okd] at e
  | succ n => exact ⟨n, by simpa [PV.okd] using e⟩
theorem okd_lst {n : Nat} {xs : List PV} (e : PV.okd n (.lst xs) = true) : ∃ m, PV.okds m xs = true := by
  cases n with
  | zero => simp [PV.okd] at e
  | succ n => exact ⟨n, by simpa [PV.okd] using e⟩
theorem okd_frz {n : Nat} {xs : List PV} (e : PV.okd n (.frz xs) = true) : ∃ m, PV.okds m xs = true := by
  cases n with
  | zero => simp [PV.okd] at e
  | succ n => exact ⟨n, by simpa [PV.okd] using e⟩
theorem okd_dct {n : Nat} {xs ys : List PV} (e : PV.okd n (.dct xs ys) = true) : False := by
  cases n <;> simp [PV.okd] at e
theorem okd_kt {n : Nat} {xs : List PV} (e : PV.okd n (.kt xs) = true) : False := by
  cases n <;> simp [PV.okd] at e
mutual
theorem eqv_dat : ∀ (d e : PV) (n m : Nat), PV.okd n d = true → PV.okd m e = true → PyData.eqv d.dat e.dat = PV.eqv d e
  | .non, e, _, _, _, q => by cases e <;> first | exact (okd_dct q).elim | exact (okd_kt q).elim | simp [PV.dat, PyData.eqv, PV.eqv]
  | .bl _, e, _, _, _, q => by cases e <;> first | exact (okd_dct q).elim | exact (okd_kt q).elim | simp [PV.dat, PyData.eqv, PV.eqv]
  | .int _, e, _, _, _, q => by cases e <;> first | exact (okd_dct q).elim | exact (okd_kt q).elim | simp [PV.dat, PyData.eqv, PV.eqv]
  | .str _, e, _, _, _, q => by cases e <;> first | exact (okd_dct q).elim | exact (okd_kt q).elim | simp [PV.dat, PyData.eqv, PV.eqv, sOf_beq]
  | .dct _ _, e, _, _, p, _ => (okd_dct p).elim
  | .kt _, e, _, _, p, _ => (okd_kt p).elim
  | .tup xs, e, _, _, p, q => by
    obtain ⟨n, p⟩ := okd_tup p
    cases e with
    | tup ys =>
      obtain ⟨m, q⟩ := okd_tup q
      simpa [PV.dat, PyData.eqv, PV.eqv] using eqvs_dat xs ys n m p q
    | dct => exact (okd_dct q).elim
    | kt => exact (okd_kt q).elim
    | _ => simp [PV.dat, PyData.eqv, PV.eqv]
  | .lst xs, e, _, _, p, q => by
    obtain ⟨n, p⟩ := okd_lst p
    cases e with
    | lst ys =>
      obtain ⟨m, q⟩ := okd_lst q
      simpa [PV.dat, PyData.eqv, PV.eqv] using eqvs_dat xs ys n m p q
    | frz ys =>
      obtain ⟨m, q⟩ := okd_frz q
      simpa [PV.dat, PyData.eqv, PV.eqv] using eqvs_dat xs ys n m p q
    | dct => exact (okd_dct q).elim
    | kt => exact (okd_kt q).elim
    | _ => simp [PV.dat, PyData.eqv, PV.eqv]
  | .frz xs, e, _, _, p, q => by
    obtain ⟨n, p⟩ := okd_frz p
    cases e with
    | lst ys =>
      obtain ⟨m, q⟩ := okd_lst q
      simpa [PV.dat, PyData.eqv, PV.eqv] using eqvs_dat xs ys n m p q
    | frz ys =>
      obtain ⟨m, q⟩ := okd_frz q
      simpa [PV.dat, PyData.eqv, PV.eqv] using eqvs_dat xs ys n m p q
    | dct => exact (okd_dct q).elim
    | kt => exact (okd_kt q).elim
    | _ => simp [PV.dat, PyData.eqv, PV.eqv]
theorem eqvs_dat : ∀ (d e : List PV) (n m : Nat), PV.okds n d = true → PV.okds m e = true → PyData.eqvAll (PV.dats d) (PV.dats e) = PV.eqvs d e
  | [], [], _, _, _, _ => by simp [PV.dats, PV.eqvs, PyData.eqvAll]
  | [], _ :: _, _, _, _, _ => by simp [PV.dats, PV.eqvs, PyData.eqvAll]
  | _ :: _, [], _, _, _, _ => by simp [PV.dats, PV.eqvs, PyData.eqvAll]
  | x :: xs, y :: ys, n, m, p, q => by
    simp only [PV.okds, Bool.and_eq_true] at p q
    simp only [PV.dats, PyData.eqvAll, PV.eqvs, eqv_dat x y n m p.1 q.1, eqvs_dat xs ys n m p.2 q.2]
end
def pEqB (d e : PV) : Option Bool := if PV.okd 16 d = true ∧ PV.okd 16 e = true then some (PV.eqv d e) else none
theorem eqB_of {h : MH} {S : Nat → Prop} {x y : O} {d e : PV} {k : Bool} (rx : RD h S x d) (ry : RD h S y e) (q : pEqB d e = some k) : eqB x y h = some k := by
  unfold pEqB at q
  split at q
  · rename_i ok
    cases q
    have dx := rd_dat rx (pdat_of 16 d ok.1)
    have dy := rd_dat ry (pdat_of 16 e ok.2)
    have ee := eqv_dat d e 16 16 ok.1 ok.2
    have main : (match datO h 16 x, datO h 16 y with
      | some d, some e => some (PyData.eqv d e)
      | _, _ => none) = some (PV.eqv d e) := by rw [dx, dy]; simp only [ee]
    unfold eqB
    cases sc : scEq x y with
    | none => exact main
    | some k =>
      simp only
      have : d.eqv e = k := by
        rw [← ee]
        have dj : ∀ (z : Val) (w : PyData), datS z = some w → dat h 16 z = some w → True := fun _ _ _ _ => trivial
        unfold scEq at sc
        split at sc
        all_goals first
          | (cases sc
             simp only [datO, dat, datS, Option.some.injEq] at dx dy
             rw [← dx, ← dy]
             first
               | (simp only [PyData.eqv]; exact sOf_beqd _ _)
               | (simp only [PyData.eqv]; rfl)
               | (simp only [PyData.eqv]; done))
          | cases sc
      rw [this]
  · cases q
def pEq (d e : PV) : Option PO := (pEqB d e).map fun k => .im (.bl k)
def pNe (d e : PV) : Option PO := (pEqB d e).map fun k => .im (.bl (!k))
theorem f2_eq : F2 fEq pEq := by
  intro h S x y d e o rx ry ho
  simp only [pEq, Option.map_eq_some_iff] at ho
  obtain ⟨k, q, rfl⟩ := ho
  exact ⟨_, by simp only [fEq, eqB_of rx ry q], _, rfl, .bl _⟩
theorem f2_ne : F2 fNe pNe := by
  intro h S x y d e o rx ry ho
  simp only [pNe, Option.map_eq_some_iff] at ho
  obtain ⟨k, q, rfl⟩ := ho
  exact ⟨_, by simp only [fNe, eqB_of rx ry q], _, rfl, .bl _⟩
def keyS : PV → Bool
  | .int _ => true
  | .str _ => true
  | _ => false
def keyT : PV → Bool
  | .tup xs => xs.all keyS
  | _ => false
def dfind : List PV → List PV → PV → Option PV
  | k :: ks, v :: vs, y => if k = y then some v else dfind ks vs y
  | _, _, _ => none
def drepl : List PV → List PV → PV → PV → List PV
  | k :: ks, v :: vs, y, z => (if k = y then z else v) :: drepl ks vs y z
  | _, _, _, _ => []
def dputK (ks : List PV) (y : PV) : List PV := if y ∈ ks then ks else ks ++ [y]
def dputV (ks vs : List PV) (y z : PV) : List PV := if y ∈ ks then drepl ks vs y z else vs ++ [z]
def dgetP : PV → PV → Option (Option PV)
  | .dct (.kt [.kt []] :: ks) vs, y => if keyS y = true then some (dfind ks vs y) else none
  | .dct (.kt [] :: ks) vs, y => if keyT y = true then some (dfind ks vs y) else none
  | _, _ => none
section
variable {h : MH} {S : Nat → Prop}
theorem key_iff {x y : Val} {k e : PV} (rx : Im h S x k) (ry : Im h S y e) (q : keyS e = true) : keyEq x y = decide (k = e) := by
  cases ry <;> simp only [keyS, Bool.false_eq_true] at q <;> cases rx <;> simp [keyEq]
theorem keys_iff : ∀ {xs ys : List Val} {ks es : List PV}, Ims h S xs ks → Ims h S ys es → es.all keyS = true → keysEq xs ys = decide (ks = es)
  | _, _, _, _, .nil, .nil, _ => by simp [keysEq]
  | _, _, _, _, .nil, .cons _ _, _ => by simp [keysEq]
  | _, _, _, _, .cons _ _, .nil, _ => by simp [keysEq]
  | _, _, _, _, .cons a b, .cons c d, q => by
    simp only [List.all_cons, Bool.and_eq_true] at q
    simp only [keysEq, key_iff a c q.1, keys_iff b d q.2, List.cons.injEq, Bool.decide_and]
theorem isKey_of {y : Val} {e : PV} (ry : Im h S y e) (q : keyS e = true) : isKey y = true := by
  cases ry <;> simp only [keyS, Bool.false_eq_true] at q <;> rfl
theorem isKeys_of : ∀ {ys : List Val} {es : List PV}, Ims h S ys es → es.all keyS = true → ys.all isKey = true
  | _, _, .nil, _ => rfl
  | _, _, .cons a b, q => by
    simp only [List.all_cons, Bool.and_eq_true] at q ⊢
    exact ⟨isKey_of a q.1, isKeys_of b q.2⟩
theorem find_g {α : Type} {f : α → Val} {t : α → Bool} {e : PV} : ∀ {kvs : List (α × Val)} {ks vs : List PV}, Ims h S (kvs.map fun p => f p.1) ks → Ims h S (kvs.map (·.2)) vs → (∀ p ∈ kvs, ∀ k, Im h S (f p.1) k → t p.1 = decide (k = e)) →
    match dfind ks vs e with
    | some d => ∃ w, (kvs.find? fun p => t p.1).map (·.2) = some w ∧ Im h S w d
    | none => (kvs.find? fun p => t p.1).map (·.2) = none
  | [], _, _, .nil, .nil, _ => rfl
  | p :: kvs, _, _, .cons (d := k) a1 b1, .cons a2 b2, ht => by
    have h1 := ht p (List.mem_cons_self ..) k a1
    by_cases q : k = e
    · simp only [dfind, if_pos q]
      exact ⟨p.2, by rw [List.find?_cons, h1, decide_eq_true q]; rfl, a2⟩
    · simp only [dfind, if_neg q]
      have ih := find_g b1 b2 fun r hr => ht r (List.mem_cons_of_mem _ hr)
      have e2 : ((p :: kvs).find? fun p => t p.1) = kvs.find? fun p => t p.1 := by rw [List.find?_cons, h1, decide_eq_false q]
      rw [e2]
      exact ih
theorem any_g {α : Type} {f : α → Val} {t : α → Bool} {e : PV} : ∀ {kvs : List (α × Val)} {ks : List PV}, Ims h S (kvs.map fun p => f p.1) ks → (∀ p ∈ kvs, ∀ k, Im h S (f p.1) k → t p.1 = decide (k = e)) → (kvs.any fun p => t p.1) = decide (e ∈ ks)
  | [], _, .nil, _ => by simp
  | p :: kvs, _, .cons (d := k) a1 b1, ht => by
    rw [List.any_cons, ht p (List.mem_cons_self ..) k a1, any_g b1 fun r hr => ht r (List.mem_cons_of_mem _ hr)]
    by_cases q : k = e
    · simp [q]
    · have : ¬ e = k := fun z => q z.symm
      simp [q, this]
theorem repl_g {α : Type} {f : α → Val} {t : α → Bool} {e z : PV} {w : Val} (rz : Im h S w z) : ∀ {kvs : List (α × Val)} {ks vs : List PV}, Ims h S (kvs.map fun p => f p.1) ks → Ims h S (kvs.map (·.2)) vs → (∀ p ∈ kvs, ∀ k, Im h S (f p.1) k → t p.1 = decide (k = e)) →
    Ims h S ((kvs.map fun p => if t p.1 = true then (p.1, w) else p).map fun p => f p.1) ks ∧ Ims h S ((kvs.map fun p => if t p.1 = true then (p.1, w) else p).map (·.2)) (drepl ks vs e z)
  | [], _, _, .nil, .nil, _ => ⟨.nil, .nil⟩
  | p :: kvs, _, _, .cons (d := k) a1 b1, .cons a2 b2, ht => by
    have h1 := ht p (List.mem_cons_self ..) k a1
    obtain ⟨i1, i2⟩ := repl_g rz b1 b2 fun r hr => ht r (List.mem_cons_of_mem _ hr)
    by_cases q : k = e
    · simp only [drepl, if_pos q, List.map_cons, h1, decide_eq_true q, if_true]
      exact ⟨.cons a1 i1, .cons rz i2⟩
    · simp only [drepl, if_neg q, List.map_cons, h1, decide_eq_false q, Bool.false_eq_true, if_false]
      exact ⟨.cons a1 i1, .cons a2 i2⟩
theorem dct_cases {n : Nat} {o : Ob} {kl vl : List Val} {ks vs : List PV} (a : h[n]? = some o) (b : obD o = some (kl, vl)) (c : Ims h S kl ks) (d : Ims h S vl vs) :
    (∃ kvs t, o = .dK kvs ∧ ks = .kt [.kt []] :: t ∧ Ims h S (kvs.map (·.1)) t ∧ Ims h S (kvs.map (·.2)) vs) ∨ ∃ kvs t, o = .dT kvs ∧ ks = .kt [] :: t ∧ Ims h S (kvs.map fun p => .tup p.1) t ∧ Ims h S (kvs.map (·.2)) vs := by
  cases o with
  | dK kvs =>
    cases b
    cases c with
    | cons c1 c2 =>
      cases c1 with
      | kt c1 =>
        cases c1 with
        | cons c3 c4 =>
          cases c4
          cases c3 with
          | kt c3 => cases c3; exact .inl ⟨kvs, _, rfl, rfl, c2, d⟩
  | dT kvs =>
    cases b
    cases c with
    | cons c1 c2 =>
      cases c1 with
      | kt c1 => cases c1; exact .inr ⟨kvs, _, rfl, rfl, c2, d⟩
  | _ => cases b
theorem dct_casesR {n : Nat} {o : Ob} {kl vl : List Val} {ks vs : List PV} (a : h[n]? = some o) (b : obR o = some (kl, vl)) (c : Ims h S kl ks) (d : Ims h S vl vs) :
    (∃ kvs t, (o = .dK kvs ∨ o = .lk kvs) ∧ ks = .kt [.kt []] :: t ∧ Ims h S (kvs.map (·.1)) t ∧ Ims h S (kvs.map (·.2)) vs) ∨ ∃ kvs t, o = .dT kvs ∧ ks = .kt [] :: t ∧ Ims h S (kvs.map fun p => .tup p.1) t ∧ Ims h S (kvs.map (·.2)) vs := by
  have one : ∀ kvs : List (Val × Val), kl = .kt [.kt []] :: kvs.map (·.1) → vl = kvs.map (·.2) → ∃ t, ks = .kt [.kt []] :: t ∧ Ims h S (kvs.map (·.1)) t ∧ Ims h S (kvs.map (·.2)) vs := fun kvs e1 e2 => by
    subst e1 e2
    cases c with
    | cons c1 c2 =>
      cases c1 with
      | kt c1 =>
        cases c1 with
        | cons c3 c4 =>
          cases c4
          cases c3 with
          | kt c3 => cases c3; exact ⟨_, rfl, c2, d⟩
  cases o with
  | dK kvs =>
    cases b
    obtain ⟨t, x⟩ := one kvs rfl rfl
    exact .inl ⟨kvs, t, .inl rfl, x⟩
  | lk kvs =>
    cases b
    obtain ⟨t, x⟩ := one kvs rfl rfl
    exact .inl ⟨kvs, t, .inr rfl, x⟩
  | dT kvs =>
    cases b
    cases c with
    | cons c1 c2 =>
      cases c1 with
      | kt c1 => cases c1; exact .inr ⟨kvs, _, rfl, rfl, c2, d⟩
  | _ => cases b
theorem kt_keyT {y : Val} {e : PV} (ry : Im h S y e) (q : keyT e = true) : ∃ ys es, y = .tup ys ∧ e = .tup es ∧ Ims h S ys es ∧ es.all keyS = true := by
  cases ry with
  | tup r => exact ⟨_, _, rfl, rfl, r, q⟩
  | _ => simp [keyT] at q
theorem tup_test {α : Type} {kvs : List (List Val × Val)} {ys : List Val} {es : List PV} (r : Ims h S ys es) (q : es.all keyS = true) : ∀ p ∈ kvs, ∀ k, Im h S (.tup p.1) k → keysEq p.1 ys = decide (k = .tup es) := fun p _ k ik => by
  cases ik with
  | tup r2 => rw [keys_iff r2 r q]; simp
theorem dget_im {x : O} {d e : PV} {y : Val} {r : Option PV} (rx : RD h S x d) (ry : Im h S y e) (q : dgetP d e = some r) :
    match (generalizing := false) r with
    | some v => ∃ w, dgetO h x y = some (some w) ∧ Im h S w v
    | none => dgetO h x y = some none := by
  cases d with
  | dct ks vs =>
    obtain ⟨n, o, kl, vl, rfl, a, b, c, d⟩ := rd_dct rx
    rcases dct_casesR a b c d with ⟨kvs, t, ho, rfl, k1, k2⟩ | ⟨kvs, t, rfl, rfl, k1, k2⟩
    · simp only [dgetP] at q
      split at q
      · rename_i hk
        obtain rfl := Option.some.inj q
        clear q
        have hf := find_g (f := fun z => z) (t := fun z => keyEq z y) (e := e) k1 k2 fun p _ k ik => key_iff ik ry hk
        have h0 : dgetO h (.v (.ref n)) y = some ((kvs.find? fun p => keyEq p.1 y).map (·.2)) := by rcases ho with rfl | rfl <;> simp only [dgetO, a, isKey_of ry hk, if_true]
        rw [h0]
        cases hd : dfind t vs e with
        | none => rw [hd] at hf; exact congrArg some hf
        | some v => rw [hd] at hf; obtain ⟨w, e1, e2⟩ := hf; exact ⟨w, congrArg some e1, e2⟩
      · cases q
    · simp only [dgetP] at q
      split at q
      · rename_i hk
        obtain rfl := Option.some.inj q
        clear q
        obtain ⟨ys, es, rfl, rfl, r, hk⟩ := kt_keyT ry hk
        have hf := find_g (f := fun z => .tup z) (t := fun z => keysEq z ys) (e := .tup es) k1 k2 (tup_test (α := Nat) r hk)
        have h0 : dgetO h (.v (.ref n)) (.tup ys) = some ((kvs.find? fun p => keysEq p.1 ys).map (·.2)) := by simp only [dgetO, a, isKeys_of r hk, if_true]
        rw [h0]
        cases hd : dfind t vs (.tup es) with
        | none => rw [hd] at hf; exact congrArg some hf
        | some v => rw [hd] at hf; obtain ⟨w, e1, e2⟩ := hf; exact ⟨w, congrArg some e1, e2⟩
      · cases q
  | _ => simp [dgetP] at q
end
def ixD (d e : PV) : Option PO := match dgetP d e with
  | some (some v) => some (.im v)
  | _ => none
def pIx : PV → PV → Option PO
  | .str s, .int i => if s.length ≤ 16777216 then (atI s i).map fun c => .im (.str [c]) else none
  | d, .int i => match seqP d with
    | some xs => (atI xs i).map .im
    | none => ixD d (.int i)
  | d, e => ixD d e
theorem atI_ims {h : MH} {S : Nat → Prop} {xs : List Val} {ds : List PV} (r : Ims h S xs ds) {i : Int} {d : PV} (e : atI ds i = some d) : ∃ v, atI xs i = some v ∧ Im h S v d := by
  unfold atI at e ⊢
  rw [r.length]
  cases q : ixN ds.length i with
  | none => rw [q] at e; cases e
  | some k =>
    rw [q] at e
    exact r.get (by simpa using e)
theorem rd_key {h : MH} {S : Nat → Prop} {x : O} {e : PV} (r : RD h S x e) (q : keyS e = true ∨ keyT e = true) : ∃ v, x = .v v ∧ Im h S v e := by
  rcases r with z | ⟨_, _, _, rfl, _⟩ | ⟨_, o, _, _, z⟩
  · exact z
  · rcases q with q | q <;> cases q
  · cases e <;> first | (cases o <;> exact z.elim) | (rcases q with q | q <;> cases q)
theorem dgetP_key {d e : PV} {r : Option PV} (q : dgetP d e = some r) : keyS e = true ∨ keyT e = true := by
  unfold dgetP at q
  split at q
  · split at q
    · rename_i h; exact .inl h
    · cases q
  · split at q
    · rename_i h; exact .inr h
    · cases q
  · cases q
theorem dgetP_seq {h : MH} {S : Nat → Prop} {x : O} {d e : PV} {r : Option PV} (rx : RD h S x d) (q : dgetP d e = some r) : seqO h x = none ∧ ∃ n, x = .v (.ref n) := by
  cases d with
  | dct ks vs =>
    obtain ⟨n, o, kl, vl, rfl, a, b, _⟩ := rd_dct rx
    refine ⟨?_, n, rfl⟩
    cases o with
    | dK kvs => simp only [seqO, a]
    | dT kvs => simp only [seqO, a]
    | lk kvs => simp only [seqO, a]
    | _ => cases b
  | _ => simp [dgetP] at q
theorem ixD_ok {h : MH} {S : Nat → Prop} {x y : O} {d e : PV} {o : PO} (rx : RD h S x d) (ry : RD h S y e) (ho : ixD d e = some o) : ∃ r, fIx x y h = .ok r h ∧ RN h S r o := by
  unfold ixD at ho
  split at ho
  · rename_i v q
    cases ho
    obtain ⟨y, rfl, iy⟩ := rd_key ry (dgetP_key q)
    obtain ⟨w, e1, iw⟩ := dget_im rx iy q
    obtain ⟨sq, n, rfl⟩ := dgetP_seq rx q
    refine ⟨.v w, ?_, w, rfl, iw⟩
    simp only [fIx, sq, e1]
  · cases ho
theorem f2_ix : F2 fIx pIx := by
  intro h S x y d e o rx ry ho
  have ry0 := ry
  unfold pIx at ho
  split at ho
  · cases rd_str rx; cases rd_int ry
    split at ho
    · rename_i c
      simp only [Option.map_eq_some_iff] at ho
      obtain ⟨k, q, rfl⟩ := ho
      exact ⟨.v (.str [k]), by simp only [fIx, c, if_true, q], _, rfl, .str _⟩
    · cases ho
  · cases rd_int ry
    split at ho
    · rename_i xs ex
      simp only [Option.map_eq_some_iff] at ho
      obtain ⟨k, q, rfl⟩ := ho
      obtain ⟨kk, vs, sq, ims⟩ := rd_seq rx ex
      obtain ⟨v, av, iv⟩ := atI_ims ims q
      refine ⟨.v v, ?_, v, rfl, iv⟩
      have : ∀ s, x ≠ .v (.str s) := fun s e => by subst e; simp [seqO] at sq
      cases x with
      | n _ => simp only [fIx, sq, av]
      | v x => cases x <;> first | exact absurd rfl (this _) | simp only [fIx, sq, av]
    · exact ixD_ok rx ry0 ho
  · exact ixD_ok rx ry0 ho
abbrev PDO := PEn → PR (Option Int)
def pNone : PDO := fun π => .ok none π
def pSome (a : PD) : PDO := fun π => (a π).bind fun o π1 => match o with
  | .im (.int i) => .ok (some i) π1
  | _ => .bad
def rPI : Rs (Option Int) (Option Int) := fun _ _ _ _ _ x b => x = b
abbrev PuO (d : DO) (p : PDO) : Prop := Pu rPI d p
theorem pu_oNone : PuO oNone pNone := fun T A h ρ π rn => Go.ok rn rfl
theorem pu_oSome {d : D} {p : PD} (a : PuE d p) : PuO (oSome d) (pSome p) := fun T A h ρ π rn =>
  Go.bind tt (a T A h ρ π rn) fun x h1 T2 o π1 fx t tq rn1 rx => by
    cases o with
    | im d =>
      cases d with
      | int i =>
        obtain ⟨v, rfl, r⟩ := rx
        cases r
        exact Go.ok (rn1.weak t) rfl
      | _ => trivial
    | _ => trivial
def pSlF (lo hi : Option Int) : PV → Option PO
  | .str s => if s.length ≤ 16777216 then some (.im (.str (cutL s lo hi))) else none
  | .tup xs => some (.im (.tup (cutL xs lo hi)))
  | .lst xs => some (.ow (.lst (cutL xs lo hi)))
  | .frz xs => some (.ow (.lst (cutL xs lo hi)))
  | _ => none
theorem cut_ims {h : MH} {S : Nat → Prop} {xs : List Val} {ds : List PV} (r : Ims h S xs ds) (lo hi : Option Int) : Ims h S (cutL xs lo hi) (cutL ds lo hi) := by
  unfold cutL
  rw [r.length]
  exact (r.drop _).take _
theorem f1_sl (lo hi : Option Int) : F1 (fun x h => fSl x lo hi h) (pSlF lo hi) := by
  intro h S x d o rx ho
  unfold pSlF at ho
  split at ho
  · cases rd_str rx
    split at ho
    · rename_i c
      cases ho
      exact ⟨.v (.str (cutL _ lo hi)), by simp only [fSl, c, if_true], _, rfl, .str _⟩
    · cases ho
  · cases ho
    obtain ⟨xs, rfl, r⟩ := rd_tup rx
    exact ⟨.v (.tup (cutL xs lo hi)), rfl, _, rfl, .tup (cut_ims r lo hi)⟩
  · cases ho
    obtain ⟨xs, a, r, q⟩ := rd_lst rx
    refine ⟨.n (cutL xs lo hi), ?_, _, _, rfl, rfl, cut_ims r lo hi⟩
    rcases q with rfl | ⟨n, rfl, _⟩ <;> simp only [fSl, a]
  · cases ho
    obtain ⟨xs, rfl, r⟩ := rd_frz rx
    exact ⟨.n (cutL xs lo hi), rfl, _, _, rfl, rfl, cut_ims r lo hi⟩
  · cases ho
def pSl (a : PD) (lo hi : PDO) : PD := fun π => (a π).bind fun x π1 => (lo π1).bind fun l π2 => (hi π2).bind fun u π3 => see1 (pSlF l u) x π3
theorem free_I : ∀ h A T T2 L L' x o, L' ≤ L → rPI h A T T2 L x o → rPI h A T T2 L' x o := fun _ _ _ _ _ _ _ _ _ r => r
theorem pu_sl {d : D} {p : PD} {dl dh : DO} {pl ph : PDO} (a : PuE d p) (b : PuO dl pl) (c : PuO dh ph) : PuE (dSl d dl dh) (pSl p pl ph) := fun T A h ρ π rn =>
  Go.bind tt (a T A h ρ π rn) fun x h1 T2 o π1 fx t tq rn1 rx =>
    Go.bind (L := h.length) tt (b.at (L := h1.length) (rn1.weak t) tt (Nat.le_refl _) free_I) fun l h2 T3 l' π2 fx2 t2 tq2 rn2 rl =>
      Go.bind (L := h.length) tt (c.at (L := h2.length) (rn2.weak t2) tt (Nat.le_refl _) free_I) fun u h3 T4 u' π3 fx3 t3 tq3 rn3 ru => by
        cases rl; cases ru
        exact go_see1 (f1_sl l u) rn3 t3 (((rx.w t).kept fx2).kept fx3)
end Pq

namespace Pq
open PySem L2 Mi
inductive POut where
  | nx (π : PEn) | rt (o : PO) (π : PEn) | bk (π : PEn) | ct (π : PEn) | ex (c : Nat) (π : PEn) | bad
abbrev PSD := PEn → POut
def PR.out {α : Type} (r : PR α) (k : α → PEn → POut) : POut := match r with
  | .ok x π => k x π
  | .ex c π => .ex c π
  | .bad => .bad
def Nx (T : Nat → Prop) (A : Aa) (h : MH) (π π' : PEn) (ρ' : En) (h' : MH) : Prop := ∃ A', Fx A A' π π' h h' ∧ Rn T A' h' ρ' π'
def RT (h : MH) (A : Aa) (T2 N : Nat → Prop) (v : Val) : PO → Prop
  | .im d => Im h (Av A T2) v d
  | .ow d => ∃ n o, v = .ref n ∧ T2 n ∧ (∀ i, A i ≠ some n) ∧ h[n]? = some o ∧ OC h (Av A T2) o d ∧ N n
  | .br _ => False
theorem RT.imp {h : MH} {A : Aa} {T2 N N' : Nat → Prop} {v : Val} {o : PO} (k : ∀ n, N n → N' n) (r : RT h A T2 N v o) : RT h A T2 N' v o := by
  cases o with
  | im d => exact r
  | ow d => obtain ⟨n, o, a, b, c, d, e, f⟩ := r; exact ⟨n, o, a, b, c, d, e, k n f⟩
  | br i => exact r
def Nio (A : Aa) (π : PEn) (L : Nat) (n : Nat) : Prop := L ≤ n ∨ ∃ (i : Nat) (d : PV), A i = some n ∧ π[i]? = some (some (PS.ow d))
def GoS (T : Nat → Prop) (A : Aa) (h : MH) (π : PEn) (s : Out) (q : POut) : Prop := match q with
  | .nx π' => ∃ ρ' h', s = .nx ρ' h' ∧ Nx T A h π π' ρ' h'
  | .bk π' => ∃ ρ' h', s = .bk ρ' h' ∧ Nx T A h π π' ρ' h'
  | .ct π' => ∃ ρ' h', s = .ct ρ' h' ∧ Nx T A h π π' ρ' h'
  | .ex c π' => ∃ ρ' h', s = .ex c ρ' h' ∧ Nx T A h π π' ρ' h'
  | .rt o π' => ∃ v h' ρ' A' T2, s = .rt v h' ∧ Fx A A' π π' h h' ∧ (∀ n, T n → T2 n) ∧ Rn T2 A' h' ρ' π' ∧ RT h' A' T2 (Nio A π h.length) v o ∧ (∀ n, T2 n → T n ∨ Nio A π h.length n)
  | .bad => True
def PuS (s : SD) (p : PSD) : Prop := ∀ T A h ρ π, Rn T A h ρ π → GoS T A h π (s ρ h) (p π)
section
variable {α β : Type} {rel : Rs α β} {T Tm T2 : Nat → Prop} {A A' : Aa} {L Lm : Nat} {ρ ρ' : En} {h h1 h' : MH} {π π1 π' : PEn}
theorem Nx.pre (x : Fx A A' π π1 h h1) (y : Nx T A' h1 π1 π' ρ' h') : Nx T A h π π' ρ' h' := by
  obtain ⟨A2, f, r⟩ := y
  exact ⟨A2, x.tr f, r⟩
theorem Nio.pre {n : Nat} (rn : Rn Tm A' h1 ρ π1) (x : Fx A A' π π1 h h1) (z : Nio A' π1 h1.length n) (dm : ∀ i k, A i = some k → ∃ s d, π[i]? = some (some s) ∧ s.own = some d) : Nio A π h.length n := by
  rcases z with z | ⟨i, d, a, e⟩
  · exact .inl (Nat.le_trans x.le z)
  · rcases x.new i n a with ⟨j, w⟩ | w
    · obtain ⟨s, d', e', o⟩ := dm j n w
      cases s with
      | im _ => cases o
      | ow d2 => exact .inr ⟨j, d2, w, e'⟩
      | io d2 =>
        obtain ⟨q, d3, e3⟩ := x.io j d2 e'
        have := rn.inj i j n a (q.trans w)
        subst this
        rw [e] at e3; cases e3
    · exact .inl w
theorem GoS.from {s : Out} {q : POut} (rn : Rn Tm A' h1 ρ π1) (dm : ∀ i k, A i = some k → ∃ s d, π[i]? = some (some s) ∧ s.own = some d) (x : Fx A A' π π1 h h1) (g : GoS T A' h1 π1 s q) : GoS T A h π s q := by
  cases q with
  | nx π' => obtain ⟨a, b, c, d⟩ := g; exact ⟨a, b, c, d.pre x⟩
  | bk π' => obtain ⟨a, b, c, d⟩ := g; exact ⟨a, b, c, d.pre x⟩
  | ct π' => obtain ⟨a, b, c, d⟩ := g; exact ⟨a, b, c, d.pre x⟩
  | ex c π' => obtain ⟨a, b, c, d⟩ := g; exact ⟨a, b, c, d.pre x⟩
  | rt o π' =>
    obtain ⟨v, h', ρ', A2, T2, a, b, c, d, e, f⟩ := g
    exact ⟨v, h', ρ', A2, T2, a, x.tr b, c, d, e.imp fun n w => w.pre rn x dm, fun n z => (f n z).imp id fun w => w.pre rn x dm⟩
  | bad => trivial
theorem Go.out {r : R α} {q : PR β} {k : α → MH → Out} {g : β → PEn → POut} (rn0 : Rn T A h ρ π) (a : Go rel T A L ρ h π r q)
    (c : ∀ x h1 T2 o π1, Fx A A π π1 h h1 → (∀ n, T n → T2 n) → (∀ n, T2 n → T n ∨ L ≤ n) → Rn T2 A h1 ρ π1 → rel h1 A T T2 L x o → GoS T A h π (k x h1) (g o π1)) : GoS T A h π (r.out ρ k) (q.out g) := by
  cases q with
  | ok o π' =>
    obtain ⟨y, h', T2, rfl, y2, ⟨t, t'⟩, z, w⟩ := a
    exact c y h' T2 o π' y2 t t' z w
  | ex c π' =>
    obtain ⟨h', rfl, y2, z⟩ := a
    exact ⟨ρ, h', rfl, A, y2, z⟩
  | bad => trivial
theorem GoS.nx0 (f : Fx A A π π' h h') (rn : Rn T A h' ρ' π') : GoS T A h π (.nx ρ' h') (.nx π') := ⟨ρ', h', rfl, A, f, rn⟩
end
def pNil : PSD := fun π => .nx π
def pSeq (a b : PSD) : PSD := fun π => match a π with
  | .nx π' => b π'
  | o => o
def pBrk : PSD := fun π => .bk π
def pCnt : PSD := fun π => .ct π
def pExpr (p : PD) : PSD := fun π => (p π).out fun _ π1 => .nx π1
def pIfS (t : PDB) (a b : PSD) : PSD := fun π => (t π).out fun k π1 => if k = true then a π1 else b π1
def retO (o : PO) (π : PEn) : POut := match o with
  | .im d => .rt (.im d) π
  | .ow d => .rt (.ow d) π
  | .br i => match ps π i with
    | some (.ow d) => .rt (.ow d) (π.set i none)
    | _ => .bad
def pRet (p : PD) : PSD := fun π => (p π).out retO
def pRetN : PSD := fun π => .rt (.im .non) π
def isIo (π : PEn) (i : Nat) : Bool := match ps π i with
  | some (.io _) => true
  | _ => false
def pSet (i : Nat) (p : PD) : PSD := fun π => (p π).out fun o π1 => (poI o π1).out fun d π1 => if isIo π1 i = true then .bad else .nx (π1.set i (some (.im d)))
def pSetO (i : Nat) (p : PD) : PSD := fun π => (p π).out fun o π1 => match o with
  | .ow d => if isIo π1 i = true ∨ π1.length ≤ i then .bad else .nx (π1.set i (some (.ow d)))
  | _ => .bad
def frz (i : Nat) (π : PEn) : PEn := match ps π i with
  | some (.ow d) => π.set i (some (.im d))
  | _ => π
def pFrz (i : Nat) (s : PSD) : PSD := fun π => s (frz i π)
def Aa.no (A : Aa) (i : Nat) : Aa := fun j => if j = i then none else A j
def Aa.at (A : Aa) (i n : Nat) : Aa := fun j => if j = i then some n else A j
section
variable {α β : Type} {rel : Rs α β} {T Tm T2 : Nat → Prop} {A A' : Aa} {L Lm : Nat} {ρ ρ' : En} {h h1 h' : MH} {π π1 π' : PEn}
theorem Aa.no_s {i j n : Nat} (e : A.no i j = some n) : j ≠ i ∧ A j = some n := by
  unfold Aa.no at e
  split at e
  · cases e
  · exact ⟨by assumption, e⟩
theorem no_av {i : Nat} : ∀ n, Av (A.no i) T n → Av A T n := fun n z => z.elim (fun ⟨j, e⟩ => .inl ⟨j, (Aa.no_s e).2⟩) .inr
theorem pu_nil : PuS sNil pNil := fun T A h ρ π rn => GoS.nx0 Fx.refl rn
theorem pu_seq {a b : SD} {p q : PSD} (ha : PuS a p) (hb : PuS b q) : PuS (sSeq a b) (pSeq p q) := fun T A h ρ π rn => by
  have g := ha T A h ρ π rn
  unfold pSeq sSeq
  cases e : p π with
  | nx π' =>
    rw [e] at g
    obtain ⟨ρ', h', e', A', f, r⟩ := g
    rw [e']
    exact (hb T A' h' ρ' π' r).from r rn.dom f
  | bk π' => rw [e] at g; obtain ⟨a, b, c, d⟩ := g; rw [c]; exact ⟨a, b, rfl, d⟩
  | ct π' => rw [e] at g; obtain ⟨a, b, c, d⟩ := g; rw [c]; exact ⟨a, b, rfl, d⟩
  | ex c π' => rw [e] at g; obtain ⟨a, b, c, d⟩ := g; rw [c]; exact ⟨a, b, rfl, d⟩
  | rt o π' =>
    rw [e] at g
    obtain ⟨v, h', ρ', A2, T2, a, z⟩ := g
    rw [a]; exact ⟨v, h', ρ', A2, T2, rfl, z⟩
  | bad => trivial
theorem pu_expr {d : D} {p : PD} (a : PuE d p) : PuS (sExpr d) (pExpr p) := fun T A h ρ π rn =>
  Go.out rn (a T A h ρ π rn) fun x h1 T2 o π1 fx t tq rn1 rx => GoS.nx0 fx (rn1.weak t)
theorem pu_ifS {t : DB} {pt : PDB} {a b : SD} {p q : PSD} (ht : PuB t pt) (ha : PuS a p) (hb : PuS b q) : PuS (sIf t a b) (pIfS pt p q) := fun T A h ρ π rn =>
  Go.out rn (ht T A h ρ π rn) fun x h1 T2 o π1 fx t tq rn1 rx => by
    cases rx
    have r1 := rn1.weak t
    cases x with
    | true => exact (ha T A h1 ρ π1 r1).from r1 rn.dom fx
    | false => exact (hb T A h1 ρ π1 r1).from r1 rn.dom fx
theorem Rn.setI {i : Nat} {v : Val} {d : PV} (rn : Rn T A h ρ π) (r : Im h (Av A T) v d) : Rn T (A.no i) h (ρ.set i (some v)) (π.set i (some (.im d))) := by
  refine ⟨by simp [rn.len], fun j e q => ?_, fun j s e q w => ?_, fun j n e => ?_, fun j k n a b => ?_, rn.tl, fun j n e => rn.ta j n (Aa.no_s e).2⟩
  · by_cases c : i = j
    · subst c
      have l : i < π.length := by simpa using lt_of_get q
      rw [List.getElem?_set_self l] at q
      cases q
      exact ⟨v, by rw [List.getElem?_set_self (by rw [rn.len]; exact l)], r.weak no_av⟩
    · rw [List.getElem?_set_ne c] at q ⊢
      obtain ⟨u, a, b⟩ := rn.im j e q
      exact ⟨u, a, b.weak no_av⟩
  · by_cases c : i = j
    · subst c
      have l : i < π.length := by simpa using lt_of_get q
      rw [List.getElem?_set_self l] at q
      cases q; cases w
    · rw [List.getElem?_set_ne c] at q ⊢
      obtain ⟨n, o, a, b, g, f⟩ := rn.ow j s e q w
      exact ⟨n, o, by simp [Aa.no, Ne.symm c, a], b, g, f.mono (sub_mk no_av)⟩
  · obtain ⟨c, e⟩ := Aa.no_s e
    obtain ⟨s, d', a, b⟩ := rn.dom j n e
    exact ⟨s, d', by rw [List.getElem?_set_ne (Ne.symm c)]; exact a, b⟩
  · exact rn.inj j k n (Aa.no_s a).2 (Aa.no_s b).2
theorem isIo_f {i : Nat} {d : PV} (e : isIo π i = false) : π[i]? ≠ some (some (PS.io d)) := fun q => by
  simp [isIo, ps_of q] at e
theorem Fx.setI {i : Nat} {s : Option PS} (nio : isIo π i = false) : Fx A (A.no i) π (π.set i s) h h := by
  refine ⟨Nat.le_refl _, fun _ _ _ => rfl, fun j n e => .inl ⟨j, (Aa.no_s e).2⟩, fun j d e => ?_⟩
  have c : i ≠ j := fun c => by subst c; exact isIo_f nio e
  exact ⟨by simp [Aa.no, Ne.symm c], d, by rw [List.getElem?_set_ne c]; exact e⟩
theorem Rn.setO {i n : Nat} {ob : Ob} {d : PV} (rn : Rn T2 A h ρ π) (t : ∀ n, T n → T2 n) (tn : T2 n) (an : ∀ i, A i ≠ some n) (nt : ¬ T n) (e : h[n]? = some ob) (r : OC h (Av A T2) ob d) (io : isIo π i = false) (il : i < π.length) : Rn T (A.at i n) h (ρ.set i (some (.ref n))) (π.set i (some (.ow d))) := by
  have at_s : ∀ j k, A.at i n j = some k → (j = i ∧ k = n) ∨ (j ≠ i ∧ A j = some k) := fun j k e => by
    unfold Aa.at at e
    split at e
    · cases e; exact .inl ⟨by assumption, rfl⟩
    · exact .inr ⟨by assumption, e⟩
  have w : ∀ k, Av (A.at i n) T k → Av A T2 k := fun k z => by
    rcases z with ⟨j, e⟩ | z
    · rcases at_s j k e with ⟨_, rfl⟩ | ⟨_, e⟩
      · exact .inr tn
      · exact .inl ⟨j, e⟩
    · exact .inr (t k z)
  refine ⟨by simp [rn.len], fun j e q => ?_, fun j s e q w' => ?_, fun j k e => ?_, fun j k m a b => ?_, fun m z => rn.tl m (t m z), fun j m e => ?_⟩
  · by_cases c : i = j
    · subst c
      have l : i < π.length := by simpa using lt_of_get q
      rw [List.getElem?_set_self l] at q
      cases q
    · rw [List.getElem?_set_ne c] at q ⊢
      obtain ⟨u, a, b⟩ := rn.im j e q
      exact ⟨u, a, b.weak w⟩
  · by_cases c : i = j
    · subst c
      have l : i < π.length := by simpa using lt_of_get q
      rw [List.getElem?_set_self l] at q
      cases q; cases w'
      exact ⟨n, ob, by simp [Aa.at], by rw [List.getElem?_set_self (by rw [rn.len]; exact l)], by assumption, r.mono (sub_mk w)⟩
    · rw [List.getElem?_set_ne c] at q ⊢
      obtain ⟨m, o, a, b, g, f⟩ := rn.ow j s e q w'
      exact ⟨m, o, by simp [Aa.at, Ne.symm c, a], b, g, f.mono (sub_mk w)⟩
  · rcases at_s j k e with ⟨rfl, rfl⟩ | ⟨c, e⟩
    · exact ⟨.ow d, d, by rw [List.getElem?_set_self il], rfl⟩
    · obtain ⟨s, d', a, b⟩ := rn.dom j k e
      exact ⟨s, d', by rw [List.getElem?_set_ne (Ne.symm c)]; exact a, b⟩
  · rcases at_s j m a with ⟨rfl, rfl⟩ | ⟨c1, e1⟩ <;> rcases at_s k _ b with ⟨rfl, e3⟩ | ⟨c2, e2⟩
    · rfl
    · exact absurd e2 (an k)
    · subst e3; exact absurd e1 (an j)
    · exact rn.inj j k m e1 e2
  · rcases at_s j m e with ⟨rfl, rfl⟩ | ⟨c, e⟩
    · exact nt
    · exact fun z => rn.ta j m e (t m z)
theorem Fx.setO {i n : Nat} {s : Option PS} (f : Fx A A π π1 h h1) (l : h.length ≤ n) (nio : isIo π1 i = false) : Fx A (A.at i n) π (π1.set i s) h h1 := by
  refine ⟨f.le, f.keep, fun j m e => ?_, fun j d e => ?_⟩
  · unfold Aa.at at e
    split at e
    · cases e; exact .inr l
    · exact .inl ⟨j, e⟩
  · obtain ⟨_, d', e'⟩ := f.io j d e
    have c : i ≠ j := fun c => by subst c; exact isIo_f nio e'
    exact ⟨by simp [Aa.at, Ne.symm c], d', by rw [List.getElem?_set_ne c]; exact e'⟩
theorem Fx.setI' {i : Nat} {s : Option PS} (f : Fx A A π π1 h h1) (nio : isIo π1 i = false) : Fx A (A.no i) π (π1.set i s) h h1 := f.tr (Fx.setI nio)
theorem gos_num {L0 : Nat} {x : O} {o : PO} (rn0 : Rn T A h ρ π) (f : Fx A A π π1 h h1) (rn : Rn T2 A h1 ρ π1) (t : ∀ n, T n → T2 n) (tl : ∀ n, T n → n < L0) (rx : RO h1 A T T2 L0 x o)
    {k : Val → MH → Out} {g : PV → PEn → POut} (c : ∀ v h2 d, Fx A A π π1 h h2 → Rn T A h2 ρ π1 → Im h2 (Av A T) v d → GoS T A h π (k v h2) (g d π1)) :
    GoS T A h π (k (num x h1).1 (num x h1).2) ((poI o π1).out g) := by
  cases o with
  | im d =>
    obtain ⟨v, rfl, r⟩ := rx
    exact c v h1 d f (rn.weak t) (r.weak (Av.sub t))
  | ow d =>
    rcases rx with ⟨xs, ds, rfl, rfl, r⟩ | ⟨n, ob, rfl, tn, an, l, e, r⟩
    · refine c (.ref h1.length) (h1 ++ [.lst xs]) (.lst ds) (f.tr (Fx.app _)) ((rn.weak t).keep app_keep) (.ref (fun z => ?_) (new_ref' _ _) ?_)
      · exact absurd ((rn.weak t).av_lt z) (Nat.lt_irrefl _)
      · exact r.mono fun n o z w => ⟨app_keep n o w, fun q => z (Av.sub t n q)⟩
    · refine c (.ref n) h1 d f (rn.weak t) (OC.im (r.mono (sub_mk (Av.sub t))) (fun z => ?_) e)
      rcases z with ⟨i, z⟩ | z
      · exact an i z
      · exact absurd (tl n z) (Nat.not_lt.mpr l)
  | br i => trivial
theorem pu_set (i : Nat) {d : D} {p : PD} (a : PuE d p) : PuS (sSet i d) (pSet i p) := fun T A h ρ π rn =>
  Go.out rn (a T A h ρ π rn) fun x h1 T2 o π1 fx t tq rn1 rx =>
    gos_num rn fx rn1 t rn.tl rx (k := fun v h1 => .nx (ρ.set i (some v)) h1) fun v h2 d f2 rn2 r => by
      cases e : isIo π1 i with
      | true => simp only [if_true]; trivial
      | false =>
        simp only [Bool.false_eq_true, if_false]
        exact ⟨_, h2, rfl, A.no i, f2.setI' e, rn2.setI r⟩
theorem Rn.addT {n : Nat} (rn : Rn T A h ρ π) (l : h.length ≤ n) {h2 : MH} (k : ∀ (n : Nat) (o : Ob), h[n]? = some o → h2[n]? = some o) (ln : n < h2.length) (sub : ∀ m, T2 m → T m ∨ m = n) : Rn T2 A h2 ρ π := by
  have rk := rn.keep k
  have w : ∀ m o, ¬ Av A T m → h[m]? = some o → h2[m]? = some o ∧ ¬ Av A T2 m := fun m o z e => ⟨k m o e, fun q => by
    rcases q with ⟨i, q⟩ | q
    · exact z (.inl ⟨i, q⟩)
    · rcases sub m q with q | rfl
      · exact z (.inr q)
      · have := lt_of_get e; omega⟩
  refine ⟨rn.len, fun i d e => ?_, fun i s d e q => ?_, rn.dom, rn.inj, fun m z => ?_, fun i m e z => ?_⟩
  · obtain ⟨v, a, b⟩ := rn.im i d e
    exact ⟨v, a, b.mono w⟩
  · obtain ⟨m, o, a, b, c, f⟩ := rn.ow i s d e q
    exact ⟨m, o, a, b, k _ _ c, f.mono w⟩
  · rcases sub m z with z | rfl
    · exact rk.tl m z
    · exact ln
  · rcases sub m z with z | rfl
    · exact rn.ta i m e z
    · have := rn.lt e; omega
theorem pu_setO (i : Nat) {d : D} {p : PD} (a : PuE d p) : PuS (sSet i d) (pSetO i p) := fun T A h ρ π rn =>
  Go.out rn (a T A h ρ π rn) fun x h1 T2 o π1 fx t tq rn1 rx => by
    cases o with
    | im d => trivial
    | br j => trivial
    | ow d =>
      simp only
      by_cases c : isIo π1 i = true ∨ π1.length ≤ i
      · rw [if_pos c]; trivial
      · rw [if_neg c]
        have io : isIo π1 i = false := by
          cases q : isIo π1 i with
          | false => rfl
          | true => exact absurd (.inl q) c
        have il : i < π1.length := Nat.lt_of_not_le fun q => c (.inr q)
        rcases rx with ⟨xs, ds, rfl, rfl, r⟩ | ⟨n, ob, rfl, tn, an, l, e, r⟩
        · have fx2 : Fx A A π π1 h (h1 ++ [.lst xs]) := fx.tr (Fx.app _)
          refine ⟨_, _, rfl, A.at i h1.length, fx2.setO fx.le io, ?_⟩
          have r1 := rn1.weak t
          refine Rn.setO (T2 := fun m => T m ∨ m = h1.length) (r1.addT (h2 := h1 ++ [Ob.lst xs]) (Nat.le_refl _) app_keep (by simp) fun m z => z) (fun m z => .inl z) (.inr rfl) (fun j e => ?_) (fun z => ?_) (new_ref' _ _) ?_ io il
          · exact absurd (r1.lt e) (Nat.lt_irrefl _)
          · exact absurd (r1.tl _ z) (Nat.lt_irrefl _)
          · refine Ims.mono (fun m o z e => ⟨app_keep m o e, fun q => ?_⟩) r
            rcases q with q | q | rfl
            · exact z (.inl q)
            · exact z (.inr (t m q))
            · have := lt_of_get e; omega
        · refine ⟨_, _, rfl, A.at i n, fx.setO l io, rn1.setO t tn an (fun z => ?_) e r io il⟩
          exact absurd (rn.tl n z) (Nat.not_lt.mpr l)
theorem pu_ret {d : D} {p : PD} (a : PuE d p) : PuS (sRet d) (pRet p) := fun T A h ρ π rn =>
  Go.out rn (a T A h ρ π rn) fun x h1 T2 o π1 fx t tq rn1 rx => by
    cases o with
    | im d =>
      obtain ⟨v, rfl, r⟩ := rx
      exact ⟨v, h1, ρ, A, T2, rfl, fx, t, rn1, r, fun n z => (tq n z).imp id .inl⟩
    | ow d =>
      rcases rx with ⟨xs, ds, rfl, rfl, r⟩ | ⟨n, ob, rfl, tn, an, l, e, r⟩
      · have r1 := rn1.weak t
        refine ⟨.ref h1.length, h1 ++ [.lst xs], ρ, A, fun m => T m ∨ m = h1.length, rfl, fx.tr (Fx.app _), fun n z => .inl z, r1.addT (Nat.le_refl _) app_keep (by simp) fun m z => z, ⟨_, _, rfl, .inr rfl, fun j e => ?_, new_ref' _ _, ?_, .inl fx.le⟩, fun n z => z.imp id fun q => .inl (by rw [q]; exact fx.le)⟩
        · exact absurd (r1.lt e) (Nat.lt_irrefl _)
        · refine Ims.mono (fun m o z e => ⟨app_keep m o e, fun q => ?_⟩) r
          rcases q with q | q | rfl
          · exact z (.inl q)
          · exact z (.inr (t m q))
          · have := lt_of_get e; omega
      · exact ⟨.ref n, h1, ρ, A, T2, rfl, fx, t, rn1, ⟨n, ob, rfl, tn, an, e, r, .inl l⟩, fun m z => (tq m z).imp id .inl⟩
    | br i =>
      obtain ⟨n, rfl, an⟩ := rx
      unfold retO
      cases e : ps π1 i with
      | none => simp only [e]; trivial
      | some s =>
        cases s with
        | im d => simp only [e]; trivial
        | io d => simp only [e]; trivial
        | ow d =>
          simp only [e]
          have r1 := rn1.weak t
          have e' := ps_some e
          obtain ⟨n', ob, a1, a2, a3, a4⟩ := r1.ow i _ d e' rfl
          rw [an] at a1; cases a1
          have io : isIo π1 i = false := by simp [isIo, e]
          have w : ∀ m, Av (A.no i) (fun m => T m ∨ m = n) m → Av A T m := fun m z => by
            rcases z with ⟨j, z⟩ | z | rfl
            · exact .inl ⟨j, (Aa.no_s z).2⟩
            · exact .inr z
            · exact .inl ⟨i, an⟩
          have ne : ∀ j k, A.no i j = some k → k ≠ n := fun j k z q => by
            subst q
            have := Aa.no_s z
            exact this.1 (r1.inj j i k this.2 an)
          refine ⟨.ref n, h1, ρ, A.no i, fun m => T m ∨ m = n, rfl, fx.setI' io, fun m z => .inl z, ⟨by simp [r1.len], fun j d' q => ?_, fun j s d' q w' => ?_, fun j k z => ?_, fun j k m z1 z2 => r1.inj j k m (Aa.no_s z1).2 (Aa.no_s z2).2, fun m z => ?_, fun j m z q => ?_⟩, ⟨n, ob, rfl, .inr rfl, fun j z => ne j n z rfl, a3, a4.mono (sub_mk w), Nio.pre r1 fx (.inr ⟨i, d, an, e'⟩) rn.dom⟩, fun m z => z.imp id fun q => ?_⟩
          · by_cases c : i = j
            · subst c
              rw [List.getElem?_set_self (by have := lt_of_get e'; exact this)] at q
              cases q
            · rw [List.getElem?_set_ne c] at q
              obtain ⟨u, a, b⟩ := r1.im j d' q
              exact ⟨u, a, b.weak w⟩
          · by_cases c : i = j
            · subst c
              rw [List.getElem?_set_self (by have := lt_of_get e'; exact this)] at q
              cases q
            · rw [List.getElem?_set_ne c] at q
              obtain ⟨m, o, a, b, g, f⟩ := r1.ow j s d' q w'
              exact ⟨m, o, by simp [Aa.no, Ne.symm c, a], b, g, f.mono (sub_mk w)⟩
          · obtain ⟨c, z⟩ := Aa.no_s z
            obtain ⟨s, d', a, b⟩ := r1.dom j k z
            exact ⟨s, d', by rw [List.getElem?_set_ne (Ne.symm c)]; exact a, b⟩
          · rcases z with z | rfl
            · exact r1.tl m z
            · exact lt_of_get a3
          · rcases q with q | rfl
            · exact r1.ta j m (Aa.no_s z).2 q
            · exact ne j m z rfl
          · subst q
            exact Nio.pre r1 fx (.inr ⟨i, d, an, e'⟩) rn.dom
theorem pu_frz (i : Nat) {s : SD} {p : PSD} (a : PuS s p) : PuS s (pFrz i p) := fun T A h ρ π rn => by
  unfold pFrz frz
  cases e : ps π i with
  | none => exact a T A h ρ π rn
  | some s =>
    cases s with
    | im d => exact a T A h ρ π rn
    | io d => exact a T A h ρ π rn
    | ow d =>
      simp only
      have e' := ps_some e
      obtain ⟨n, ob, a1, a2, a3, a4⟩ := rn.ow i _ d e' rfl
      have io : isIo π i = false := by simp [isIo, e]
      have r : Im h (Av (A.no i) T) (.ref n) d := OC.im (a4.mono (sub_mk no_av)) (fun z => by
        rcases z with ⟨j, z⟩ | z
        · have := Aa.no_s z
          exact this.1 (rn.inj j i n this.2 a1)
        · exact rn.ta i n a1 z) a3
      have rn2 : Rn T (A.no i) h ρ (π.set i (some (.im d))) := by
        refine ⟨by simp [rn.len], fun j d' q => ?_, fun j s d' q w' => ?_, fun j k z => ?_, fun j k m z1 z2 => rn.inj j k m (Aa.no_s z1).2 (Aa.no_s z2).2, rn.tl, fun j m z => rn.ta j m (Aa.no_s z).2⟩
        · by_cases c : i = j
          · subst c
            rw [List.getElem?_set_self (by have := lt_of_get e'; exact this)] at q
            cases q
            exact ⟨_, a2, r⟩
          · rw [List.getElem?_set_ne c] at q
            obtain ⟨u, a, b⟩ := rn.im j d' q
            exact ⟨u, a, b.weak no_av⟩
        · by_cases c : i = j
          · subst c
            rw [List.getElem?_set_self (by have := lt_of_get e'; exact this)] at q
            cases q; cases w'
          · rw [List.getElem?_set_ne c] at q
            obtain ⟨m, o, a, b, g, f⟩ := rn.ow j s d' q w'
            exact ⟨m, o, by simp [Aa.no, Ne.symm c, a], b, g, f.mono (sub_mk no_av)⟩
        · obtain ⟨c, z⟩ := Aa.no_s z
          obtain ⟨s, d', a, b⟩ := rn.dom j k z
          exact ⟨s, d', by rw [List.getElem?_set_ne (Ne.symm c)]; exact a, b⟩
      exact (a T (A.no i) h ρ _ rn2).from rn2 rn.dom (Fx.setI io)
end
end Pq

namespace Pq
open PySem L2 Mi
abbrev PTD := PV → PEn → Option PEn
def pset : List Nat → List PV → PEn → Option PEn
  | [], [], π => some π
  | i :: is, d :: ds, π => if isIo π i = true then none else pset is ds (π.set i (some (.im d)))
  | _, _, _ => none
def pnt : NT → PV → PEn → Option PEn
  | .nm i, d, π => if isIo π i = true then none else some (π.set i (some (.im d)))
  | .tp is, .tup ds, π => pset is ds π
  | .tp is, .lst ds, π => pset is ds π
  | .tp _, _, _ => none
def setIxP : PV → PV → PV → Option PV
  | .lst ds, .int j, z => (ixN ds.length j).map fun k => .lst (ds.set k z)
  | .dct (.kt [.kt []] :: ks) vs, y, z => if keyS y = true ∧ vs.length < 16777216 then some (.dct (.kt [.kt []] :: dputK ks y) (dputV ks vs y z)) else none
  | .dct (.kt [] :: ks) vs, y, z => if keyT y = true ∧ vs.length < 16777216 then some (.dct (.kt [] :: dputK ks y) (dputV ks vs y z)) else none
  | _, _, _ => none
def pgSub (i : Nat) (p : PD) : PTD := fun d π => match p π with
  | .ok (.im y) π1 => match ps π1 i with
    | some s => match s.own with
      | some c => match setIxP c y d with
        | some c' => some (π1.set i (some (s.put c')))
        | none => none
      | none => none
    | none => none
  | _ => none
def prunT : List PTD → List PV → PEn → Option PEn
  | [], [], π => some π
  | t :: ts, d :: ds, π => match t d π with
    | some π1 => prunT ts ds π1
    | none => none
  | _, _, _ => none
def pgT (ts : List PTD) : PTD := fun d π => match d with
  | .tup ds => prunT ts ds π
  | _ => none
def onT (o : Option PEn) : POut := match o with
  | some π => .nx π
  | none => .bad
def pAsg (p : PD) (g : PTD) : PSD := fun π => (p π).out fun o π1 => (poI o π1).out fun d π1 => onT (g d π1)
def pPar (is : List Nat) (p : PDV) : PSD := fun π => (p π).out fun ds π1 => onT (pset is ds π1)
def pAug (i : Nat) (f : PV → PV → Option PO) (p : PD) : PSD := fun π => ((pVar i π).bind fun x π1 => (p π1).bind fun y π2 => see2 f x y π2).out fun o π1 => (poI o π1).out fun d π1 => if isIo π1 i = true then .bad else .nx (π1.set i (some (.im d)))
def pMt (i : Nat) (g : List PV → List PV → Option (PV × List PV)) (p : PDV) : PD := fun π => match ps π i with
  | some s0 => match s0.own with
    | some (.lst _) => (p π).bind fun ds π1 => match ps π1 i with
      | some s => match s.own with
        | some (.lst c) => match g c ds with
          | some (r, c') => .ok (.im r) (π1.set i (some (s.put (.lst c'))))
          | none => .bad
        | _ => .bad
      | none => .bad
    | _ => .bad
  | none => .bad
section
variable {α β : Type} {rel : Rs α β} {T Tm T2 : Nat → Prop} {A A' : Aa} {L Lm : Nat} {ρ ρ' : En} {h h1 h' : MH} {π π1 π' : PEn}
theorem put_own {s : PS} {c d : PV} (e : s.own = some c) : (s.put d).own = some d := by cases s <;> first | rfl | cases e
theorem Rn.put {i n : Nat} {s : PS} {c c' : PV} {o' : Ob} (rn : Rn T A h ρ π) (e : ps π i = some s) (eo : s.own = some c) (an : A i = some n) (oc : OC h (Av A T) o' c') :
    Rn T A (h.set n o') ρ (π.set i (some (s.put c'))) := by
  have e' := ps_some e
  have k : ∀ (m : Nat) (o : Ob), ¬ Av A T m → h[m]? = some o → (h.set n o')[m]? = some o ∧ ¬ Av A T m := fun m o z w => ⟨by
    have : n ≠ m := fun q => z (.inl ⟨i, by rw [← q]; exact an⟩)
    rw [List.getElem?_set_ne this]; exact w, z⟩
  refine ⟨by rw [List.length_set]; exact rn.len, fun j d q => ?_, fun j s' d q w => ?_, fun j m z => ?_, rn.inj, fun m z => by rw [List.length_set]; exact rn.tl m z, rn.ta⟩
  · by_cases c : i = j
    · subst c
      rw [List.getElem?_set_self (lt_of_get e')] at q
      cases s with
      | im _ => cases eo
      | ow _ => simp [PS.put] at q
      | io _ => simp [PS.put] at q
    · rw [List.getElem?_set_ne c] at q
      obtain ⟨v, a, b⟩ := rn.im j d q
      exact ⟨v, a, b.mono k⟩
  · by_cases c : i = j
    · subst c
      rw [List.getElem?_set_self (lt_of_get e')] at q
      cases q
      rw [put_own eo] at w; cases w
      obtain ⟨m, ob, a, b, c, d⟩ := rn.ow i s _ e' eo
      rw [an] at a; cases a
      exact ⟨n, o', an, b, by rw [List.getElem?_set_self (lt_of_get c)], oc.mono k⟩
    · rw [List.getElem?_set_ne c] at q
      obtain ⟨m, ob, a, b, g, f⟩ := rn.ow j s' d q w
      have : n ≠ m := fun z => c (rn.inj i j n an (by rw [z]; exact a))
      exact ⟨m, ob, a, b, by rw [List.getElem?_set_ne this]; exact g, f.mono k⟩
  · by_cases c : i = j
    · subst c
      exact ⟨_, c', by rw [List.getElem?_set_self (lt_of_get e')], put_own eo⟩
    · rw [List.getElem?_set_ne c]
      exact rn.dom j m z
theorem Fx.put {i n : Nat} {s : PS} {c c' : PV} {o' : Ob} (rn : Rn T A h ρ π) (e : ps π i = some s) (eo : s.own = some c) (an : A i = some n) : Fx A A π (π.set i (some (s.put c'))) h (h.set n o') := by
  refine ⟨by simp, fun m l q => ?_, fun j m e => .inl ⟨j, e⟩, fun j d q => ⟨rfl, ?_⟩⟩
  · have : n ≠ m := fun z => q i (by rw [← z]; exact an)
    rw [List.getElem?_set_ne this]
  · by_cases w : i = j
    · subst w
      have := ps_some e
      rw [q] at this; cases this
      exact ⟨c', by rw [List.getElem?_set_self (lt_of_get q)]; rfl⟩
    · exact ⟨d, by rw [List.getElem?_set_ne w]; exact q⟩
theorem pset_ok : ∀ {is : List Nat} {ds : List PV} {vs : List Val} {A : Aa} {ρ : En} {π : PEn}, Rn T A h ρ π → Ims h (Av A T) vs ds → pset is ds π = some π' → ∃ ρ' A', setN is vs ρ = some ρ' ∧ Fx A A' π π' h h ∧ Rn T A' h ρ' π'
  | [], [], _, A, ρ, π, rn, .nil, e => by cases e; exact ⟨ρ, A, rfl, Fx.refl, rn⟩
  | [], _ :: _, _, _, _, _, _, _, e => by simp [pset] at e
  | _ :: _, [], _, _, _, _, _, _, e => by simp [pset] at e
  | i :: is, d :: ds, _, A, ρ, π, rn, .cons r rs, e => by
    simp only [pset] at e
    split at e
    · cases e
    · rename_i io
      have io : isIo π i = false := by simpa using io
      obtain ⟨ρ', A', a, b, c⟩ := pset_ok (rn.setI r) (rs.weak no_av) e
      exact ⟨ρ', A', a, (Fx.setI io).tr b, c⟩
theorem pnt_ok {nt : NT} {d : PV} {v : Val} (rn : Rn T A h ρ π) (r : Im h (Av A T) v d) (e : pnt nt d π = some π') : ∃ ρ' A', nt.run v ρ h = some ρ' ∧ Fx A A' π π' h h ∧ Rn T A' h ρ' π' := by
  cases nt with
  | nm i =>
    simp only [pnt] at e
    split at e
    · cases e
    · rename_i io
      have io : isIo π i = false := by simpa using io
      cases e
      exact ⟨_, A.no i, rfl, Fx.setI io, rn.setI r⟩
  | tp is =>
    cases d <;> simp only [pnt, reduceCtorEq] at e
    · cases r with
      | tup r => exact pset_ok rn r e
    · cases r with
      | ref q1 q2 r =>
        simp only [NT.run, q2]
        exact pset_ok rn r e
def PuG (t : TD) (p : PTD) : Prop := ∀ T A h ρ π v d π', Rn T A h ρ π → Im h (Av A T) v d → p d π = some π' → ∃ ρ' h', t v ρ h = .nx ρ' h' ∧ Nx T A h π π' ρ' h'
theorem pu_gN (nt : NT) : PuG (tdN nt) (pnt nt) := fun T A h ρ π v d π' rn r e => by
  obtain ⟨ρ', A', a, b, c⟩ := pnt_ok rn r e
  exact ⟨ρ', h, by simp only [tdN, a], A', b, c⟩
theorem put_K {S : Nat → Prop} {kvs : List (Val × Val)} {ks vs : List PV} {y z : Val} {dy dz : PV} (k1 : Ims h S (kvs.map (·.1)) ks) (k2 : Ims h S (kvs.map (·.2)) vs) (ry : Im h S y dy) (rz : Im h S z dz) (hk : keyS dy = true) :
    Ims h S ((putD kvs y z).map (·.1)) (dputK ks dy) ∧ Ims h S ((putD kvs y z).map (·.2)) (dputV ks vs dy dz) := by
  have tt2 : ∀ p ∈ kvs, ∀ k, Im h S ((fun z : Val => z) p.1) k → (fun z : Val => keyEq z y) p.1 = decide (k = dy) := fun p _ k ik => key_iff ik ry hk
  have ha := any_g (f := fun z : Val => z) (t := fun z => keyEq z y) k1 tt2
  unfold putD dputK dputV
  rw [ha]
  by_cases q : dy ∈ ks
  · simp only [decide_eq_true q, if_true, if_pos q]
    exact repl_g (f := fun z : Val => z) (t := fun z => keyEq z y) rz k1 k2 tt2
  · simp only [decide_eq_false q, Bool.false_eq_true, if_false, if_neg q, List.map_append, List.map_cons, List.map_nil]
    exact ⟨k1.append (.cons ry .nil), k2.append (.cons rz .nil)⟩
theorem put_T {S : Nat → Prop} {kvs : List (List Val × Val)} {ks vs : List PV} {ys : List Val} {z : Val} {es : List PV} {dz : PV} (k1 : Ims h S (kvs.map fun p => .tup p.1) ks) (k2 : Ims h S (kvs.map (·.2)) vs) (ry : Ims h S ys es) (rz : Im h S z dz) (hk : es.all keyS = true) :
    Ims h S ((putT kvs ys z).map fun p => .tup p.1) (dputK ks (.tup es)) ∧ Ims h S ((putT kvs ys z).map (·.2)) (dputV ks vs (.tup es) dz) := by
  have tt2 : ∀ p ∈ kvs, ∀ k, Im h S ((fun z : List Val => Val.tup z) p.1) k → (fun z : List Val => keysEq z ys) p.1 = decide (k = .tup es) := tup_test (α := Nat) ry hk
  have ha := any_g (f := fun z : List Val => .tup z) (t := fun z => keysEq z ys) k1 tt2
  unfold putT dputK dputV
  rw [ha]
  by_cases q : PV.tup es ∈ ks
  · simp only [decide_eq_true q, if_true, if_pos q]
    exact repl_g (f := fun z : List Val => .tup z) (t := fun z => keysEq z ys) rz k1 k2 tt2
  · simp only [decide_eq_false q, Bool.false_eq_true, if_false, if_neg q, List.map_append, List.map_cons, List.map_nil]
    exact ⟨k1.append (.cons (.tup ry) .nil), k2.append (.cons rz .nil)⟩
theorem setIx_ok {i n : Nat} {s : PS} {c c' : PV} {y z : Val} {dy dz : PV} {S : Nat → Prop} (o : Ob) (a : h[n]? = some o) (oc : OC h S o c) (ry : Im h S y dy) (rz : Im h S z dz) (e : setIxP c dy dz = some c') : ∃ o', fSetIx (.ref n) y z h = some (h.set n o') ∧ OC h S o' c' := by
  unfold setIxP at e
  split at e
  · simp only [Option.map_eq_some_iff] at e
    obtain ⟨k, e, rfl⟩ := e
    cases ry
    obtain ⟨xs, rfl, r⟩ := oc.lst
    exact ⟨.lst (xs.set k z), by simp only [fSetIx, a, r.length, e], Ims.set rz k r⟩
  · rename_i ks vs
    split at e
    · rename_i hk
      cases e
      obtain ⟨kl, vl, b, c1, c2⟩ := oc.dct
      rcases dct_cases a b c1 c2 with ⟨kvs, t, rfl, ht, k1, k2⟩ | ⟨kvs, t, rfl, ht, k1, k2⟩
      · cases ht
        have ll : kvs.length < 16777216 := by rw [← List.length_map (as := kvs) (f := (·.2)), k2.length]; exact hk.2
        refine ⟨.dK (putD kvs y z), by simp only [fSetIx, a, isKey_of ry hk.1, ll, and_self, if_true], ?_⟩
        obtain ⟨p1, p2⟩ := put_K k1 k2 ry rz hk.1
        exact ⟨_, _, rfl, .cons (.kt (.cons (.kt .nil) .nil)) p1, p2⟩
      · cases ht
    · cases e
  · rename_i ks vs
    split at e
    · rename_i hk
      cases e
      obtain ⟨kl, vl, b, c1, c2⟩ := oc.dct
      rcases dct_cases a b c1 c2 with ⟨kvs, t, rfl, ht, k1, k2⟩ | ⟨kvs, t, rfl, ht, k1, k2⟩
      · cases ht
      · cases ht
        have ll : kvs.length < 16777216 := by rw [← List.length_map (as := kvs) (f := (·.2)), k2.length]; exact hk.2
        obtain ⟨ys, es, rfl, rfl, r, hk1⟩ := kt_keyT ry hk.1
        refine ⟨.dT (putT kvs ys z), by simp only [fSetIx, a, isKeys_of r hk1, ll, and_self, if_true], ?_⟩
        obtain ⟨p1, p2⟩ := put_T k1 k2 r rz hk1
        exact ⟨_, _, rfl, .cons (.kt .nil) p1, p2⟩
    · cases e
  · cases e
theorem pu_gSub (i : Nat) {d : D} {p : PD} (hp : PuE d p) : PuG (tdSub (dVar i) d) (pgSub i p) := fun T A h ρ π v dd π' rn r e => by
  unfold pgSub at e
  have g := hp T A h ρ π rn
  split at e
  · rename_i y π1 ep
    rw [ep] at g
    obtain ⟨x, h1, T2, e1, fx, ⟨t, tq⟩, rn1, vy, rfl, ry⟩ := g
    split at e
    · rename_i s es
      split at e
      · rename_i c ec
        split at e
        · rename_i c' e2
          cases e
          have rn1 := rn1.weak t
          have r1 := r.mono (fx.kp (T := T))
          obtain ⟨n, o, a1, a2, a3, a4⟩ := rn1.ow i s c (ps_some es) ec
          obtain ⟨o', f1, f2⟩ := setIx_ok (i := i) (s := s) o a3 a4 (ry.weak (Av.sub t)) r1 e2
          refine ⟨ρ, h1.set n o', ?_, A, fx.tr (Fx.put rn1 es ec a1), rn1.put es ec a1 f2⟩
          have dv : dVar i ρ h = .ok (.v (.ref n)) h := by simp [dVar, a2]
          simp only [tdSub, dv, e1, f1]
        · cases e
      · cases e
    · cases e
  · cases e
inductive PuGs : List TD → List PTD → Prop
  | nil : PuGs [] []
  | cons {t : TD} {ts : List TD} {p : PTD} {ps : List PTD} : PuG t p → PuGs ts ps → PuGs (t :: ts) (p :: ps)
theorem runT_ok {ts : List TD} {pts : List PTD} (g : PuGs ts pts) : ∀ {vs : List Val} {ds : List PV} {A : Aa} {h : MH} {ρ : En} {π π' : PEn}, Rn T A h ρ π → Ims h (Av A T) vs ds → prunT pts ds π = some π' → vs.length = ts.length ∧ ∃ ρ' h', runT ts vs ρ h = .nx ρ' h' ∧ Nx T A h π π' ρ' h' := by
  induction g with
  | nil =>
    intro vs ds A h ρ π π' rn r e
    cases ds with
    | nil => cases e; cases r; exact ⟨rfl, ρ, h, rfl, A, Fx.refl, rn⟩
    | cons => simp [prunT] at e
  | cons gt gs ih =>
    intro vs ds A h ρ π π' rn r e
    cases r with
    | nil => simp [prunT] at e
    | cons r rs =>
      simp only [prunT] at e
      split at e
      · rename_i π1 e1
        obtain ⟨ρ1, h1, a, A1, f, rn1⟩ := gt _ _ _ _ _ _ _ _ rn r e1
        obtain ⟨l, ρ2, h2, b, A2, f2, rn2⟩ := ih rn1 (rs.mono f.kp) e
        exact ⟨by simp [l], ρ2, h2, by simp only [runT, a, b], A2, f.tr f2, rn2⟩
      · cases e
theorem pu_gT {ts : List TD} {pts : List PTD} (g : PuGs ts pts) : PuG (tdT ts) (pgT pts) := fun T A h ρ π v d π' rn r e => by
  unfold pgT at e
  split at e
  · cases r with
    | tup r =>
      obtain ⟨l, ρ', h', a, b⟩ := runT_ok g rn r e
      exact ⟨ρ', h', by simp only [tdT, l, if_true, a], b⟩
  · cases e
theorem pu_asg {d : D} {p : PD} {t : TD} {g : PTD} (a : PuE d p) (b : PuG t g) : PuS (sAsg d t) (pAsg p g) := fun T A h ρ π rn =>
  Go.out rn (a T A h ρ π rn) fun x h1 T2 o π1 fx t' tq rn1 rx =>
    gos_num rn fx rn1 t' rn.tl rx (k := fun v h1 => match t v ρ h1 with
      | .nx ρ2 h2 => .nx ρ2 h2
      | _ => .bad) fun v h2 d f2 rn2 r => by
      unfold onT
      cases e : g d π1 with
      | none => trivial
      | some π2 =>
        obtain ⟨ρ', h', q, z⟩ := b _ _ _ _ _ _ _ _ rn2 r e
        refine ⟨ρ', h', ?_, z.pre f2⟩
        simp only [q]
theorem pu_par (is : List Nat) {ds : DV} {p : PDV} (a : PuV ds p) : PuS (sPar is ds) (pPar is p) := fun T A h ρ π rn =>
  Go.out rn (a T A h ρ π rn) fun xs h1 T2 os π1 fx t tq rn1 rx => by
    unfold onT
    cases e : pset is os π1 with
    | none => trivial
    | some π2 =>
      obtain ⟨ρ', A', q, f, r⟩ := pset_ok (rn1.weak t) rx e
      refine ⟨ρ', h1, ?_, A', fx.tr f, r⟩
      simp only [q]
def FL (f : List Val → List Val → Option (Val × List Val)) (g : List PV → List PV → Option (PV × List PV)) : Prop :=
  ∀ (h : MH) (S : Nat → Prop) (xs : List Val) (ds : List PV) (as : List Val) (es : List PV) (r : PV) (c : List PV), Ims h S xs ds → Ims h S as es → g ds es = some (r, c) → ∃ rv xs', f xs as = some (rv, xs') ∧ Im h S rv r ∧ Ims h S xs' c
theorem pu_mt (i : Nat) {f : List Val → List Val → Option (Val × List Val)} {g : List PV → List PV → Option (PV × List PV)} (hf : FL f g) {ds : DV} {p : PDV} (a : PuV ds p) : PuE (dMt isL (onL f) (dVar i) ds) (pMt i g p) := fun T A h ρ π rn => by
  unfold pMt
  split
  · rename_i s0 e0
    split
    · rename_i c0 o0
      obtain ⟨n, o, a1, a2, a3, a4⟩ := rn.ow i s0 _ (ps_some e0) o0
      obtain ⟨xs0, rfl, r0⟩ := a4.lst
      have dv : dVar i ρ h = .ok (.v (.ref n)) h := by simp [dVar, a2]
      have il : isL (.ref n) h = true := by simp [isL, a3]
      have ed : dMt isL (onL f) (dVar i) ds ρ h = (ds ρ h).bind fun xs h2 => onL f (.ref n) xs h2 := by
        simp only [dMt, dv, R.bind, num, il, if_true]
      rw [ed]
      refine Go.bind tt (a T A h ρ π rn) fun xs h1 T2 os π1 fx t tq rn1 rx => ?_
      split
      · rename_i s es
        split
        · rename_i c ec
          split
          · rename_i r c' eg
            have rn1 := rn1.weak t
            obtain ⟨n', o', b1, b2, b3, b4⟩ := rn1.ow i s _ (ps_some es) ec
            rw [a1] at b1; cases b1
            obtain ⟨ys, rfl, ry⟩ := b4.lst
            obtain ⟨rv, xs', f1, f2, f3⟩ := hf h1 (Av A T) ys c xs os r c' ry rx eg
            have fp := Fx.put (c' := .lst c') (o' := .lst xs') rn1 es ec a1
            refine ⟨.v rv, h1.set n (.lst xs'), T, by simp only [onL, b3, f1], fp, ⟨tt, fun _ z => .inl z⟩, rn1.put es ec a1 f3, rv, rfl, ?_⟩
            refine f2.mono fun m o z w => ⟨?_, z⟩
            have : n ≠ m := fun q => z (.inl ⟨i, by rw [← q]; exact a1⟩)
            rw [List.getElem?_set_ne this]; exact w
          · trivial
        · trivial
      · trivial
    · trivial
  · trivial
def qAppend : List PV → List PV → Option (PV × List PV) := fun xs ys => match ys with
  | [y] => if xs.length < 16777216 then some (.non, xs ++ [y]) else none
  | _ => none
theorem fl_append : FL lAppend qAppend := by
  intro h S xs ds as es r c ix ia e
  unfold qAppend at e
  split at e
  · split at e
    · rename_i l
      cases e
      cases ia with
      | cons a b =>
        cases b
        rw [← ix.length] at l
        exact ⟨_, _, by simp only [lAppend, l, if_true], .non, ix.append (.cons a .nil)⟩
    · cases e
  · cases e
def qPop : List PV → List PV → Option (PV × List PV) := fun xs ys => match ys with
  | [] => match xs[xs.length - 1]? with
    | some y => some (y, xs.dropLast)
    | none => none
  | _ => none
theorem fl_pop : FL lPop qPop := by
  intro h S xs ds as es r c ix ia e
  unfold qPop at e
  split at e
  · split at e
    · rename_i y ey
      cases e
      cases ia
      obtain ⟨v, ev, iv⟩ := ix.get ey
      rw [← ix.length] at ev
      exact ⟨_, _, by simp only [lPop, ev], iv, ix.dropLast⟩
    · cases e
  · cases e
def qPopAt : List PV → List PV → Option (PV × List PV) := fun xs ys => match ys with
  | [.int i] => match ixN xs.length i with
    | some k => match xs[k]? with
      | some y => if -9223372036854775808 ≤ i ∧ i < 9223372036854775808 then some (y, xs.eraseIdx k) else none
      | none => none
    | none => none
  | _ => none
theorem fl_popAt : FL lPopAt qPopAt := by
  intro h S xs ds as es r c ix ia e
  unfold qPopAt at e
  split at e
  · split at e
    · rename_i k ek
      split at e
      · rename_i y ey
        split at e
        · rename_i l
          cases e
          cases ia with
          | cons a b =>
            cases b; cases a
            obtain ⟨v, ev, iv⟩ := ix.get ey
            rw [← ix.length] at ek
            exact ⟨v, xs.eraseIdx k, by simp only [lPopAt, ek, ev]; rw [if_pos l], iv, ix.eraseIdx k⟩
        · cases e
      · cases e
    · cases e
  · cases e
def qReverse : List PV → List PV → Option (PV × List PV) := fun xs ys => match ys with
  | [] => some (.non, xs.reverse)
  | _ => none
def qClear : List PV → List PV → Option (PV × List PV) := fun xs ys => match ys with
  | [] => some (.non, [])
  | _ => none
def qInsert : List PV → List PV → Option (PV × List PV) := fun xs ys => match ys with
  | [.int i, y] => if xs.length < 16777216 ∧ 0 ≤ i ∧ i < 9223372036854775808 then some (.non, xs.take i.toNat ++ [y] ++ xs.drop i.toNat) else none
  | _ => none
theorem fl_insert : FL lInsert qInsert := by
  intro h S xs ds as es r c ix ia e
  unfold qInsert at e
  split at e
  · split at e
    · rename_i l
      cases e
      cases ia with
      | cons a b =>
        cases a
        cases b with
        | cons b q =>
          cases q
          rw [← ix.length] at l
          exact ⟨_, _, by simp only [lInsert]; rw [if_pos l], .non, ((ix.take _).append (.cons b .nil)).append (ix.drop _)⟩
    · cases e
  · cases e
mutual
def PV.flat : PV → Bool
  | .non => true
  | .bl _ => true
  | .int _ => true
  | .str _ => true
  | .tup xs => PV.flats xs
  | .frz xs => PV.flats xs
  | .kt xs => PV.flats xs
  | .lst _ => false
  | .dct _ _ => false
  termination_by structural x => x
def PV.flats : List PV → Bool
  | [] => true
  | x :: xs => x.flat && PV.flats xs
  termination_by structural x => x
end
mutual
theorem Im.flat {h h' : MH} {S S' : Nat → Prop} : ∀ {v : Val} {d : PV}, Im h S v d → d.flat = true → Im h' S' v d
  | _, _, .non, _ => .non
  | _, _, .bl b, _ => .bl b
  | _, _, .int b, _ => .int b
  | _, _, .str b, _ => .str b
  | _, _, .tup r, e => .tup (Ims.flat r (by simpa [PV.flat] using e))
  | _, _, .fl r, e => .fl (Ims.flat r (by simpa [PV.flat] using e))
  | _, _, .kt r, e => .kt (Ims.flat r (by simpa [PV.flat] using e))
  | _, _, .ref _ _ _, e => by simp [PV.flat] at e
  | _, _, .dct _ _ _ _ _, e => by simp [PV.flat] at e
theorem Ims.flat {h h' : MH} {S S' : Nat → Prop} : ∀ {v : List Val} {d : List PV}, Ims h S v d → PV.flats d = true → Ims h' S' v d
  | _, _, .nil, _ => .nil
  | _, _, .cons a b, e => by
    simp only [PV.flats, Bool.and_eq_true] at e
    exact .cons (Im.flat a e.1) (Ims.flat b e.2)
end
mutual
theorem Im.one {h h' : MH} {S S' : Nat → Prop} : ∀ {v w : Val} {d : PV}, Im h S v d → Im h' S' w d → d.flat = true → v = w
  | _, _, _, .non, r, _ => by cases r; rfl
  | _, _, _, .bl b, r, _ => by cases r; rfl
  | _, _, _, .int b, r, _ => by cases r; rfl
  | _, _, _, .str b, r, _ => by cases r; rfl
  | _, _, _, .tup a, r, e => by
    cases r with
    | tup r => rw [Ims.one a r (by simpa [PV.flat] using e)]
  | _, _, _, .fl a, r, e => by
    cases r with
    | fl r => rw [Ims.one a r (by simpa [PV.flat] using e)]
  | _, _, _, .kt a, r, e => by
    cases r with
    | kt r => rw [Ims.one a r (by simpa [PV.flat] using e)]
  | _, _, _, .ref _ _ _, _, e => by simp [PV.flat] at e
  | _, _, _, .dct _ _ _ _ _, _, e => by simp [PV.flat] at e
theorem Ims.one {h h' : MH} {S S' : Nat → Prop} : ∀ {v w : List Val} {d : List PV}, Ims h S v d → Ims h' S' w d → PV.flats d = true → v = w
  | _, _, _, .nil, r, _ => by cases r; rfl
  | _, _, _, .cons a b, r, e => by
    simp only [PV.flats, Bool.and_eq_true] at e
    cases r with
    | cons p q => rw [Im.one a p e.1, Ims.one b q e.2]
end
abbrev Wt := List (Nat × List PV)
def okw (w : Wt) (π : PEn) : Bool := w.all fun p => match ps π p.1 with
  | some s => decide (s.own = some (.lst p.2))
  | none => false
abbrev PDI := PEn → PR (List PV × Wt)
def LvOk (A : Aa) (T : Nat → Prop) (h : MH) (w : Wt) (lv : MH → Bool) : Prop := ∀ A' h' ρ' π', (∀ n, n < h.length → (∀ i, A i ≠ some n) → h'[n]? = h[n]?) → (∀ p ∈ w, A' p.1 = A p.1) → Rn T A' h' ρ' π' → okw w π' = true → lv h' = true
def rPDI : Rs (List Val × (MH → Bool)) (List PV × Wt) := fun h A T T2 _ p q => Ims h (Av A T) p.1 q.1 ∧ LvOk A T h q.2 p.2
abbrev PuI (d : DI) (p : PDI) : Prop := Pu rPDI d p
def pForL (nt : NT) (b : PSD) (w : Wt) : List PV → PEn → POut
  | [], π => if okw w π = true then .nx π else .bad
  | d :: ds, π => if okw w π = true then match pnt nt d π with
    | some π1 => match b π1 with
      | .nx π2 => pForL nt b w ds π2
      | .ct π2 => pForL nt b w ds π2
      | .bk π2 => .nx π2
      | o => o
    | none => .bad
    else .bad
def pFor (di : PDI) (nt : NT) (b : PSD) : PSD := fun π => (di π).out fun p π1 => if p.2.all (fun q => isIo π1 q.1) = true then pForL nt b p.2 p.1 π1 else .bad
theorem isIo_t {i : Nat} (e : isIo π i = true) : ∃ d, π[i]? = some (some (PS.io d)) := by
  unfold isIo at e
  split at e
  · rename_i d q; exact ⟨d, ps_some q⟩
  · cases e
theorem for_ok {nt : NT} {b : SD} {pb : PSD} (hb : PuS b pb) {A0 : Aa} {h0 : MH} {π0 : PEn} {w : Wt} {lv : MH → Bool} (dm0 : ∀ i k, A0 i = some k → ∃ s d, π0[i]? = some (some s) ∧ s.own = some d) (l : LvOk A0 T h0 w lv) (wio : ∀ q ∈ w, isIo π0 q.1 = true) :
    ∀ (vs : List Val) (ds : List PV) (A : Aa) (h : MH) (ρ : En) (π : PEn), Fx A0 A π0 π h0 h → Rn T A h ρ π → Ims h (Av A T) vs ds → GoS T A h π (forL nt b lv vs ρ h) (pForL nt pb w ds π)
  | _, _, A, h, ρ, π, f, rn, .nil => by
    unfold pForL forL
    by_cases c : okw w π = true
    · rw [if_pos c]
      have : lv h = true := l A h ρ π f.keep (fun p m => by
        obtain ⟨d, e⟩ := isIo_t (wio p m)
        exact (f.io _ d e).1) rn c
      rw [if_pos this]
      exact GoS.nx0 Fx.refl rn
    · rw [if_neg c]; trivial
  | _, _, A, h, ρ, π, f, rn, .cons (x := x) (xs := xs) (d := d) (ds := ds) r rs => by
    unfold pForL forL
    by_cases c : okw w π = true
    · rw [if_pos c]
      have : lv h = true := l A h ρ π f.keep (fun p m => by
        obtain ⟨d, e⟩ := isIo_t (wio p m)
        exact (f.io _ d e).1) rn c
      rw [if_pos this]
      cases e : pnt nt d π with
      | none => trivial
      | some π1 =>
        obtain ⟨ρ1, A1, e1, f1, rn1⟩ := pnt_ok rn r e
        simp only [e1]
        have g := hb T A1 h ρ1 π1 rn1
        cases q : pb π1 with
        | nx π2 =>
          rw [q] at g
          obtain ⟨ρ2, h2, e2, A2, f2, rn2⟩ := g
          simp only [e2]
          have f3 := f1.tr f2
          exact (for_ok hb dm0 l wio xs ds A2 h2 ρ2 π2 (f.tr f3) rn2 (rs.mono f3.kp)).from rn2 rn.dom f3
        | ct π2 =>
          rw [q] at g
          obtain ⟨ρ2, h2, e2, A2, f2, rn2⟩ := g
          simp only [e2]
          have f3 := f1.tr f2
          exact (for_ok hb dm0 l wio xs ds A2 h2 ρ2 π2 (f.tr f3) rn2 (rs.mono f3.kp)).from rn2 rn.dom f3
        | bk π2 =>
          rw [q] at g
          obtain ⟨ρ2, h2, e2, z⟩ := g
          simp only [e2]
          exact ⟨ρ2, h2, rfl, z.pre f1⟩
        | rt o π2 =>
          rw [q] at g
          have g' : GoS T A h π (b ρ1 h) (.rt o π2) := GoS.from rn1 rn.dom f1 g
          obtain ⟨v, h2, ρ2, A2, T2, e2, z⟩ := g'
          simp only [e2]
          exact ⟨v, h2, ρ2, A2, T2, rfl, z⟩
        | ex k π2 =>
          rw [q] at g
          obtain ⟨ρ2, h2, e2, z⟩ := g
          simp only [e2]
          exact ⟨ρ2, h2, rfl, z.pre f1⟩
        | bad => trivial
    · rw [if_neg c]; trivial
theorem pu_for {di : DI} {pi : PDI} (nt : NT) {b : SD} {pb : PSD} (hi : PuI di pi) (hb : PuS b pb) : PuS (sFor di nt b) (pFor pi nt pb) := fun T A h ρ π rn =>
  Go.out rn (hi T A h ρ π rn) fun p h1 T2 q π1 fx t tq rn1 rx => by
    have r1 := rn1.weak t
    by_cases c : q.2.all (fun q => isIo π1 q.1) = true
    · rw [if_pos c]
      exact (for_ok hb r1.dom rx.2 (fun z m => List.all_eq_true.mp c z m) p.1 q.1 A h1 ρ π1 Fx.refl r1 rx.1).from r1 rn.dom fx
    · rw [if_neg c]; trivial
def pitV (o : PO) : PEn → PR (List PV × Wt) := fun π => match pv π o with
  | some (.str s) => .ok (s.map (fun c => .str [c]), []) π
  | some d => match seqP d with
    | some ds => match o with
      | .br i => if PV.flats ds = true then (match d with
        | .lst _ => .ok (ds, [(i, ds)]) π
        | _ => .bad) else .bad
      | _ => .ok (ds, []) π
    | none => .bad
  | none => .bad
theorem lv_all {w : Wt} : LvOk A T h w (fun _ => true) := fun _ _ _ _ _ _ _ _ => rfl
def wtO (o : PO) (ds : List PV) : Wt := match o with
  | .br i => [(i, ds)]
  | _ => []
theorem live_ok {x : O} {o : PO} {d : PV} {ds : List PV} (rn : Rn T2 A h ρ π) (t : ∀ n, T n → T2 n) (rx : ROw h (Av A T) A x o) (e : pv π o = some d) (es : seqP d = some ds) (fl : ∀ i, o = .br i → PV.flats ds = true ∧ d = .lst ds) :
    ∃ k xs, seqO h x = some (k, xs) ∧ Ims h (Av A T) xs ds ∧ LvOk A T h (wtO o ds) (live x xs) ∧ ∀ s, x ≠ .v (.str s) := by
  obtain ⟨k, xs, sq, ims⟩ := rd_seq (rx.rd rn t e) es
  refine ⟨k, xs, sq, ims, ?_, fun s q => by subst q; simp [seqO] at sq⟩
  intro A' h' ρ' π' kp wa rn' ok
  cases x with
  | n _ => rfl
  | v x =>
    cases x with
    | ref n =>
      have hn : h[n]? = some (.lst xs) := by
        simp only [seqO] at sq
        split at sq
        · rename_i ys q; cases sq; exact q
        · cases sq
      cases o with
      | im d' =>
        obtain ⟨v, q, r⟩ := rx
        cases q
        cases e
        have an : ¬ Av A T n := by cases r <;> assumption
        have := kp n (lt_of_get hn) fun i z => an (.inl ⟨i, z⟩)
        simp [live, this, hn]
      | ow d' =>
        rcases rx with ⟨ys, es, q, _⟩ | ⟨m, ob, q, an, _⟩
        · cases q
        · cases q
          have := kp n (lt_of_get hn) an
          simp [live, this, hn]
      | br i =>
        obtain ⟨m, q, am⟩ := rx
        cases q
        obtain ⟨f1, rfl⟩ := fl i rfl
        have wa := wa (i, ds) (by simp [wtO])
        simp only [okw, wtO, List.all_cons, List.all_nil, Bool.and_true] at ok
        split at ok
        · rename_i s es
          have ok := of_decide_eq_true ok
          obtain ⟨n', o', b1, b2, b3, b4⟩ := rn'.ow i s _ (ps_some es) ok
          rw [wa, am] at b1; cases b1
          obtain ⟨ys, rfl, r⟩ := b4.lst
          simp [live, b3, Ims.one r ims f1]
        · cases ok
    | _ => rfl
theorem go_itV {x : O} {o : PO} (rn : Rn T2 A h ρ π) (t : ∀ n, T n → T2 n) (rx : ROw h (Av A T) A x o) : Go rPDI T A L ρ h π (itV x h) (pitV o π) := by
  unfold pitV
  split
  · rename_i s e
    cases rd_str (rx.rd rn t e)
    refine Go.ok (rn.weak t) ⟨?_, lv_all⟩
    simp only
    clear e rx
    induction s with
    | nil => exact .nil
    | cons c s ih => exact .cons (.str _) ih
  · rename_i d hn e
    split
    · rename_i ds es
      have gen : ∀ w : Wt, (w = wtO o ds) → (∀ i, o = .br i → PV.flats ds = true ∧ d = .lst ds) → Go rPDI T A L ρ h π (itV x h) (.ok (ds, w) π) := fun w hw fl => by
        obtain ⟨k, xs, sq, ims, lv, ns⟩ := live_ok rn t rx e es fl
        have : itV x h = .ok (xs, live x xs) h := by
          cases x with
          | n _ => simp only [itV, sq]
          | v x => cases x <;> first | exact absurd rfl (ns _) | simp only [itV, sq]
        rw [this]
        exact Go.ok (rn.weak t) ⟨ims, by rw [hw]; exact lv⟩
      cases o with
      | br i =>
        simp only
        split
        · rename_i f
          split
          · simp only [seqP, Option.some.injEq] at es
            subst es
            exact gen _ rfl fun j q => ⟨f, rfl⟩
          · trivial
        · trivial
      | im d => exact gen _ rfl fun i q => by cases q
      | ow d => exact gen _ rfl fun i q => by cases q
    · trivial
  · trivial
def pdiV (p : PD) : PDI := fun π => (p π).bind pitV
theorem pu_iV {d : D} {p : PD} (a : PuE d p) : PuI (diV d) (pdiV p) := fun T A h ρ π rn =>
  Go.bind tt (a T A h ρ π rn) fun x h1 T2 o π1 fx t tq rn1 rx => go_itV rn1 t (rx.w t)
def rngP (lo : Int) : Nat → List PV
  | 0 => []
  | n + 1 => .int lo :: rngP (lo + 1) n
theorem rng_ims {h : MH} {S : Nat → Prop} : ∀ (n : Nat) (lo : Int), Ims h S (rngF lo n) (rngP lo n)
  | 0, _ => .nil
  | n + 1, lo => .cons (.int lo) (rng_ims n (lo + 1))
def pdiR1 (p : PD) : PDI := fun π => (p π).bind fun o π1 => match o with
  | .im (.int j) => if -4611686018427387904 ≤ j ∧ j < 4611686018427387904 then .ok (rngP 0 j.toNat, []) π1 else .bad
  | _ => .bad
theorem pu_iR1 {d : D} {p : PD} (a : PuE d p) : PuI (diR1 d) (pdiR1 p) := fun T A h ρ π rn =>
  Go.bind tt (a T A h ρ π rn) fun x h1 T2 o π1 fx t tq rn1 rx => by
    cases o with
    | im d =>
      cases d with
      | int j =>
        obtain ⟨v, rfl, r⟩ := rx
        cases r
        simp only
        by_cases c : -4611686018427387904 ≤ j ∧ j < 4611686018427387904
        · rw [if_pos c, if_pos c]
          exact Go.ok (rn1.weak t) ⟨rng_ims _ _, lv_all⟩
        · rw [if_neg c, if_neg c]; trivial
      | _ => trivial
    | _ => trivial
def pdiR2 (p q : PD) : PDI := fun π => (p π).bind fun o π1 => (q π1).bind fun o' π2 => match o, o' with
  | .im (.int i), .im (.int j) => if -4611686018427387904 ≤ i ∧ i < 4611686018427387904 ∧ -4611686018427387904 ≤ j ∧ j < 4611686018427387904 then .ok (rngP i (j - i).toNat, []) π2 else .bad
  | _, _ => .bad
def enumP (n : Nat) : List PV → List PV
  | [] => []
  | x :: xs => .tup [.int n, x] :: enumP (n + 1) xs
theorem enum_ims {h : MH} {S : Nat → Prop} : ∀ {xs : List Val} {ds : List PV} (n : Nat), Ims h S xs ds → Ims h S (enumF n xs) (enumP n ds)
  | _, _, _, .nil => .nil
  | _, _, n, .cons a b => .cons (.tup (.cons (.int _) (.cons a .nil))) (enum_ims (n + 1) b)
def isTup : PV → Bool
  | .tup _ => true
  | _ => false
def penO (o : PO) : PEn → PR (List PV × Wt) := fun π => match pv π o with
  | some (.lst ds) => match o with
    | .br i => if PV.flats ds = true then .ok (enumP 0 ds, [(i, ds)]) π else .bad
    | _ => .ok (enumP 0 ds, []) π
  | some (.frz ds) => match o with
    | .br _ => .bad
    | _ => .ok (enumP 0 ds, []) π
  | _ => .bad
def pdiE (p : PD) : PDI := fun π => (p π).bind penO
theorem pu_iE {d : D} {p : PD} (a : PuE d p) : PuI (diE d) (pdiE p) := fun T A h ρ π rn =>
  Go.bind tt (a T A h ρ π rn) fun x h1 T2 o π1 fx t tq rn1 rx => by
    unfold penO
    cases e : pv π1 o with
    | none => trivial
    | some d =>
      cases d with
      | lst ds =>
        obtain ⟨xs, sq, ims, _⟩ := rd_lst ((rx.w t).rd rn1 t e)
        have gen : ∀ w : Wt, (w = wtO o ds) → (∀ i, o = .br i → PV.flats ds = true ∧ PV.lst ds = .lst ds) → Go rPDI T A h.length ρ h1 π1 (match seqO h1 x with
          | some (.mu, xs) => .ok (enumF 0 xs, live x xs) h1
          | some (.fz, xs) => .ok (enumF 0 xs, live x xs) h1
          | _ => .bad) (.ok (enumP 0 ds, w) π1) := fun w hw fl => by
          obtain ⟨k, ys, sq', ims', lv, ns⟩ := live_ok rn1 t (rx.w t) e rfl fl
          rw [sq] at sq'; cases sq'
          rw [sq]
          exact Go.ok (rn1.weak t) ⟨enum_ims 0 ims, by rw [hw]; exact lv⟩
        cases o with
        | br i =>
          by_cases f : PV.flats ds = true
          · simp only [f, if_true]; exact gen _ rfl fun j q => ⟨f, rfl⟩
          · simp only [f, if_false]; trivial
        | im d => exact gen _ rfl fun i q => by cases q
        | ow d => exact gen _ rfl fun i q => by cases q
      | frz ds =>
        obtain ⟨xs, rfl, ims⟩ := rd_frz ((rx.w t).rd rn1 t e)
        have gen : Go rPDI T A h.length ρ h1 π1 (.ok (enumF 0 xs, live (.v (.fl xs)) xs) h1) (.ok (enumP 0 ds, []) π1) := Go.ok (rn1.weak t) ⟨enum_ims 0 ims, fun _ _ _ _ _ _ _ _ => rfl⟩
        cases o with
        | br i => trivial
        | im d => exact gen
        | ow d => exact gen
      | _ => trivial
def zipP : List PV → List PV → List PV
  | x :: xs, y :: ys => .tup [x, y] :: zipP xs ys
  | _, _ => []
theorem zip_ims {h : MH} {S : Nat → Prop} : ∀ {xs ys : List Val} {ds es : List PV}, Ims h S xs ds → Ims h S ys es → Ims h S (zipF xs ys) (zipP ds es)
  | _, _, _, _, .nil, .nil => .nil
  | _, _, _, _, .nil, .cons _ _ => .nil
  | _, _, _, _, .cons _ _, .nil => .nil
  | _, _, _, _, .cons a b, .cons c d => .cons (.tup (.cons a (.cons c .nil))) (zip_ims b d)
end
end Pq

namespace Pq
open PySem L2 Mi
def wipeP (π : PEn) : List Nat → PEn
  | [] => π
  | v :: vs => (wipeP π vs).set v none
def restP (π1 : PEn) : List Nat → PEn → PEn
  | [], π => π
  | i :: is, π => (restP π1 is π).set i (π1[i]?.getD none)
def notOwn (π : PEn) (i : Nat) : Bool := match ps π i with
  | none => true
  | some (.im _) => true
  | _ => false
def PR.get {α β : Type} (r : PR α) (f : α → PEn → PR β) : PR β := match r with
  | .ok a π => f a π
  | _ => .bad
def pCompL (nt : NT) (own : List Nat) (tst : PDB) (elt : PD) (w : Wt) : List PV → PEn → PR (List PV)
  | [], π => if okw w π = true then .ok [] π else .bad
  | d :: ds, π => if okw w π = true then match pnt nt d π with
    | some π1 => (tst π1).get fun b π2 => if b = true then (elt π2).get fun o π3 => (poI o π3).get fun e π3 => (pCompL nt own tst elt w ds (wipeP π3 own)).get fun es π4 => .ok (e :: es) π4
      else pCompL nt own tst elt w ds (wipeP π2 own)
    | none => .bad
    else .bad
def pComp (own : List Nat) (di : PDI) (nt : NT) (tst : PDB) (elt : PD) : PD := fun π => (di π).bind fun p π1 => if p.1.length ≤ 16777216 ∧ own.all (notOwn π1) = true then (pCompL nt own tst elt p.2 p.1 (wipeP π1 own)).get fun ys π2 => .ok (.ow (.lst ys)) (restP π1 own π2) else .bad
def pYes : PDB := fun π => .ok true π
theorem pu_yes : PuB tYesB pYes := fun T A h ρ π rn => Go.ok rn rfl
section
variable {α β : Type} {T Tm T2 : Nat → Prop} {A A' : Aa} {L Lm : Nat} {ρ ρ' ρ1 : En} {h h1 h' : MH} {π π1 π' : PEn}
theorem wipeP_len : ∀ (own : List Nat), (wipeP π own).length = π.length
  | [] => rfl
  | v :: vs => by simp [wipeP, wipeP_len vs]
theorem wipeE_len : ∀ (own : List Nat), (wipeE ρ own).length = ρ.length
  | [] => rfl
  | v :: vs => by simp [wipeE, wipeE_len vs]
theorem wipeP_get : ∀ {own : List Nat} {j : Nat} {s : PS}, (wipeP π own)[j]? = some (some s) → j ∉ own ∧ π[j]? = some (some s)
  | [], j, s, e => ⟨by simp, e⟩
  | v :: vs, j, s, e => by
    simp only [wipeP] at e
    by_cases c : v = j
    · subst c
      by_cases l : v < (wipeP π vs).length
      · rw [List.getElem?_set_self l] at e; cases e
      · rw [List.getElem?_eq_none (by simpa using l)] at e; cases e
    · rw [List.getElem?_set_ne c] at e
      obtain ⟨a, b⟩ := wipeP_get e
      exact ⟨by simp [a, Ne.symm c], b⟩
theorem wipeP_ne : ∀ {own : List Nat} {j : Nat}, j ∉ own → (wipeP π own)[j]? = π[j]?
  | [], _, _ => rfl
  | v :: vs, j, e => by
    simp only [List.mem_cons, not_or] at e
    simp only [wipeP]
    rw [List.getElem?_set_ne (Ne.symm e.1), wipeP_ne e.2]
theorem wipeE_ne : ∀ {own : List Nat} {j : Nat}, j ∉ own → (wipeE ρ own)[j]? = ρ[j]?
  | [], _, _ => rfl
  | v :: vs, j, e => by
    simp only [List.mem_cons, not_or] at e
    simp only [wipeE]
    rw [List.getElem?_set_ne (Ne.symm e.1), wipeE_ne e.2]
theorem Rn.noA {i : Nat} (rn : Rn T A h ρ π) (e : notOwn π i = true) : A i = none := by
  cases q : A i with
  | none => rfl
  | some n =>
    obtain ⟨s, d, a, b⟩ := rn.dom i n q
    simp only [notOwn, ps_of a] at e
    cases s with
    | im _ => cases b
    | ow _ => simp at e
    | io _ => simp at e
theorem Rn.wipe {own : List Nat} {ρw : En} (rn : Rn T A h ρ1 π1) (ln : ρw.length = ρ1.length) (sm : ∀ j, j ∉ own → ρw[j]? = ρ1[j]?) (na : ∀ j ∈ own, A j = none) : Rn T A h ρw (wipeP π1 own) := by
  refine ⟨by rw [wipeP_len, ln, rn.len], fun i d e => ?_, fun i s d e q => ?_, fun i n e => ?_, rn.inj, rn.tl, rn.ta⟩
  · obtain ⟨a, b⟩ := wipeP_get e
    obtain ⟨v, c, d⟩ := rn.im i _ b
    exact ⟨v, by rw [sm i a]; exact c, d⟩
  · obtain ⟨a, b⟩ := wipeP_get e
    obtain ⟨n, o, c, d, f⟩ := rn.ow i _ _ b q
    exact ⟨n, o, c, by rw [sm i a]; exact d, f⟩
  · obtain ⟨s, d, a, b⟩ := rn.dom i n e
    have c : i ∉ own := fun m => by rw [na i m] at e; cases e
    exact ⟨s, d, by rw [wipeP_ne c]; exact a, b⟩
theorem Fx.wipe {own : List Nat} (rn : Rn T A h ρ π) (na : ∀ j ∈ own, A j = none) : Fx A A π (wipeP π own) h h := by
  refine ⟨Nat.le_refl _, fun _ _ _ => rfl, fun i n e => .inl ⟨i, e⟩, fun i d e => ⟨rfl, d, ?_⟩⟩
  obtain ⟨n, o, a, _⟩ := rn.ow i _ d e rfl
  have c : i ∉ own := fun m => by rw [na i m] at a; cases a
  rw [wipeP_ne c]; exact e
theorem no_eq {i : Nat} (e : A i = none) : A.no i = A := by
  funext j
  unfold Aa.no
  split
  · rename_i c; rw [c, e]
  · rfl
theorem setN_out : ∀ {is : List Nat} {vs : List Val} {ρ ρ' : En}, setN is vs ρ = some ρ' → ρ'.length = ρ.length ∧ ∀ j, j ∉ is → ρ'[j]? = ρ[j]?
  | [], [], _, _, e => by cases e; exact ⟨rfl, fun _ _ => rfl⟩
  | [], _ :: _, _, _, e => by simp [setN] at e
  | _ :: _, [], _, _, e => by simp [setN] at e
  | i :: is, v :: vs, ρ, ρ', e => by
    obtain ⟨a, b⟩ := setN_out (is := is) (vs := vs) e
    refine ⟨by simp [a], fun j n => ?_⟩
    simp only [List.mem_cons, not_or] at n
    rw [b j n.2, List.getElem?_set_ne (Ne.symm n.1)]
theorem run_out {nt : NT} {v : Val} (e : nt.run v ρ h = some ρ') : ρ'.length = ρ.length ∧ ∀ j, j ∉ nt.slots → ρ'[j]? = ρ[j]? := by
  cases nt with
  | nm i => simp only [NT.run, Option.some.injEq] at e; subst e; exact ⟨by simp, fun j n => by simp only [NT.slots, List.mem_singleton] at n; rw [List.getElem?_set_ne (Ne.symm n)]⟩
  | tp is =>
    cases v <;> simp only [NT.run, reduceCtorEq] at e
    · exact setN_out e
    · split at e
      · exact setN_out e
      · cases e
theorem pset_okc : ∀ {is : List Nat} {ds : List PV} {vs : List Val} {ρ : En} {π : PEn}, (∀ i ∈ is, A i = none) → Rn T A h ρ π → Ims h (Av A T) vs ds → pset is ds π = some π' → ∃ ρ', setN is vs ρ = some ρ' ∧ Fx A A π π' h h ∧ Rn T A h ρ' π'
  | [], [], _, ρ, π, _, rn, .nil, e => by cases e; exact ⟨ρ, rfl, Fx.refl, rn⟩
  | [], _ :: _, _, _, _, _, _, _, e => by simp [pset] at e
  | _ :: _, [], _, _, _, _, _, _, e => by simp [pset] at e
  | i :: is, d :: ds, _, ρ, π, na, rn, .cons r rs, e => by
    simp only [pset] at e
    split at e
    · cases e
    · rename_i io
      have io : isIo π i = false := by simpa using io
      have q := no_eq (na i (by simp))
      have r1 := rn.setI (i := i) r
      rw [q] at r1
      have f1 := Fx.setI (A := A) (h := h) (s := some (.im d)) io
      rw [q] at f1
      obtain ⟨ρ', a, b, c⟩ := pset_okc (fun j m => na j (by simp [m])) r1 rs e
      exact ⟨ρ', a, f1.tr b, c⟩
theorem pnt_okc {nt : NT} {d : PV} {v : Val} (na : ∀ i ∈ nt.slots, A i = none) (rn : Rn T A h ρ π) (r : Im h (Av A T) v d) (e : pnt nt d π = some π') : ∃ ρ', nt.run v ρ h = some ρ' ∧ Fx A A π π' h h ∧ Rn T A h ρ' π' := by
  cases nt with
  | nm i =>
    simp only [pnt] at e
    split at e
    · cases e
    · rename_i io
      have io : isIo π i = false := by simpa using io
      cases e
      have q := no_eq (na i (by simp [NT.slots]))
      have r1 := rn.setI (i := i) r
      rw [q] at r1
      have f1 := Fx.setI (A := A) (h := h) (s := some (.im d)) io
      rw [q] at f1
      exact ⟨_, rfl, f1, r1⟩
  | tp is =>
    cases d <;> simp only [pnt, reduceCtorEq] at e
    · cases r with
      | tup r => exact pset_okc na rn r e
    · cases r with
      | ref q1 q2 r =>
        simp only [NT.run, q2]
        exact pset_okc na rn r e
theorem Go.get {α β α' β' : Type} {rel : Rs α β} {rel' : Rs α' β'} {r : R α} {q : PR β} {f : α → MH → R α'} {g : β → PEn → PR β'} (tm : ∀ n, T n → Tm n) (a : Go rel Tm A Lm ρ1 h π r q)
    (k : ∀ x h1 T2 o π1, Fx A A π π1 h h1 → (∀ n, Tm n → T2 n) → (∀ n, T2 n → Tm n ∨ Lm ≤ n) → Rn T2 A h1 ρ1 π1 → rel h1 A Tm T2 Lm x o → Go rel' T A L ρ h1 π1 (f x h1) (g o π1)) :
    Go rel' T A L ρ h π (r.get f) (q.get g) := by
  cases q with
  | ok o π' =>
    obtain ⟨y, h', T2, rfl, y2, ⟨t, t'⟩, z, w⟩ := a
    exact (k y h' T2 o π' y2 t t' z w).from y2
  | ex c π' => trivial
  | bad => trivial
theorem comp_ok {nt : NT} {own : List Nat} {tst : DB} {pt : PDB} {elt : D} {pe : PD} (ht : PuB tst pt) (he : PuE elt pe) {lv : MH → Bool} {h0 : MH} {w : Wt} (sl : ∀ i ∈ nt.slots, i ∈ own) (na : ∀ j ∈ own, A j = none)
    (l : LvOk A T h0 w lv) {ρw : En} : ∀ (L : Nat) (vs : List Val) (ds : List PV) (h : MH) (π : PEn), (h0.length ≤ h.length ∧ ∀ n, n < h0.length → (∀ i, A i ≠ some n) → h[n]? = h0[n]?) → Rn T A h ρw π → Ims h (Av A T) vs ds → Go rPV T A L ρw h π (compL nt tst elt lv vs ρw h) (pCompL nt own pt pe w ds π)
  | L, _, _, h, π, kp, rn, .nil => by
    unfold pCompL compL
    by_cases c : okw w π = true
    · rw [if_pos c, if_pos (l A h ρw π kp.2 (fun _ _ => rfl) rn c)]
      exact Go.ok rn .nil
    · rw [if_neg c]; trivial
  | L, _, _, h, π, kp, rn, .cons (x := x) (xs := xs) (d := d) (ds := ds) r rs => by
    unfold pCompL compL
    by_cases c : okw w π = true
    · rw [if_pos c, if_pos (l A h ρw π kp.2 (fun _ _ => rfl) rn c)]
      cases e : pnt nt d π with
      | none => trivial
      | some π1 =>
        obtain ⟨ρ1, e1, f1, rn1⟩ := pnt_okc (fun i m => na i (sl i m)) rn r e
        obtain ⟨ol, os⟩ := run_out e1
        simp only [e1]
        refine Go.from f1 ?_
        refine Go.get (ρ1 := ρ1) (Lm := h.length) tt (ht T A h ρ1 π1 rn1) fun b h2 T2 b' π2 f2 t2 tq2 rn2 rb => ?_
        cases rb
        have kp2 : ∀ {h2 : MH} {π2 : PEn}, Fx A A π1 π2 h h2 → h0.length ≤ h2.length ∧ ∀ n, n < h0.length → (∀ i, A i ≠ some n) → h2[n]? = h0[n]? := fun f => ⟨Nat.le_trans kp.1 f.le, fun n m q => by rw [f.keep n (Nat.lt_of_lt_of_le m kp.1) q, kp.2 n m q]⟩
        have back : ∀ {h2 : MH} {π2 : PEn}, Rn T A h2 ρ1 π2 → Rn T A h2 ρw (wipeP π2 own) := fun r => r.wipe ol.symm (fun j m => (os j fun q => m (sl j q)).symm) na
        cases b with
        | false =>
          simp only [Bool.false_eq_true, if_false]
          have r2 := rn2.weak t2
          exact Go.from (Fx.wipe r2 na) (comp_ok ht he sl na l L xs ds h2 _ (kp2 f2) (back r2) (rs.mono f2.kp))
        | true =>
          simp only [if_true]
          refine Go.get (ρ1 := ρ1) (Lm := h2.length) tt (he T A h2 ρ1 π2 (rn2.weak t2)) fun o h3 T3 o' π3 f3 t3 tq3 rn3 ro => ?_
          have num : ∀ {f : Val → MH → R (List Val)} {g : PV → PEn → PR (List PV)}, (∀ v h4 d, Fx A A π3 π3 h3 h4 → Rn T A h4 ρ1 π3 → Im h4 (Av A T) v d → Go rPV T A L ρw h4 π3 (f v h4) (g d π3)) → Go rPV T A L ρw h3 π3 (f (num o h3).1 (num o h3).2) ((poI o' π3).get g) := fun {f g} k => by
            cases o' with
            | im d =>
              obtain ⟨v, rfl, r⟩ := ro
              exact k v h3 d Fx.refl (rn3.weak t3) (r.weak (Av.sub t3))
            | ow d =>
              rcases ro with ⟨xs, ds, rfl, rfl, r⟩ | ⟨n, ob, rfl, tn, an, l, e, r⟩
              · refine (k (.ref h3.length) (h3 ++ [.lst xs]) (.lst ds) (Fx.app _) ((rn3.weak t3).keep app_keep) (.ref (fun z => ?_) (new_ref' _ _) ?_)).from (Fx.app _)
                · exact absurd ((rn3.weak t3).av_lt z) (Nat.lt_irrefl _)
                · exact r.mono fun n o z w => ⟨app_keep n o w, fun q => z (Av.sub t3 n q)⟩
              · refine k (.ref n) h3 d Fx.refl (rn3.weak t3) (OC.im (r.mono (sub_mk (Av.sub t3))) (fun z => ?_) e)
                rcases z with ⟨i, z⟩ | z
                · exact an i z
                · exact absurd ((rn2.weak t2).tl n z) (Nat.not_lt.mpr l)
            | br i => trivial
          refine num (f := fun v h4 => (compL nt tst elt lv xs ρw h4).get fun ys h5 => .ok (v :: ys) h5) fun v h4 d f4 rn4 rv => ?_
          have f24 := (f2.tr f3).tr f4
          have g := comp_ok ht he sl na l h4.length xs ds h4 _ (kp2 f24) (back rn4) (rs.mono f24.kp)
          refine Go.from (Fx.wipe rn4 na) (Go.get (ρ1 := ρw) (Lm := h4.length) tt g fun ys h5 T5 es π5 f5 t5 tq5 rn5 ry => ?_)
          exact Go.ok (rn5.weak t5) (.cons (rv.mono f5.kp) ry)
    · rw [if_neg c]; trivial
theorem restP_len : ∀ (own : List Nat), (restP π1 own π).length = π.length
  | [] => rfl
  | v :: vs => by simp [restP, restP_len vs]
theorem restP_ne : ∀ {own : List Nat} {j : Nat}, j ∉ own → (restP π1 own π)[j]? = π[j]?
  | [], _, _ => rfl
  | v :: vs, j, e => by
    simp only [List.mem_cons, not_or] at e
    simp only [restP]
    rw [List.getElem?_set_ne (Ne.symm e.1), restP_ne e.2]
theorem restP_in : ∀ {own : List Nat} {j : Nat} {s : PS}, j ∈ own → (restP π1 own π)[j]? = some (some s) → π1[j]? = some (some s)
  | v :: vs, j, s, m, e => by
    simp only [restP] at e
    by_cases c : v = j
    · subst c
      rw [List.getElem?_set_self (by simpa using lt_of_get e)] at e
      cases q : π1[v]? with
      | none => rw [q] at e; simp at e
      | some x => rw [q] at e; simpa using e
    · rw [List.getElem?_set_ne c] at e
      exact restP_in ((List.mem_cons.mp m).resolve_left (Ne.symm c)) e
theorem Rn.rest {own : List Nat} (rn : Rn T A h' (wipeE ρ own) π') (rn1 : Rn T A h1 ρ π1) (f : Fx A A π1 π' h1 h') (na : ∀ j ∈ own, A j = none) : Rn T A h' ρ (restP π1 own π') := by
  have lp : ρ.length = π'.length := by have := rn.len; rw [wipeE_len] at this; exact this
  refine ⟨by rw [restP_len, lp], fun i d e => ?_, fun i s d e q => ?_, fun i n e => ?_, rn.inj, rn.tl, rn.ta⟩
  · by_cases m : i ∈ own
    · obtain ⟨v, a, b⟩ := rn1.im i d (restP_in m e)
      exact ⟨v, a, b.mono f.kp⟩
    · rw [restP_ne m] at e
      obtain ⟨v, a, b⟩ := rn.im i d e
      exact ⟨v, by rw [wipeE_ne m] at a; exact a, b⟩
  · by_cases m : i ∈ own
    · obtain ⟨n, o, a, _⟩ := rn1.ow i s d (restP_in m e) q
      rw [na i m] at a; cases a
    · rw [restP_ne m] at e
      obtain ⟨n, o, a, b, c⟩ := rn.ow i s d e q
      exact ⟨n, o, a, by rw [wipeE_ne m] at b; exact b, c⟩
  · have m : i ∉ own := fun m => by rw [na i m] at e; cases e
    rw [restP_ne m]
    exact rn.dom i n e
theorem Fx.rest {own : List Nat} (rn1 : Rn T A h1 ρ π1) (f : Fx A A π1 π' h1 h') (na : ∀ j ∈ own, A j = none) : Fx A A π1 (restP π1 own π') h1 h' := by
  refine ⟨f.le, f.keep, f.new, fun i d e => ?_⟩
  obtain ⟨n, o, a, _⟩ := rn1.ow i _ d e rfl
  have m : i ∉ own := fun m => by rw [na i m] at a; cases a
  rw [restP_ne m]
  exact f.io i d e
theorem pu_compAt {di : DI} {pi : PDI} (nt : NT) (own : List Nat) {tst : DB} {pt : PDB} {elt : D} {pe : PD} (ht : PuB tst pt) (he : PuE elt pe) (sl : ∀ i ∈ nt.slots, i ∈ own) (T : Nat → Prop) (A : Aa) (h : MH) (ρ : En) (π : PEn) (hi : Go rPDI T A h.length ρ h π (di ρ h) (pi π)) :
    Go RO T A h.length ρ h π (dComp own di nt tst elt ρ h) (pComp own pi nt pt pe π) :=
  Go.bind tt hi fun p h1 T2 q π1 fx t tq rn1 rx => by
    have r1 := rn1.weak t
    by_cases c : q.1.length ≤ 16777216 ∧ own.all (notOwn π1) = true
    · rw [if_pos c, if_pos (by rw [rx.1.length]; exact c.1)]
      have na : ∀ j ∈ own, A j = none := fun j m => r1.noA (List.all_eq_true.mp c.2 j m)
      have rw0 := Rn.wipe (own := own) (ρw := wipeE ρ own) r1 (wipeE_len own) (fun j m => wipeE_ne m) na
      have g := comp_ok (ρw := wipeE ρ own) ht he sl na rx.2 h1.length p.1 q.1 h1 _ ⟨Nat.le_refl _, fun _ _ _ => rfl⟩ rw0 rx.1
      have f0 := Fx.wipe r1 na
      cases z : pCompL nt own pt pe q.2 q.1 (wipeP π1 own) with
      | ok es π2 =>
        rw [z] at g
        obtain ⟨ys, h2, T3, e, f2, ⟨t3, tq3⟩, rn2, ry⟩ := g
        rw [e]
        have f12 := f0.tr f2
        exact ⟨.n ys, h2, T, rfl, f12.rest r1 na, ⟨tt, fun _ z => .inl z⟩, (rn2.weak t3).rest r1 f12 na, .inl ⟨ys, es, rfl, rfl, ry⟩⟩
      | ex c π2 => trivial
      | bad => trivial
    · rw [if_neg c]; trivial
theorem pu_comp {di : DI} {pi : PDI} (nt : NT) (own : List Nat) {tst : DB} {pt : PDB} {elt : D} {pe : PD} (hi : PuI di pi) (ht : PuB tst pt) (he : PuE elt pe) (sl : ∀ i ∈ nt.slots, i ∈ own := by decide) : PuE (dComp own di nt tst elt) (pComp own pi nt pt pe) := fun T A h ρ π rn =>
  pu_compAt nt own ht he sl T A h ρ π (hi T A h ρ π rn)
end
end Pq

namespace Pq
open PySem L2 Mi
inductive PF where
  | ok (o : PO) (outs : List PV) | ex (c : Nat) (outs : List PV) | bad
abbrev PFn := List PV → PF
abbrev Js := List (Option Nat)
def Sj (T : Nat → Prop) (js : Js) : Nat → Prop := fun n => T n ∨ some n ∈ js
inductive ArgR (h : MH) (S : Nat → Prop) : List Val → List PV → Js → Prop
  | nil : ArgR h S [] [] []
  | im {v : Val} {d : PV} {vs : List Val} {ds : List PV} {js : Js} : Im h S v d → ArgR h S vs ds js → ArgR h S (v :: vs) (d :: ds) (none :: js)
  | io {n : Nat} {o : Ob} {d : PV} {vs : List Val} {ds : List PV} {js : Js} : h[n]? = some o → OC h S o d → ArgR h S vs ds js → ArgR h S (.ref n :: vs) (d :: ds) (some n :: js)
inductive OutR (h : MH) (S : Nat → Prop) : Js → List PV → Prop
  | nil : OutR h S [] []
  | im {d : PV} {ds : List PV} {js : Js} : OutR h S js ds → OutR h S (none :: js) (d :: ds)
  | io {n : Nat} {o : Ob} {d : PV} {ds : List PV} {js : Js} : h[n]? = some o → OC h S o d → OutR h S js ds → OutR h S (some n :: js) (d :: ds)
def ResR (h : MH) (S T2 : Nat → Prop) (L : Nat) (v : Val) : PO → Prop
  | .im d => Im h S v d
  | .ow d => ∃ n o, v = .ref n ∧ T2 n ∧ L ≤ n ∧ h[n]? = some o ∧ OC h S o d
  | .br _ => False
structure Ch (js : Js) (h h' : MH) : Prop where
  le : h.length ≤ h'.length
  keep : ∀ n, n < h.length → some n ∉ js → h'[n]? = h[n]?
def FR (T : Nat → Prop) (h : MH) (js : Js) (r : R Val) (q : PF) : Prop := match q with
  | .ok o outs => ∃ v h' T2, r = .ok v h' ∧ Ch js h h' ∧ (∀ n, T n → T2 n) ∧ (∀ n, T2 n → T n ∨ h.length ≤ n) ∧ (∀ n, T2 n → n < h'.length) ∧ OutR h' (Sj T2 js) js outs ∧ ResR h' (Sj T2 js) T2 h.length v o
  | .ex c outs => ∃ h', r = .ex c h' ∧ Ch js h h' ∧ OutR h' (Sj T js) js outs
  | .bad => True
def JsOk (T : Nat → Prop) (h : MH) (ios : List Bool) (js : Js) : Prop :=
  (∀ n, T n → n < h.length) ∧ (∀ n, some n ∈ js → ¬ T n) ∧ (∀ (i j n : Nat), js[i]? = some (some n) → js[j]? = some (some n) → i = j) ∧ js.map Option.isSome = ios
def PuF (fn : DF) (ios : List Bool) (pf : PFn) : Prop := ∀ T h vs ds js, JsOk T h ios js → ArgR h (Sj T js) vs ds js → FR T h js (fn vs h) (pf ds)
def start : List Bool → List PV → PEn
  | true :: bs, d :: ds => some (.io d) :: start bs ds
  | false :: bs, d :: ds => some (.im d) :: start bs ds
  | _, _ => []
def cont (π : PEn) (k : Nat) : PV := match ps π k with
  | some s => s.own.getD .non
  | none => .non
def outsOf : List Bool → Nat → PEn → List PV
  | [], _, _ => []
  | true :: bs, k, π => cont π k :: outsOf bs (k + 1) π
  | false :: bs, k, π => .non :: outsOf bs (k + 1) π
def runP (ios : List Bool) (n : Nat) (b : PSD) : PFn := fun ds => match b (start ios ds ++ List.replicate (n - ds.length) none) with
  | .nx π => .ok (.im .non) (outsOf ios 0 π)
  | .rt o π => .ok o (outsOf ios 0 π)
  | .ex c π => .ex c (outsOf ios 0 π)
  | _ => .bad
section
variable {T T2 : Nat → Prop} {h h' : MH} {π π' : PEn} {A A' : Aa} {ρ ρ' : En}
theorem start_len : ∀ {ios : List Bool} {ds : List PV}, ios.length = ds.length → (start ios ds).length = ds.length
  | [], [], _ => rfl
  | [], _ :: _, e => by simp at e
  | _ :: _, [], e => by simp at e
  | true :: bs, d :: ds, e => by simp [start, start_len (ios := bs) (ds := ds) (by simpa using e)]
  | false :: bs, d :: ds, e => by simp [start, start_len (ios := bs) (ds := ds) (by simpa using e)]
theorem ArgR.lens {S : Nat → Prop} {vs : List Val} {ds : List PV} {js : Js} (a : ArgR h S vs ds js) : vs.length = ds.length ∧ js.length = ds.length := by
  induction a with
  | nil => exact ⟨rfl, rfl⟩
  | im _ _ ih => simp [ih.1, ih.2]
  | io _ _ _ ih => simp [ih.1, ih.2]
theorem start_at {S : Nat → Prop} {vs : List Val} {ds : List PV} {js : Js} (a : ArgR h S vs ds js) : ∀ (i : Nat) (s : PS), (start (js.map Option.isSome) ds)[i]? = some (some s) →
    (∃ d v, s = .im d ∧ vs[i]? = some v ∧ Im h S v d ∧ js[i]? = some none) ∨ ∃ d n o, s = .io d ∧ vs[i]? = some (.ref n) ∧ h[n]? = some o ∧ OC h S o d ∧ js[i]? = some (some n) := by
  induction a with
  | nil => intro i s e; simp [start] at e
  | im r _ ih =>
    intro i s e
    cases i with
    | zero => simp [start] at e; subst e; exact .inl ⟨_, _, rfl, rfl, r, rfl⟩
    | succ i => simp [start] at e; simpa using ih i s e
  | io q r _ ih =>
    intro i s e
    cases i with
    | zero => simp [start] at e; subst e; exact .inr ⟨_, _, _, rfl, rfl, q, r, rfl⟩
    | succ i => simp [start] at e; simpa using ih i s e
theorem start_io {S : Nat → Prop} {vs : List Val} {ds : List PV} {js : Js} (a : ArgR h S vs ds js) : ∀ (i n : Nat), js[i]? = some (some n) → ∃ d, (start (js.map Option.isSome) ds)[i]? = some (some (.io d)) := by
  induction a with
  | nil => intro i n e; simp at e
  | im r _ ih =>
    intro i n e
    cases i with
    | zero => simp at e
    | succ i => simp [start] at e ⊢; exact ih i n e
  | io q r _ ih =>
    intro i n e
    cases i with
    | zero => exact ⟨_, rfl⟩
    | succ i => simp [start] at e ⊢; exact ih i n e
def jA (js : Js) : Aa := fun i => js[i]?.getD none
theorem jA_s {js : Js} {i n : Nat} : jA js i = some n ↔ js[i]? = some (some n) := by
  unfold jA
  cases js[i]? with
  | none => simp
  | some x => simp
theorem jA_av {js : Js} : ∀ n, Av (jA js) T n ↔ Sj T js n := fun n => by
  constructor
  · rintro (⟨i, e⟩ | z)
    · exact .inr (List.mem_of_getElem? (jA_s.1 e))
    · exact .inl z
  · rintro (z | m)
    · exact .inr z
    · obtain ⟨i, e⟩ := List.getElem?_of_mem m
      exact .inl ⟨i, jA_s.2 e⟩
theorem start_rn {ios : List Bool} {vs : List Val} {ds : List PV} {js : Js} (j : JsOk T h ios js) (a : ArgR h (Sj T js) vs ds js) (n : Nat) : Rn T (jA js) h (vs.map some ++ List.replicate (n - vs.length) none) (start ios ds ++ List.replicate (n - ds.length) none) := by
  obtain ⟨j1, j2, j3, j4⟩ := j
  subst j4
  obtain ⟨l1, l2⟩ := a.lens
  have sl : (start (js.map Option.isSome) ds).length = ds.length := start_len (by simp [l2])
  have fst : ∀ (i : Nat) (s : PS), (start (js.map Option.isSome) ds ++ List.replicate (n - ds.length) none)[i]? = some (some s) → (start (js.map Option.isSome) ds)[i]? = some (some s) := fun i s e => by
    rw [List.getElem?_append] at e
    split at e
    · exact e
    · have := List.mem_of_getElem? e
      rw [List.mem_replicate] at this
      cases this.2
  have va : ∀ (i : Nat) (v : Val), vs[i]? = some v → (vs.map some ++ List.replicate (n - vs.length) (none : Option Val))[i]? = some (some v) := fun i v e => by
    rw [List.getElem?_append_left (by rw [List.length_map]; exact lt_of_get e), List.getElem?_map, e]; rfl
  refine ⟨by simp [sl, l1], fun i d e => ?_, fun i s d e q => ?_, fun i m e => ?_, fun i k m e1 e2 => j3 i k m (jA_s.1 e1) (jA_s.1 e2), j1, fun i m e => j2 m (List.mem_of_getElem? (jA_s.1 e))⟩
  · rcases start_at a i _ (fst i _ e) with ⟨d', v, e1, e2, r, _⟩ | ⟨d', n', o, e1, _⟩
    · cases e1
      exact ⟨v, va i v e2, r.weak fun m z => (jA_av m).1 z⟩
    · cases e1
  · rcases start_at a i _ (fst i _ e) with ⟨d', v, e1, e2, r, _⟩ | ⟨d', n', o, e1, e2, e3, e4, e5⟩
    · subst e1; cases q
    · subst e1; cases q
      exact ⟨n', o, jA_s.2 e5, va i _ e2, e3, e4.mono (sub_mk fun m z => (jA_av m).1 z)⟩
  · obtain ⟨d, e2⟩ := start_io a i m (jA_s.1 e)
    exact ⟨_, d, by rw [List.getElem?_append_left (lt_of_get e2)]; exact e2, rfl⟩
theorem outs_ok {S : Nat → Prop} {js : Js} (rn : Rn T2 A' h' ρ' π') (w : ∀ n, S n → Av A' T2 n) : ∀ (is : Js) (k : Nat), (∀ i n, is[i]? = some (some n) → A' (k + i) = some n) → OutR h' S is (outsOf (is.map Option.isSome) k π')
  | [], _, _ => .nil
  | none :: is, k, e => .im (outs_ok (js := js) rn w is (k + 1) fun i n q => by have := e (i + 1) n (by simpa using q); rw [Nat.add_assoc, Nat.add_comm 1 i]; exact this)
  | some n :: is, k, e => by
    have a := e 0 n rfl
    obtain ⟨s, d, e1, e2⟩ := rn.dom _ _ a
    obtain ⟨m, o, b1, b2, b3, b4⟩ := rn.ow _ s d e1 e2
    rw [a] at b1; cases b1
    have c : cont π' k = d := by simp only [cont, ps_of (show π'[k]? = some (some s) from e1), e2, Option.getD_some]
    show OutR h' S (some n :: is) (cont π' k :: outsOf (is.map Option.isSome) (k + 1) π')
    rw [c]
    exact .io b3 (b4.mono (sub_mk w)) (outs_ok (js := js) rn w is (k + 1) fun i n q => by have := e (i + 1) n (by simpa using q); rw [Nat.add_assoc, Nat.add_comm 1 i]; exact this)
theorem pu_f {b : SD} {p : PSD} (n : Nat) (ios : List Bool) (hb : PuS b p) : PuF (runB n b) ios (runP ios n p) := fun T h vs ds js j a => by
  have rn := start_rn j a n
  have g := hb T (jA js) h _ _ rn
  obtain ⟨j1, j2, j3, j4⟩ := j
  have io : ∀ {A' : Aa} {π' : PEn} {h' : MH}, Fx (jA js) A' (start ios ds ++ List.replicate (n - ds.length) none) π' h h' → ∀ i n, js[i]? = some (some n) → A' (0 + i) = some n := fun f i m e => by
    subst j4
    obtain ⟨d, e2⟩ := start_io a i m e
    rw [Nat.zero_add, (f.io i d (by rw [List.getElem?_append_left (lt_of_get e2)]; exact e2)).1]
    exact jA_s.2 e
  have sub : ∀ {A' : Aa} {π' : PEn} {h' : MH} {T2 : Nat → Prop}, Fx (jA js) A' (start ios ds ++ List.replicate (n - ds.length) none) π' h h' → ∀ n, Sj T2 js n → Av A' T2 n := fun f m z => by
    rcases z with z | z
    · exact .inr z
    · obtain ⟨i, e⟩ := List.getElem?_of_mem z
      exact .inl ⟨i, by have := io f i m e; rwa [Nat.zero_add] at this⟩
  have ch : ∀ {A' : Aa} {π' : PEn} {h' : MH}, Fx (jA js) A' (start ios ds ++ List.replicate (n - ds.length) none) π' h h' → Ch js h h' := fun f => ⟨f.le, fun m l q => f.keep m l fun i e => q (List.mem_of_getElem? (jA_s.1 e))⟩
  have nio : ∀ m, Nio (jA js) (start ios ds ++ List.replicate (n - ds.length) none) h.length m → h.length ≤ m := fun m z => by
    rcases z with z | ⟨i, d, e, q⟩
    · exact z
    · exfalso
      rw [List.getElem?_append] at q
      split at q
      · rw [← j4] at q
        rcases start_at a i _ q with ⟨_, _, z, _⟩ | ⟨_, _, _, z, _⟩ <;> cases z
      · have := List.mem_of_getElem? q
        rw [List.mem_replicate] at this
        cases this.2
  unfold runP runB
  subst j4
  cases q : p (start (js.map Option.isSome) ds ++ List.replicate (n - ds.length) none) with
  | nx π' =>
    rw [q] at g
    obtain ⟨ρ', h', e, A', f, r⟩ := g
    rw [e]
    exact ⟨.non, h', T, rfl, ch f, tt, fun _ z => .inl z, r.tl, outs_ok (js := js) r (sub f) js 0 (io f), .non⟩
  | rt o π' =>
    rw [q] at g
    obtain ⟨v, h', ρ', A', T2, e, f, t, r, rr, tq⟩ := g
    rw [e]
    refine ⟨v, h', T2, rfl, ch f, t, fun m z => (tq m z).imp id (nio m), r.tl, outs_ok (js := js) r (sub f) js 0 (io f), ?_⟩
    cases o with
    | im d => exact rr.weak (sub f)
    | ow d =>
      obtain ⟨m, o, a, b, c, d, e, z⟩ := rr
      exact ⟨m, o, a, b, nio m z, d, e.mono (sub_mk (sub f))⟩
    | br i => exact rr.elim
  | ex c π' =>
    rw [q] at g
    obtain ⟨ρ', h', e, A', f, r⟩ := g
    rw [e]
    exact ⟨h', rfl, ch f, outs_ok (js := js) r (sub f) js 0 (io f)⟩
  | bk π' => trivial
  | ct π' => trivial
  | bad => trivial
end
abbrev PDG := PEn → PR (List PO)
def pgNil : PDG := fun π => .ok [] π
def argO (io : Bool) (o : PO) (os : List PO) (π : PEn) : PR (List PO) := match io, o with
  | false, .im d => .ok (.im d :: os) π
  | false, .ow d => .ok (.im d :: os) π
  | _, .br i => .ok (.br i :: os) π
  | true, .ow d => .ok (.ow d :: os) π
  | true, .im _ => .bad
def pgCons (io : Bool) (a : PD) (t : PDG) : PDG := fun π => (a π).bind fun o π1 => (t π1).bind fun os π2 => argO io o os π2
inductive RAj (h : MH) (A : Aa) (T2 : Nat → Prop) (L : Nat) : List Bool → List Val → List PO → Js → Prop
  | nil : RAj h A T2 L [] [] [] []
  | im {v : Val} {d : PV} {bs : List Bool} {vs : List Val} {os : List PO} {js : Js} : Im h (Av A T2) v d → RAj h A T2 L bs vs os js → RAj h A T2 L (false :: bs) (v :: vs) (.im d :: os) (none :: js)
  | brI {i n : Nat} {bs : List Bool} {vs : List Val} {os : List PO} {js : Js} : A i = some n → RAj h A T2 L bs vs os js → RAj h A T2 L (false :: bs) (.ref n :: vs) (.br i :: os) (none :: js)
  | brO {i n : Nat} {bs : List Bool} {vs : List Val} {os : List PO} {js : Js} : A i = some n → RAj h A T2 L bs vs os js → RAj h A T2 L (true :: bs) (.ref n :: vs) (.br i :: os) (some n :: js)
  | ow {n : Nat} {o : Ob} {d : PV} {bs : List Bool} {vs : List Val} {os : List PO} {js : Js} : T2 n → (∀ i, A i ≠ some n) → L ≤ n → h[n]? = some o → OC h (Av A T2) o d ∧ some n ∉ js → RAj h A T2 L bs vs os js → RAj h A T2 L (true :: bs) (.ref n :: vs) (.ow d :: os) (some n :: js)
def rPG (ios : List Bool) : Rs (List Val) (List PO) := fun h A T T2 L vs os => ∃ js, RAj h A T2 L ios vs os js
abbrev PuG' (ios : List Bool) (d : DV) (p : PDG) : Prop := Pu (rPG ios) d p
section
variable {T T2 T3 : Nat → Prop} {h h' h1 : MH} {π π' π1 : PEn} {A A' : Aa} {ρ ρ' : En} {L L' : Nat}
theorem RAj.low {ios : List Bool} {vs : List Val} {os : List PO} {js : Js} (l : L ≤ L') (r : RAj h A T2 L' ios vs os js) : RAj h A T2 L ios vs os js := by
  induction r with
  | nil => exact .nil
  | im a _ ih => exact .im a ih
  | brI a _ ih => exact .brI a ih
  | brO a _ ih => exact .brO a ih
  | ow a b c d e _ ih => exact .ow a b (Nat.le_trans l c) d e ih
theorem RAj.nin {ios : List Bool} {vs : List Val} {os : List PO} {js : Js} (r : RAj h A T2 L ios vs os js) : ∀ n, n < L → (∀ i, A i ≠ some n) → some n ∉ js := by
  induction r with
  | nil => intro n _ _ m; cases m
  | im _ _ ih => intro n l a m; exact ih n l a (by simpa using m)
  | brI _ _ ih => intro n l a m; exact ih n l a (by simpa using m)
  | brO q _ ih =>
    intro n l a m
    rcases List.mem_cons.mp m with e | m
    · cases e; exact a _ q
    · exact ih n l a m
  | ow _ _ l' _ _ _ ih =>
    intro n l a m
    rcases List.mem_cons.mp m with e | m
    · cases e; omega
    · exact ih n l a m
theorem pu_gNil : PuG' [] vNil pgNil := fun T A h ρ π rn => Go.ok rn ⟨[], .nil⟩
theorem later_mk (f : Fx A A π π1 h h1) (tq : ∀ n, T3 n → T2 n ∨ h.length ≤ n) : ∀ n o, ¬ Av A T2 n → h[n]? = some o → h1[n]? = some o ∧ ¬ Av A T3 n := fun n o a e => by
  obtain ⟨b, _⟩ := f.kp (T := T2) n o a e
  refine ⟨b, fun z => ?_⟩
  rcases z with z | z
  · exact a (.inl z)
  · rcases tq n z with z | z
    · exact a (.inr z)
    · have := lt_of_get e; omega
theorem pu_gCons {io : Bool} {ios : List Bool} {d : D} {p : PD} {ds : DV} {q : PDG} (a : PuE d p) (b : PuG' ios ds q) : PuG' (io :: ios) (vCons d ds) (pgCons io p q) := fun T A h ρ π rn =>
  Go.bind tt (a T A h ρ π rn) fun x h1 T2 o π1 fx t tq rn1 rx => by
    have rest : ∀ (T' : Nat → Prop) (v : Val) (h2 : MH), (∀ n, T n → T' n) → (∀ n, T' n → T n ∨ h.length ≤ n) → Fx A A π1 π1 h1 h2 → Rn T' A h2 ρ π1 →
      (∀ (h3 : MH) (T3 : Nat → Prop) (π2 : PEn) (vs : List Val) (os : List PO) (js : Js), Fx A A π1 π2 h2 h3 → (∀ n, T' n → T3 n) → (∀ n, T3 n → T' n ∨ h2.length ≤ n) → Rn T3 A h3 ρ π2 → RAj h3 A T3 h.length ios vs os js → (∀ n, n < h2.length → (∀ i, A i ≠ some n) → some n ∉ js) → Go (rPG (io :: ios)) T A h.length ρ h3 π2 (.ok (v :: vs) h3) (argO io o os π2)) →
      Go (rPG (io :: ios)) T A h.length ρ h1 π1 ((ds ρ h2).bind fun xs h3 => .ok (v :: xs) h3) ((q π1).bind fun os π2 => argO io o os π2) := fun T' v h2 tt' tq' f2 rn2 k => by
      refine Go.from f2 (Go.bind (L := h.length) (Lm := h2.length) tt' (b T' A h2 ρ π1 rn2) fun xs h3 T3 os π2 f3 t3 tq3 rn3 ⟨js, rj⟩ => ?_)
      exact k h3 T3 π2 xs os js f3 t3 tq3 rn3 (rj.low (Nat.le_trans fx.le f2.le)) rj.nin
    have fin : ∀ {T' : Nat → Prop} {v : Val} {h3 : MH} {T3 : Nat → Prop} {π2 : PEn} {vs : List Val} {os : List PO} {js : Js} {o' : PO}, (∀ n, T n → T3 n) → (∀ n, T3 n → T n ∨ h.length ≤ n) → Rn T3 A h3 ρ π2 → RAj h3 A T3 h.length (io :: ios) (v :: vs) (o' :: os) js → Go (rPG (io :: ios)) T A h.length ρ h3 π2 (.ok (v :: vs) h3) (.ok (o' :: os) π2) := fun {T' v h3 T3 π2 vs os js o'} t3 tq3 rn3 rj =>
      ⟨_, _, T3, rfl, Fx.refl, ⟨t3, tq3⟩, rn3, ⟨js, rj⟩⟩
    cases o with
    | br i =>
      obtain ⟨n, rfl, an⟩ := rx
      refine rest T (.ref n) h1 tt (fun _ z => .inl z) Fx.refl (rn1.weak t) fun h3 T3 π2 vs os js f3 t3 tq3 rn3 rj nin => ?_
      have tq4 : ∀ n, T3 n → T n ∨ h.length ≤ n := fun n z => (tq3 n z).imp id (Nat.le_trans fx.le)
      cases io with
      | true => exact fin (T' := T) t3 tq4 rn3 (.brO an rj)
      | false => exact fin (T' := T) t3 tq4 rn3 (.brI an rj)
    | im d =>
      obtain ⟨v, rfl, r⟩ := rx
      refine rest T v h1 tt (fun _ z => .inl z) Fx.refl (rn1.weak t) fun h3 T3 π2 vs os js f3 t3 tq3 rn3 rj nin => ?_
      have tq4 : ∀ n, T3 n → T n ∨ h.length ≤ n := fun n z => (tq3 n z).imp id (Nat.le_trans fx.le)
      cases io with
      | true => trivial
      | false => exact fin (T' := T) t3 tq4 rn3 (.im ((r.weak (Av.sub t)).mono (later_mk f3 tq3)) rj)
    | ow d =>
      rcases rx with ⟨xs, es, rfl, rfl, r⟩ | ⟨n, ob, rfl, tn, an, l, e, r⟩
      · have r1 := rn1.weak t
        have r' : Ims (h1 ++ [Ob.lst xs]) (Av A fun m => T m ∨ m = h1.length) xs es := r.mono fun m o z w => ⟨app_keep m o w, fun q => by
          rcases q with q | q | rfl
          · exact z (.inl q)
          · exact z (.inr (t m q))
          · have := lt_of_get w; omega⟩
        cases io with
        | true =>
          have ta := r1.addT (T2 := fun m => T m ∨ m = h1.length) (h2 := h1 ++ [Ob.lst xs]) (Nat.le_refl _) app_keep (by simp) fun m z => z
          refine rest (fun m => T m ∨ m = h1.length) (.ref h1.length) (h1 ++ [Ob.lst xs]) (fun n z => .inl z) (fun n z => z.imp id fun q => by rw [q]; exact fx.le) (Fx.app _) ta fun h3 T3 π2 vs os js f3 t3 tq3 rn3 rj nin => ?_
          have an : ∀ i, A i ≠ some h1.length := fun i e => absurd (r1.lt e) (Nat.lt_irrefl _)
          refine fin (T' := T) (fun n z => t3 n (.inl z)) (fun n z => ?_) rn3 (.ow (o := .lst xs) (t3 _ (.inr rfl)) an fx.le ?_ ⟨?_, nin _ (by simp) an⟩ rj)
          · rcases tq3 n z with (q | rfl) | q
            · exact .inl q
            · exact .inr fx.le
            · exact .inr (Nat.le_trans (Nat.le_trans fx.le (by simp)) q)
          · rw [f3.keep h1.length (by simp) an]; exact new_ref' _ _
          · exact r'.mono (later_mk f3 tq3)
        | false =>
          refine rest T (.ref h1.length) (h1 ++ [Ob.lst xs]) tt (fun _ z => .inl z) (Fx.app _) (r1.keep app_keep) fun h3 T3 π2 vs os js f3 t3 tq3 rn3 rj nin => ?_
          have tq4 : ∀ n, T3 n → T n ∨ h.length ≤ n := fun n z => (tq3 n z).imp id (Nat.le_trans (Nat.le_trans fx.le (by simp)))
          have i2 : Im (h1 ++ [Ob.lst xs]) (Av A T) (.ref h1.length) (.lst es) := .ref (fun z => absurd (r1.av_lt z) (Nat.lt_irrefl _)) (new_ref' _ _) (r'.weak (Av.sub fun n z => .inl z))
          exact fin (T' := T) t3 tq4 rn3 (.im (i2.mono (later_mk f3 tq3)) rj)
      · cases io with
        | true =>
          refine rest T2 (.ref n) h1 t tq Fx.refl rn1 fun h3 T3 π2 vs os js f3 t3 tq3 rn3 rj nin => ?_
          refine fin (T' := T) (fun n z => t3 n (t n z)) (fun n z => ?_) rn3 (.ow (o := ob) (t3 _ tn) an l ?_ ⟨?_, nin _ (lt_of_get e) an⟩ rj)
          · rcases tq3 n z with q | q
            · exact tq n q
            · exact .inr (Nat.le_trans fx.le q)
          · rw [f3.keep n (lt_of_get e) an]; exact e
          · exact r.mono (later_mk f3 tq3)
        | false =>
          refine rest T (.ref n) h1 tt (fun _ z => .inl z) Fx.refl (rn1.weak t) fun h3 T3 π2 vs os js f3 t3 tq3 rn3 rj nin => ?_
          have tq4 : ∀ n, T3 n → T n ∨ h.length ≤ n := fun n z => (tq3 n z).imp id (Nat.le_trans fx.le)
          have i2 : Im h1 (Av A T) (.ref n) d := OC.im (r.mono (sub_mk (Av.sub t))) (fun z => by
            rcases z with ⟨i, z⟩ | z
            · exact an i z
            · exact absurd (rn.tl n z) (Nat.not_lt.mpr l)) e
          exact fin (T' := T) t3 tq4 rn3 (.im (i2.mono (later_mk f3 tq3)) rj)
end
end Pq

namespace Pq
open PySem L2 Mi
def brs : List PO → List Nat
  | [] => []
  | .br i :: os => i :: brs os
  | _ :: os => brs os
def owc : List PO → Nat
  | [] => 0
  | .ow _ :: os => owc os + 1
  | _ :: os => owc os
def imbrs : List Bool → List PO → List Nat
  | false :: bs, .br i :: os => i :: imbrs bs os
  | _ :: bs, _ :: os => imbrs bs os
  | _, _ => []
def upd' (i : Nat) (d : PV) (π : PEn) : PEn := match ps π i with
  | some s => π.set i (some (s.put d))
  | none => π
def putOuts : List Bool → List PO → List PV → PEn → PEn
  | true :: bs, .br i :: os, d :: outs, π => putOuts bs os outs (upd' i d π)
  | _ :: bs, _ :: os, _ :: outs, π => putOuts bs os outs π
  | _, _, _, π => π
def flatC : PV → Bool
  | .lst xs => PV.flats xs
  | .dct ks vs => PV.flats ks && PV.flats vs
  | d => d.flat
def flatO : PO → Bool
  | .im d => d.flat
  | .ow d => flatC d
  | .br _ => false
def nodupB : List Nat → Bool
  | [] => true
  | x :: xs => !xs.contains x && nodupB xs
def callOk (ios : List Bool) (os : List PO) : Bool := nodupB (brs os) && decide (owc os ≤ 1)
def callFl (ios : List Bool) (os : List PO) (o : PO) (outs : List PV) : Bool := (imbrs ios os).isEmpty || (outs.all flatC && flatO o)
def pCall (ios : List Bool) (pf : PFn) (pa : PDG) : PD := fun π => (pa π).bind fun os π1 => match pvAll π1 os with
  | some ds => if callOk ios os = true then match pf ds with
      | .ok o outs => if callFl ios os o outs = true then .ok o (putOuts ios os outs π1) else .bad
      | .ex c outs => if callFl ios os (.im .non) outs = true then .ex c (putOuts ios os outs π1) else .bad
      | .bad => .bad
    else .bad
  | none => .bad
theorem OC.flat {h h' : MH} {S S' : Nat → Prop} {o : Ob} {d : PV} (r : OC h S o d) (f : flatC d = true) : OC h' S' o d := by
  cases d with
  | lst xs =>
    obtain ⟨ys, rfl, r⟩ := r.lst
    exact Ims.flat r f
  | dct ks vs =>
    obtain ⟨a, b, e, r1, r2⟩ := r.dct
    simp only [flatC, Bool.and_eq_true] at f
    have : ∃ ks' vs', obD o = some (ks', vs') ∧ Ims h' S' ks' ks ∧ Ims h' S' vs' vs := ⟨a, b, e, Ims.flat r1 f.1, Ims.flat r2 f.2⟩
    cases o <;> exact this
  | _ => cases o <;> exact r.elim
section
variable {T T2 T3 : Nat → Prop} {h h' h1 : MH} {π π' π1 : PEn} {A A' : Aa} {ρ ρ' : En} {L L' : Nat} {S : Nat → Prop}
theorem nodupB_c {x : Nat} {xs : List Nat} (e : nodupB (x :: xs) = true) : x ∉ xs ∧ nodupB xs = true := by
  simp only [nodupB, Bool.and_eq_true, Bool.not_eq_true'] at e
  exact ⟨fun m => by rw [List.contains_iff_mem.mpr m] at e; exact Bool.noConfusion e.1, e.2⟩
theorem RAj.isSome {ios : List Bool} {vs : List Val} {os : List PO} {js : Js} (r : RAj h A T2 L ios vs os js) : js.map Option.isSome = ios := by
  induction r with
  | nil => rfl
  | im _ _ ih => simp [ih]
  | brI _ _ ih => simp [ih]
  | brO _ _ ih => simp [ih]
  | ow _ _ _ _ _ _ ih => simp [ih]
theorem RAj.mem {ios : List Bool} {vs : List Val} {os : List PO} {js : Js} (r : RAj h A T2 L ios vs os js) : ∀ n, some n ∈ js → (∃ i, i ∈ brs os ∧ A i = some n) ∨ (T2 n ∧ (∀ i, A i ≠ some n) ∧ L ≤ n ∧ 0 < owc os) := by
  induction r with
  | nil => intro n m; cases m
  | im _ _ ih =>
    intro n m
    exact ih n (by simpa using m)
  | brI a _ ih =>
    intro n m
    rcases ih n (by simpa using m) with ⟨i, x, y⟩ | z
    · exact .inl ⟨i, by simp [brs, x], y⟩
    · exact .inr z
  | brO a _ ih =>
    intro n m
    rcases List.mem_cons.mp m with q | m
    · cases q; exact .inl ⟨_, by simp [brs], a⟩
    · rcases ih n m with ⟨i, x, y⟩ | z
      · exact .inl ⟨i, by simp [brs, x], y⟩
      · exact .inr z
  | ow t a l _ _ _ ih =>
    intro n m
    rcases List.mem_cons.mp m with q | m
    · cases q; exact .inr ⟨t, a, l, by simp [owc]⟩
    · rcases ih n m with z | ⟨x, y, z, w⟩
      · exact .inl z
      · exact .inr ⟨x, y, z, by simp [owc]⟩
theorem RAj.uniq {ios : List Bool} {vs : List Val} {os : List PO} {js : Js} (r : RAj h A T2 L ios vs os js) (inj : ∀ i j n, A i = some n → A j = some n → i = j) : nodupB (brs os) = true → owc os ≤ 1 → ∀ (i j n : Nat), js[i]? = some (some n) → js[j]? = some (some n) → i = j := by
  induction r with
  | nil => intro _ _ i j n e; simp at e
  | im _ _ ih =>
    intro a b i j n e f
    cases i with
    | zero => simp at e
    | succ i =>
      cases j with
      | zero => simp at f
      | succ j => rw [ih a b i j n (by simpa using e) (by simpa using f)]
  | brI _ _ ih =>
    intro a b i j n e f
    cases i with
    | zero => simp at e
    | succ i =>
      cases j with
      | zero => simp at f
      | succ j => rw [ih (nodupB_c a).2 b i j n (by simpa using e) (by simpa using f)]
  | brO am r ih =>
    rename_i i0 n0 bs0 vs0 os0 js0
    intro a b i j n e f
    have no : ∀ (k : Nat) m, A i0 = some m → some m ∉ js0 := fun k m q w => by
      rcases r.mem m w with ⟨i', x, y⟩ | ⟨_, y, _⟩
      · have := inj _ _ _ q y
        subst this
        exact (nodupB_c a).1 x
      · exact y _ q
    cases i with
    | zero =>
      cases j with
      | zero => rfl
      | succ j =>
        simp at e; subst e
        exact absurd (List.mem_of_getElem? (by simpa using f)) (no 0 _ am)
    | succ i =>
      cases j with
      | zero =>
        simp at f; subst f
        exact absurd (List.mem_of_getElem? (by simpa using e)) (no 0 _ am)
      | succ j => rw [ih (nodupB_c a).2 b i j n (by simpa using e) (by simpa using f)]
  | ow t an l _ _ r ih =>
    rename_i n0 o0 d0 bs0 vs0 os0 js0 _ _
    intro a b i j n e f
    have no : ∀ m, (∀ i, A i ≠ some m) → some m ∉ js0 := fun m q w => by
      rcases r.mem m w with ⟨i', x, y⟩ | ⟨_, y, _, z⟩
      · exact q _ y
      · simp only [owc] at b; omega
    cases i with
    | zero =>
      cases j with
      | zero => rfl
      | succ j =>
        simp at e; subst e
        exact absurd (List.mem_of_getElem? (by simpa using f)) (no _ an)
    | succ i =>
      cases j with
      | zero =>
        simp at f; subst f
        exact absurd (List.mem_of_getElem? (by simpa using e)) (no _ an)
      | succ j => rw [ih a (by simp only [owc] at b; omega) i j n (by simpa using e) (by simpa using f)]
theorem RAj.args {ios : List Bool} {vs : List Val} {os : List PO} {js : Js} (rn : Rn T2 A h ρ π) (r : RAj h A T2 L ios vs os js) (w : ∀ n, S n → Av A T2 n) : (∀ i n, i ∈ imbrs ios os → A i = some n → ¬ S n) → ∀ ds, pvAll π os = some ds → ArgR h S vs ds js := by
  induction r with
  | nil => intro _ ds e; cases e; exact .nil
  | im a _ ih =>
    intro q ds e
    simp only [pvAll, pv] at e
    split at e
    · rename_i d' ds' e1 e2
      cases e; cases e1
      exact .im (a.weak w) (ih (by simpa [imbrs] using q) _ e2)
    · cases e
  | brI a _ ih =>
    intro q ds e
    simp only [pvAll] at e
    split at e
    · rename_i d' ds' e1 e2
      cases e
      simp only [pv, Option.bind_eq_some_iff] at e1
      obtain ⟨s, es, eo⟩ := e1
      obtain ⟨m, ob, a1, a2, a3, a4⟩ := rn.ow _ s _ (ps_some es) eo
      rw [a] at a1; cases a1
      exact .im (OC.im (a4.mono (sub_mk w)) (q _ _ (by simp [imbrs]) a) a3) (ih (fun i n m => q i n (by simp [imbrs, m])) _ e2)
    · cases e
  | brO a _ ih =>
    intro q ds e
    simp only [pvAll] at e
    split at e
    · rename_i d' ds' e1 e2
      cases e
      simp only [pv, Option.bind_eq_some_iff] at e1
      obtain ⟨s, es, eo⟩ := e1
      obtain ⟨m, ob, a1, a2, a3, a4⟩ := rn.ow _ s _ (ps_some es) eo
      rw [a] at a1; cases a1
      exact .io a3 (a4.mono (sub_mk w)) (ih (by simpa [imbrs] using q) _ e2)
    · cases e
  | ow t an l e1 r _ ih =>
    intro q ds e
    simp only [pvAll, pv] at e
    split at e
    · rename_i d' ds' e2 e3
      cases e; cases e2
      exact .io e1 (r.1.mono (sub_mk w)) (ih (by simpa [imbrs] using q) _ e3)
    · cases e
theorem upd_ne' {i j : Nat} {d : PV} (n : i ≠ j) : (upd' i d π)[j]? = π[j]? := by
  unfold upd'
  split
  · rw [List.getElem?_set_ne n]
  · rfl
theorem upd_len {i : Nat} {d : PV} : (upd' i d π).length = π.length := by
  unfold upd'
  split <;> simp
theorem upd_at {i : Nat} {d : PV} {s : PS} (e : π[i]? = some (some s)) : (upd' i d π)[i]? = some (some (s.put d)) := by
  unfold upd'
  rw [ps_of e]
  simp only
  rw [List.getElem?_set_self (lt_of_get e)]
theorem putOuts_len : ∀ (ios : List Bool) (os : List PO) (outs : List PV) (π : PEn), (putOuts ios os outs π).length = π.length
  | [], _, _, _ => by simp [putOuts]
  | b :: bs, [], _, _ => by cases b <;> simp [putOuts]
  | b :: bs, o :: os, [], _ => by cases b <;> cases o <;> simp [putOuts]
  | b :: bs, o :: os, d :: outs, π => by
    cases b <;> cases o <;> simp only [putOuts] <;> rw [putOuts_len bs os outs] <;> first | rfl | exact upd_len
theorem putOuts_ne {j : Nat} : ∀ (ios : List Bool) (os : List PO) (outs : List PV) (π : PEn), j ∉ brs os → (putOuts ios os outs π)[j]? = π[j]?
  | [], _, _, _, _ => by simp [putOuts]
  | b :: bs, [], _, _, _ => by cases b <;> simp [putOuts]
  | b :: bs, o :: os, [], _, _ => by cases b <;> cases o <;> simp [putOuts]
  | b :: bs, o :: os, d :: outs, π, n => by
    cases o with
    | br i =>
      simp only [brs, List.mem_cons, not_or] at n
      cases b with
      | true => simp only [putOuts]; rw [putOuts_ne bs os outs _ n.2, upd_ne' (Ne.symm n.1)]
      | false => simp only [putOuts]; rw [putOuts_ne bs os outs _ n.2]
    | im _ => cases b <;> simp only [putOuts] <;> exact putOuts_ne bs os outs _ (by simpa [brs] using n)
    | ow _ => cases b <;> simp only [putOuts] <;> exact putOuts_ne bs os outs _ (by simpa [brs] using n)
theorem outs_at {ios : List Bool} {vs : List Val} {os : List PO} {js : Js} (r : RAj h A T2 L ios vs os js) (inj : ∀ i j n, A i = some n → A j = some n → i = j) : ∀ {outs : List PV} {π : PEn}, OutR h' S js outs → nodupB (brs os) = true →
    ∀ j n s, A j = some n → π[j]? = some (some s) → (some n ∈ js ∧ ∃ d o, (putOuts ios os outs π)[j]? = some (some (s.put d)) ∧ d ∈ outs ∧ h'[n]? = some o ∧ OC h' S o d) ∨ (some n ∉ js ∧ (putOuts ios os outs π)[j]? = π[j]?) := by
  induction r with
  | nil => intro outs π _ _ j n s _ _; exact .inr ⟨by simp, by simp [putOuts]⟩
  | im _ _ ih =>
    intro outs π o nd j n s a e
    cases o with
    | im o =>
      rcases ih o nd j n s a e with ⟨m, d, o, x, y, z⟩ | ⟨m, x⟩
      · exact .inl ⟨by simp [m], d, o, by simpa [putOuts] using x, by simp [y], z⟩
      · exact .inr ⟨by simpa using m, by simpa [putOuts] using x⟩
  | brI _ _ ih =>
    intro outs π o nd j n s a e
    cases o with
    | im o =>
      rcases ih o (nodupB_c nd).2 j n s a e with ⟨m, d, o, x, y, z⟩ | ⟨m, x⟩
      · exact .inl ⟨by simp [m], d, o, by simpa [putOuts] using x, by simp [y], z⟩
      · exact .inr ⟨by simpa using m, by simpa [putOuts] using x⟩
  | brO ai r ih =>
    rename_i i m bs vs os js
    intro outs π o nd j n s a e
    cases o with
    | io e1 oc o =>
      rename_i ob d ds
      by_cases c : i = j
      · subst c
        rw [ai] at a; cases a
        refine .inl ⟨by simp, d, ob, ?_, by simp, e1, oc⟩
        simp only [putOuts]
        rw [putOuts_ne bs os ds _ (nodupB_c nd).1]
        exact upd_at e
      · have e' : (upd' i d π)[j]? = some (some s) := by rw [upd_ne' c]; exact e
        have nm : m ≠ n := fun q => c (inj i j n (by rw [← q]; exact ai) a)
        rcases ih o (nodupB_c nd).2 j n s a e' with ⟨mm, d', o, x, y, z⟩ | ⟨mm, x⟩
        · exact .inl ⟨by simp [mm], d', o, by simpa [putOuts] using x, by simp [y], z⟩
        · refine .inr ⟨by simp [mm, Ne.symm nm], ?_⟩
          simp only [putOuts]
          rw [x, upd_ne' c]
  | ow t an l e1 oc0 r ih =>
    rename_i m o0 d0 bs vs os js
    intro outs π o nd j n s a e
    cases o with
    | io e2 oc o =>
      rename_i ob d ds
      have nm : m ≠ n := fun q => an j (by rw [q]; exact a)
      rcases ih o nd j n s a e with ⟨mm, d', o, x, y, z⟩ | ⟨mm, x⟩
      · exact .inl ⟨by simp [mm], d', o, by simpa [putOuts] using x, by simp [y], z⟩
      · exact .inr ⟨by simp [mm, Ne.symm nm], by simpa [putOuts] using x⟩
theorem call_rn {ios : List Bool} {vs : List Val} {os : List PO} {js : Js} {outs : List PV} (rn : Rn T2 A h ρ π) (t : ∀ n, T n → T2 n) (r : RAj h A T2 L ios vs os js) (nd : nodupB (brs os) = true) (ch : Ch js h h') (o : OutR h' S js outs)
    (tq : ∀ n, T3 n → T n ∨ h.length ≤ n) (tl : ∀ n, T3 n → n < h'.length) (ok : ∀ d ∈ outs, ∀ ob, OC h' S ob d → OC h' (Av A T3) ob d) : Rn T3 A h' ρ (putOuts ios os outs π) := by
  have mk : ∀ (m : Nat) (ob : Ob), ¬ Av A T2 m → h[m]? = some ob → h'[m]? = some ob ∧ ¬ Av A T3 m := fun m ob a e => by
    have l := lt_of_get e
    have nm : some m ∉ js := fun z => by
      rcases r.mem m z with ⟨i, _, y⟩ | ⟨y, _⟩
      · exact a (.inl ⟨i, y⟩)
      · exact a (.inr y)
    refine ⟨by rw [ch.keep m l nm, e], fun z => ?_⟩
    · rcases z with z | z
      · exact a (.inl z)
      · rcases tq m z with z | z
        · exact a (.inr (t m z))
        · omega
  have own : ∀ j s, (putOuts ios os outs π)[j]? = some (some s) → A j = none → π[j]? = some (some s) := fun j s e a => by
    by_cases m : j ∈ brs os
    · exfalso
      have : ∀ {ios : List Bool} {vs : List Val} {os : List PO} {js : Js}, RAj h A T2 L ios vs os js → j ∈ brs os → A j ≠ none := fun r => by
        induction r with
        | nil => intro m; cases m
        | im _ _ ih => intro m; exact ih (by simpa [brs] using m)
        | brI q _ ih =>
          intro m
          rcases List.mem_cons.mp (by simpa [brs] using m) with rfl | m
          · rw [q]; simp
          · exact ih m
        | brO q _ ih =>
          intro m
          rcases List.mem_cons.mp (by simpa [brs] using m) with rfl | m
          · rw [q]; simp
          · exact ih m
        | ow _ _ _ _ _ _ ih => intro m; exact ih (by simpa [brs] using m)
      exact this r m a
    · rw [putOuts_ne _ _ _ _ m] at e; exact e
  refine ⟨by rw [putOuts_len]; exact rn.len, fun j d e => ?_, fun j s d e q => ?_, fun j n e => ?_, rn.inj, tl, fun i n e z => ?_⟩
  · cases aj : A j with
    | none =>
      obtain ⟨v, a, b⟩ := rn.im j d (own j _ e aj)
      exact ⟨v, a, b.mono mk⟩
    | some n =>
      exfalso
      obtain ⟨s, c, e1, e2⟩ := rn.dom j n aj
      rcases outs_at r rn.inj o nd j n s aj e1 with ⟨_, d', _, x, _⟩ | ⟨_, x⟩
      · rw [e] at x
        cases s <;> simp [PS.put] at x
        cases e2
      · rw [e, e1] at x
        cases x; cases e2
  · cases aj : A j with
    | none =>
      obtain ⟨n, _, a, _⟩ := rn.ow j s d (own j _ e aj) q
      rw [aj] at a; cases a
    | some n =>
      obtain ⟨s0, c, e1, e2⟩ := rn.dom j n aj
      obtain ⟨n', ob, a1, a2, a3, a4⟩ := rn.ow j s0 c e1 e2
      rw [aj] at a1; cases a1
      rcases outs_at r rn.inj o nd j n s0 aj e1 with ⟨_, d', o', x, y, z, w⟩ | ⟨m, x⟩
      · rw [e] at x
        cases x
        rw [put_own e2] at q; cases q
        exact ⟨n, o', rfl, a2, z, ok _ y o' w⟩
      · rw [e, e1] at x
        cases x
        rw [e2] at q; cases q
        exact ⟨n, ob, rfl, a2, by rw [ch.keep n (lt_of_get a3) m]; exact a3, a4.mono mk⟩
  · obtain ⟨s0, c, e1, e2⟩ := rn.dom j n e
    rcases outs_at r rn.inj o nd j n s0 e e1 with ⟨_, d', o', x, _⟩ | ⟨_, x⟩
    · exact ⟨_, d', x, put_own e2⟩
    · exact ⟨s0, c, by rw [x]; exact e1, e2⟩
  · rcases tq n z with z | z
    · exact rn.ta i n e (t n z)
    · have := rn.lt e; omega
theorem putOuts_io {ios : List Bool} {os : List PO} {j : Nat} {d : PV} : ∀ {outs : List PV} {π : PEn}, π[j]? = some (some (.io d)) → ∃ d', (putOuts ios os outs π)[j]? = some (some (.io d')) := by
  induction ios generalizing os d with
  | nil => intro outs π e; exact ⟨d, by simpa [putOuts] using e⟩
  | cons b bs ih =>
    intro outs π e
    cases os with
    | nil => exact ⟨d, by cases b <;> simpa [putOuts] using e⟩
    | cons o os =>
      cases outs with
      | nil => exact ⟨d, by cases b <;> cases o <;> simpa [putOuts] using e⟩
      | cons d0 outs =>
        cases b with
        | false => simp only [putOuts]; exact ih e
        | true =>
          cases o with
          | im _ => simp only [putOuts]; exact ih e
          | ow _ => simp only [putOuts]; exact ih e
          | br i =>
            simp only [putOuts]
            by_cases c : i = j
            · subst c
              exact ih (d := d0) (by rw [upd_at e]; rfl)
            · exact ih (d := d) (by rw [upd_ne' c]; exact e)
theorem call_fx {ios : List Bool} {vs : List Val} {os : List PO} {js : Js} {outs : List PV} (fx : Fx A A π π1 h h1) (r : RAj h1 A T2 h.length ios vs os js) (ch : Ch js h1 h') : Fx A A π (putOuts ios os outs π1) h h' := by
  refine ⟨Nat.le_trans fx.le ch.le, fun n l q => ?_, fx.new, fun i d e => ?_⟩
  · have nm : some n ∉ js := fun z => by
      rcases r.mem n z with ⟨i, _, y⟩ | ⟨_, _, y, _⟩
      · exact q i y
      · omega
    rw [ch.keep n (Nat.lt_of_lt_of_le l fx.le) nm, fx.keep n l q]
  · obtain ⟨_, d', e'⟩ := fx.io i d e
    exact ⟨rfl, putOuts_io e'⟩
theorem pu_call {fn : DF} {ios : List Bool} {pf : PFn} (n : Nat) {ds : DV} {pa : PDG} (hf : PuF fn ios pf) (ha : PuG' ios ds pa) (hn : ios.length = n := by rfl) : PuE (dCall n fn ds) (pCall ios pf pa) := fun T A h ρ π rn => by
  unfold dCall pCall
  have g := ha T A h ρ π rn
  cases q : pa π with
  | bad => trivial
  | ex c π1 =>
    rw [q] at g
    obtain ⟨h', e, f, r⟩ := g
    rw [e]
    exact ⟨h', rfl, f, r⟩
  | ok os π1 =>
    rw [q] at g
    obtain ⟨vs, h1, T2, e1, fx, ⟨t, tq⟩, rn1, js, rj⟩ := g
    rw [e1]
    show Go RO T A h.length ρ h π (if vs.length = n then liftV (fn vs h1) else .bad) (match pvAll π1 os with
      | some ds => if callOk ios os = true then match pf ds with
          | .ok o outs => if callFl ios os o outs = true then .ok o (putOuts ios os outs π1) else .bad
          | .ex c outs => if callFl ios os (.im .non) outs = true then .ex c (putOuts ios os outs π1) else .bad
          | .bad => .bad
        else .bad
      | none => .bad)
    cases pd : pvAll π1 os with
    | none => trivial
    | some ds =>
      simp only
      by_cases ck : callOk ios os = true
      · rw [if_pos ck]
        simp only [callOk, Bool.and_eq_true, decide_eq_true_eq] at ck
        obtain ⟨nd, oc⟩ := ck
        let Tc : Nat → Prop := fun n => Av A T2 n ∧ some n ∉ js ∧ ∀ i, i ∈ imbrs ios os → A i ≠ some n
        have mem2 : ∀ n, some n ∈ js → Av A T2 n := fun n z => by
          rcases rj.mem n z with ⟨i, _, y⟩ | ⟨y, _⟩
          · exact .inl ⟨i, y⟩
          · exact .inr y
        have w : ∀ n, Sj Tc js n → Av A T2 n := fun n z => z.elim (fun q => q.1) (mem2 n)
        have jok : JsOk Tc h1 ios js := ⟨fun n z => rn1.av_lt z.1, fun n z q => q.2.1 z, rj.uniq rn1.inj nd oc, rj.isSome⟩
        have nib : ∀ i n, i ∈ imbrs ios os → A i = some n → ¬ Sj Tc js n := fun i n m a z => by
          rcases z with z | z
          · exact z.2.2 i m a
          · have sub : ∀ {ios : List Bool} {vs : List Val} {os : List PO} {js : Js}, RAj h1 A T2 h.length ios vs os js → nodupB (brs os) = true → i ∈ imbrs ios os → some n ∉ js := fun r => by
              induction r with
              | nil => intro _ m; simp [imbrs] at m
              | im _ _ ih => intro nd m; simpa using ih nd (by simpa [imbrs] using m)
              | brI ai r ih =>
                intro nd m
                rcases List.mem_cons.mp (by simpa [imbrs] using m) with rfl | m
                · intro z
                  rcases r.mem n (by simpa using z) with ⟨i', x, y⟩ | ⟨_, y, _⟩
                  · have := rn1.inj _ _ _ a y
                    subst this
                    exact (nodupB_c nd).1 x
                  · exact y _ a
                · simpa using ih (nodupB_c nd).2 m
              | brO ai r ih =>
                rename_i i0 n0 bs0 vs0 os0 js0
                intro nd m
                have m : i ∈ imbrs bs0 os0 := by simpa [imbrs] using m
                have ib : i ∈ brs os0 := by
                  have : ∀ {bs : List Bool} {os : List PO}, i ∈ imbrs bs os → i ∈ brs os := fun {bs} => by
                    induction bs with
                    | nil => intro os m; simp [imbrs] at m
                    | cons b bs ih =>
                      intro os m
                      cases os with
                      | nil => cases b <;> simp [imbrs] at m
                      | cons o os =>
                        cases b <;> cases o <;> simp only [imbrs, brs, List.mem_cons] at m ⊢
                        all_goals first
                          | exact ih m
                          | exact .inr (ih m)
                          | exact m.imp id ih
                  exact this m
                intro z
                rcases List.mem_cons.mp z with q | z
                · cases q
                  have := rn1.inj _ _ _ a ai
                  subst this
                  exact (nodupB_c nd).1 ib
                · exact ih (nodupB_c nd).2 m z
              | ow tn an l e oc r ih =>
                rename_i n0 o0 d0 bs0 vs0 os0 js0
                intro nd m z
                rcases List.mem_cons.mp z with q | z
                · cases q; exact an _ a
                · exact ih nd (by simpa [imbrs] using m) z
            exact sub rj nd m z
        have ar := rj.args rn1 w nib ds pd
        have ln : vs.length = n := by
          rw [← hn, ← rj.isSome, List.length_map, ar.lens.1, ar.lens.2]
        rw [if_pos ln]
        have fr := hf Tc h1 vs ds js jok ar
        have noim : (imbrs ios os).isEmpty = true → ∀ m, Av A T2 m → Sj Tc js m := fun z m a => by
          by_cases mj : some m ∈ js
          · exact .inr mj
          · refine .inl ⟨a, mj, fun i q => ?_⟩
            rw [List.isEmpty_iff.mp z] at q; cases q
        cases pq : pf ds with
        | bad => trivial
        | ex c outs =>
          rw [pq] at fr
          simp only
          by_cases fl : callFl ios os (.im .non) outs = true
          · rw [if_pos fl]
            obtain ⟨h', e, ch, orr⟩ := fr
            rw [e]
            refine ⟨h', rfl, call_fx fx rj ch, call_rn (T3 := T) rn1 t rj nd ch orr (fun n z => .inl z) (fun n z => Nat.lt_of_lt_of_le (rn1.tl n (t n z)) ch.le) fun d dm ob r => ?_⟩
            simp only [callFl, Bool.or_eq_true, Bool.and_eq_true] at fl
            rcases fl with fl | fl
            · exact r.mono (sub_mk fun m z => noim fl m (Av.sub t m z))
            · exact r.flat (List.all_eq_true.mp fl.1 d dm)
          · rw [if_neg fl]; trivial
        | ok o outs =>
          rw [pq] at fr
          simp only
          by_cases fl : callFl ios os o outs = true
          · rw [if_pos fl]
            obtain ⟨v, h', T3c, e, ch, tc, tcq, tcl, orr, res⟩ := fr
            rw [e]
            simp only [callFl, Bool.or_eq_true, Bool.and_eq_true] at fl
            have up : (imbrs ios os).isEmpty = true → ∀ m, Av A T2 m → Sj T3c js m := fun z m a => (noim z m a).imp (tc m) id
            cases o with
            | br i => exact res.elim
            | im d =>
              refine ⟨.v v, h', T, rfl, call_fx fx rj ch, ⟨tt, fun _ z => .inl z⟩, call_rn (T3 := T) rn1 t rj nd ch orr (fun n z => .inl z) (fun n z => Nat.lt_of_lt_of_le (rn1.tl n (t n z)) ch.le) (fun d dm ob r => ?_), v, rfl, ?_⟩
              · rcases fl with fl | fl
                · exact r.mono (sub_mk fun m z => up fl m (Av.sub t m z))
                · exact r.flat (List.all_eq_true.mp fl.1 d dm)
              · rcases fl with fl | fl
                · exact Im.weak (fun m z => up fl m (Av.sub t m z)) res
                · exact Im.flat res fl.2
            | ow d =>
              obtain ⟨m, ob, rfl, tm, lm, em, om⟩ := res
              have ne : ∀ i, A i ≠ some m := fun i q => by have := rn1.lt q; omega
              have ok : ∀ d ob, OC h' (Sj T3c js) ob d → ((imbrs ios os).isEmpty = true ∨ flatC d = true) → OC h' (Av A fun k => T k ∨ k = m) ob d := fun d ob r z => by
                rcases z with z | z
                · refine r.mono (sub_mk fun k y => ?_)
                  rcases y with y | y | rfl
                  · exact up z k (.inl y)
                  · exact up z k (.inr (t k y))
                  · exact .inl tm
                · exact r.flat z
              refine ⟨.v (.ref m), h', fun k => T k ∨ k = m, rfl, call_fx fx rj ch, ⟨fun n z => .inl z, fun n z => z.imp id fun q => by rw [q]; exact Nat.le_trans fx.le lm⟩,
                call_rn rn1 t rj nd ch orr (fun n z => z.imp id fun q => by rw [q]; exact lm) (fun n z => z.elim (fun z => Nat.lt_of_lt_of_le (rn1.tl n (t n z)) ch.le) fun q => by rw [q]; exact lt_of_get em) (fun d dm ob r => ok d ob r (fl.imp id fun z => List.all_eq_true.mp z.1 d dm)), ?_⟩
              exact .inr ⟨m, ob, rfl, .inr rfl, ne, Nat.le_trans fx.le lm, em, ok d ob om (fl.imp id fun z => z.2)⟩
          · rw [if_neg fl]; trivial
      · rw [if_neg ck]; trivial
end
end Pq

namespace Pq
open PySem L2 Mi
section
variable {h : MH} {S : Nat → Prop}
theorem rds1 {xs : List O} {d : PV} (r : RDs h S xs [d]) : ∃ x, xs = [x] ∧ RD h S x d := by
  cases r with
  | cons a b => cases b; exact ⟨_, rfl, a⟩
theorem rds2 {xs : List O} {d e : PV} (r : RDs h S xs [d, e]) : ∃ x y, xs = [x, y] ∧ RD h S x d ∧ RD h S y e := by
  cases r with
  | cons a b => obtain ⟨y, rfl, c⟩ := rds1 b; exact ⟨_, _, rfl, a, c⟩
end
def qLen : List PV → Option PO
  | [.str s] => if s.length ≤ 16777216 then some (.im (.int s.length)) else none
  | [.dct _ vs] => some (.im (.int vs.length))
  | [d] => (seqP d).map fun xs => .im (.int xs.length)
  | _ => none
theorem fa_len : FA bLen qLen := by
  intro h S xs ds o r e
  unfold qLen at e
  split at e
  · obtain ⟨x, rfl, w⟩ := rds1 r; clear r; have r := w; clear w
    cases rd_str r
    split at e
    · rename_i c; cases e; exact ⟨_, by simp only [bLen]; rw [if_pos c], _, rfl, .int _⟩
    · cases e
  · obtain ⟨x, rfl, w⟩ := rds1 r; clear r; have r := w; clear w
    cases e
    obtain ⟨n, o, kl, vl, rfl, a, b, c, d⟩ := rd_dct r
    refine ⟨.v (.int vl.length), ?_, _, rfl, by rw [d.length]; exact .int _⟩
    cases o with
    | dK kvs => cases b; simp [bLen, seqO, a]
    | dT kvs => cases b; simp [bLen, seqO, a]
    | lk kvs => cases b; simp [bLen, seqO, a]
    | _ => cases b
  · obtain ⟨x, rfl, w⟩ := rds1 r; clear r; have r := w; clear w
    simp only [Option.map_eq_some_iff] at e
    obtain ⟨es, es', rfl⟩ := e
    obtain ⟨k, vs, sq, ims⟩ := rd_seq r es'
    refine ⟨.v (.int vs.length), ?_, _, rfl, by rw [ims.length]; exact .int _⟩
    cases x with
    | n _ => simp only [bLen, sq]
    | v x => cases x <;> first | (simp [seqO] at sq; done) | simp only [bLen, sq]
  · cases e
def qAbs : List PV → Option PO
  | [.int i] => some (.im (.int (if i < 0 then -i else i)))
  | _ => none
theorem fa_abs : FA bAbs qAbs := by
  intro h S xs ds o r e
  unfold qAbs at e
  split at e
  · obtain ⟨x, rfl, w⟩ := rds1 r; clear r; have r := w; clear w
    cases rd_int r; cases e; exact ⟨_, rfl, _, rfl, .int _⟩
  · cases e
def qInt : List PV → Option PO
  | [.int i] => some (.im (.int i))
  | [.bl b] => some (.im (.int (if b then 1 else 0)))
  | _ => none
theorem fa_int : FA bInt qInt := by
  intro h S xs ds o r e
  unfold qInt at e
  split at e
  · obtain ⟨x, rfl, w⟩ := rds1 r; clear r; have r := w; clear w
    cases rd_int r; cases e; exact ⟨_, rfl, _, rfl, .int _⟩
  · obtain ⟨x, rfl, w⟩ := rds1 r; clear r; have r := w; clear w
    cases rd_bl r; cases e; exact ⟨_, rfl, _, rfl, .int _⟩
  · cases e
def qMax : List PV → Option PO
  | [.int i, .int j] => some (.im (.int (if j > i then j else i)))
  | _ => none
def qMin : List PV → Option PO
  | [.int i, .int j] => some (.im (.int (if j < i then j else i)))
  | _ => none
def qDivmod : List PV → Option PO
  | [.int i, .int j] => gd (0 < j ∧ j < 18446744073709551616) (.im (.tup [.int (i / j), .int (i % j)]))
  | _ => none
theorem fa_divmod : FA bDivmod qDivmod := by
  intro h S xs ds o r e
  unfold qDivmod at e
  split at e
  · obtain ⟨x, y, rfl, w, q⟩ := rds2 r; clear r; have r := w; clear w
    cases rd_int r; cases rd_int q
    obtain ⟨c, rfl⟩ := gd_s e
    exact ⟨_, by simp only [bDivmod]; rw [if_pos c], _, rfl, .tup (.cons (.int _) (.cons (.int _) .nil))⟩
  · cases e
def qList : List PV → Option PO
  | [d] => (seqP d).map fun xs => .ow (.lst xs)
  | _ => none
theorem fa_list : FA bList qList := by
  intro h S xs ds o r e
  unfold qList at e
  split at e
  · obtain ⟨x, rfl, w⟩ := rds1 r; clear r; have r := w; clear w
    simp only [Option.map_eq_some_iff] at e
    obtain ⟨es, es', rfl⟩ := e
    obtain ⟨k, vs, sq, ims⟩ := rd_seq r es'
    exact ⟨.n vs, by simp only [bList, sq], _, _, rfl, rfl, ims⟩
  · cases e
def qTuple : List PV → Option PO
  | [d] => (seqP d).map fun xs => .im (.tup xs)
  | _ => none
theorem fa_tuple : FA bTuple qTuple := by
  intro h S xs ds o r e
  unfold qTuple at e
  split at e
  · obtain ⟨x, rfl, w⟩ := rds1 r; clear r; have r := w; clear w
    simp only [Option.map_eq_some_iff] at e
    obtain ⟨es, es', rfl⟩ := e
    obtain ⟨k, vs, sq, ims⟩ := rd_seq r es'
    exact ⟨.v (.tup vs), by simp only [bTuple, sq], _, rfl, .tup ims⟩
  · cases e
def blsP : List PV → Option (List Bool)
  | [] => some []
  | .bl b :: xs => match blsP xs with
    | some bs => some (b :: bs)
    | none => none
  | _ => none
theorem bls_im {h : MH} {S : Nat → Prop} : ∀ {xs : List Val} {ds : List PV} {bs : List Bool}, Ims h S xs ds → blsP ds = some bs → blsOf xs = some bs
  | _, _, bs, .nil, e => e
  | _, _, bs, .cons a b, e => by
    cases a <;> simp only [blsP, reduceCtorEq] at e
    split at e
    · rename_i q; cases e; simp only [blsOf, bls_im b q]
    · cases e
theorem rd_lstO {h : MH} {S : Nat → Prop} {x : O} {d : PV} {ds : List PV} (r : RD h S x d) (e : d = .lst ds ∨ d = .frz ds) : ∃ xs, lstO h x = some xs ∧ Ims h S xs ds := by
  rcases e with rfl | rfl
  · obtain ⟨xs, a, b, _⟩ := rd_lst r; exact ⟨xs, by simp only [lstO, a], b⟩
  · obtain ⟨xs, rfl, b⟩ := rd_frz r; exact ⟨xs, rfl, b⟩
def qAll : List PV → Option PO
  | [.lst ds] => (blsP ds).map fun bs => .im (.bl (bs.all id))
  | _ => none
theorem fa_all : FA bAll qAll := by
  intro h S xs ds o r e
  unfold qAll at e
  split at e
  · obtain ⟨x, rfl, w⟩ := rds1 r; clear r; have r := w; clear w
    simp only [Option.map_eq_some_iff] at e
    obtain ⟨es, es', rfl⟩ := e
    obtain ⟨vs, a, b⟩ := rd_lstO r (.inl rfl)
    exact ⟨_, by simp only [bAll, a, Option.bind, bls_im b es'], _, rfl, .bl _⟩
  · cases e
def conP : PV → Bool
  | .tup _ => true
  | .lst _ => true
  | .frz _ => true
  | _ => false
def qStr : List PV → Option PO
  | [.str s] => some (.im (.str s))
  | [.int i] => gd (i.natAbs.log2 < 1920) (.im (.str (itoa i)))
  | [.bl b] => some (.im (.str (if b then [84, 114, 117, 101] else [70, 97, 108, 115, 101])))
  | [.non] => some (.im (.str [78, 111, 110, 101]))
  | [d] => gd (conP d = true ∧ PV.okd 16 d = true ∧ shOk d.dat = true) (.im (.str (codesOf d.dat.shown)))
  | _ => none
def tyP : PV → Ty
  | .non => .non
  | .bl _ => .bool
  | .int _ => .int
  | .str _ => .str
  | .tup _ => .tup
  | .lst _ => .lst
  | .frz _ => .lst
  | .dct _ _ => .dct
  | .kt _ => .tup
theorem rd_ty {h : MH} {S : Nat → Prop} {x : O} {d : PV} (r : RD h S x d) : tyO h x = some (tyP d) := by
  cases d with
  | non => cases rd_non r; rfl
  | bl b => cases rd_bl r; rfl
  | int b => cases rd_int r; rfl
  | str b => cases rd_str r; rfl
  | tup b => obtain ⟨xs, rfl, _⟩ := rd_tup r; rfl
  | lst b =>
    obtain ⟨xs, _, _, q⟩ := rd_lst r
    rcases q with rfl | ⟨n, rfl, e⟩
    · rfl
    · simp only [tyO, e]; rfl
  | frz b => obtain ⟨xs, rfl, _⟩ := rd_frz r; rfl
  | kt b => obtain ⟨xs, rfl, _⟩ := rd_kt r; rfl
  | dct a b =>
    obtain ⟨n, o, kl, vl, rfl, a, b, _⟩ := rd_dct r
    cases o <;> first | (cases b; done) | (simp only [tyO, a]; rfl)
def qIsi (t : Ty) (d : PV) : Option PO := some (.im (.bl ((tyP d).sub t)))
def qIsi2 (t t2 : Ty) (d : PV) : Option PO := some (.im (.bl ((tyP d).sub t || (tyP d).sub t2)))
theorem f1_isi (t : Ty) : F1 (fIsi t) (qIsi t) := by
  intro h S x d o r e
  cases e
  exact ⟨_, by simp only [fIsi, rd_ty r], _, rfl, .bl _⟩
theorem f1_isi2 (t t2 : Ty) : F1 (fIsi2 t t2) (qIsi2 t t2) := by
  intro h S x d o r e
  cases e
  exact ⟨_, by simp only [fIsi2, rd_ty r], _, rfl, .bl _⟩
def pAddI : PV → PV → Option PO
  | .int i, .int j => some (.im (.int (i + j)))
  | .str a, .str b => szs (a.length + b.length) (.im (.str (a ++ b)))
  | _, _ => none
def pCh3 (f f' f'' : PV → PV → Option PO) (a b c d : PD) : PD := fun π => (a π).bind fun x π1 => (b π1).bind fun y π2 => (see2 f x y π2).bind fun z π3 => (pasB z π3).bind fun k π3 => if k = true then
  (c π3).bind fun w π4 => (see2 f' y w π4).bind fun z π5 => (pasB z π5).bind fun k π5 => if k = true then (d π5).bind fun u π6 => see2 f'' w u π6 else .ok (.im (.bl false)) π5
  else .ok (.im (.bl false)) π3
section
variable {T Tm T2 : Nat → Prop} {A : Aa} {L Lm : Nat} {ρ : En} {h h1 : MH} {π π1 : PEn}
end
end Pq

namespace Pq
open PySem L2 Mi
def pSetA (i : Nat) (p : PD) : PSD := fun π => match p π with
  | .ok (.ow d) π1 => if isIo π1 i = true ∨ π1.length ≤ i then .bad else .nx (π1.set i (some (.ow d)))
  | .ok (.im d) π1 => if isIo π1 i = true then .bad else .nx (π1.set i (some (.im d)))
  | .ok (.br _) _ => .bad
  | .ex c π1 => .ex c π1
  | .bad => .bad
theorem pu_setA (i : Nat) {d : D} {p : PD} (a : PuE d p) : PuS (sSet i d) (pSetA i p) := fun T A h ρ π rn => by
  have g1 := pu_set i a T A h ρ π rn
  have g2 := pu_setO i a T A h ρ π rn
  unfold pSet at g1
  unfold pSetO at g2
  unfold pSetA
  cases q : p π with
  | ok o π1 =>
    rw [q] at g1 g2
    cases o with
    | im d => exact g1
    | ow d => exact g2
    | br i => trivial
  | ex c π1 => rw [q] at g1; exact g1
  | bad => trivial
def psetG : List Nat → List PO → PEn → Option PEn
  | [], [], π => some π
  | i :: is, .im d :: os, π => if isIo π i = true then none else psetG is os (π.set i (some (.im d)))
  | i :: is, .ow d :: os, π => if isIo π i = true ∨ π.length ≤ i then none else psetG is os (π.set i (some (.ow d)))
  | _, _, _ => none
def pParG (is : List Nat) (p : PDG) : PSD := fun π => (p π).out fun os π1 => onT (psetG is os π1)
section
variable {T Tm T2 : Nat → Prop} {A A' : Aa} {L Lm : Nat} {ρ ρ' : En} {h h1 h' : MH} {π π1 π' : PEn}
theorem RAj.weakA {i n : Nat} {ios : List Bool} {vs : List Val} {os : List PO} {js : Js} (r : RAj h A T2 L ios vs os js) (nb : brs os = []) (w : ∀ m, Av A' T m → Av A T2 m) (k : ∀ m, some m ∈ js → T m ∧ ∀ i, A' i ≠ some m) : RAj h A' T L ios vs os js := by
  induction r with
  | nil => exact .nil
  | im a _ ih => exact .im (a.weak w) (ih (by simpa [brs] using nb) fun m z => k m (by simp [z]))
  | brI a _ ih => simp [brs] at nb
  | brO a _ ih => simp [brs] at nb
  | ow t a l e o _ ih =>
    have := k _ (List.mem_cons_self ..)
    exact .ow this.1 this.2 l e ⟨o.1.mono (sub_mk w), o.2⟩ (ih (by simpa [brs] using nb) fun m z => k m (by simp [z]))
theorem psetG_brs : ∀ {is : List Nat} {os : List PO} {π : PEn}, psetG is os π = some π' → brs os = []
  | [], [], _, _ => rfl
  | [], _ :: _, _, e => by simp [psetG] at e
  | _ :: _, [], _, e => by simp [psetG] at e
  | i :: is, .im d :: os, π, e => by
    simp only [psetG] at e
    split at e
    · cases e
    · simpa [brs] using psetG_brs e
  | i :: is, .ow d :: os, π, e => by
    simp only [psetG] at e
    split at e
    · cases e
    · simpa [brs] using psetG_brs e
  | i :: is, .br d :: os, π, e => by simp [psetG] at e
theorem psetG_ok {ios : List Bool} {vs : List Val} {os : List PO} : ∀ {is : List Nat} {js : Js} {A : Aa} {T2 : Nat → Prop} {ρ : En} {π π' : PEn}, Rn T2 A h ρ π → (∀ n, T n → T2 n) → (∀ n, some n ∈ js → ¬ T n) → RAj h A T2 L ios vs os js → psetG is os π = some π' →
    ∃ ρ' A', setN is vs ρ = some ρ' ∧ Rn T A' h ρ' π' ∧ (∀ i n, A' i = some n → (∃ j, A j = some n) ∨ L ≤ n) ∧ (∀ (i : Nat) (d : PV), π[i]? = some (some (PS.io d)) → A' i = A i ∧ ∃ d', π'[i]? = some (some (PS.io d'))) := by
  induction os generalizing ios vs with
  | nil =>
    intro is js A T2 ρ π π' rn t nt r e
    cases r
    cases is with
    | nil => cases e; exact ⟨ρ, A, rfl, rn.weak t, fun i n e => .inl ⟨i, e⟩, fun i d e => ⟨rfl, d, e⟩⟩
    | cons _ _ => simp [psetG] at e
  | cons o os ih =>
    intro is js A T2 ρ π π' rn t nt r e
    cases is with
    | nil => simp [psetG] at e
    | cons i is =>
      cases r with
      | brI => simp [psetG] at e
      | brO => simp [psetG] at e
      | im a r =>
        have nb := psetG_brs e
        simp only [psetG] at e
        split at e
        · cases e
        · rename_i io
          have io : isIo π i = false := by simpa using io
          have r1 := rn.setI (i := i) a
          have nb : brs os = [] := by simpa [brs] using nb
          obtain ⟨ρ', A', q1, q2, q3, q4⟩ := ih r1 t (fun n z => nt n (by simp [z])) (r.weakA (i := i) (n := i) nb no_av fun m z => by
            rcases r.mem m z with ⟨k, x, _⟩ | ⟨x, y, _⟩
            · rw [nb] at x; cases x
            · exact ⟨x, fun k q => y k (Aa.no_s q).2⟩) e
          refine ⟨ρ', A', q1, q2, fun j n z => ?_, fun j d' z => ?_⟩
          · rcases q3 j n z with ⟨k, w⟩ | w
            · exact .inl ⟨k, (Aa.no_s w).2⟩
            · exact .inr w
          · have c : i ≠ j := fun c => by subst c; exact isIo_f io z
            obtain ⟨x, y⟩ := q4 j d' (by rw [List.getElem?_set_ne c]; exact z)
            exact ⟨by rw [x]; simp [Aa.no, Ne.symm c], y⟩
      | ow tn an l eo oc r =>
        rename_i n ob d bs vs js
        have nb := psetG_brs e
        simp only [psetG] at e
        split at e
        · cases e
        · rename_i c
          have io : isIo π i = false := by
            cases q : isIo π i with
            | false => rfl
            | true => exact absurd (.inl q) c
          have il : i < π.length := Nat.lt_of_not_le fun q => c (.inr q)
          have nb : brs os = [] := by simpa [brs] using nb
          have r1 := Rn.setO (T := fun m => T2 m ∧ m ≠ n) rn (fun m z => z.1) tn an (fun z => z.2 rfl) eo oc.1 io il
          obtain ⟨ρ', A', q1, q2, q3, q4⟩ := ih r1 (fun m z => ⟨t m z, fun q => by subst q; exact nt m (List.mem_cons_self ..) z⟩) (fun m z => nt m (by simp [z])) (r.weakA (i := i) (n := n) nb (fun m z => by
            rcases z with ⟨j, z⟩ | z
            · unfold Aa.at at z
              split at z
              · cases z; exact .inr tn
              · exact .inl ⟨j, z⟩
            · exact .inr z.1) fun m z => by
            have mn : m ≠ n := fun q => by subst q; exact oc.2 z
            rcases r.mem m z with ⟨k, x, _⟩ | ⟨x, y, _⟩
            · rw [nb] at x; cases x
            · refine ⟨⟨x, mn⟩, fun k q => ?_⟩
              unfold Aa.at at q
              split at q
              · cases q; exact mn rfl
              · exact y k q) e
          refine ⟨ρ', A', q1, q2, fun j m z => ?_, fun j d' z => ?_⟩
          · rcases q3 j m z with ⟨k, w⟩ | w
            · unfold Aa.at at w
              split at w
              · cases w; exact .inr l
              · exact .inl ⟨k, w⟩
            · exact .inr w
          · have c : i ≠ j := fun c => by subst c; exact isIo_f io z
            obtain ⟨x, y⟩ := q4 j d' (by rw [List.getElem?_set_ne c]; exact z)
            exact ⟨by rw [x]; simp [Aa.at, Ne.symm c], y⟩
theorem pu_parG (is : List Nat) {ios : List Bool} {ds : DV} {p : PDG} (a : PuG' ios ds p) : PuS (sPar is ds) (pParG is p) := fun T A h ρ π rn =>
  Go.out rn (a T A h ρ π rn) fun xs h1 T2 os π1 fx t tq rn1 ⟨js, rj⟩ => by
    unfold onT
    cases e : psetG is os π1 with
    | none => trivial
    | some π2 =>
      have nb := psetG_brs e
      obtain ⟨ρ', A', q, r, nw, io⟩ := psetG_ok (T := T) rn1 t (fun n z w => by
        rcases rj.mem n z with ⟨i, x, _⟩ | ⟨_, _, l, _⟩
        · rw [nb] at x; cases x
        · exact absurd (rn.tl n w) (Nat.not_lt.mpr l)) rj e
      refine ⟨ρ', h1, ?_, A', ⟨fx.le, fx.keep, nw, fun i d z => ?_⟩, r⟩
      · simp only [q]
      · obtain ⟨_, d', z'⟩ := fx.io i d z
        exact io i d' z'
end
def pdiZ (p q : PD) : PDI := fun π => (p π).bind fun o π1 => (q π1).bind fun o' π2 => match pv π2 o, pv π2 o' with
  | some d, some e => match seqP d, seqP e with
    | some xs, some ys => if isTup d = isTup e ∧ (brs [o, o'] = [] ∨ (PV.flats xs = true ∧ PV.flats ys = true ∧ isTup d = false)) then .ok (zipP xs ys, wtO o xs ++ wtO o' ys) π2 else .bad
    | _, _ => .bad
  | _, _ => .bad
theorem okw_app {a b : Wt} {π : PEn} : okw (a ++ b) π = true ↔ okw a π = true ∧ okw b π = true := by simp [okw, List.all_append]
theorem isTp_of {h : MH} {S : Nat → Prop} {x : O} {d : PV} {k : LK} {xs : List Val} {ds : List PV} (r : RD h S x d) (e : seqP d = some ds) (sq : seqO h x = some (k, xs)) : isTp k = isTup d := by
  cases d <;> simp only [seqP, reduceCtorEq, Option.some.injEq] at e
  · obtain ⟨ys, rfl, _⟩ := rd_tup r; cases sq; rfl
  · obtain ⟨ys, s, _, _⟩ := rd_lst r; rw [s] at sq; cases sq; rfl
  · obtain ⟨ys, rfl, _⟩ := rd_frz r; cases sq; rfl
theorem pu_iZ {d e : D} {p q : PD} (a : PuE d p) (b : PuE e q) : PuI (diZ d e) (pdiZ p q) := fun T A h ρ π rn =>
  go_two (L := h.length) (rel := rPDI) a b rn (f := fun o o2 h2 => match seqO h2 o, seqO h2 o2 with
  | some (k, xs), some (k2, ys) => if isTp k = isTp k2 then .ok (zipF xs ys, fun h => live o xs h && live o2 ys h) h2 else .bad
  | _, _ => .bad) (g := fun o o' π2 => match pv π2 o, pv π2 o' with
  | some d, some e => match seqP d, seqP e with
    | some xs, some ys => if isTup d = isTup e ∧ (brs [o, o'] = [] ∨ (PV.flats xs = true ∧ PV.flats ys = true ∧ isTup d = false)) then .ok (zipP xs ys, wtO o xs ++ wtO o' ys) π2 else .bad
    | _, _ => .bad
  | _, _ => .bad) fun x y h2 T2 o o' π2 rn2 t rx ry => by
    cases ex : pv π2 o with
    | none => trivial
    | some d =>
      cases ey : pv π2 o' with
      | none => trivial
      | some e =>
        simp only
        cases sx : seqP d with
        | none => trivial
        | some xs =>
          cases sy : seqP e with
          | none => trivial
          | some ys =>
            simp only
            by_cases c : isTup d = isTup e ∧ (brs [o, o'] = [] ∨ (PV.flats xs = true ∧ PV.flats ys = true ∧ isTup d = false))
            · rw [if_pos c]
              have lst : ∀ {i : Nat} {o : PO} {d : PV} {xs : List PV}, pv π2 o = some d → seqP d = some xs → o = .br i → isTup d = false → d = .lst xs := fun {i o d xs} e s q f => by
                subst q
                simp only [pv, Option.bind_eq_some_iff] at e
                obtain ⟨s', es, eo⟩ := e
                obtain ⟨n, ob, _, _, _, oc⟩ := rn2.ow i s' _ (ps_some es) eo
                cases d <;> simp only [seqP, reduceCtorEq, Option.some.injEq] at s
                · cases f
                · subst s; rfl
                · cases ob <;> exact oc.elim
              have fx' : ∀ i, o = .br i → PV.flats xs = true ∧ d = .lst xs := fun i q => by
                rcases c.2 with z | z
                · subst q; simp [brs] at z
                · exact ⟨z.1, lst ex sx q z.2.2⟩
              have fy' : ∀ i, o' = .br i → PV.flats ys = true ∧ e = .lst ys := fun i q => by
                rcases c.2 with z | z
                · subst q; cases o <;> simp [brs] at z
                · exact ⟨z.2.1, lst ey sy q (by rw [← c.1]; exact z.2.2)⟩
              obtain ⟨k, vs, s1, i1, l1, _⟩ := live_ok rn2 t rx ex sx fx'
              obtain ⟨k2, us, s2, i2, l2, _⟩ := live_ok rn2 t ry ey sy fy'
              have kk : isTp k = isTp k2 := by
                rw [isTp_of (rx.rd rn2 t ex) sx s1, isTp_of (ry.rd rn2 t ey) sy s2]; exact c.1
              rw [s1, s2]
              simp only
              rw [if_pos kk]
              refine Go.ok (rn2.weak t) ⟨zip_ims i1 i2, fun A' h' ρ' π' kp wa rn' ok => ?_⟩
              have ok := okw_app.1 ok
              simp only [Bool.and_eq_true]
              exact ⟨l1 A' h' ρ' π' kp (fun p m => wa p (List.mem_append_left _ m)) rn' ok.1, l2 A' h' ρ' π' kp (fun p m => wa p (List.mem_append_right _ m)) rn' ok.2⟩
            · rw [if_neg c]; trivial
end Pq

namespace Pq
open PySem L2 Mi
class Cn (α : Type) : Type where
  f : α
abbrev XQ := Nat → PEn → Prop
abbrev NoQ : XQ := fun _ _ => False
abbrev XF := Nat → List PV → Prop
abbrev NoF : XF := fun _ _ => False
def bq {α β : Type} (r : PR α) [f : Cn (α → PEn → PR β)] : PR β := r.bind f.f
def uwq {α : Type} (r : PR α) [P : Cn (α → PEn → Prop)] [X : Cn XQ] : Prop := match r with
  | .ok a π => P.f a π
  | .ex c π => X.f c π
  | .bad => False
def uwf (r : PF) [P : Cn (PO → List PV → Prop)] [X : Cn XF] : Prop := match r with
  | .ok o outs => P.f o outs
  | .ex c outs => X.f c outs
  | .bad => False
structure Kq where
  nx : PEn → Prop
  rt : PO → PEn → Prop
  bk : PEn → Prop
  ct : PEn → Prop
  ex : Nat → PEn → Prop
def uws (o : POut) [K : Cn Kq] : Prop := match o with
  | .nx π => K.f.nx π
  | .rt x π => K.f.rt x π
  | .bk π => K.f.bk π
  | .ct π => K.f.ct π
  | .ex c π => K.f.ex c π
  | .bad => False
def uwg (π : PEn) [P : Cn (PEn → Prop)] : Prop := P.f π
def uwi (b : Bool) [A : Cn Prop] [B : Cn Prop] : Prop := if b = true then A.f else B.f
def uwn (c : Prop) [A : Cn Prop] : Prop := c ∧ A.f
def uwo {α : Type} (o : Option α) [P : Cn (α → Prop)] : Prop := ∃ x, o = some x ∧ P.f x
def brq {β : Type} (b : Bool) [x : Cn (PR β)] [y : Cn (PR β)] : PR β := if b = true then x.f else y.f

theorem uwg_go (P : PEn → Prop) (π : PEn) : @uwg π ⟨P⟩ = P π := rfl
theorem uwi_t (A B : Prop) : @uwi true ⟨A⟩ ⟨B⟩ = A := by simp [uwi]
theorem uwi_f (A B : Prop) : @uwi false ⟨A⟩ ⟨B⟩ = B := by simp [uwi]
theorem uwi_ite (b : Bool) (A B : Prop) : @uwi b ⟨A⟩ ⟨B⟩ ↔ ((b = true → A) ∧ (b = false → B)) := by cases b <;> simp [uwi]
theorem uwi_d {c : Prop} [Decidable c] {A B : Prop} (a : c → A) (b : ¬c → B) : @uwi (decide c) ⟨A⟩ ⟨B⟩ := by
  by_cases h : c <;> simp [uwi, h, a, b]
theorem uwi_b {c : Bool} {A B : Prop} (a : c = true → A) (b : c = false → B) : @uwi c ⟨A⟩ ⟨B⟩ := (uwi_ite _ _ _).2 ⟨a, b⟩
theorem uwn_t (A : Prop) : @uwn True ⟨A⟩ = A := by simp [uwn]
theorem uwn_i {c A : Prop} (a : c) (b : A) : @uwn c ⟨A⟩ := ⟨a, b⟩
theorem uwo_s {α : Type} (x : α) (P : α → Prop) : @uwo _ (some x) ⟨P⟩ = P x := by simp [uwo]
theorem uwo_n {α : Type} (P : α → Prop) : @uwo _ (none : Option α) ⟨P⟩ = False := by simp [uwo]
theorem uwo_el {α : Type} {o : Option α} {P : α → Prop} (w : @uwo _ o ⟨P⟩) : ∃ x, o = some x ∧ P x := w

theorem uwq_ok {α : Type} (a : α) (π : PEn) (P : α → PEn → Prop) (X : XQ) : @uwq _ (.ok a π) ⟨P⟩ ⟨X⟩ = P a π := rfl
theorem uwq_ex {α : Type} (c : Nat) (π : PEn) (P : α → PEn → Prop) (X : XQ) : @uwq _ (.ex c π : PR α) ⟨P⟩ ⟨X⟩ = X c π := rfl
theorem uwq_bind {α β : Type} (r : PR α) (f : α → PEn → PR β) (P : β → PEn → Prop) (X : XQ) : @uwq _ (@bq _ _ r ⟨f⟩) ⟨P⟩ ⟨X⟩ = @uwq _ r ⟨(fun a π => @uwq _ (f a π) ⟨P⟩ ⟨X⟩)⟩ ⟨X⟩ := by cases r <;> rfl
theorem bq_ok {α β : Type} (a : α) (π : PEn) (f : α → PEn → PR β) : @bq _ _ (PR.ok a π) ⟨f⟩ = f a π := rfl
theorem bq_fun {α β : Type} {r : PR α} {f g : α → PEn → PR β} (e : ∀ a π, f a π = g a π) : @bq _ _ r ⟨f⟩ = @bq _ _ r ⟨g⟩ := by
  rw [show f = g from funext fun a => funext fun h => e a h]
theorem uwq_fun {α : Type} {r : PR α} {f g : α → PEn → Prop} {X : XQ} (e : ∀ a h, f a h = g a h) : @uwq _ r ⟨f⟩ ⟨X⟩ = @uwq _ r ⟨g⟩ ⟨X⟩ := by
  rw [show f = g from funext fun a => funext fun h => e a h]
theorem uwf_ok (o : PO) (outs : List PV) (P : PO → List PV → Prop) (X : XF) : @uwf (.ok o outs) ⟨P⟩ ⟨X⟩ = P o outs := rfl
theorem uwf_ex (c : Nat) (outs : List PV) (P : PO → List PV → Prop) (X : XF) : @uwf (.ex c outs) ⟨P⟩ ⟨X⟩ = X c outs := rfl
theorem uwq_mono {α : Type} {r : PR α} {P P' : α → PEn → Prop} {X X' : XQ} (w : @uwq _ r ⟨P⟩ ⟨X⟩) (i : ∀ a h, P a h → P' a h) (j : ∀ c h, X c h → X' c h) : @uwq _ r ⟨P'⟩ ⟨X'⟩ := by
  cases r with
  | ok a h => exact i _ _ w
  | ex c h => exact j _ _ w
  | bad => exact w.elim
theorem uwq_to {α : Type} {r : PR α} {P P' : α → PEn → Prop} {X : XQ} (w : @uwq _ r ⟨P⟩ ⟨NoQ⟩) (i : ∀ a h, P a h → P' a h) : @uwq _ r ⟨P'⟩ ⟨X⟩ := uwq_mono w i fun _ _ z => z.elim
theorem uws_mono {o : POut} {K K' : Kq} (w : @uws o ⟨K⟩) (a : ∀ π, K.nx π → K'.nx π) (b : ∀ x π, K.rt x π → K'.rt x π) (c : ∀ π, K.bk π → K'.bk π) (d : ∀ π, K.ct π → K'.ct π) (e : ∀ n π, K.ex n π → K'.ex n π) : @uws o ⟨K'⟩ := by
  cases o with
  | nx _ => exact a _ w
  | rt _ _ => exact b _ _ w
  | bk _ => exact c _ w
  | ct _ => exact d _ w
  | ex _ _ => exact e _ _ w
  | bad => exact w.elim
theorem uws_out {α : Type} (r : PR α) (k : α → PEn → POut) (K : Kq) : @uws (r.out k) ⟨K⟩ = @uwq _ r ⟨(fun x π => @uws (k x π) ⟨K⟩)⟩ ⟨K.ex⟩ := by cases r <;> rfl
theorem uwq_optS {α : Type} (a : α) (π : PEn) (P : α → PEn → Prop) (X : XQ) : @uwq _ (optP (some a) π) ⟨P⟩ ⟨X⟩ = P a π := rfl
theorem uopt_gd (c : Prop) [Decidable c] (o : PO) (π : PEn) (P : PO → PEn → Prop) (X : XQ) : @uwq _ (optP (gd c o) π) ⟨P⟩ ⟨X⟩ = @uwn c ⟨(P o π)⟩ := by
  by_cases h : c <;> simp [gd, h, uwn, optP, uwq]
theorem uwq_gd (c : Prop) [Decidable c] (o : PO) (π : PEn) (P : PO → PEn → Prop) (X : XQ) : @uwq _ (optP (gd c o) π) ⟨P⟩ ⟨X⟩ = @uwn c ⟨(P o π)⟩ := uopt_gd c o π P X
theorem uwq_szs (n : Nat) (o : PO) (π : PEn) (P : PO → PEn → Prop) (X : XQ) : @uwq _ (optP (szs n o) π) ⟨P⟩ ⟨X⟩ = @uwn (n ≤ 16777216) ⟨(P o π)⟩ := by
  by_cases h : n ≤ 16777216 <;> simp [szs, h, uwn, optP, uwq]
theorem uwq_ite {α : Type} (c : Prop) [Decidable c] (r : PR α) (P : α → PEn → Prop) (X : XQ) : @uwq _ (if c then r else .bad) ⟨P⟩ ⟨X⟩ = @uwn c ⟨(@uwq _ r ⟨P⟩ ⟨X⟩)⟩ := by
  by_cases h : c <;> simp [h, uwn, uwq]
theorem brq_t {β : Type} (x y : PR β) : @brq _ true ⟨x⟩ ⟨y⟩ = x := rfl
theorem brq_f {β : Type} (x y : PR β) : @brq _ false ⟨x⟩ ⟨y⟩ = y := rfl
theorem uwq_br {β : Type} (b : Bool) (x y : PR β) (P : β → PEn → Prop) (X : XQ) : @uwq _ (@brq _ b ⟨x⟩ ⟨y⟩) ⟨P⟩ ⟨X⟩ = @uwi b ⟨(@uwq _ x ⟨P⟩ ⟨X⟩)⟩ ⟨(@uwq _ y ⟨P⟩ ⟨X⟩)⟩ := by cases b <;> simp [brq, uwi]
theorem ps_0 (s : PS) (π : PEn) : ps (some s :: π) 0 = some s := rfl
theorem ps_s (i : Nat) (x : Option PS) (π : PEn) : ps (x :: π) (i + 1) = ps π i := by simp [ps]
def pVarK : Option PS → Nat → PEn → PR PO
  | some (.im d), _, π => .ok (.im d) π
  | some _, i, π => .ok (.br i) π
  | none, _, _ => .bad
theorem pVar_e (i : Nat) (π : PEn) : pVar i π = pVarK (ps π i) i π := by unfold pVar pVarK; cases ps π i with | none => rfl | some s => cases s <;> rfl
theorem pVar_s (i : Nat) (π : PEn) : pVar i π = pVarK (ps π i) i π := pVar_e i π
theorem pVar_im (d : PV) (i : Nat) (π : PEn) : pVarK (some (.im d)) i π = .ok (.im d) π := rfl
theorem pVar_ow (d : PV) (i : Nat) (π : PEn) : pVarK (some (.ow d)) i π = .ok (.br i) π := rfl
theorem pVar_io (d : PV) (i : Nat) (π : PEn) : pVarK (some (.io d)) i π = .ok (.br i) π := rfl
theorem pC_ap (d : PV) (π : PEn) : pC d π = .ok (.im d) π := rfl
theorem pv_im (d : PV) (π : PEn) : pv π (.im d) = some d := rfl
theorem pv_ow (d : PV) (π : PEn) : pv π (.ow d) = some d := rfl
def ownK : Option PS → Option PV
  | some s => s.own
  | none => none
theorem pv_br (i : Nat) (π : PEn) : pv π (.br i) = ownK (ps π i) := by
  simp only [pv]; cases ps π i <;> rfl
theorem ownK_ow (d : PV) : ownK (some (.ow d)) = some d := rfl
theorem ownK_io (d : PV) : ownK (some (.io d)) = some d := rfl
theorem pvAll_n (π : PEn) : pvAll π [] = some [] := rfl
def pvC : Option PV → Option (List PV) → Option (List PV)
  | some d, some ds => some (d :: ds)
  | _, _ => none
theorem pvAll_c (π : PEn) (o : PO) (os : List PO) : pvAll π (o :: os) = pvC (pv π o) (pvAll π os) := by
  cases h : pv π o <;> cases h2 : pvAll π os <;> simp only [pvAll, pvC, h, h2]
theorem pvC_s (d : PV) (ds : List PV) : pvC (some d) (some ds) = some (d :: ds) := rfl
def opt2 (f : PV → PV → Option PO) : Option PV → Option PV → PEn → PR PO
  | some d, some e, π => optP (f d e) π
  | _, _, _ => .bad
def opt1 (f : PV → Option PO) : Option PV → PEn → PR PO
  | some d, π => optP (f d) π
  | none, _ => .bad
def optA (f : List PV → Option PO) : Option (List PV) → PEn → PR PO
  | some d, π => optP (f d) π
  | none, _ => .bad
theorem see2_e (f : PV → PV → Option PO) (x y : PO) (π : PEn) : see2 f x y π = opt2 f (pv π x) (pv π y) π := by
  simp only [see2, opt2]
  cases pv π x with
  | none => rfl
  | some d => cases pv π y <;> rfl
theorem see1_e (f : PV → Option PO) (x : PO) (π : PEn) : see1 f x π = opt1 f (pv π x) π := by
  simp only [see1, opt1]
  cases pv π x <;> rfl
theorem seeA_e (f : List PV → Option PO) (x : List PO) (π : PEn) : seeA f x π = optA f (pvAll π x) π := by
  simp only [seeA, optA]
  cases pvAll π x <;> rfl
theorem opt2_s (f : PV → PV → Option PO) (d e : PV) (π : PEn) : opt2 f (some d) (some e) π = optP (f d e) π := rfl
theorem opt1_s (f : PV → Option PO) (d : PV) (π : PEn) : opt1 f (some d) π = optP (f d) π := rfl
theorem optA_s (f : List PV → Option PO) (d : List PV) (π : PEn) : optA f (some d) π = optP (f d) π := rfl
theorem pOp_ap (f : PV → PV → Option PO) (a b : PD) (π : PEn) : pOp f a b π = @bq _ _ (a π) ⟨fun x π1 => @bq _ _ (b π1) ⟨fun y π2 => see2 f x y π2⟩⟩ := rfl
theorem pU_ap (f : PV → Option PO) (a : PD) (π : PEn) : pU f a π = @bq _ _ (a π) ⟨fun x π1 => see1 f x π1⟩ := rfl
theorem pT_ap (a : PD) (π : PEn) : pT a π = @bq _ _ (a π) ⟨pasB⟩ := rfl
theorem pasB_b (b : Bool) (π : PEn) : pasB (.im (.bl b)) π = .ok b π := rfl
theorem pbAnd_ap (a b : PDB) (π : PEn) : pbAnd a b π = @bq _ _ (a π) ⟨fun k π1 => @brq _ k ⟨(b π1)⟩ ⟨(.ok false π1)⟩⟩ := rfl
theorem pbOr_ap (a b : PDB) (π : PEn) : pbOr a b π = @bq _ _ (a π) ⟨fun k π1 => @brq _ k ⟨(.ok true π1)⟩ ⟨(b π1)⟩⟩ := rfl
theorem pbNot_ap (a : PDB) (π : PEn) : pbNot a π = @bq _ _ (a π) ⟨fun k π1 => .ok (!k) π1⟩ := rfl
theorem pAnd_ap (a b : PD) (π : PEn) : pAnd a b π = @bq _ _ (a π) ⟨fun o π1 => @bq _ _ (pasB o π1) ⟨fun k π1 => @brq _ k ⟨(b π1)⟩ ⟨(.ok (.im (.bl false)) π1)⟩⟩⟩ := rfl
theorem pOr_ap (a b : PD) (π : PEn) : pOr a b π = @bq _ _ (a π) ⟨fun o π1 => @bq _ _ (pasB o π1) ⟨fun k π1 => @brq _ k ⟨(.ok (.im (.bl true)) π1)⟩ ⟨(b π1)⟩⟩⟩ := rfl
theorem pNot_ap (a : PD) (π : PEn) : pNot a π = @bq _ _ (a π) ⟨fun o π1 => @bq _ _ (pasB o π1) ⟨fun k π1 => .ok (.im (.bl (!k))) π1⟩⟩ := rfl
theorem pIf_ap (t : PDB) (a b : PD) (π : PEn) : pIf t a b π = @bq _ _ (t π) ⟨fun k π1 => @brq _ k ⟨(a π1)⟩ ⟨(b π1)⟩⟩ := rfl
theorem pCh_ap (f f' : PV → PV → Option PO) (a b c : PD) (π : PEn) : pCh f f' a b c π = @bq _ _ (a π) ⟨fun x π1 => @bq _ _ (b π1) ⟨fun y π2 => @bq _ _ (see2 f x y π2) ⟨fun z π3 => @bq _ _ (pasB z π3) ⟨fun k π3 => @brq _ k ⟨(@bq _ _ (c π3) ⟨fun w π4 => see2 f' y w π4⟩)⟩ ⟨(.ok (.im (.bl false)) π3)⟩⟩⟩⟩⟩ := rfl
theorem pCh3_ap (f f' f'' : PV → PV → Option PO) (a b c d : PD) (π : PEn) : pCh3 f f' f'' a b c d π = @bq _ _ (a π) ⟨fun x π1 => @bq _ _ (b π1) ⟨fun y π2 => @bq _ _ (see2 f x y π2) ⟨fun z π3 => @bq _ _ (pasB z π3) ⟨fun k π3 => @brq _ k ⟨(@bq _ _ (c π3) ⟨fun w π4 => @bq _ _ (see2 f' y w π4) ⟨fun z π5 => @bq _ _ (pasB z π5) ⟨fun k π5 => @brq _ k ⟨(@bq _ _ (d π5) ⟨fun u π6 => see2 f'' w u π6⟩)⟩ ⟨(.ok (.im (.bl false)) π5)⟩⟩⟩⟩)⟩ ⟨(.ok (.im (.bl false)) π3)⟩⟩⟩⟩⟩ := rfl
theorem paNil_ap (π : PEn) : paNil π = .ok [] π := rfl
theorem paCons_ap (a : PD) (t : PDA) (π : PEn) : paCons a t π = @bq _ _ (a π) ⟨fun o π1 => @bq _ _ (t π1) ⟨fun os π2 => .ok (o :: os) π2⟩⟩ := rfl
theorem pB_ap (f : List PV → Option PO) (t : PDA) (π : PEn) : pB f t π = @bq _ _ (t π) ⟨fun os π1 => seeA f os π1⟩ := rfl
theorem poI_im (d : PV) (π : PEn) : poI (.im d) π = .ok d π := rfl
theorem poI_ow (d : PV) (π : PEn) : poI (.ow d) π = .ok d π := rfl
theorem pvNil_ap (π : PEn) : pvNil π = .ok [] π := rfl
theorem pvCons_ap (a : PD) (t : PDV) (π : PEn) : pvCons a t π = @bq _ _ (a π) ⟨fun o π1 => @bq _ _ (poI o π1) ⟨fun d π1 => @bq _ _ (t π1) ⟨fun ds π2 => .ok (d :: ds) π2⟩⟩⟩ := rfl
theorem pTup_ap (t : PDV) (π : PEn) : pTup t π = @bq _ _ (t π) ⟨fun ds π1 => if ds.length ≤ 16777216 then .ok (.im (.tup ds)) π1 else .bad⟩ := rfl
theorem pLst_ap (t : PDV) (π : PEn) : pLst t π = @bq _ _ (t π) ⟨fun ds π1 => if ds.length ≤ 16777216 then .ok (.ow (.lst ds)) π1 else .bad⟩ := rfl
theorem pgNil_ap (π : PEn) : pgNil π = .ok [] π := rfl
theorem pgCons_ap (io : Bool) (a : PD) (t : PDG) (π : PEn) : pgCons io a t π = @bq _ _ (a π) ⟨fun o π1 => @bq _ _ (t π1) ⟨fun os π2 => argO io o os π2⟩⟩ := rfl
theorem argO_1 (d : PV) (os : List PO) (π : PEn) : argO false (.im d) os π = .ok (.im d :: os) π := rfl
theorem argO_2 (d : PV) (os : List PO) (π : PEn) : argO false (.ow d) os π = .ok (.im d :: os) π := rfl
theorem argO_3 (i : Nat) (os : List PO) (π : PEn) : argO false (.br i) os π = .ok (.br i :: os) π := rfl
theorem argO_4 (i : Nat) (os : List PO) (π : PEn) : argO true (.br i) os π = .ok (.br i :: os) π := rfl
theorem argO_5 (d : PV) (os : List PO) (π : PEn) : argO true (.ow d) os π = .ok (.ow d :: os) π := rfl
theorem pNone_ap (π : PEn) : pNone π = .ok none π := rfl
def asIq (o : PO) (π : PEn) : PR (Option Int) := match o with
  | .im (.int i) => .ok (some i) π
  | _ => .bad
theorem asIq_i (i : Int) (π : PEn) : asIq (.im (.int i)) π = .ok (some i) π := rfl
theorem pSome_ap (a : PD) (π : PEn) : pSome a π = @bq _ _ (a π) ⟨asIq⟩ := rfl
theorem pSl_ap (a : PD) (lo hi : PDO) (π : PEn) : pSl a lo hi π = @bq _ _ (a π) ⟨fun x π1 => @bq _ _ (lo π1) ⟨fun l π2 => @bq _ _ (hi π2) ⟨fun u π3 => see1 (pSlF l u) x π3⟩⟩⟩ := rfl
def callK (ios : List Bool) (pf : PFn) (os : List PO) : Option (List PV) → PEn → PR PO
  | some ds, π => if callOk ios os = true then match pf ds with
      | .ok o outs => if callFl ios os o outs = true then .ok o (putOuts ios os outs π) else .bad
      | .ex c outs => if callFl ios os (.im .non) outs = true then .ex c (putOuts ios os outs π) else .bad
      | .bad => .bad
    else .bad
  | none, _ => .bad
theorem pCall_ap (ios : List Bool) (pf : PFn) (pa : PDG) (π : PEn) : pCall ios pf pa π = @bq _ _ (pa π) ⟨fun os π1 => callK ios pf os (pvAll π1 os) π1⟩ := by
  refine bq_fun (r := pa π) fun os π1 => ?_
  simp only [callK]
  cases pvAll π1 os <;> rfl
theorem uwq_call (ios : List Bool) (pf : PFn) (os : List PO) (ds : List PV) (π : PEn) (P : PO → PEn → Prop) (X : XQ) : @uwq _ (callK ios pf os (some ds) π) ⟨P⟩ ⟨X⟩ = @uwn (callOk ios os = true) ⟨(@uwf (pf ds) ⟨(fun o outs => @uwn (callFl ios os o outs = true) ⟨(@uwg (putOuts ios os outs π) ⟨(fun π1 => P o π1)⟩)⟩)⟩ ⟨(fun c outs => @uwn (callFl ios os (.im .non) outs = true) ⟨(@uwg (putOuts ios os outs π) ⟨(fun π1 => X c π1)⟩)⟩)⟩)⟩ := by
  by_cases c : callOk ios os = true
  · cases q : pf ds with
    | ok o outs => by_cases f : callFl ios os o outs = true <;> simp [callK, c, f, q, uwn, uwf, uwq, uwg]
    | ex k outs => by_cases f : callFl ios os (.im .non) outs = true <;> simp [callK, c, f, q, uwn, uwf, uwq, uwg]
    | bad => simp [callK, c, q, uwn, uwf, uwq]
  · simp [callK, c, uwn, uwq]
theorem callOk_e (ios : List Bool) (os : List PO) : callOk ios os = (nodupB (brs os) && decide (owc os ≤ 1)) := rfl
theorem brs_n : brs [] = [] := rfl
theorem brs_br (i : Nat) (os : List PO) : brs (.br i :: os) = i :: brs os := rfl
theorem brs_im (d : PV) (os : List PO) : brs (.im d :: os) = brs os := rfl
theorem brs_ow (d : PV) (os : List PO) : brs (.ow d :: os) = brs os := rfl
theorem owc_n : owc [] = 0 := rfl
theorem owc_br (i : Nat) (os : List PO) : owc (.br i :: os) = owc os := rfl
theorem owc_im (d : PV) (os : List PO) : owc (.im d :: os) = owc os := rfl
theorem owc_ow (d : PV) (os : List PO) : owc (.ow d :: os) = owc os + 1 := rfl
theorem nodB_n : nodupB [] = true := rfl
theorem nodB_1 (a : Nat) : nodupB [a] = true := rfl
theorem nodB_2 (a b : Nat) : nodupB [a, b] = !decide (a = b) := by simp [nodupB]
theorem nodB_3 (a b c : Nat) : nodupB [a, b, c] = ((!decide (a = b) && !decide (a = c)) && !decide (b = c)) := by simp [nodupB]
theorem imb_n (os : List PO) : imbrs [] os = [] := by cases os <;> rfl
theorem imb_f (i : Nat) (bs : List Bool) (os : List PO) : imbrs (false :: bs) (.br i :: os) = i :: imbrs bs os := rfl
theorem imb_t (i : PO) (bs : List Bool) (os : List PO) : imbrs (true :: bs) (i :: os) = imbrs bs os := by cases i <;> rfl
theorem imb_fi (d : PV) (bs : List Bool) (os : List PO) : imbrs (false :: bs) (.im d :: os) = imbrs bs os := rfl
theorem imb_fo (d : PV) (bs : List Bool) (os : List PO) : imbrs (false :: bs) (.ow d :: os) = imbrs bs os := rfl
theorem callFl_e (ios : List Bool) (os : List PO) (o : PO) (outs : List PV) : callFl ios os o outs = ((imbrs ios os).isEmpty || (outs.all flatC && flatO o)) := rfl
theorem isE_n : (List.isEmpty ([] : List Nat)) = true := rfl
theorem isE_c (a : Nat) (l : List Nat) : List.isEmpty (a :: l) = false := rfl
theorem putO_n (os : List PO) (outs : List PV) (π : PEn) : putOuts [] os outs π = π := by simp [putOuts]
theorem putO_b (bs : List Bool) (i : Nat) (os : List PO) (d : PV) (outs : List PV) (π : PEn) : putOuts (true :: bs) (.br i :: os) (d :: outs) π = putOuts bs os outs (upd' i d π) := rfl
theorem putO_f (bs : List Bool) (o : PO) (os : List PO) (d : PV) (outs : List PV) (π : PEn) : putOuts (false :: bs) (o :: os) (d :: outs) π = putOuts bs os outs π := by cases o <;> rfl
theorem putO_im (bs : List Bool) (e : PV) (os : List PO) (d : PV) (outs : List PV) (π : PEn) : putOuts (true :: bs) (.im e :: os) (d :: outs) π = putOuts bs os outs π := rfl
theorem putO_ow (bs : List Bool) (e : PV) (os : List PO) (d : PV) (outs : List PV) (π : PEn) : putOuts (true :: bs) (.ow e :: os) (d :: outs) π = putOuts bs os outs π := rfl
theorem upd_0 (s : PS) (d : PV) (π : PEn) : upd' 0 d (some s :: π) = some (s.put d) :: π := rfl
theorem upd_s (i : Nat) (d : PV) (x : Option PS) (π : PEn) : upd' (i + 1) d (x :: π) = x :: upd' i d π := by
  simp only [upd', ps_s]
  cases ps π i <;> rfl
theorem PS_put_im (d e : PV) : (PS.im d).put e = .im e := rfl
theorem PS_put_ow (d e : PV) : (PS.ow d).put e = .ow e := rfl
theorem PS_put_io (d e : PV) : (PS.io d).put e = .io e := rfl
theorem pAdd_ii (i j : Int) : pAdd (.int i) (.int j) = some (.im (.int (i + j))) := rfl
theorem pAdd_ss (a b : List Nat) : pAdd (.str a) (.str b) = szs (a.length + b.length) (.im (.str (a ++ b))) := rfl
theorem pAdd_ll (a b : List PV) : pAdd (.lst a) (.lst b) = szs (a.length + b.length) (.ow (.lst (a ++ b))) := rfl
theorem pAdd_tt (a b : List PV) : pAdd (.tup a) (.tup b) = szs (a.length + b.length) (.im (.tup (a ++ b))) := rfl
theorem pSub_ii (i j : Int) : pSub (.int i) (.int j) = some (.im (.int (i - j))) := rfl
theorem pMul_ii (i j : Int) : pMul (.int i) (.int j) = gd ((-18446744073709551616 < i ∧ i < 18446744073709551616) ∨ (-18446744073709551616 < j ∧ j < 18446744073709551616)) (.im (.int (i * j))) := rfl
theorem pMul_si (a : List Nat) (n : Int) : pMul (.str a) (.int n) = gd (-9223372036854775808 ≤ n ∧ n < 9223372036854775808 ∧ a.length * n.toNat ≤ 16777216) (.im (.str (List.replicate n.toNat a).flatten)) := rfl
theorem pMul_li (a : List PV) (n : Int) : pMul (.lst a) (.int n) = gd (-9223372036854775808 ≤ n ∧ n < 9223372036854775808 ∧ a.length * n.toNat ≤ 16777216) (.ow (.lst (List.replicate n.toNat a).flatten)) := rfl
theorem pMod_ii (i j : Int) : pMod (.int i) (.int j) = gd (0 < j) (.im (.int (i % j))) := rfl
theorem pFdiv_ii (i j : Int) : pFdiv (.int i) (.int j) = gd (0 < j ∧ j < 18446744073709551616) (.im (.int (i / j))) := rfl
theorem pPow_ii (i j : Int) : pPow (.int i) (.int j) = gd (0 ≤ j ∧ j ≤ 1000000 ∧ i.natAbs < 18446744073709551616) (.im (.int (i ^ j.toNat))) := rfl
theorem pNeg_i (i : Int) : pNeg (.int i) = some (.im (.int (-i))) := rfl
theorem pLt_ii (i j : Int) : pLt (.int i) (.int j) = some (.im (.bl (decide (i < j)))) := rfl
theorem pLe_ii (i j : Int) : pLe (.int i) (.int j) = some (.im (.bl (decide (i ≤ j)))) := rfl
theorem pGt_ii (i j : Int) : pGt (.int i) (.int j) = some (.im (.bl (decide (j < i)))) := rfl
theorem pGe_ii (i j : Int) : pGe (.int i) (.int j) = some (.im (.bl (decide (j ≤ i)))) := rfl
theorem pLt_ss (a b : List Nat) : pLt (.str a) (.str b) = some (.im (.bl (decide (a < b)))) := rfl
theorem pLe_ss (a b : List Nat) : pLe (.str a) (.str b) = some (.im (.bl (!decide (b < a)))) := rfl
theorem pAddI_ii (i j : Int) : pAddI (.int i) (.int j) = some (.im (.int (i + j))) := rfl
theorem pAddI_ss (a b : List Nat) : pAddI (.str a) (.str b) = szs (a.length + b.length) (.im (.str (a ++ b))) := rfl
def ixK (o : Option PV) : Option PO := match o with
  | some d => some (.im d)
  | none => none
theorem ixK_s (d : PV) : ixK (some d) = some (.im d) := rfl
theorem ixK_e (o : Option PV) : o.map PO.im = ixK o := by cases o <;> rfl
theorem pIx_l (xs : List PV) (i : Int) : pIx (.lst xs) (.int i) = ixK (atI xs i) := ixK_e _
theorem pIx_t (xs : List PV) (i : Int) : pIx (.tup xs) (.int i) = ixK (atI xs i) := ixK_e _
theorem pIx_f (xs : List PV) (i : Int) : pIx (.frz xs) (.int i) = ixK (atI xs i) := ixK_e _
theorem pIx_s (s : List Nat) (i : Int) : pIx (.str s) (.int i) = if s.length ≤ 16777216 then (atI s i).map (fun c => .im (.str [c])) else none := rfl
theorem pSlF_l (lo hi : Option Int) (xs : List PV) : pSlF lo hi (.lst xs) = some (.ow (.lst (cutL xs lo hi))) := rfl
theorem pSlF_t (lo hi : Option Int) (xs : List PV) : pSlF lo hi (.tup xs) = some (.im (.tup (cutL xs lo hi))) := rfl
theorem pSlF_f (lo hi : Option Int) (xs : List PV) : pSlF lo hi (.frz xs) = some (.ow (.lst (cutL xs lo hi))) := rfl
theorem pSlF_s (lo hi : Option Int) (s : List Nat) : pSlF lo hi (.str s) = if s.length ≤ 16777216 then some (.im (.str (cutL s lo hi))) else none := rfl
theorem beqd {α : Type} [BEq α] [LawfulBEq α] [DecidableEq α] (i j : α) : (i == j) = decide (i = j) := by by_cases h : i = j <;> simp [h]
theorem pEq_ii (i j : Int) : pEq (.int i) (.int j) = some (.im (.bl (decide (i = j)))) := by
  simp [pEq, pEqB, PV.okd, PV.eqv, beqd]
theorem pNe_ii (i j : Int) : pNe (.int i) (.int j) = some (.im (.bl (!decide (i = j)))) := by
  simp [pNe, pEqB, PV.okd, PV.eqv, beqd]
theorem pEq_ss (i j : List Nat) : pEq (.str i) (.str j) = some (.im (.bl (decide (i = j)))) := by
  simp [pEq, pEqB, PV.okd, PV.eqv, beqd]
theorem pNe_ss (i j : List Nat) : pNe (.str i) (.str j) = some (.im (.bl (!decide (i = j)))) := by
  simp [pNe, pEqB, PV.okd, PV.eqv, beqd]
theorem pEq_bb (i j : Bool) : pEq (.bl i) (.bl j) = some (.im (.bl (decide (i = j)))) := by
  simp [pEq, pEqB, PV.okd, PV.eqv, beqd]
theorem pNe_bb (i j : Bool) : pNe (.bl i) (.bl j) = some (.im (.bl (!decide (i = j)))) := by
  simp [pNe, pEqB, PV.okd, PV.eqv, beqd]
theorem pIsN_n : pIsN .non = some (.im (.bl true)) := rfl
theorem pNotN_n : pNotN .non = some (.im (.bl false)) := rfl
theorem qLen_l (xs : List PV) : qLen [.lst xs] = some (.im (.int xs.length)) := rfl
theorem qLen_t (xs : List PV) : qLen [.tup xs] = some (.im (.int xs.length)) := rfl
theorem qLen_f (xs : List PV) : qLen [.frz xs] = some (.im (.int xs.length)) := rfl
theorem qLen_d (ks vs : List PV) : qLen [.dct ks vs] = some (.im (.int vs.length)) := rfl
theorem qLen_s (s : List Nat) : qLen [.str s] = if s.length ≤ 16777216 then some (.im (.int s.length)) else none := rfl
theorem uwq_optI (c : Prop) [Decidable c] (o : PO) (π : PEn) (P : PO → PEn → Prop) (X : XQ) : @uwq _ (optP (if c then some o else none) π) ⟨P⟩ ⟨X⟩ = @uwn c ⟨(P o π)⟩ := by
  by_cases h : c <;> simp [h, uwn, optP, uwq]
theorem qAbs_i (i : Int) : qAbs [.int i] = some (.im (.int (if i < 0 then -i else i))) := rfl
theorem qInt_i (i : Int) : qInt [.int i] = some (.im (.int i)) := rfl
theorem qInt_b (b : Bool) : qInt [.bl b] = some (.im (.int (if b then 1 else 0))) := rfl
theorem qMax_ii (i j : Int) : qMax [.int i, .int j] = some (.im (.int (if j > i then j else i))) := rfl
theorem qMin_ii (i j : Int) : qMin [.int i, .int j] = some (.im (.int (if j < i then j else i))) := rfl
theorem qDivmod_ii (i j : Int) : qDivmod [.int i, .int j] = gd (0 < j ∧ j < 18446744073709551616) (.im (.tup [.int (i / j), .int (i % j)])) := rfl
theorem qList_l (xs : List PV) : qList [.lst xs] = some (.ow (.lst xs)) := rfl
theorem qList_t (xs : List PV) : qList [.tup xs] = some (.ow (.lst xs)) := rfl
theorem qList_f (xs : List PV) : qList [.frz xs] = some (.ow (.lst xs)) := rfl
theorem qTuple_l (xs : List PV) : qTuple [.lst xs] = some (.im (.tup xs)) := rfl
theorem qTuple_t (xs : List PV) : qTuple [.tup xs] = some (.im (.tup xs)) := rfl
theorem qTuple_f (xs : List PV) : qTuple [.frz xs] = some (.im (.tup xs)) := rfl
theorem qStr_s (s : List Nat) : qStr [.str s] = some (.im (.str s)) := rfl
theorem qStr_i (i : Int) : qStr [.int i] = gd (i.natAbs.log2 < 1920) (.im (.str (itoa i))) := rfl
theorem qStr_b (b : Bool) : qStr [.bl b] = some (.im (.str (if b then [84, 114, 117, 101] else [70, 97, 108, 115, 101]))) := rfl
theorem qStr_n : qStr [.non] = some (.im (.str [78, 111, 110, 101])) := rfl
theorem qIsi_e (t : Ty) (d : PV) : qIsi t d = some (.im (.bl ((tyP d).sub t))) := rfl
theorem qIsi2_e (t t2 : Ty) (d : PV) : qIsi2 t t2 d = some (.im (.bl ((tyP d).sub t || (tyP d).sub t2))) := rfl
theorem tyP_1 : tyP .non = .non := rfl
theorem tyP_2 (b : Bool) : tyP (.bl b) = .bool := rfl
theorem tyP_3 (b : Int) : tyP (.int b) = .int := rfl
theorem tyP_4 (b : List Nat) : tyP (.str b) = .str := rfl
theorem tyP_5 (b : List PV) : tyP (.tup b) = .tup := rfl
theorem tyP_6 (b : List PV) : tyP (.lst b) = .lst := rfl
theorem tyP_8 (b : List PV) : tyP (.frz b) = .lst := rfl
theorem tyP_7 (a b : List PV) : tyP (.dct a b) = .dct := rfl
theorem isIo_n (π : PEn) : isIo (none :: π) 0 = false := rfl
theorem isIo_s (i : Nat) (x : Option PS) (π : PEn) : isIo (x :: π) (i + 1) = isIo π i := by simp [isIo, ps]
theorem isIo_im (d : PV) (π : PEn) : isIo (some (.im d) :: π) 0 = false := rfl
theorem isIo_ow (d : PV) (π : PEn) : isIo (some (.ow d) :: π) 0 = false := rfl
theorem isIo_io (d : PV) (π : PEn) : isIo (some (.io d) :: π) 0 = true := rfl
theorem uws_nil (π : PEn) (K : Kq) : @uws (pNil π) ⟨K⟩ = @uwg π ⟨K.nx⟩ := rfl
theorem uws_seq (a b : PSD) (π : PEn) (K : Kq) : @uws (pSeq a b π) ⟨K⟩ = @uws (a π) ⟨{ K with nx := fun π' => @uws (b π') ⟨K⟩ }⟩ := by
  show @uws (match a π with | .nx π' => b π' | o => o) ⟨K⟩ = _
  cases a π <;> rfl
theorem uws_brk (π : PEn) (K : Kq) : @uws (pBrk π) ⟨K⟩ = @uwg π ⟨K.bk⟩ := rfl
theorem uws_cnt (π : PEn) (K : Kq) : @uws (pCnt π) ⟨K⟩ = @uwg π ⟨K.ct⟩ := rfl
theorem uws_expr (p : PD) (π : PEn) (K : Kq) : @uws (pExpr p π) ⟨K⟩ = @uwq _ (p π) ⟨(fun _ π1 => @uwg π1 ⟨K.nx⟩)⟩ ⟨K.ex⟩ := uws_out _ _ _
theorem uws_if (t : PDB) (a b : PSD) (π : PEn) (K : Kq) : @uws (pIfS t a b π) ⟨K⟩ = @uwq _ (t π) ⟨(fun k π1 => @uwi k ⟨(@uws (a π1) ⟨K⟩)⟩ ⟨(@uws (b π1) ⟨K⟩)⟩)⟩ ⟨K.ex⟩ := by
  refine (uws_out _ _ _).trans (uwq_fun fun k π1 => ?_)
  cases k <;> simp [uwi]
def retK (i : Nat) (π : PEn) (K : Kq) : Option PS → Prop
  | some (.ow d) => K.rt (.ow d) (π.set i none)
  | _ => False
def uwrt (o : PO) (π : PEn) [K : Cn Kq] : Prop := @uws (retO o π) ⟨K.f⟩
theorem uws_ret (p : PD) (π : PEn) (K : Kq) : @uws (pRet p π) ⟨K⟩ = @uwq _ (p π) ⟨(fun o π1 => @uwrt o π1 ⟨K⟩)⟩ ⟨K.ex⟩ := uws_out _ _ _
theorem uretO_im (d : PV) (π : PEn) (K : Kq) : @uwrt (.im d) π ⟨K⟩ = K.rt (.im d) π := rfl
theorem uretO_ow (d : PV) (π : PEn) (K : Kq) : @uwrt (.ow d) π ⟨K⟩ = K.rt (.ow d) π := rfl
theorem uretO_br (i : Nat) (π : PEn) (K : Kq) : @uwrt (.br i) π ⟨K⟩ = retK i π K (ps π i) := by
  simp only [uwrt, retO, retK]
  cases ps π i with
  | none => rfl
  | some s => cases s <;> rfl
theorem retK_s (i : Nat) (π : PEn) (K : Kq) (d : PV) : retK i π K (some (.ow d)) = K.rt (.ow d) (π.set i none) := rfl
theorem uws_retN (π : PEn) (K : Kq) : @uws (pRetN π) ⟨K⟩ = K.rt (.im .non) π := rfl
theorem uws_set (i : Nat) (p : PD) (π : PEn) (K : Kq) : @uws (pSet i p π) ⟨K⟩ = @uwq _ (p π) ⟨(fun o π1 => @uwq _ (poI o π1) ⟨(fun d π1 => @uwn (isIo π1 i = false) ⟨(@uwg (π1.set i (some (.im d))) ⟨K.nx⟩)⟩)⟩ ⟨K.ex⟩)⟩ ⟨K.ex⟩ := by
  refine (uws_out _ _ _).trans (uwq_fun fun o π1 => (uws_out _ _ _).trans (uwq_fun fun d π2 => ?_))
  cases e : isIo π2 i <;> simp [uwn, uws, uwg]
def setA (i : Nat) (o : PO) (π : PEn) (N : PEn → Prop) : Prop := match o with
  | .im d => isIo π i = false ∧ N (π.set i (some (.im d)))
  | .ow d => (isIo π i = false ∧ i < π.length) ∧ N (π.set i (some (.ow d)))
  | .br _ => False
def uwsetA (i : Nat) (o : PO) (π : PEn) [N : Cn (PEn → Prop)] : Prop := setA i o π N.f
theorem uws_setA (i : Nat) (p : PD) (π : PEn) (K : Kq) : @uws (pSetA i p π) ⟨K⟩ = @uwq _ (p π) ⟨(fun o π1 => @uwsetA i o π1 ⟨K.nx⟩)⟩ ⟨K.ex⟩ := by
  unfold pSetA uwsetA setA
  cases p π with
  | ok o π1 =>
    cases o with
    | im d => cases e : isIo π1 i <;> simp [uws, uwq, e]
    | ow d =>
      cases e : isIo π1 i with
      | true => simp [uws, uwq, e]
      | false => by_cases l : π1.length ≤ i <;> simp [uws, uwq, e, l] <;> omega
    | br j => simp [uws, uwq]
  | ex c π1 => rfl
  | bad => rfl
theorem uwsetA_im (i : Nat) (d : PV) (π : PEn) (N : PEn → Prop) : @uwsetA i (.im d) π ⟨N⟩ = @uwn (isIo π i = false) ⟨(@uwg (π.set i (some (.im d))) ⟨N⟩)⟩ := rfl
theorem uwsetA_ow (i : Nat) (d : PV) (π : PEn) (N : PEn → Prop) : @uwsetA i (.ow d) π ⟨N⟩ = @uwn (isIo π i = false ∧ i < π.length) ⟨(@uwg (π.set i (some (.ow d))) ⟨N⟩)⟩ := rfl
theorem uws_par (is : List Nat) (p : PDV) (π : PEn) (K : Kq) : @uws (pPar is p π) ⟨K⟩ = @uwq _ (p π) ⟨(fun ds π1 => @uwo _ (pset is ds π1) ⟨(fun π2 => @uwg π2 ⟨K.nx⟩)⟩)⟩ ⟨K.ex⟩ := by
  refine (uws_out _ _ _).trans (uwq_fun fun ds π1 => ?_)
  cases pset is ds π1 <;> simp [uwo, onT, uws, uwg]
theorem uws_parG (is : List Nat) (p : PDG) (π : PEn) (K : Kq) : @uws (pParG is p π) ⟨K⟩ = @uwq _ (p π) ⟨(fun ds π1 => @uwo _ (psetG is ds π1) ⟨(fun π2 => @uwg π2 ⟨K.nx⟩)⟩)⟩ ⟨K.ex⟩ := by
  refine (uws_out _ _ _).trans (uwq_fun fun ds π1 => ?_)
  cases psetG is ds π1 <;> simp [uwo, onT, uws, uwg]
theorem uwo_ite {α : Type} (c : Prop) [Decidable c] (a : Option α) (P : α → Prop) : @uwo _ (if c then none else a) ⟨P⟩ = @uwn (¬c) ⟨(@uwo _ a ⟨P⟩)⟩ := by
  by_cases h : c <;> simp [h, uwo, uwn]
theorem pset_n (π : PEn) : pset [] [] π = some π := rfl
theorem pset_c (i : Nat) (is : List Nat) (d : PV) (ds : List PV) (π : PEn) : pset (i :: is) (d :: ds) π = if isIo π i = true then none else pset is ds (π.set i (some (.im d))) := rfl
theorem psetG_n (π : PEn) : psetG [] [] π = some π := rfl
theorem psetG_i (i : Nat) (is : List Nat) (d : PV) (os : List PO) (π : PEn) : psetG (i :: is) (.im d :: os) π = if isIo π i = true then none else psetG is os (π.set i (some (.im d))) := rfl
theorem psetG_o (i : Nat) (is : List Nat) (d : PV) (os : List PO) (π : PEn) : psetG (i :: is) (.ow d :: os) π = if isIo π i = true ∨ π.length ≤ i then none else psetG is os (π.set i (some (.ow d))) := rfl
theorem uws_aug (i : Nat) (f : PV → PV → Option PO) (p : PD) (π : PEn) (K : Kq) : @uws (pAug i f p π) ⟨K⟩ = @uwq _ (@bq _ _ (pVar i π) ⟨fun x π1 => @bq _ _ (p π1) ⟨fun y π2 => see2 f x y π2⟩⟩) ⟨(fun o π1 => @uwq _ (poI o π1) ⟨(fun d π1 => @uwn (isIo π1 i = false) ⟨(@uwg (π1.set i (some (.im d))) ⟨K.nx⟩)⟩)⟩ ⟨K.ex⟩)⟩ ⟨K.ex⟩ := by
  refine (uws_out _ _ _).trans (uwq_fun fun o π1 => (uws_out _ _ _).trans (uwq_fun fun d π2 => ?_))
  cases e : isIo π2 i <;> simp [uwn, uws, uwg]
theorem uws_asg (p : PD) (g : PTD) (π : PEn) (K : Kq) : @uws (pAsg p g π) ⟨K⟩ = @uwq _ (p π) ⟨(fun o π1 => @uwq _ (poI o π1) ⟨(fun d π1 => @uwo _ (g d π1) ⟨(fun π2 => @uwg π2 ⟨K.nx⟩)⟩)⟩ ⟨K.ex⟩)⟩ ⟨K.ex⟩ := by
  refine (uws_out _ _ _).trans (uwq_fun fun o π1 => (uws_out _ _ _).trans (uwq_fun fun d π2 => ?_))
  cases g d π2 <;> simp [uwo, onT, uws, uwg]
theorem pnt_nm (i : Nat) (d : PV) (π : PEn) : pnt (.nm i) d π = if isIo π i = true then none else some (π.set i (some (.im d))) := rfl
theorem pnt_tp (is : List Nat) (ds : List PV) (π : PEn) : pnt (.tp is) (.tup ds) π = pset is ds π := rfl
theorem pnt_tpl (is : List Nat) (ds : List PV) (π : PEn) : pnt (.tp is) (.lst ds) π = pset is ds π := rfl
theorem uwo_sub (i : Nat) (p : PD) (d : PV) (π : PEn) (P : PEn → Prop) : @uwo _ (pgSub i p d π) ⟨P⟩ = @uwq _ (p π) ⟨(fun o π1 => @uwq _ (poI o π1) ⟨fun y π2 => @uwo _ (ownK (ps π2 i)) ⟨(fun c => @uwo _ (setIxP c y d) ⟨(fun c' => @uwg (upd' i c' π2) ⟨P⟩)⟩)⟩⟩ ⟨NoQ⟩ ∧ ∃ y, o = .im y)⟩ ⟨NoQ⟩ := by
  simp only [pgSub]
  cases p π with
  | ok o π1 =>
    cases o with
    | im y =>
      simp only [uwq, poI, uwo, uwg, upd']
      cases e : ps π1 i with
      | none => simp [ownK]
      | some s =>
        cases e2 : s.own with
        | none => simp [ownK, e2]
        | some c => cases e3 : setIxP c y d <;> simp [ownK, e2, e3]
    | ow y => simp [uwq, uwo]
    | br y => simp [uwq, uwo]
  | ex c π1 => simp [uwq, uwo]
  | bad => simp [uwq, uwo]
theorem ex_im (d : PV) : (∃ y, PO.im d = .im y) = True := by simp
def setK (xs : List PV) (z : PV) : Option Nat → Option PV
  | some k => some (.lst (xs.set k z))
  | none => none
theorem setIx_li (xs : List PV) (j : Int) (z : PV) : setIxP (.lst xs) (.int j) z = setK xs z (ixN xs.length j) := by
  simp only [setIxP, setK]; cases ixN xs.length j <;> rfl
theorem setK_s (xs : List PV) (z : PV) (k : Nat) : setK xs z (some k) = some (.lst (xs.set k z)) := rfl
theorem uprunT_n (π : PEn) (P : PEn → Prop) : @uwo _ (prunT [] [] π) ⟨P⟩ = P π := by simp [uwo, prunT]
theorem uprunT_c (t : PTD) (ts : List PTD) (d : PV) (ds : List PV) (π : PEn) (P : PEn → Prop) : @uwo _ (prunT (t :: ts) (d :: ds) π) ⟨P⟩ = @uwo _ (t d π) ⟨(fun π1 => @uwo _ (prunT ts ds π1) ⟨P⟩)⟩ := by
  simp only [prunT, uwo]
  cases t d π <;> simp
theorem pgT_t (ts : List PTD) (ds : List PV) (π : PEn) : pgT ts (.tup ds) π = prunT ts ds π := rfl
theorem uws_frz (i : Nat) (s : PSD) (π : PEn) (K : Kq) : @uws (pFrz i s π) ⟨K⟩ = @uwg (frz i π) ⟨fun π1 => @uws (s π1) ⟨K⟩⟩ := rfl
theorem frz_0 (d : PV) (π : PEn) : frz 0 (some (.ow d) :: π) = some (.im d) :: π := rfl
theorem frz_0i (d : PV) (π : PEn) : frz 0 (some (.im d) :: π) = some (.im d) :: π := rfl
theorem frz_0n (π : PEn) : frz 0 (none :: π) = none :: π := rfl
theorem frz_0o (d : PV) (π : PEn) : frz 0 (some (.io d) :: π) = some (.io d) :: π := rfl
theorem frz_s (i : Nat) (x : Option PS) (π : PEn) : frz (i + 1) (x :: π) = x :: frz i π := by
  simp only [frz, ps_s]
  cases ps π i with
  | none => rfl
  | some s => cases s <;> rfl
def mtK (i : Nat) (g : List PV → List PV → Option (PV × List PV)) (ds : List PV) (π : PEn) : Option PV → PR PO
  | some (.lst c) => match g c ds with
    | some (r, c') => .ok (.im r) (upd' i (.lst c') π)
    | none => .bad
  | _ => .bad
def isLK : Option PV → Bool
  | some (.lst _) => true
  | _ => false
theorem uwq_mt (i : Nat) (g : List PV → List PV → Option (PV × List PV)) (p : PDV) (π : PEn) (P : PO → PEn → Prop) (X : XQ) : @uwq _ (pMt i g p π) ⟨P⟩ ⟨X⟩ = @uwn (isLK (ownK (ps π i)) = true) ⟨(@uwq _ (p π) ⟨(fun ds π1 => @uwq _ (mtK i g ds π1 (ownK (ps π1 i))) ⟨P⟩ ⟨X⟩)⟩ ⟨X⟩)⟩ := by
  unfold pMt
  cases e : ps π i with
  | none => simp [ownK, isLK, uwn, uwq]
  | some s =>
    simp only [ownK]
    cases e2 : s.own with
    | none => simp [isLK, uwn, uwq]
    | some c =>
      cases c with
      | lst c =>
        simp only [isLK, uwn, true_and]
        show @uwq _ ((p π).bind _) ⟨P⟩ ⟨X⟩ = _
        cases p π with
        | ok ds π1 =>
          show @uwq _ (match ps π1 i with | some s => _ | none => _) ⟨P⟩ ⟨X⟩ = @uwq _ (mtK i g ds π1 _) ⟨P⟩ ⟨X⟩
          congr 1
          cases e3 : ps π1 i with
          | none => rfl
          | some s =>
            simp only [ownK]
            cases e4 : s.own with
            | none => rfl
            | some c =>
              cases c <;> try rfl
              rename_i c
              cases hg : g c ds <;> simp only [mtK, upd', e3, hg]
        | ex c π1 => rfl
        | bad => rfl
      | _ => simp [isLK, uwn, uwq]
theorem isLK_s (c : List PV) : isLK (some (.lst c)) = true := rfl
theorem umtK_s (i : Nat) (g : List PV → List PV → Option (PV × List PV)) (ds c : List PV) (π : PEn) (P : PO → PEn → Prop) (X : XQ) : @uwq _ (mtK i g ds π (some (.lst c))) ⟨P⟩ ⟨X⟩ = @uwo _ (g c ds) ⟨(fun p => @uwg (upd' i (.lst p.2) π) ⟨(fun π1 => P (.im p.1) π1)⟩)⟩ := by
  simp only [mtK, uwo]
  cases g c ds <;> simp [uwq, uwg]
theorem uwo_some_ite {α : Type} (c : Prop) [Decidable c] (a : α) (P : α → Prop) : @uwo _ (if c then some a else none) ⟨P⟩ = @uwn c ⟨(P a)⟩ := by
  by_cases h : c <;> simp [h, uwo, uwn]
theorem qAppend_1 (xs : List PV) (y : PV) : qAppend xs [y] = if xs.length < 16777216 then some (.non, xs ++ [y]) else none := rfl
theorem qReverse_0 (xs : List PV) : qReverse xs [] = some (.non, xs.reverse) := rfl
theorem qClear_0 (xs : List PV) : qClear xs [] = some (.non, []) := rfl
theorem qInsert_2 (xs : List PV) (i : Int) (y : PV) : qInsert xs [.int i, y] = if xs.length < 16777216 ∧ 0 ≤ i ∧ i < 9223372036854775808 then some (.non, xs.take i.toNat ++ [y] ++ xs.drop i.toNat) else none := rfl
theorem uws_for (di : PDI) (nt : NT) (b : PSD) (π : PEn) (K : Kq) : @uws (pFor di nt b π) ⟨K⟩ = @uwq _ (di π) ⟨(fun p π1 => @uwn (p.2.all (fun q => isIo π1 q.1) = true) ⟨(@uws (pForL nt b p.2 p.1 π1) ⟨K⟩)⟩)⟩ ⟨K.ex⟩ := by
  refine (uws_out _ _ _).trans (uwq_fun fun p π1 => ?_)
  by_cases c : p.2.all (fun q => isIo π1 q.1) = true
  · rw [if_pos c]; simp [uwn, c]
  · rw [if_neg c]; simp [uwn, c, uws]
def Kin (K : Kq) (N : PEn → Prop) : Kq := ⟨N, K.rt, K.nx, N, K.ex⟩
theorem okw_n (π : PEn) : okw [] π = true := rfl
theorem all_n (π : PEn) : List.all ([] : Wt) (fun q => isIo π q.1) = true := rfl
theorem uforL_n (nt : NT) (b : PSD) (π : PEn) (K : Kq) : @uws (pForL nt b [] [] π) ⟨K⟩ = @uwg π ⟨K.nx⟩ := by simp [pForL, okw, uws, uwg]
theorem uforL_c (nt : NT) (b : PSD) (d : PV) (ds : List PV) (π : PEn) (K : Kq) : @uws (pForL nt b [] (d :: ds) π) ⟨K⟩ = @uwo _ (pnt nt d π) ⟨(fun π1 => @uws (b π1) ⟨(Kin K fun π2 => @uws (pForL nt b [] ds π2) ⟨K⟩)⟩)⟩ := by
  simp only [pForL, okw_n, if_true, uwo]
  cases pnt nt d π with
  | none => simp [uws]
  | some π1 =>
    simp only [Option.some.injEq, exists_eq_left']
    cases b π1 <;> rfl
theorem uws_forL {nt : NT} {b : PSD} {w : Wt} {K : Kq} (I : List PV → PEn → Prop) : ∀ (xs : List PV) (π : PEn), I xs π →
    (∀ x xs π, I (x :: xs) π → okw w π = true ∧ @uwo _ (pnt nt x π) ⟨fun π1 => @uws (b π1) ⟨(Kin K (I xs))⟩⟩) → (∀ π, I [] π → okw w π = true ∧ K.nx π) → @uws (pForL nt b w xs π) ⟨K⟩
  | [], π, i, _, e => by
    obtain ⟨a, b⟩ := e π i
    simp only [pForL, a, if_true]
    exact b
  | x :: xs, π, i, st, e => by
    obtain ⟨a, z⟩ := st x xs π i
    obtain ⟨π1, e1, w⟩ := uwo_el z
    simp only [pForL, a, if_true, e1]
    cases hb : b π1 with
    | nx π2 => rw [hb] at w; exact uws_forL I xs π2 w st e
    | ct π2 => rw [hb] at w; exact uws_forL I xs π2 w st e
    | bk π2 => rw [hb] at w; exact w
    | rt x π2 => rw [hb] at w; exact w
    | ex c π2 => rw [hb] at w; exact w
    | bad => rw [hb] at w; exact w
theorem uws_forI {nt : NT} {b : PSD} {K : Kq} (I : List PV → PEn → Prop) (xs : List PV) (π : PEn) (i : I xs π)
    (st : ∀ x xs π, I (x :: xs) π → @uwo _ (pnt nt x π) ⟨fun π1 => @uws (b π1) ⟨(Kin K (I xs))⟩⟩) (e : ∀ π, I [] π → K.nx π) : @uws (pForL nt b [] xs π) ⟨K⟩ :=
  uws_forL I xs π i (fun x xs π i => ⟨okw_n π, st x xs π i⟩) fun π i => ⟨okw_n π, e π i⟩
theorem uws_forM {α : Type} {nt : NT} {b : PSD} {K : Kq} (f : α → PV) (I : List α → List α → PEn → Prop) (all : List α) : ∀ (don xs : List α) (π : PEn), don ++ xs = all → I don xs π →
    (∀ don x xs π, don ++ x :: xs = all → I don (x :: xs) π → @uwo _ (pnt nt (f x) π) ⟨fun π1 => @uws (b π1) ⟨(Kin K (I (don ++ [x]) xs))⟩⟩) → (∀ π, I all [] π → K.nx π) → @uws (pForL nt b [] (xs.map f) π) ⟨K⟩
  | don, [], π, q, i, _, e => by
    simp only [List.append_nil] at q; subst q
    rw [List.map_nil, uforL_n]
    exact e π i
  | don, x :: xs, π, q, i, st, e => by
    rw [List.map_cons, uforL_c]
    obtain ⟨π1, e1, w⟩ := uwo_el (st don x xs π q i)
    refine ⟨π1, e1, ?_⟩
    refine uws_mono w (fun π2 z => ?_) (fun _ _ z => z) (fun _ z => z) (fun π2 z => ?_) fun _ _ z => z
    all_goals exact uws_forM f I all (don ++ [x]) xs π2 (by simp [q]) z st e
theorem pdiV_ap (p : PD) (π : PEn) : pdiV p π = @bq _ _ (p π) ⟨pitV⟩ := rfl
def pitK (o : PO) (π : PEn) : Option PV → PR (List PV × Wt)
  | some (.str s) => .ok (s.map (fun c => .str [c]), []) π
  | some d => match seqP d with
    | some ds => match o with
      | .br i => if PV.flats ds = true then (match d with
        | .lst _ => .ok (ds, [(i, ds)]) π
        | _ => .bad) else .bad
      | _ => .ok (ds, []) π
    | none => .bad
  | none => .bad
theorem pitV_e (o : PO) (π : PEn) : pitV o π = pitK o π (pv π o) := by
  unfold pitV pitK
  cases pv π o with
  | none => rfl
  | some d => cases d <;> rfl
theorem pitK_l (d : PV) (xs : List PV) (π : PEn) : pitK (.im d) π (some (.lst xs)) = .ok (xs, []) π := rfl
theorem pitK_lo (d : PV) (xs : List PV) (π : PEn) : pitK (.ow d) π (some (.lst xs)) = .ok (xs, []) π := rfl
theorem pitK_lb (i : Nat) (xs : List PV) (π : PEn) : pitK (.br i) π (some (.lst xs)) = if PV.flats xs = true then .ok (xs, [(i, xs)]) π else .bad := rfl
theorem pitK_t (d : PV) (xs : List PV) (π : PEn) : pitK (.im d) π (some (.tup xs)) = .ok (xs, []) π := rfl
theorem pitK_f (d : PV) (xs : List PV) (π : PEn) : pitK (.im d) π (some (.frz xs)) = .ok (xs, []) π := rfl
theorem pitK_s (o : PO) (s : List Nat) (π : PEn) : pitK o π (some (.str s)) = .ok (s.map (fun c => .str [c]), []) π := rfl
def r1K (o : PO) (π1 : PEn) : PR (List PV × Wt) := match o with
  | .im (.int j) => if -4611686018427387904 ≤ j ∧ j < 4611686018427387904 then .ok (rngP 0 j.toNat, []) π1 else .bad
  | _ => .bad
def r2K (o o' : PO) (π2 : PEn) : PR (List PV × Wt) := match o, o' with
  | .im (.int i), .im (.int j) => if -4611686018427387904 ≤ i ∧ i < 4611686018427387904 ∧ -4611686018427387904 ≤ j ∧ j < 4611686018427387904 then .ok (rngP i (j - i).toNat, []) π2 else .bad
  | _, _ => .bad
theorem pdiR1_ap (p : PD) (π : PEn) : pdiR1 p π = @bq _ _ (p π) ⟨r1K⟩ := rfl
theorem pdiR2_ap (p q : PD) (π : PEn) : pdiR2 p q π = @bq _ _ (p π) ⟨fun o π1 => @bq _ _ (q π1) ⟨fun o' π2 => r2K o o' π2⟩⟩ := rfl
theorem pdiR1_e (j : Int) (π : PEn) : r1K (.im (.int j)) π = if -4611686018427387904 ≤ j ∧ j < 4611686018427387904 then .ok (rngP 0 j.toNat, []) π else .bad := rfl
theorem pdiR2_e (i j : Int) (π : PEn) : r2K (.im (.int i)) (.im (.int j)) π = if -4611686018427387904 ≤ i ∧ i < 4611686018427387904 ∧ -4611686018427387904 ≤ j ∧ j < 4611686018427387904 then .ok (rngP i (j - i).toNat, []) π else .bad := rfl
theorem pdiE_ap (p : PD) (π : PEn) : pdiE p π = @bq _ _ (p π) ⟨penO⟩ := rfl
theorem penO_ol (xs : List PV) (π : PEn) : penO (.ow (.lst xs)) π = .ok (enumP 0 xs, []) π := rfl
theorem penO_il (xs : List PV) (π : PEn) : penO (.im (.lst xs)) π = .ok (enumP 0 xs, []) π := rfl
theorem rngP_len : ∀ (n : Nat) (lo : Int), (rngP lo n).length = n
  | 0, _ => rfl
  | n + 1, lo => by simp [rngP, rngP_len n]
theorem rngP_map : ∀ (n : Nat) (lo : Int), rngP lo n = (List.range n).map fun (i : Nat) => PV.int (lo + i)
  | 0, _ => rfl
  | n + 1, lo => by
    rw [rngP, rngP_map n (lo + 1), List.range_succ_eq_map, List.map_cons, List.map_map]
    simp [Function.comp_def, Int.add_assoc, Int.add_comm 1]
theorem uwq_get {α β : Type} (r : PR α) (f : α → PEn → PR β) (P : β → PEn → Prop) : @uwq _ (r.get f) ⟨P⟩ ⟨NoQ⟩ = @uwq _ r ⟨(fun a π => @uwq _ (f a π) ⟨P⟩ ⟨NoQ⟩)⟩ ⟨NoQ⟩ := by cases r <;> rfl
theorem uwq_get' {α β : Type} (r : PR α) (f : α → PEn → PR β) (P : β → PEn → Prop) (X : XQ) : @uwq _ (r.get f) ⟨P⟩ ⟨X⟩ = @uwq _ r ⟨(fun a π => @uwq _ (f a π) ⟨P⟩ ⟨X⟩)⟩ ⟨NoQ⟩ := by cases r <;> rfl
theorem uwq_comp (own : List Nat) (di : PDI) (nt : NT) (tst : PDB) (elt : PD) (π : PEn) (P : PO → PEn → Prop) (X : XQ) : @uwq _ (pComp own di nt tst elt π) ⟨P⟩ ⟨X⟩ = @uwq _ (di π) ⟨(fun p π1 => @uwn (p.1.length ≤ 16777216 ∧ own.all (notOwn π1) = true) ⟨(@uwq _ (pCompL nt own tst elt p.2 p.1 (wipeP π1 own)) ⟨(fun ys π2 => @uwg (restP π1 own π2) ⟨(fun π3 => P (.ow (.lst ys)) π3)⟩)⟩ ⟨NoQ⟩)⟩)⟩ ⟨X⟩ := by
  refine (uwq_bind (di π) _ P X).trans (uwq_fun fun p π1 => ?_)
  show @uwq _ (if p.1.length ≤ 16777216 ∧ own.all (notOwn π1) = true then (pCompL nt own tst elt p.2 p.1 (wipeP π1 own)).get fun ys π2 => .ok (.ow (.lst ys)) (restP π1 own π2) else .bad) ⟨P⟩ ⟨X⟩ = _
  rw [uwq_ite, uwq_get']
  rfl
theorem ucompL_n (nt : NT) (own : List Nat) (tst : PDB) (elt : PD) (π : PEn) (P : List PV → PEn → Prop) : @uwq _ (pCompL nt own tst elt [] [] π) ⟨P⟩ ⟨NoQ⟩ = P [] π := by simp [pCompL, okw, uwq]
theorem ucompL_c (nt : NT) (own : List Nat) (tst : PDB) (elt : PD) (x : PV) (xs : List PV) (π : PEn) (P : List PV → PEn → Prop) :
    @uwq _ (pCompL nt own tst elt [] (x :: xs) π) ⟨P⟩ ⟨NoQ⟩ = @uwo _ (pnt nt x π) ⟨(fun π1 => @uwq _ (tst π1) ⟨(fun b π2 => @uwi b ⟨(@uwq _ (elt π2) ⟨(fun o π3 => @uwq _ (poI o π3) ⟨(fun e π3 => @uwg (wipeP π3 own) ⟨(fun π4 => @uwq _ (pCompL nt own tst elt [] xs π4) ⟨(fun ys π5 => P (e :: ys) π5)⟩ ⟨NoQ⟩)⟩)⟩ ⟨NoQ⟩)⟩ ⟨NoQ⟩)⟩ ⟨(@uwg (wipeP π2 own) ⟨(fun π4 => @uwq _ (pCompL nt own tst elt [] xs π4) ⟨P⟩ ⟨NoQ⟩)⟩)⟩)⟩ ⟨NoQ⟩)⟩ := by
  simp only [pCompL, okw_n, if_true, uwo]
  cases pnt nt x π with
  | none => simp [uwq]
  | some π1 =>
    simp only [Option.some.injEq, exists_eq_left']
    rw [uwq_get]
    refine uwq_fun fun b π2 => ?_
    cases b with
    | false => simp [uwi, uwg]
    | true =>
      simp only [uwi_t, if_true]
      rw [uwq_get]
      refine uwq_fun fun o π3 => ?_
      rw [uwq_get]
      refine uwq_fun fun e π4 => ?_
      rw [uwq_get]
      rfl
theorem uwq_compL {nt : NT} {own : List Nat} {tst : PDB} {elt : PD} {w : Wt} (J : List PV → List PV → PEn → Prop) (P : List PV → PEn → Prop) : ∀ (xs don : List PV) (π : PEn), J xs don π →
    (∀ x xs don π, J (x :: xs) don π → okw w π = true ∧ @uwo _ (pnt nt x π) ⟨fun π1 => @uwq _ (tst π1) ⟨(fun b π2 => @uwi b ⟨(@uwq _ (elt π2) ⟨(fun o π3 => @uwq _ (poI o π3) ⟨(fun e π4 => J xs (don ++ [e]) (wipeP π4 own))⟩ ⟨NoQ⟩)⟩ ⟨NoQ⟩)⟩ ⟨(J xs don (wipeP π2 own))⟩)⟩ ⟨NoQ⟩⟩) →
    (∀ don π, J [] don π → okw w π = true) → (∀ ys π, J [] (don ++ ys) π → P ys π) → @uwq _ (pCompL nt own tst elt w xs π) ⟨P⟩ ⟨NoQ⟩
  | [], don, π, i, _, l, e => by
    simp only [pCompL, l don π i, if_true]
    exact e [] π (by simpa using i)
  | x :: xs, don, π, i, st, l, e => by
    obtain ⟨a, z⟩ := st x xs don π i
    obtain ⟨π1, e1, w⟩ := uwo_el z
    simp only [pCompL, a, if_true, e1]
    rw [uwq_get]
    refine uwq_to w fun b π2 z => ?_
    cases b with
    | false =>
      simp only [uwi_f] at z
      simp only [Bool.false_eq_true, if_false]
      exact uwq_compL J P xs don _ z st l e
    | true =>
      simp only [uwi_t, if_true] at z ⊢
      rw [uwq_get]
      refine uwq_to z fun o π3 z => ?_
      rw [uwq_get]
      refine uwq_to z fun d π4 z => ?_
      rw [uwq_get]
      refine uwq_to (uwq_compL J (fun ys π5 => P (d :: ys) π5) xs (don ++ [d]) _ z st l fun ys π5 q => e _ π5 (by simpa using q)) fun ys π5 z => z
theorem uwq_compI {nt : NT} {own : List Nat} {tst : PDB} {elt : PD} {π : PEn} (J : List PV → List PV → PEn → Prop) (P : List PV → PEn → Prop) (xs : List PV) (i : J xs [] π)
    (st : ∀ x xs don π, J (x :: xs) don π → @uwo _ (pnt nt x π) ⟨fun π1 => @uwq _ (tst π1) ⟨(fun b π2 => @uwi b ⟨(@uwq _ (elt π2) ⟨(fun o π3 => @uwq _ (poI o π3) ⟨(fun e π4 => J xs (don ++ [e]) (wipeP π4 own))⟩ ⟨NoQ⟩)⟩ ⟨NoQ⟩)⟩ ⟨(J xs don (wipeP π2 own))⟩)⟩ ⟨NoQ⟩⟩)
    (e : ∀ ys π, J [] ys π → P ys π) : @uwq _ (pCompL nt own tst elt [] xs π) ⟨P⟩ ⟨NoQ⟩ :=
  uwq_compL J P xs [] π i (fun x xs don π i => ⟨okw_n π, st x xs don π i⟩) (fun _ _ _ => okw_n _) fun ys π q => e ys π (by simpa using q)
theorem uwq_cmap {nt : NT} {own : List Nat} {tst : PDB} {elt : PD} {π : PEn} {P : List PV → PEn → Prop} (t : PV → Bool) (g : PV → PV) : ∀ (xs : List PV),
    (∀ x ∈ xs, @uwo _ (pnt nt x π) ⟨fun π1 => @uwq _ (tst π1) ⟨(fun b π2 => b = t x ∧ @uwi b ⟨(@uwq _ (elt π2) ⟨(fun o π3 => @uwq _ (poI o π3) ⟨(fun e π4 => e = g x ∧ wipeP π4 own = π)⟩ ⟨NoQ⟩)⟩ ⟨NoQ⟩)⟩ ⟨(wipeP π2 own = π)⟩)⟩ ⟨NoQ⟩⟩) → P ((xs.filter t).map g) π → @uwq _ (pCompL nt own tst elt [] xs π) ⟨P⟩ ⟨NoQ⟩ := fun xs a k => by
  suffices h : ∀ (xs don : List PV), (∀ x ∈ xs, @uwo _ (pnt nt x π) ⟨fun π1 => @uwq _ (tst π1) ⟨(fun b π2 => b = t x ∧ @uwi b ⟨(@uwq _ (elt π2) ⟨(fun o π3 => @uwq _ (poI o π3) ⟨(fun e π4 => e = g x ∧ wipeP π4 own = π)⟩ ⟨NoQ⟩)⟩ ⟨NoQ⟩)⟩ ⟨(wipeP π2 own = π)⟩)⟩ ⟨NoQ⟩⟩) → @uwq _ (pCompL nt own tst elt [] xs π) ⟨(fun ys π' => ys = (xs.filter t).map g ∧ π' = π)⟩ ⟨NoQ⟩ by
    refine uwq_to (h xs [] a) fun ys π' z => ?_
    obtain ⟨rfl, rfl⟩ := z
    exact k
  intro xs
  induction xs with
  | nil => intro _ _; rw [ucompL_n]; exact ⟨rfl, rfl⟩
  | cons x xs ih =>
    intro don a
    rw [ucompL_c]
    obtain ⟨π1, e1, w⟩ := uwo_el (a x (by simp))
    refine ⟨π1, e1, ?_⟩
    refine uwq_to w fun b π2 z => ?_
    obtain ⟨bt, z⟩ := z
    have ih' := ih don fun y m => a y (by simp [m])
    cases b with
    | false =>
      simp only [uwi_f] at z ⊢
      rw [uwg_go, z]
      refine uwq_to ih' fun ys π' q => ?_
      simpa [List.filter_cons, ← bt] using q
    | true =>
      simp only [uwi_t] at z ⊢
      refine uwq_to z fun o π3 z => uwq_to z fun e π4 z => ?_
      obtain ⟨rfl, z⟩ := z
      rw [uwg_go, z]
      refine uwq_to ih' fun ys π' q => ?_
      obtain ⟨rfl, rfl⟩ := q
      simp [List.filter_cons, ← bt]
theorem uwq_map {nt : NT} {own : List Nat} {elt : PD} {π : PEn} {P : List PV → PEn → Prop} (g : PV → PV) (xs : List PV)
    (a : ∀ x ∈ xs, @uwo _ (pnt nt x π) ⟨fun π1 => @uwq _ (elt π1) ⟨(fun o π3 => @uwq _ (poI o π3) ⟨(fun e π4 => e = g x ∧ wipeP π4 own = π)⟩ ⟨NoQ⟩)⟩ ⟨NoQ⟩⟩) (k : P (xs.map g) π) : @uwq _ (pCompL nt own pYes elt [] xs π) ⟨P⟩ ⟨NoQ⟩ := by
  refine uwq_cmap (fun _ => true) g xs (fun x hx => ?_) ?_
  · obtain ⟨π1, e1, w⟩ := uwo_el (a x hx)
    refine ⟨π1, e1, ?_⟩
    show true = true ∧ @uwi true ⟨_⟩ ⟨_⟩
    rw [uwi_t]
    exact ⟨rfl, w⟩
  · rw [show xs.filter (fun _ => true) = xs from List.filter_eq_self.mpr fun _ _ => rfl]
    exact k
theorem pYes_ap (π : PEn) : pYes π = .ok true π := rfl
theorem wipeP_n (π : PEn) : wipeP π [] = π := rfl
theorem wipeP_c (π : PEn) (v : Nat) (vs : List Nat) : wipeP π (v :: vs) = (wipeP π vs).set v none := rfl
theorem restP_n (π1 π : PEn) : restP π1 [] π = π := rfl
theorem restP_c (π1 π : PEn) (i : Nat) (is : List Nat) : restP π1 (i :: is) π = (restP π1 is π).set i (π1[i]?.getD none) := rfl
theorem notOwn_s (i : Nat) (x : Option PS) (π : PEn) : notOwn (x :: π) (i + 1) = notOwn π i := by simp [notOwn, ps]
theorem notOwn_0 (π : PEn) : notOwn (none :: π) 0 = true := rfl
theorem notOwn_1 (d : PV) (π : PEn) : notOwn (some (.im d) :: π) 0 = true := rfl
theorem notOwn_2 (d : PV) (π : PEn) : notOwn (some (.ow d) :: π) 0 = false := rfl
theorem notOwn_3 (d : PV) (π : PEn) : notOwn (some (.io d) :: π) 0 = false := rfl
theorem all_c (π : PEn) (i : Nat) (is : List Nat) : List.all (i :: is) (notOwn π) = (notOwn π i && List.all is (notOwn π)) := rfl
theorem all_e (π : PEn) : List.all ([] : List Nat) (notOwn π) = true := rfl
def Kf (ios : List Bool) (P : PO → List PV → Prop) (X : XF) : Kq := ⟨fun π => P (.im .non) (outsOf ios 0 π), fun o π => P o (outsOf ios 0 π), fun _ => False, fun _ => False, fun c π => X c (outsOf ios 0 π)⟩
theorem uwf_run (ios : List Bool) (n : Nat) (b : PSD) (ds : List PV) (P : PO → List PV → Prop) (X : XF) : @uwf (runP ios n b ds) ⟨P⟩ ⟨X⟩ = @uwg (start ios ds ++ List.replicate (n - ds.length) none) ⟨(fun π => @uws (b π) ⟨(Kf ios P X)⟩)⟩ := by
  show @uwf (runP ios n b ds) ⟨P⟩ ⟨X⟩ = @uws (b (start ios ds ++ List.replicate (n - ds.length) none)) ⟨(Kf ios P X)⟩
  unfold runP
  cases b (start ios ds ++ List.replicate (n - ds.length) none) <;> rfl
def uwout (ios : List Bool) (π : PEn) [P : Cn (List PV → Prop)] : Prop := P.f (outsOf ios 0 π)
theorem uKf_nx (ios : List Bool) (P : PO → List PV → Prop) (X : XF) : (Kf ios P X).nx = fun π => @uwout ios π ⟨fun l => P (.im .non) l⟩ := rfl
theorem uKf_rt (ios : List Bool) (P : PO → List PV → Prop) (X : XF) : (Kf ios P X).rt = fun o π => @uwout ios π ⟨fun l => P o l⟩ := rfl
theorem uKf_ex (ios : List Bool) (P : PO → List PV → Prop) (X : XF) : (Kf ios P X).ex = fun c π => @uwout ios π ⟨fun l => X c l⟩ := rfl
def uoutK (ios : List Bool) (k : Nat) (π : PEn) (acc : List PV) [P : Cn (List PV → Prop)] : Prop := P.f (acc ++ outsOf ios k π)
theorem uwout_e (ios : List Bool) (π : PEn) (P : List PV → Prop) : @uwout ios π ⟨P⟩ = @uoutK ios 0 π [] ⟨P⟩ := rfl
theorem uoutK_n (k : Nat) (π : PEn) (acc : List PV) (P : List PV → Prop) : @uoutK [] k π acc ⟨P⟩ = P acc := by simp [uoutK, outsOf]
theorem uoutK_f (bs : List Bool) (k : Nat) (π : PEn) (acc : List PV) (P : List PV → Prop) : @uoutK (false :: bs) k π acc ⟨P⟩ = @uoutK bs (k + 1) π (acc ++ [.non]) ⟨P⟩ := by simp [uoutK, outsOf]
def contK : Option PV → PV
  | some d => d
  | none => .non
theorem contK_s (d : PV) : contK (some d) = d := rfl
theorem uoutK_t (bs : List Bool) (k : Nat) (π : PEn) (acc : List PV) (P : List PV → Prop) : @uoutK (true :: bs) k π acc ⟨P⟩ = @uoutK bs (k + 1) π (acc ++ [contK (ownK (ps π k))]) ⟨P⟩ := by
  have : cont π k = contK (ownK (ps π k)) := by
    unfold cont contK ownK
    cases ps π k with
    | none => rfl
    | some s => cases s <;> rfl
  simp [uoutK, outsOf, this]
theorem start_n : start [] [] = [] := rfl
theorem start_t (bs : List Bool) (d : PV) (ds : List PV) : start (true :: bs) (d :: ds) = some (.io d) :: start bs ds := rfl
theorem start_f (bs : List Bool) (d : PV) (ds : List PV) : start (false :: bs) (d :: ds) = some (.im d) :: start bs ds := rfl
theorem Kin_nx (K : Kq) (N : PEn → Prop) : (Kin K N).nx = N := rfl
theorem Kin_ct (K : Kq) (N : PEn → Prop) : (Kin K N).ct = N := rfl
theorem Kin_bk (K : Kq) (N : PEn → Prop) : (Kin K N).bk = K.nx := rfl
theorem Kin_rt (K : Kq) (N : PEn → Prop) : (Kin K N).rt = K.rt := rfl
theorem Kin_ex (K : Kq) (N : PEn → Prop) : (Kin K N).ex = K.ex := rfl
theorem atI_0 {α : Type} (a : α) (xs : List α) : atI (a :: xs) 0 = some a := by
  have : (0 : Int) < ((a :: xs).length : Int) := by simp only [List.length_cons]; omega
  simp only [atI, ixN]
  rw [if_pos (by decide), if_pos this]
  rfl
theorem atI_1 {α : Type} (a b : α) (xs : List α) : atI (a :: b :: xs) 1 = some b := by
  have : (1 : Int) < ((a :: b :: xs).length : Int) := by simp only [List.length_cons]; omega
  simp only [atI, ixN]
  rw [if_pos (by decide), if_pos this]
  rfl
theorem atI_2 {α : Type} (a b c : α) (xs : List α) : atI (a :: b :: c :: xs) 2 = some c := by
  have : (2 : Int) < ((a :: b :: c :: xs).length : Int) := by simp only [List.length_cons]; omega
  simp only [atI, ixN]
  rw [if_pos (by decide), if_pos this]
  rfl
theorem atI_3 {α : Type} (a b c d : α) (xs : List α) : atI (a :: b :: c :: d :: xs) 3 = some d := by
  have : (3 : Int) < ((a :: b :: c :: d :: xs).length : Int) := by simp only [List.length_cons]; omega
  simp only [atI, ixN]
  rw [if_pos (by decide), if_pos this]
  rfl
theorem atI_4 {α : Type} (a b c d e : α) (xs : List α) : atI (a :: b :: c :: d :: e :: xs) 4 = some e := by
  have : (4 : Int) < ((a :: b :: c :: d :: e :: xs).length : Int) := by simp only [List.length_cons]; omega
  simp only [atI, ixN]
  rw [if_pos (by decide), if_pos this]
  rfl
theorem atI_lt {α : Type} {xs : List α} {i : Int} (h0 : 0 ≤ i) (h1 : i < xs.length) : ∃ x, atI xs i = some x ∧ xs[i.toNat]? = some x ∧ x ∈ xs := by
  have h2 : i.toNat < xs.length := by omega
  refine ⟨xs[i.toNat], ?_, List.getElem?_eq_getElem h2, List.getElem_mem h2⟩
  simp only [atI, ixN]
  rw [if_pos h0, if_pos h1]
  simp
theorem ixN_ok {n : Nat} {i : Int} (h0 : 0 ≤ i) (h1 : i < n) : ixN n i = some i.toNat := by
  simp only [ixN]
  rw [if_pos h0, if_pos h1]
theorem uwi_join {c : Bool} {o1 o2 : POut} {N bk ct : PEn → Prop} {rt : PO → PEn → Prop} {ex : Nat → PEn → Prop} (J : PEn → Prop) (a : @uwi c ⟨(@uws o1 ⟨⟨J, rt, bk, ct, ex⟩⟩)⟩ ⟨(@uws o2 ⟨⟨J, rt, bk, ct, ex⟩⟩)⟩) (k : ∀ π, J π → N π) :
    @uwi c ⟨(@uws o1 ⟨⟨N, rt, bk, ct, ex⟩⟩)⟩ ⟨(@uws o2 ⟨⟨N, rt, bk, ct, ex⟩⟩)⟩ := by
  cases c with
  | true =>
    rw [uwi_t] at a ⊢
    exact uws_mono a k (fun _ _ z => z) (fun _ z => z) (fun _ z => z) fun _ _ z => z
  | false =>
    rw [uwi_f] at a ⊢
    exact uws_mono a k (fun _ _ z => z) (fun _ z => z) (fun _ z => z) fun _ _ z => z
theorem blsP_t : ∀ ys : List PV, (∀ y ∈ ys, y = .bl true) → blsP ys = some (List.replicate ys.length true)
  | [], _ => rfl
  | y :: ys, a => by
    obtain rfl := a y (by simp)
    simp [blsP, blsP_t ys fun z hz => a z (by simp [hz]), List.replicate_succ]
theorem qAll_t {ys : List PV} (a : ∀ y ∈ ys, y = .bl true) : qAll [.lst ys] = some (.im (.bl true)) := by
  simp only [qAll, blsP_t ys a]
  simp
def fv (u : Option PV) : Option PS := u.map PS.im
theorem isIo_fv (u : Option PV) (π : PEn) : isIo (fv u :: π) 0 = false := by cases u <;> rfl
theorem notOwn_fv (u : Option PV) (π : PEn) : notOwn (fv u :: π) 0 = true := by cases u <;> rfl
theorem frz_fv (u : Option PV) (π : PEn) : frz 0 (fv u :: π) = fv u :: π := by cases u <;> rfl

structure wq {α : Type} (r : PR α) [P : Cn (α → PEn → Prop)] [X : Cn XQ] : Prop where
  out : @uwq α r P X
theorem wq_fn : @wq = @uwq := by
  funext α r P X
  exact propext ⟨fun h => @wq.out α r P X h, fun h => @wq.mk α r P X h⟩
structure wf (r : PF) [P : Cn (PO → List PV → Prop)] [X : Cn XF] : Prop where
  out : @uwf r P X
theorem wf_fn : @wf = @uwf := by
  funext r P X
  exact propext ⟨fun h => @wf.out r P X h, fun h => @wf.mk r P X h⟩
structure ws (o : POut) [K : Cn Kq] : Prop where
  out : @uws o K
theorem ws_fn : @ws = @uws := by
  funext o K
  exact propext ⟨fun h => @ws.out o K h, fun h => @ws.mk o K h⟩
structure wg (π : PEn) [P : Cn (PEn → Prop)] : Prop where
  out : @uwg π P
theorem wg_fn : @wg = @uwg := by
  funext π P
  exact propext ⟨fun h => @wg.out π P h, fun h => @wg.mk π P h⟩
structure wi (b : Bool) [A : Cn Prop] [B : Cn Prop] : Prop where
  out : @uwi b A B
theorem wi_fn : @wi = @uwi := by
  funext b A B
  exact propext ⟨fun h => @wi.out b A B h, fun h => @wi.mk b A B h⟩
structure wn (c : Prop) [A : Cn Prop] : Prop where
  out : @uwn c A
theorem wn_fn : @wn = @uwn := by
  funext c A
  exact propext ⟨fun h => @wn.out c A h, fun h => @wn.mk c A h⟩
structure wo {α : Type} (o : Option α) [P : Cn (α → Prop)] : Prop where
  out : @uwo α o P
theorem wo_fn : @wo = @uwo := by
  funext α o P
  exact propext ⟨fun h => @wo.out α o P h, fun h => @wo.mk α o P h⟩
structure wrt (o : PO) (π : PEn) [K : Cn Kq] : Prop where
  out : @uwrt o π K
theorem wrt_fn : @wrt = @uwrt := by
  funext o π K
  exact propext ⟨fun h => @wrt.out o π K h, fun h => @wrt.mk o π K h⟩
structure wsetA (i : Nat) (o : PO) (π : PEn) [N : Cn (PEn → Prop)] : Prop where
  out : @uwsetA i o π N
theorem wsetA_fn : @wsetA = @uwsetA := by
  funext i o π N
  exact propext ⟨fun h => @wsetA.out i o π N h, fun h => @wsetA.mk i o π N h⟩
structure wout (ios : List Bool) (π : PEn) [P : Cn (List PV → Prop)] : Prop where
  out : @uwout ios π P
theorem wout_fn : @wout = @uwout := by
  funext ios π P
  exact propext ⟨fun h => @wout.out ios π P h, fun h => @wout.mk ios π P h⟩
structure outK (ios : List Bool) (k : Nat) (π : PEn) (acc : List PV) [P : Cn (List PV → Prop)] : Prop where
  out : @uoutK ios k π acc P
theorem outK_fn : @outK = @uoutK := by
  funext ios k π acc P
  exact propext ⟨fun h => @outK.out ios k π acc P h, fun h => @outK.mk ios k π acc P h⟩
theorem wg_go : ∀ (P : PEn → Prop) (π : PEn), @wg π ⟨P⟩ = P π := by
  rw [wg_fn]
  exact @uwg_go
theorem wi_t : ∀ (A B : Prop), @wi true ⟨A⟩ ⟨B⟩ = A := by
  rw [wi_fn]
  exact @uwi_t
theorem wi_f : ∀ (A B : Prop), @wi false ⟨A⟩ ⟨B⟩ = B := by
  rw [wi_fn]
  exact @uwi_f
theorem wi_d : ∀ {c : Prop} [Decidable c] {A B : Prop} (a : c → A) (b : ¬c → B), @wi (decide c) ⟨A⟩ ⟨B⟩ := by
  rw [wi_fn]
  exact @uwi_d
theorem wi_b : ∀ {c : Bool} {A B : Prop} (a : c = true → A) (b : c = false → B), @wi c ⟨A⟩ ⟨B⟩ := by
  rw [wi_fn]
  exact @uwi_b
theorem wn_t : ∀ (A : Prop), @wn True ⟨A⟩ = A := by
  rw [wn_fn]
  exact @uwn_t
theorem wn_i : ∀ {c A : Prop} (a : c) (b : A), @wn c ⟨A⟩ := by
  rw [wn_fn]
  exact @uwn_i
theorem wo_s : ∀ {α : Type} (x : α) (P : α → Prop), @wo _ (some x) ⟨P⟩ = P x := by
  rw [wo_fn]
  exact @uwo_s
theorem wo_n : ∀ {α : Type} (P : α → Prop), @wo _ (none : Option α) ⟨P⟩ = False := by
  rw [wo_fn]
  exact @uwo_n
theorem wq_ok : ∀ {α : Type} (a : α) (π : PEn) (P : α → PEn → Prop) (X : XQ), @wq _ (.ok a π) ⟨P⟩ ⟨X⟩ = P a π := by
  rw [wq_fn]
  exact @uwq_ok
theorem wq_ex : ∀ {α : Type} (c : Nat) (π : PEn) (P : α → PEn → Prop) (X : XQ), @wq _ (.ex c π : PR α) ⟨P⟩ ⟨X⟩ = X c π := by
  rw [wq_fn]
  exact @uwq_ex
theorem wq_bind : ∀ {α β : Type} (r : PR α) (f : α → PEn → PR β) (P : β → PEn → Prop) (X : XQ), @wq _ (@bq _ _ r ⟨f⟩) ⟨P⟩ ⟨X⟩ = @wq _ r ⟨(fun a π => @wq _ (f a π) ⟨P⟩ ⟨X⟩)⟩ ⟨X⟩ := by
  rw [wq_fn]
  exact @uwq_bind
theorem wf_ok : ∀ (o : PO) (outs : List PV) (P : PO → List PV → Prop) (X : XF), @wf (.ok o outs) ⟨P⟩ ⟨X⟩ = P o outs := by
  rw [wf_fn]
  exact @uwf_ok
theorem wf_ex : ∀ (c : Nat) (outs : List PV) (P : PO → List PV → Prop) (X : XF), @wf (.ex c outs) ⟨P⟩ ⟨X⟩ = X c outs := by
  rw [wf_fn]
  exact @uwf_ex
theorem wq_optS : ∀ {α : Type} (a : α) (π : PEn) (P : α → PEn → Prop) (X : XQ), @wq _ (optP (some a) π) ⟨P⟩ ⟨X⟩ = P a π := by
  rw [wq_fn]
  exact @uwq_optS
theorem wq_gd : ∀ (c : Prop) [Decidable c] (o : PO) (π : PEn) (P : PO → PEn → Prop) (X : XQ), @wq _ (optP (gd c o) π) ⟨P⟩ ⟨X⟩ = @wn c ⟨(P o π)⟩ := by
  rw [wq_fn, wn_fn]
  exact @uwq_gd
theorem wq_szs : ∀ (n : Nat) (o : PO) (π : PEn) (P : PO → PEn → Prop) (X : XQ), @wq _ (optP (szs n o) π) ⟨P⟩ ⟨X⟩ = @wn (n ≤ 16777216) ⟨(P o π)⟩ := by
  rw [wq_fn, wn_fn]
  exact @uwq_szs
theorem wq_ite : ∀ {α : Type} (c : Prop) [Decidable c] (r : PR α) (P : α → PEn → Prop) (X : XQ), @wq _ (if c then r else .bad) ⟨P⟩ ⟨X⟩ = @wn c ⟨(@wq _ r ⟨P⟩ ⟨X⟩)⟩ := by
  rw [wq_fn, wn_fn]
  exact @uwq_ite
theorem wq_br : ∀ {β : Type} (b : Bool) (x y : PR β) (P : β → PEn → Prop) (X : XQ), @wq _ (@brq _ b ⟨x⟩ ⟨y⟩) ⟨P⟩ ⟨X⟩ = @wi b ⟨(@wq _ x ⟨P⟩ ⟨X⟩)⟩ ⟨(@wq _ y ⟨P⟩ ⟨X⟩)⟩ := by
  rw [wq_fn, wi_fn]
  exact @uwq_br
theorem wq_call : ∀ (ios : List Bool) (pf : PFn) (os : List PO) (ds : List PV) (π : PEn) (P : PO → PEn → Prop) (X : XQ), @wq _ (callK ios pf os (some ds) π) ⟨P⟩ ⟨X⟩ = @wn (callOk ios os = true) ⟨(@wf (pf ds) ⟨(fun o outs => @wn (callFl ios os o outs = true) ⟨(@wg (putOuts ios os outs π) ⟨(fun π1 => P o π1)⟩)⟩)⟩ ⟨(fun c outs => @wn (callFl ios os (.im .non) outs = true) ⟨(@wg (putOuts ios os outs π) ⟨(fun π1 => X c π1)⟩)⟩)⟩)⟩ := by
  rw [wq_fn, wf_fn, wg_fn, wn_fn]
  exact @uwq_call
theorem wq_optI : ∀ (c : Prop) [Decidable c] (o : PO) (π : PEn) (P : PO → PEn → Prop) (X : XQ), @wq _ (optP (if c then some o else none) π) ⟨P⟩ ⟨X⟩ = @wn c ⟨(P o π)⟩ := by
  rw [wq_fn, wn_fn]
  exact @uwq_optI
theorem ws_nil : ∀ (π : PEn) (K : Kq), @ws (pNil π) ⟨K⟩ = @wg π ⟨K.nx⟩ := by
  rw [ws_fn, wg_fn]
  exact @uws_nil
theorem ws_seq : ∀ (a b : PSD) (π : PEn) (K : Kq), @ws (pSeq a b π) ⟨K⟩ = @ws (a π) ⟨{ K with nx := fun π' => @ws (b π') ⟨K⟩ }⟩ := by
  rw [ws_fn]
  exact @uws_seq
theorem ws_brk : ∀ (π : PEn) (K : Kq), @ws (pBrk π) ⟨K⟩ = @wg π ⟨K.bk⟩ := by
  rw [ws_fn, wg_fn]
  exact @uws_brk
theorem ws_cnt : ∀ (π : PEn) (K : Kq), @ws (pCnt π) ⟨K⟩ = @wg π ⟨K.ct⟩ := by
  rw [ws_fn, wg_fn]
  exact @uws_cnt
theorem ws_expr : ∀ (p : PD) (π : PEn) (K : Kq), @ws (pExpr p π) ⟨K⟩ = @wq _ (p π) ⟨(fun _ π1 => @wg π1 ⟨K.nx⟩)⟩ ⟨K.ex⟩ := by
  rw [wq_fn, ws_fn, wg_fn]
  exact @uws_expr
theorem ws_if : ∀ (t : PDB) (a b : PSD) (π : PEn) (K : Kq), @ws (pIfS t a b π) ⟨K⟩ = @wq _ (t π) ⟨(fun k π1 => @wi k ⟨(@ws (a π1) ⟨K⟩)⟩ ⟨(@ws (b π1) ⟨K⟩)⟩)⟩ ⟨K.ex⟩ := by
  rw [wq_fn, ws_fn, wi_fn]
  exact @uws_if
theorem ws_ret : ∀ (p : PD) (π : PEn) (K : Kq), @ws (pRet p π) ⟨K⟩ = @wq _ (p π) ⟨(fun o π1 => @wrt o π1 ⟨K⟩)⟩ ⟨K.ex⟩ := by
  rw [wq_fn, ws_fn, wrt_fn]
  exact @uws_ret
theorem retO_im : ∀ (d : PV) (π : PEn) (K : Kq), @wrt (.im d) π ⟨K⟩ = K.rt (.im d) π := by
  rw [wrt_fn]
  exact @uretO_im
theorem retO_ow : ∀ (d : PV) (π : PEn) (K : Kq), @wrt (.ow d) π ⟨K⟩ = K.rt (.ow d) π := by
  rw [wrt_fn]
  exact @uretO_ow
theorem retO_br : ∀ (i : Nat) (π : PEn) (K : Kq), @wrt (.br i) π ⟨K⟩ = retK i π K (ps π i) := by
  rw [wrt_fn]
  exact @uretO_br
theorem ws_retN : ∀ (π : PEn) (K : Kq), @ws (pRetN π) ⟨K⟩ = K.rt (.im .non) π := by
  rw [ws_fn]
  exact @uws_retN
theorem ws_set : ∀ (i : Nat) (p : PD) (π : PEn) (K : Kq), @ws (pSet i p π) ⟨K⟩ = @wq _ (p π) ⟨(fun o π1 => @wq _ (poI o π1) ⟨(fun d π1 => @wn (isIo π1 i = false) ⟨(@wg (π1.set i (some (.im d))) ⟨K.nx⟩)⟩)⟩ ⟨K.ex⟩)⟩ ⟨K.ex⟩ := by
  rw [wq_fn, ws_fn, wg_fn, wn_fn]
  exact @uws_set
theorem ws_setA : ∀ (i : Nat) (p : PD) (π : PEn) (K : Kq), @ws (pSetA i p π) ⟨K⟩ = @wq _ (p π) ⟨(fun o π1 => @wsetA i o π1 ⟨K.nx⟩)⟩ ⟨K.ex⟩ := by
  rw [wq_fn, ws_fn, wsetA_fn]
  exact @uws_setA
theorem wsetA_im : ∀ (i : Nat) (d : PV) (π : PEn) (N : PEn → Prop), @wsetA i (.im d) π ⟨N⟩ = @wn (isIo π i = false) ⟨(@wg (π.set i (some (.im d))) ⟨N⟩)⟩ := by
  rw [wg_fn, wn_fn, wsetA_fn]
  exact @uwsetA_im
theorem wsetA_ow : ∀ (i : Nat) (d : PV) (π : PEn) (N : PEn → Prop), @wsetA i (.ow d) π ⟨N⟩ = @wn (isIo π i = false ∧ i < π.length) ⟨(@wg (π.set i (some (.ow d))) ⟨N⟩)⟩ := by
  rw [wg_fn, wn_fn, wsetA_fn]
  exact @uwsetA_ow
theorem ws_par : ∀ (is : List Nat) (p : PDV) (π : PEn) (K : Kq), @ws (pPar is p π) ⟨K⟩ = @wq _ (p π) ⟨(fun ds π1 => @wo _ (pset is ds π1) ⟨(fun π2 => @wg π2 ⟨K.nx⟩)⟩)⟩ ⟨K.ex⟩ := by
  rw [wq_fn, ws_fn, wg_fn, wo_fn]
  exact @uws_par
theorem ws_parG : ∀ (is : List Nat) (p : PDG) (π : PEn) (K : Kq), @ws (pParG is p π) ⟨K⟩ = @wq _ (p π) ⟨(fun ds π1 => @wo _ (psetG is ds π1) ⟨(fun π2 => @wg π2 ⟨K.nx⟩)⟩)⟩ ⟨K.ex⟩ := by
  rw [wq_fn, ws_fn, wg_fn, wo_fn]
  exact @uws_parG
theorem wo_ite : ∀ {α : Type} (c : Prop) [Decidable c] (a : Option α) (P : α → Prop), @wo _ (if c then none else a) ⟨P⟩ = @wn (¬c) ⟨(@wo _ a ⟨P⟩)⟩ := by
  rw [wn_fn, wo_fn]
  exact @uwo_ite
theorem ws_aug : ∀ (i : Nat) (f : PV → PV → Option PO) (p : PD) (π : PEn) (K : Kq), @ws (pAug i f p π) ⟨K⟩ = @wq _ (@bq _ _ (pVar i π) ⟨fun x π1 => @bq _ _ (p π1) ⟨fun y π2 => see2 f x y π2⟩⟩) ⟨(fun o π1 => @wq _ (poI o π1) ⟨(fun d π1 => @wn (isIo π1 i = false) ⟨(@wg (π1.set i (some (.im d))) ⟨K.nx⟩)⟩)⟩ ⟨K.ex⟩)⟩ ⟨K.ex⟩ := by
  rw [wq_fn, ws_fn, wg_fn, wn_fn]
  exact @uws_aug
theorem ws_asg : ∀ (p : PD) (g : PTD) (π : PEn) (K : Kq), @ws (pAsg p g π) ⟨K⟩ = @wq _ (p π) ⟨(fun o π1 => @wq _ (poI o π1) ⟨(fun d π1 => @wo _ (g d π1) ⟨(fun π2 => @wg π2 ⟨K.nx⟩)⟩)⟩ ⟨K.ex⟩)⟩ ⟨K.ex⟩ := by
  rw [wq_fn, ws_fn, wg_fn, wo_fn]
  exact @uws_asg
theorem wo_sub : ∀ (i : Nat) (p : PD) (d : PV) (π : PEn) (P : PEn → Prop), @wo _ (pgSub i p d π) ⟨P⟩ = @wq _ (p π) ⟨(fun o π1 => @wq _ (poI o π1) ⟨fun y π2 => @wo _ (ownK (ps π2 i)) ⟨(fun c => @wo _ (setIxP c y d) ⟨(fun c' => @wg (upd' i c' π2) ⟨P⟩)⟩)⟩⟩ ⟨NoQ⟩ ∧ ∃ y, o = .im y)⟩ ⟨NoQ⟩ := by
  rw [wq_fn, wg_fn, wo_fn]
  exact @uwo_sub
theorem prunT_n : ∀ (π : PEn) (P : PEn → Prop), @wo _ (prunT [] [] π) ⟨P⟩ = P π := by
  rw [wo_fn]
  exact @uprunT_n
theorem prunT_c : ∀ (t : PTD) (ts : List PTD) (d : PV) (ds : List PV) (π : PEn) (P : PEn → Prop), @wo _ (prunT (t :: ts) (d :: ds) π) ⟨P⟩ = @wo _ (t d π) ⟨(fun π1 => @wo _ (prunT ts ds π1) ⟨P⟩)⟩ := by
  rw [wo_fn]
  exact @uprunT_c
theorem ws_frz : ∀ (i : Nat) (s : PSD) (π : PEn) (K : Kq), @ws (pFrz i s π) ⟨K⟩ = @wg (frz i π) ⟨fun π1 => @ws (s π1) ⟨K⟩⟩ := by
  rw [ws_fn, wg_fn]
  exact @uws_frz
theorem wq_mt : ∀ (i : Nat) (g : List PV → List PV → Option (PV × List PV)) (p : PDV) (π : PEn) (P : PO → PEn → Prop) (X : XQ), @wq _ (pMt i g p π) ⟨P⟩ ⟨X⟩ = @wn (isLK (ownK (ps π i)) = true) ⟨(@wq _ (p π) ⟨(fun ds π1 => @wq _ (mtK i g ds π1 (ownK (ps π1 i))) ⟨P⟩ ⟨X⟩)⟩ ⟨X⟩)⟩ := by
  rw [wq_fn, wn_fn]
  exact @uwq_mt
theorem mtK_s : ∀ (i : Nat) (g : List PV → List PV → Option (PV × List PV)) (ds c : List PV) (π : PEn) (P : PO → PEn → Prop) (X : XQ), @wq _ (mtK i g ds π (some (.lst c))) ⟨P⟩ ⟨X⟩ = @wo _ (g c ds) ⟨(fun p => @wg (upd' i (.lst p.2) π) ⟨(fun π1 => P (.im p.1) π1)⟩)⟩ := by
  rw [wq_fn, wg_fn, wo_fn]
  exact @umtK_s
theorem wo_some_ite : ∀ {α : Type} (c : Prop) [Decidable c] (a : α) (P : α → Prop), @wo _ (if c then some a else none) ⟨P⟩ = @wn c ⟨(P a)⟩ := by
  rw [wn_fn, wo_fn]
  exact @uwo_some_ite
theorem ws_for : ∀ (di : PDI) (nt : NT) (b : PSD) (π : PEn) (K : Kq), @ws (pFor di nt b π) ⟨K⟩ = @wq _ (di π) ⟨(fun p π1 => @wn (p.2.all (fun q => isIo π1 q.1) = true) ⟨(@ws (pForL nt b p.2 p.1 π1) ⟨K⟩)⟩)⟩ ⟨K.ex⟩ := by
  rw [wq_fn, ws_fn, wn_fn]
  exact @uws_for
theorem ws_forL : ∀ {nt : NT} {b : PSD} {w : Wt} {K : Kq} (I : List PV → PEn → Prop), ∀ (xs : List PV) (π : PEn), I xs π → (∀ x xs π, I (x :: xs) π → okw w π = true ∧ @wo _ (pnt nt x π) ⟨fun π1 => @ws (b π1) ⟨(Kin K (I xs))⟩⟩) → (∀ π, I [] π → okw w π = true ∧ K.nx π) → @ws (pForL nt b w xs π) ⟨K⟩ := by
  rw [ws_fn, wo_fn]
  exact @uws_forL
theorem ws_forI : ∀ {nt : NT} {b : PSD} {K : Kq} (I : List PV → PEn → Prop) (xs : List PV) (π : PEn) (i : I xs π) (st : ∀ x xs π, I (x :: xs) π → @wo _ (pnt nt x π) ⟨fun π1 => @ws (b π1) ⟨(Kin K (I xs))⟩⟩) (e : ∀ π, I [] π → K.nx π), @ws (pForL nt b [] xs π) ⟨K⟩ := by
  rw [ws_fn, wo_fn]
  exact @uws_forI
theorem ws_forM : ∀ {α : Type} {nt : NT} {b : PSD} {K : Kq} (f : α → PV) (I : List α → List α → PEn → Prop) (all : List α), ∀ (don xs : List α) (π : PEn), don ++ xs = all → I don xs π → (∀ don x xs π, don ++ x :: xs = all → I don (x :: xs) π → @wo _ (pnt nt (f x) π) ⟨fun π1 => @ws (b π1) ⟨(Kin K (I (don ++ [x]) xs))⟩⟩) → (∀ π, I all [] π → K.nx π) → @ws (pForL nt b [] (xs.map f) π) ⟨K⟩ := by
  rw [ws_fn, wo_fn]
  exact @uws_forM
theorem wq_comp : ∀ (own : List Nat) (di : PDI) (nt : NT) (tst : PDB) (elt : PD) (π : PEn) (P : PO → PEn → Prop) (X : XQ), @wq _ (pComp own di nt tst elt π) ⟨P⟩ ⟨X⟩ = @wq _ (di π) ⟨(fun p π1 => @wn (p.1.length ≤ 16777216 ∧ own.all (notOwn π1) = true) ⟨(@wq _ (pCompL nt own tst elt p.2 p.1 (wipeP π1 own)) ⟨(fun ys π2 => @wg (restP π1 own π2) ⟨(fun π3 => P (.ow (.lst ys)) π3)⟩)⟩ ⟨NoQ⟩)⟩)⟩ ⟨X⟩ := by
  rw [wq_fn, wg_fn, wn_fn]
  exact @uwq_comp
theorem wq_compI : ∀ {nt : NT} {own : List Nat} {tst : PDB} {elt : PD} {π : PEn} (J : List PV → List PV → PEn → Prop) (P : List PV → PEn → Prop) (xs : List PV) (i : J xs [] π) (st : ∀ x xs don π, J (x :: xs) don π → @wo _ (pnt nt x π) ⟨fun π1 => @wq _ (tst π1) ⟨(fun b π2 => @wi b ⟨(@wq _ (elt π2) ⟨(fun o π3 => @wq _ (poI o π3) ⟨(fun e π4 => J xs (don ++ [e]) (wipeP π4 own))⟩ ⟨NoQ⟩)⟩ ⟨NoQ⟩)⟩ ⟨(J xs don (wipeP π2 own))⟩)⟩ ⟨NoQ⟩⟩) (e : ∀ ys π, J [] ys π → P ys π), @wq _ (pCompL nt own tst elt [] xs π) ⟨P⟩ ⟨NoQ⟩ := by
  rw [wq_fn, wi_fn, wo_fn]
  exact @uwq_compI
theorem wq_cmap : ∀ {nt : NT} {own : List Nat} {tst : PDB} {elt : PD} {π : PEn} {P : List PV → PEn → Prop} (t : PV → Bool) (g : PV → PV), ∀ (xs : List PV), (∀ x ∈ xs, @wo _ (pnt nt x π) ⟨fun π1 => @wq _ (tst π1) ⟨(fun b π2 => b = t x ∧ @wi b ⟨(@wq _ (elt π2) ⟨(fun o π3 => @wq _ (poI o π3) ⟨(fun e π4 => e = g x ∧ wipeP π4 own = π)⟩ ⟨NoQ⟩)⟩ ⟨NoQ⟩)⟩ ⟨(wipeP π2 own = π)⟩)⟩ ⟨NoQ⟩⟩) → P ((xs.filter t).map g) π → @wq _ (pCompL nt own tst elt [] xs π) ⟨P⟩ ⟨NoQ⟩ := by
  rw [wq_fn, wi_fn, wo_fn]
  exact @uwq_cmap
theorem wq_map : ∀ {nt : NT} {own : List Nat} {elt : PD} {π : PEn} {P : List PV → PEn → Prop} (g : PV → PV) (xs : List PV) (a : ∀ x ∈ xs, @wo _ (pnt nt x π) ⟨fun π1 => @wq _ (elt π1) ⟨(fun o π3 => @wq _ (poI o π3) ⟨(fun e π4 => e = g x ∧ wipeP π4 own = π)⟩ ⟨NoQ⟩)⟩ ⟨NoQ⟩⟩) (k : P (xs.map g) π), @wq _ (pCompL nt own pYes elt [] xs π) ⟨P⟩ ⟨NoQ⟩ := by
  rw [wq_fn, wo_fn]
  exact @uwq_map
theorem wf_run : ∀ (ios : List Bool) (n : Nat) (b : PSD) (ds : List PV) (P : PO → List PV → Prop) (X : XF), @wf (runP ios n b ds) ⟨P⟩ ⟨X⟩ = @wg (start ios ds ++ List.replicate (n - ds.length) none) ⟨(fun π => @ws (b π) ⟨(Kf ios P X)⟩)⟩ := by
  rw [wf_fn, ws_fn, wg_fn]
  exact @uwf_run
theorem Kf_nx : ∀ (ios : List Bool) (P : PO → List PV → Prop) (X : XF), (Kf ios P X).nx = fun π => @wout ios π ⟨fun l => P (.im .non) l⟩ := by
  rw [wout_fn]
  exact @uKf_nx
theorem Kf_rt : ∀ (ios : List Bool) (P : PO → List PV → Prop) (X : XF), (Kf ios P X).rt = fun o π => @wout ios π ⟨fun l => P o l⟩ := by
  rw [wout_fn]
  exact @uKf_rt
theorem Kf_ex : ∀ (ios : List Bool) (P : PO → List PV → Prop) (X : XF), (Kf ios P X).ex = fun c π => @wout ios π ⟨fun l => X c l⟩ := by
  rw [wout_fn]
  exact @uKf_ex
theorem wout_e : ∀ (ios : List Bool) (π : PEn) (P : List PV → Prop), @wout ios π ⟨P⟩ = @outK ios 0 π [] ⟨P⟩ := by
  rw [wout_fn, outK_fn]
  exact @uwout_e
theorem outK_n : ∀ (k : Nat) (π : PEn) (acc : List PV) (P : List PV → Prop), @outK [] k π acc ⟨P⟩ = P acc := by
  rw [outK_fn]
  exact @uoutK_n
theorem outK_f : ∀ (bs : List Bool) (k : Nat) (π : PEn) (acc : List PV) (P : List PV → Prop), @outK (false :: bs) k π acc ⟨P⟩ = @outK bs (k + 1) π (acc ++ [.non]) ⟨P⟩ := by
  rw [outK_fn]
  exact @uoutK_f
theorem outK_t : ∀ (bs : List Bool) (k : Nat) (π : PEn) (acc : List PV) (P : List PV → Prop), @outK (true :: bs) k π acc ⟨P⟩ = @outK bs (k + 1) π (acc ++ [contK (ownK (ps π k))]) ⟨P⟩ := by
  rw [outK_fn]
  exact @uoutK_t
theorem wi_join : ∀ {c : Bool} {o1 o2 : POut} {N bk ct : PEn → Prop} {rt : PO → PEn → Prop} {ex : Nat → PEn → Prop} (J : PEn → Prop) (a : @wi c ⟨(@ws o1 ⟨⟨J, rt, bk, ct, ex⟩⟩)⟩ ⟨(@ws o2 ⟨⟨J, rt, bk, ct, ex⟩⟩)⟩) (k : ∀ π, J π → N π), @wi c ⟨(@ws o1 ⟨⟨N, rt, bk, ct, ex⟩⟩)⟩ ⟨(@ws o2 ⟨⟨N, rt, bk, ct, ex⟩⟩)⟩ := by
  rw [ws_fn, wi_fn]
  exact @uwi_join
end Pq

namespace Pq
open PySem L2 Mi
mutual
def PV.shw : PV → Bool
  | .non => true
  | .bl _ => true
  | .int i => decide (i.natAbs < 1000000000000000000000000000000000000)
  | .str s => s.all fun c => decide (c < 1114112)
  | .tup xs => PV.shws xs
  | .lst xs => PV.shws xs
  | .frz xs => PV.shws xs
  | .dct _ _ => false
  | .kt _ => false
  termination_by structural x => x
def PV.shws : List PV → Bool
  | [] => true
  | x :: xs => x.shw && PV.shws xs
  termination_by structural x => x
end
mutual
def PV.wt : PV → Nat
  | .non => 0
  | .bl _ => 0
  | .int _ => 120
  | .str s => s.length
  | .tup xs => PV.wts xs
  | .lst xs => PV.wts xs
  | .frz xs => PV.wts xs
  | .dct _ _ => 0
  | .kt _ => 1000000000
  termination_by structural x => x
def PV.wts : List PV → Nat
  | [] => 0
  | x :: xs => x.wt + 1 + PV.wts xs
  termination_by structural x => x
end
theorem log_lt {i : Int} (h : i.natAbs < 1000000000000000000000000000000000000) : i.natAbs.log2 < 120 := by
  by_cases z : i.natAbs = 0
  · rw [z]; decide
  · exact (Nat.log2_lt z).2 (Nat.lt_of_lt_of_le h (by decide))
theorem shown_int36 {i : Int} (h : i.natAbs < 1000000000000000000000000000000000000) : (PyData.shown (.int i)).length ≤ 37 := by
  have e := int_text_length_le10 (k := 36) (by decide) h
  show (Str.ofString (toString i)).length ≤ 37
  rw [ofString_length]; exact e
mutual
theorem shw_all : ∀ d : PV, d.shw = true → d.dat.canLay0 = true ∧ d.dat.intsShort 37 = true ∧ d.dat.showable = true ∧ d.dat.weight ≤ d.wt
  | .non, _ => by simp [PV.dat, PyData.canLay0, PyData.intsShort, PyData.showable, PyData.weight]
  | .bl _, _ => by simp [PV.dat, PyData.canLay0, PyData.intsShort, PyData.showable, PyData.weight]
  | .int i, e => by
    have h : i.natAbs < 1000000000000000000000000000000000000 := by simpa [PV.shw] using e
    have l := log_lt h
    refine ⟨by simp [PV.dat, PyData.canLay0], ?_, ?_, ?_⟩
    · simp only [PV.dat, PyData.intsShort, decide_eq_true_eq]; exact shown_int36 h
    · simp only [PV.dat, PyData.showable, decide_eq_true_eq]; omega
    · simp only [PV.dat, PyData.weight, PV.wt]; split <;> omega
  | .str s, e => by
    have h : ∀ c ∈ s, c < 1114112 := by simpa [PV.shw] using e
    refine ⟨?_, by simp [PV.dat, PyData.intsShort], by simp [PV.dat, PyData.showable], by simp [PV.dat, PyData.weight, PV.wt, sOf]⟩
    simp only [PV.dat, PyData.canLay0]
    exact strOk_of h
  | .tup xs, e => by
    obtain ⟨a, b, c, d⟩ := shws_all xs (by simpa [PV.shw] using e)
    exact ⟨by simpa [PV.dat, PyData.canLay0] using a, by simpa [PV.dat, PyData.intsShort] using b, by simpa [PV.dat, PyData.showable] using c, by simpa [PV.dat, PyData.weight, PV.wt] using d⟩
  | .lst xs, e => by
    obtain ⟨a, b, c, d⟩ := shws_all xs (by simpa [PV.shw] using e)
    exact ⟨by simpa [PV.dat, PyData.canLay0] using a, by simpa [PV.dat, PyData.intsShort] using b, by simpa [PV.dat, PyData.showable] using c, by simpa [PV.dat, PyData.weight, PV.wt] using d⟩
  | .frz xs, e => by
    obtain ⟨a, b, c, d⟩ := shws_all xs (by simpa [PV.shw] using e)
    exact ⟨by simpa [PV.dat, PyData.canLay0] using a, by simpa [PV.dat, PyData.intsShort] using b, by simpa [PV.dat, PyData.showable] using c, by simpa [PV.dat, PyData.weight, PV.wt] using d⟩
  | .dct _ _, e => by simp [PV.shw] at e
  | .kt _, e => by simp [PV.shw] at e
theorem shws_all : ∀ ds : List PV, PV.shws ds = true → PyData.canLayAll0 (PV.dats ds) = true ∧ PyData.intsShortAll 37 (PV.dats ds) = true ∧ PyData.showableAll (PV.dats ds) = true ∧ PyData.weightAll (PV.dats ds) ≤ PV.wts ds
  | [], _ => by simp [PV.dats, PyData.canLayAll0, PyData.intsShortAll, PyData.showableAll, PyData.weightAll]
  | x :: xs, e => by
    simp only [PV.shws, Bool.and_eq_true] at e
    obtain ⟨a, b, c, d⟩ := shw_all x e.1
    obtain ⟨a', b', c', d'⟩ := shws_all xs e.2
    exact ⟨by simp [PV.dats, PyData.canLayAll0, a, a'], by simp [PV.dats, PyData.intsShortAll, b, b'], by simp [PV.dats, PyData.showableAll, c, c'], by simp only [PV.dats, PyData.weightAll, PV.wts]; omega⟩
end
theorem shOk_of {d : PV} (a : d.shw = true) (w : d.wt ≤ 300000) : shOk d.dat = true := by
  obtain ⟨c, i, s, q⟩ := shw_all d a
  have f := PyData.shown_le 37 (by decide) d.dat (PyData.leavesShort_of_canLay0 37 d.dat c i)
  have f : d.dat.shown.length ≤ 16777216 := by omega
  simp [shOk, s, f]
def PV.tx : PV → List Nat
  | .str s => s
  | .int i => itoa i
  | .bl b => if b then [84, 114, 117, 101] else [70, 97, 108, 115, 101]
  | .non => [78, 111, 110, 101]
  | d => codesOf d.dat.shown
def PV.tok (d : PV) : Bool := d.shw && PV.okd 16 d && decide (d.wt ≤ 300000)
theorem qStr_of {d : PV} (h : d.tok = true) : qStr [d] = some (.im (.str d.tx)) := by
  simp only [PV.tok, Bool.and_eq_true, decide_eq_true_eq] at h
  obtain ⟨⟨a, o⟩, w⟩ := h
  have s := shOk_of a w
  cases d with
  | non => rfl
  | bl b => rfl
  | int i =>
    have : i.natAbs < 1000000000000000000000000000000000000 := by simpa [PV.shw] using a
    have l := log_lt this
    simp only [qStr, gd, PV.tx]
    rw [if_pos (by omega)]
  | str s => rfl
  | tup xs => simp [qStr, gd, conP, o, s, PV.tx]
  | lst xs => simp [qStr, gd, conP, o, s, PV.tx]
  | frz xs => simp [qStr, gd, conP, o, s, PV.tx]
  | dct a b => simp [PV.shw] at a
  | kt a => simp [PV.shw] at a
theorem sb_00 : Ty.sub .int .int = true := rfl
theorem sb_01 : Ty.sub .int .bool = false := rfl
theorem sb_02 : Ty.sub .int .str = false := rfl
theorem sb_03 : Ty.sub .int .non = false := rfl
theorem sb_04 : Ty.sub .int .tup = false := rfl
theorem sb_05 : Ty.sub .int .lst = false := rfl
theorem sb_06 : Ty.sub .int .dct = false := rfl
theorem sb_10 : Ty.sub .bool .int = true := rfl
theorem sb_11 : Ty.sub .bool .bool = true := rfl
theorem sb_12 : Ty.sub .bool .str = false := rfl
theorem sb_13 : Ty.sub .bool .non = false := rfl
theorem sb_14 : Ty.sub .bool .tup = false := rfl
theorem sb_15 : Ty.sub .bool .lst = false := rfl
theorem sb_16 : Ty.sub .bool .dct = false := rfl
theorem sb_20 : Ty.sub .str .int = false := rfl
theorem sb_21 : Ty.sub .str .bool = false := rfl
theorem sb_22 : Ty.sub .str .str = true := rfl
theorem sb_23 : Ty.sub .str .non = false := rfl
theorem sb_24 : Ty.sub .str .tup = false := rfl
theorem sb_25 : Ty.sub .str .lst = false := rfl
theorem sb_26 : Ty.sub .str .dct = false := rfl
theorem sb_30 : Ty.sub .non .int = false := rfl
theorem sb_31 : Ty.sub .non .bool = false := rfl
theorem sb_32 : Ty.sub .non .str = false := rfl
theorem sb_33 : Ty.sub .non .non = true := rfl
theorem sb_34 : Ty.sub .non .tup = false := rfl
theorem sb_35 : Ty.sub .non .lst = false := rfl
theorem sb_36 : Ty.sub .non .dct = false := rfl
theorem sb_40 : Ty.sub .tup .int = false := rfl
theorem sb_41 : Ty.sub .tup .bool = false := rfl
theorem sb_42 : Ty.sub .tup .str = false := rfl
theorem sb_43 : Ty.sub .tup .non = false := rfl
theorem sb_44 : Ty.sub .tup .tup = true := rfl
theorem sb_45 : Ty.sub .tup .lst = false := rfl
theorem sb_46 : Ty.sub .tup .dct = false := rfl
theorem sb_50 : Ty.sub .lst .int = false := rfl
theorem sb_51 : Ty.sub .lst .bool = false := rfl
theorem sb_52 : Ty.sub .lst .str = false := rfl
theorem sb_53 : Ty.sub .lst .non = false := rfl
theorem sb_54 : Ty.sub .lst .tup = false := rfl
theorem sb_55 : Ty.sub .lst .lst = true := rfl
theorem sb_56 : Ty.sub .lst .dct = false := rfl
theorem sb_60 : Ty.sub .dct .int = false := rfl
theorem sb_61 : Ty.sub .dct .bool = false := rfl
theorem sb_62 : Ty.sub .dct .str = false := rfl
theorem sb_63 : Ty.sub .dct .non = false := rfl
theorem sb_64 : Ty.sub .dct .tup = false := rfl
theorem sb_65 : Ty.sub .dct .lst = false := rfl
theorem sb_66 : Ty.sub .dct .dct = true := rfl
end Pq

namespace Pq
open PySem L2 Mi
def flS : PV → Bool
  | .non => true
  | .bl _ => true
  | .int _ => true
  | .str _ => true
  | _ => false
theorem flS_v {h : MH} {S : Nat → Prop} {v : Val} {d : PV} (r : Im h S v d) (f : flS d = true) : isFl v = true := by
  cases r <;> first | rfl | cases f
theorem flS_eqv {h : MH} {S : Nat → Prop} {v w : Val} {d e : PV} (r : Im h S v d) (q : Im h S w e) (f : flS d = true) (f2 : flS e = true) : eqS v w = PV.eqv d e := by
  cases r <;> cases q <;> first | rfl | cases f | cases f2
theorem flS_all {h : MH} {S : Nat → Prop} : ∀ {xs : List Val} {ds : List PV}, Ims h S xs ds → ds.all flS = true → xs.all isFl = true
  | _, _, .nil, _ => rfl
  | _, _, .cons a b, f => by
    simp only [List.all_cons, Bool.and_eq_true] at f ⊢
    exact ⟨flS_v a f.1, flS_all b f.2⟩
theorem flS_any {h : MH} {S : Nat → Prop} {w : Val} {e : PV} (q : Im h S w e) (f2 : flS e = true) : ∀ {xs : List Val} {ds : List PV}, Ims h S xs ds → ds.all flS = true → (xs.any fun z => eqS z w) = ds.any fun z => PV.eqv z e
  | _, _, .nil, _ => rfl
  | _, _, .cons a b, f => by
    simp only [List.all_cons, Bool.and_eq_true] at f
    simp only [List.any_cons]
    rw [flS_any q f2 b f.2, flS_eqv a q f.1 f2]
def inP : PV → PV → Option Bool
  | .str [c], .str s => some (decide (c ∈ s))
  | x, y => match seqP y with
    | some ys => if flS x = true ∧ ys.all flS = true then some (ys.any fun z => PV.eqv z x) else none
    | none => match dgetP y x with
      | some r => some r.isSome
      | none => none
theorem inP_ok {h : MH} {S : Nat → Prop} {x y : O} {d e : PV} {b : Bool} (rx : RD h S x d) (ry : RD h S y e) (q : inP d e = some b) : inB x y h = some b := by
  unfold inP at q
  split at q
  · cases rd_str rx; cases rd_str ry
    exact q
  · split at q
    · rename_i ys ey
      split at q
      · rename_i f
        cases q
        obtain ⟨k, xs, sq, ims⟩ := rd_seq ry ey
        have hx : ∃ v, x = .v v ∧ Im h S v d := by
          rcases rx with z | ⟨_, _, _, rfl, _⟩ | ⟨_, o, _, _, z⟩
          · exact z
          · exact Bool.noConfusion f.1
          · cases d <;> first | (cases o <;> exact z.elim) | exact Bool.noConfusion f.1
        obtain ⟨v, rfl, iv⟩ := hx
        have ys' : ∀ s, y ≠ .v (.str s) := fun s z => by subst z; simp [seqO] at sq
        have : inB (.v v) y h = if isFl v = true ∧ xs.all isFl = true then some (xs.any fun z => eqS z v) else none := by
          unfold inB
          split
          · rename_i z _; exact absurd rfl (ys' _)
          · rename_i e1 e2; cases e1; simp only [sq]
          · rename_i hn _; exact absurd rfl (hn v)
        rw [this, if_pos ⟨flS_v iv f.1, flS_all ims f.2⟩, flS_any iv f.1 ims f.2]
      · cases q
    · split at q
      · rename_i r q2
        cases q
        obtain ⟨v, rfl, iv⟩ := rd_key rx (dgetP_key q2)
        have e1 := dget_im ry iv q2
        obtain ⟨sq, n, rfl⟩ := dgetP_seq ry q2
        have : inB (.v v) (.v (.ref n)) h = match dgetO h (.v (.ref n)) v with
            | some o => some o.isSome
            | none => none := by
          unfold inB
          split
          · rename_i z; cases z
          · rename_i e1 e2; cases e1; rw [sq] <;> rfl
          · rename_i hn _; exact absurd rfl (hn v)
        rw [this]
        cases r with
        | none => simp only at e1; rw [e1]; rfl
        | some w => obtain ⟨w, e1, _⟩ := e1; rw [e1]; rfl
      · cases q
def pIn (d e : PV) : Option PO := (inP d e).map fun k => .im (.bl k)
def pNotIn (d e : PV) : Option PO := (inP d e).map fun k => .im (.bl (!k))
theorem f2_in : F2 fIn pIn := by
  intro h S x y d e o rx ry ho
  simp only [pIn, Option.map_eq_some_iff] at ho
  obtain ⟨k, q, rfl⟩ := ho
  exact ⟨_, by simp only [fIn, inP_ok rx ry q], _, rfl, .bl _⟩
def pRev : PV → Option PO
  | .tup xs => some (.im (.tup xs.reverse))
  | .lst xs => some (.ow (.lst xs.reverse))
  | .frz xs => some (.ow (.lst xs.reverse))
  | _ => none
theorem pRev_t (xs : List PV) : pRev (.tup xs) = some (.im (.tup xs.reverse)) := rfl
theorem pRev_l (xs : List PV) : pRev (.lst xs) = some (.ow (.lst xs.reverse)) := rfl
def pMs (f : PV → List PV → Option PV) (r : PD) (a : PDV) : PD := fun π => (r π).bind fun o π1 => (poI o π1).bind fun d π1 => match d with
  | .str _ => (a π1).bind fun ds π2 => match f d ds with
    | some v => .ok (.im v) π2
    | none => .bad
  | _ => .bad
def FS (md : MD) (f : PV → List PV → Option PV) : Prop := ∀ (h : MH) (S : Nat → Prop) (s : List Nat) (xs : List Val) (ds : List PV) (r : PV), Ims h S xs ds → f (.str s) ds = some r → ∃ v, md (.str s) xs h = .ok (.v v) h ∧ Im h S v r
theorem pu_ms {md : MD} {f : PV → List PV → Option PV} (hf : FS md f) {d : D} {p : PD} {ds : DV} {a : PDV} (hr : PuE d p) (ha : PuV ds a) : PuE (dMt isS md d ds) (pMs f p a) := fun T A h ρ π rn =>
  Go.bind tt (hr T A h ρ π rn) fun x h1 T2 o π1 fx t tq rn1 rx =>
    go_num rn1 t rn.tl rx (f := fun v h1 => if isS v h1 = true then (ds ρ h1).bind fun xs h2 => md v xs h2 else .bad) fun v h2 d fx2 rn2 rv => by
      cases d with
      | str s =>
        cases rv
        show Go RO T A h.length ρ h2 π1 ((ds ρ h2).bind fun xs h3 => md (.str s) xs h3) _
        refine Go.bind (L := h.length) (Lm := h2.length) tt (ha T A h2 ρ π1 rn2) fun xs h3 T3 es π3 fx3 t3 tq3 rn3 rxs => ?_
        cases e : f (.str s) es with
        | none => trivial
        | some r =>
          obtain ⟨w, e2, iw⟩ := hf h3 (Av A T) s xs es r rxs e
          rw [e2]
          exact Go.ok (rn3.weak t3) ⟨w, rfl, iw⟩
      | _ => trivial
def strsP : List PV → Option (List (List Nat))
  | [] => some []
  | .str b :: xs => match strsP xs with
    | some bs => some (b :: bs)
    | none => none
  | _ => none
theorem strs_im {h : MH} {S : Nat → Prop} : ∀ {xs : List Val} {ds : List PV} {bs : List (List Nat)}, Ims h S xs ds → strsP ds = some bs → strsOf xs = some bs
  | _, _, bs, .nil, e => e
  | _, _, bs, .cons a b, e => by
    cases a <;> simp only [strsP, reduceCtorEq] at e
    split at e
    · rename_i q; cases e; simp only [strsOf, strs_im b q]
    · cases e
def qsJoin : PV → List PV → Option PV := fun d ds => match d, ds with
  | .str a, [e] => match seqP e with
    | some xs => match strsP xs with
      | some zs => if (zs.map List.length).sum + zs.length * a.length ≤ 16777216 then some (.str (jn a zs)) else none
      | none => none
    | none => none
  | _, _ => none
theorem fs_join : FS mJoin qsJoin := by
  intro h S s xs ds r ix e
  unfold qsJoin at e
  split at e
  · rename_i a d e1
    cases e1
    cases ix with
    | cons ix rn =>
      cases rn
      split at e
      · rename_i ys ey
        split at e
        · rename_i zs ez
          split at e
          · rename_i l
            cases e
            obtain ⟨k, vs, sq, ims⟩ := rd_seq (.inl ⟨_, rfl, ix⟩) ey
            exact ⟨.str (jn s zs), by simp only [mJoin, sq, strs_im ims ez]; rw [if_pos l], .str _⟩
          · cases e
        · cases e
      · cases e
  · cases e
def qRepr : List PV → Option PO
  | [.str s] => gd ((reprText (sOf s)).length ≤ 16777216) (.im (.str (codesOf (reprText (sOf s)))))
  | [.int i] => gd (i.natAbs.log2 < 1920) (.im (.str (itoa i)))
  | [.bl b] => some (.im (.str (if b then [84, 114, 117, 101] else [70, 97, 108, 115, 101])))
  | [.non] => some (.im (.str [78, 111, 110, 101]))
  | [d] => gd (conP d = true ∧ PV.okd 16 d = true ∧ shOk d.dat = true) (.im (.str (codesOf d.dat.shown)))
  | _ => none
theorem fa_repr : FA bRepr qRepr := by
  intro h S xs ds o r e
  unfold qRepr at e
  split at e
  · obtain ⟨x, rfl, w⟩ := rds1 r; clear r; have r := w; clear w
    obtain ⟨c, rfl⟩ := gd_s e
    cases rd_str r; exact ⟨_, by simp only [bRepr]; rw [if_pos c], _, rfl, .str _⟩
  · obtain ⟨x, rfl, w⟩ := rds1 r; clear r; have r := w; clear w
    obtain ⟨c, rfl⟩ := gd_s e
    cases rd_int r; exact ⟨_, by simp only [bRepr]; rw [if_pos c], _, rfl, .str _⟩
  · obtain ⟨x, rfl, w⟩ := rds1 r; clear r; have r := w; clear w
    cases rd_bl r; cases e; exact ⟨_, rfl, _, rfl, .str _⟩
  · obtain ⟨x, rfl, w⟩ := rds1 r; clear r; have r := w; clear w
    cases rd_non r; cases e; exact ⟨_, rfl, _, rfl, .str _⟩
  · obtain ⟨x, rfl, w⟩ := rds1 r; clear r; have r := w; clear w
    obtain ⟨⟨c, ok, sh⟩, rfl⟩ := gd_s e
    have dd := rd_dat r (pdat_of 16 _ ok)
    refine ⟨.v (.str (codesOf (PV.dat _).shown)), ?_, _, rfl, .str _⟩
    have ic : isCon x = true := by
      rename_i d _ _ _ _
      cases d <;> simp only [conP, Bool.false_eq_true] at c
      · obtain ⟨xs, rfl, _⟩ := rd_tup r; rfl
      · obtain ⟨xs, _, _, q⟩ := rd_lst r; rcases q with rfl | ⟨n, rfl, _⟩ <;> rfl
      · obtain ⟨xs, rfl, _⟩ := rd_frz r; rfl
    cases x with
    | n xs => simp only [bRepr, isCon, if_true, dd, sh]
    | v x => cases x <;> first | (simp [isCon] at ic; done) | simp only [bRepr, isCon, if_true, dd, sh]
  · cases e
def PV.rx : PV → List Nat
  | .str s => codesOf (reprText (sOf s))
  | d => d.tx
theorem repr_len {s : List Nat} (h : s.length ≤ 1048576) (v : s.all (fun c => decide (c < 1114112)) = true) : (reprText (sOf s)).length ≤ 16777216 := by
  have c : (PyData.str (sOf s)).leavesShort 13 = true := by
    refine PyData.leavesShort_of_canLay0 13 _ ?_ (by simp [PyData.intsShort])
    simp only [PyData.canLay0]
    exact strOk_of (by simpa using v)
  have f := PyData.shown_fits (B := 13) (by decide) (by decide) c (by simpa [PyData.weight, sOf] using h)
  rw [sizeLine_eq] at f
  simpa [PyData.shown] using f
theorem qRepr_of {d : PV} (h : d.tok = true) : qRepr [d] = some (.im (.str d.rx)) := by
  have h0 := qStr_of h
  simp only [PV.tok, Bool.and_eq_true, decide_eq_true_eq] at h
  obtain ⟨⟨a, o⟩, w⟩ := h
  cases d with
  | str s =>
    have l := repr_len (s := s) (by have q : s.length ≤ 300000 := (by simpa [PV.wt] using w); omega) (by simpa [PV.shw] using a)
    simp only [qRepr, gd, PV.rx]
    rw [if_pos l]
  | dct a b => simp [PV.shw] at a
  | kt a => simp [PV.shw] at a
  | _ => exact h0
def inK (o : Option Bool) (n : Bool) : Option PO := match o with
  | some b => some (.im (.bl (if n then !b else b)))
  | none => none
theorem pIn_sc (c : Nat) (s : List Nat) : pIn (.str [c]) (.str s) = some (.im (.bl (decide (c ∈ s)))) := rfl
theorem pIn_of {d : PV} {e : PV} {ys : List PV} (s : seqP e = some ys) (f : flS d = true) (g : ys.all flS = true) : pIn d e = some (.im (.bl (ys.any fun z => PV.eqv z d))) := by
  have : inP d e = some (ys.any fun z => PV.eqv z d) := by
    unfold inP
    split
    · cases s
    · simp only [s, f, g]; rfl
  simp only [pIn, this, Option.map_some]
theorem any_strs (s : List Nat) (zs : List (List Nat)) : ((zs.map PV.str).any fun z => PV.eqv z (.str s)) = decide (s ∈ zs) := by
  induction zs with
  | nil => rfl
  | cons z zs ih =>
    simp only [List.map_cons, List.any_cons, ih]
    have : PV.eqv (.str z) (.str s) = (z == s) := rfl
    rw [this]
    by_cases e : z = s
    · subst e; simp
    · have e2 : ¬ s = z := fun q => e q.symm
      simp [e, e2]
theorem fl_strs (zs : List (List Nat)) : (zs.map PV.str).all flS = true := by simp [flS]
theorem pIn_strs (s : List Nat) (zs : List (List Nat)) : pIn (.str s) (.lst (zs.map PV.str)) = some (.im (.bl (decide (s ∈ zs)))) := by
  rw [pIn_of rfl rfl (fl_strs zs), any_strs]
theorem strsP_map (zs : List (List Nat)) : strsP (zs.map PV.str) = some zs := by
  induction zs with
  | nil => rfl
  | cons z zs ih => simp [strsP, ih]
theorem qsJoin_l (a : List Nat) (zs : List (List Nat)) : qsJoin (.str a) [.lst (zs.map PV.str)] = if (zs.map List.length).sum + zs.length * a.length ≤ 16777216 then some (.str (jn a zs)) else none := by
  simp only [qsJoin, seqP, strsP_map]
def msK (f : PV → List PV → Option PV) (d : PV) (a : PDV) (π : PEn) : PR PO := match d with
  | .str _ => (a π).bind fun ds π2 => match f d ds with
    | some v => .ok (.im v) π2
    | none => .bad
  | _ => .bad
def ms2 (o : Option PV) (π : PEn) : PR PO := match o with
  | some v => .ok (.im v) π
  | none => .bad
theorem pMs_ap (f : PV → List PV → Option PV) (r : PD) (a : PDV) (π : PEn) : pMs f r a π = @bq _ _ (r π) ⟨fun o π1 => @bq _ _ (poI o π1) ⟨fun d π1 => msK f d a π1⟩⟩ := rfl
theorem msK_s (f : PV → List PV → Option PV) (s : List Nat) (a : PDV) (π : PEn) : msK f (.str s) a π = @bq _ _ (a π) ⟨fun ds π2 => ms2 (f (.str s) ds) π2⟩ := by
  show (a π).bind _ = (a π).bind _
  congr 1
theorem ms2_s (v : PV) (π : PEn) : ms2 (some v) π = .ok (.im v) π := rfl
theorem wq_ms2i (c : Prop) [Decidable c] (v : PV) (π : PEn) (P : PO → PEn → Prop) (X : XQ) : @wq _ (ms2 (if c then some v else none) π) ⟨P⟩ ⟨X⟩ = @wn c ⟨(P (.im v) π)⟩ := by
  by_cases h : c
  · simp only [h, if_true, ms2_s, wq_ok]; rw [wn_t]
  · simp only [h, if_false, ms2]
    rw [wq_fn, wn_fn]
    simp [uwq, uwn]
theorem pu_bad (ios : List Bool) : PuF (fun _ _ => .bad) ios (fun _ => .bad) := fun _ _ _ _ _ _ _ => trivial
end Pq

namespace Pq
open PySem L2 Mi
def fw (u : Option (Bool × PV)) : Option PS := match u with
  | none => none
  | some (true, d) => some (.im d)
  | some (false, d) => some (.ow d)
theorem isIo_fw (u : Option (Bool × PV)) (π : PEn) : isIo (fw u :: π) 0 = false := by
  rcases u with _ | ⟨b, d⟩
  · rfl
  · cases b <;> rfl
theorem inP_t {s : List Nat} {zs : List (List Nat)} : inP (.str s) (.tup (zs.map .str)) = some (decide (s ∈ zs)) := by
  have h := pIn_of (d := .str s) (e := .tup (zs.map .str)) (ys := zs.map .str) rfl rfl (fl_strs zs)
  rw [any_strs] at h
  simpa [pIn] using h
theorem dOr (s a : List Nat) (zs : List (List Nat)) : decide (s ∈ a :: zs) = (decide (s = a) || decide (s ∈ zs)) := by
  by_cases h : s = a <;> simp [h]
theorem pIn_t2 (s a b : List Nat) : pIn (.str s) (.tup [.str a, .str b]) = some (.im (.bl (decide (s = a) || decide (s = b)))) := by
  have h := inP_t (s := s) (zs := [a, b])
  simp only [pIn]
  rw [show inP (.str s) (.tup [.str a, .str b]) = some (decide (s ∈ [a, b])) from h]
  simp [dOr]
theorem pNotIn_t2 (s a b : List Nat) : pNotIn (.str s) (.tup [.str a, .str b]) = some (.im (.bl (!(decide (s = a) || decide (s = b))))) := by
  have h := inP_t (s := s) (zs := [a, b])
  simp only [pNotIn]
  rw [show inP (.str s) (.tup [.str a, .str b]) = some (decide (s ∈ [a, b])) from h]
  simp [dOr]
end Pq

namespace Pq
open PySem L2 Mi
structure Sm (n m : Nat) (x : PV) : Prop where
  s : x.shw = true
  o : PV.okd n x = true
  w : x.wt ≤ m
structure Sms (n m : Nat) (xs : List PV) : Prop where
  s : PV.shws xs = true
  o : PV.okds n xs = true
  w : PV.wts xs ≤ m
mutual
theorem okd_le : ∀ {x : PV} {n m : Nat}, PV.okd n x = true → n ≤ m → PV.okd m x = true
  | .non, _, _, _, _ => by simp [PV.okd]
  | .bl _, _, _, _, _ => by simp [PV.okd]
  | .int _, _, _, _, _ => by simp [PV.okd]
  | .str _, _, _, _, _ => by simp [PV.okd]
  | .tup xs, 0, _, h, _ => by simp [PV.okd] at h
  | .lst xs, 0, _, h, _ => by simp [PV.okd] at h
  | .frz xs, 0, _, h, _ => by simp [PV.okd] at h
  | .tup xs, n + 1, 0, _, l => by omega
  | .lst xs, n + 1, 0, _, l => by omega
  | .frz xs, n + 1, 0, _, l => by omega
  | .tup xs, n + 1, m + 1, h, l => by simp only [PV.okd] at h ⊢; exact okds_le h (by omega)
  | .lst xs, n + 1, m + 1, h, l => by simp only [PV.okd] at h ⊢; exact okds_le h (by omega)
  | .frz xs, n + 1, m + 1, h, l => by simp only [PV.okd] at h ⊢; exact okds_le h (by omega)
  | .dct _ _, n, _, h, _ => (okd_dct h).elim
  | .kt _, n, _, h, _ => (okd_kt h).elim
theorem okds_le : ∀ {x : List PV} {n m : Nat}, PV.okds n x = true → n ≤ m → PV.okds m x = true
  | [], _, _, _, _ => by simp [PV.okds]
  | x :: xs, n, m, h, l => by
    simp only [PV.okds, Bool.and_eq_true] at h ⊢
    exact ⟨okd_le h.1 l, okds_le h.2 l⟩
end
theorem Sm.le {n m n' m' : Nat} {x : PV} (h : Sm n m x) (a : n ≤ n') (b : m ≤ m') : Sm n' m' x := ⟨h.s, okd_le h.o a, Nat.le_trans h.w b⟩
theorem Sms.le {n m n' m' : Nat} {x : List PV} (h : Sms n m x) (a : n ≤ n') (b : m ≤ m') : Sms n' m' x := ⟨h.s, okds_le h.o a, Nat.le_trans h.w b⟩
theorem Sm.tok {n m : Nat} {x : PV} (h : Sm n m x) (a : n ≤ 16) (b : m ≤ 300000) : x.tok = true := by
  have h := h.le a b
  simp [PV.tok, h.s, h.o, h.w]
theorem sm_int {n m : Nat} {i : Int} (h : i.natAbs < 1000000000000000000000000000000000000) (l : 120 ≤ m := by omega) : Sm n m (.int i) := ⟨by simpa [PV.shw] using h, by simp [PV.okd], by simpa [PV.wt] using l⟩
theorem sm_str {n m : Nat} {s : List Nat} (h : ∀ c ∈ s, c < 1114112) (l : s.length ≤ m) : Sm n m (.str s) := ⟨by simpa [PV.shw] using h, by simp [PV.okd], by simpa [PV.wt] using l⟩
theorem sms_nil {n m : Nat} : Sms n m [] := ⟨rfl, by simp [PV.okds], by simp [PV.wts]⟩
theorem sms_cons {n a b m : Nat} {x : PV} {xs : List PV} (h : Sm n a x) (t : Sms n b xs) (l : a + 1 + b ≤ m := by omega) : Sms n m (x :: xs) :=
  ⟨by simp [PV.shws, h.s, t.s], by simp [PV.okds, h.o, t.o], by simp only [PV.wts]; have := h.w; have := t.w; omega⟩
theorem sm_tup {n m : Nat} {xs : List PV} (h : Sms n m xs) : Sm (n + 1) m (.tup xs) := ⟨by simpa [PV.shw] using h.s, by simpa [PV.okd] using h.o, by simpa [PV.wt] using h.w⟩
theorem sm_lst {n m : Nat} {xs : List PV} (h : Sms n m xs) : Sm (n + 1) m (.lst xs) := ⟨by simpa [PV.shw] using h.s, by simpa [PV.okd] using h.o, by simpa [PV.wt] using h.w⟩
theorem sms_all {n a : Nat} : ∀ {xs : List PV}, (∀ x ∈ xs, Sm n a x) → Sms n ((a + 1) * xs.length) xs
  | [], _ => sms_nil
  | x :: xs, h => by
    refine sms_cons (h x (List.mem_cons_self ..)) (sms_all fun y hy => h y (List.mem_cons_of_mem _ hy)) ?_
    rw [List.length_cons, Nat.mul_succ]; omega
end Pq

namespace Pq
open PySem L2 Mi
def qIs (k : Bool) (d : PV) : Option PO := match d with
  | .bl c => some (.im (.bl (decide (c = k))))
  | _ => some (.im (.bl false))
def qInR (n : Bool) (lo hi : Int) (d : PV) : Option PO := match d with
  | .int i => some (.im (.bl (rngB n lo hi i)))
  | _ => none
theorem qIs_b (k c : Bool) : qIs k (.bl c) = some (.im (.bl (decide (c = k)))) := rfl
theorem qInR_i (n : Bool) (lo hi i : Int) : qInR n lo hi (.int i) = some (.im (.bl (rngB n lo hi i))) := rfl
def lstP : PV → Option (List PV)
  | .lst xs => some xs
  | .frz xs => some xs
  | _ => none
theorem rd_lstP {h : MH} {S : Nat → Prop} {x : O} {d : PV} {ds : List PV} (r : RD h S x d) (e : lstP d = some ds) : ∃ xs, lstO h x = some xs ∧ Ims h S xs ds := by
  cases d <;> simp only [lstP, Option.some.injEq, reduceCtorEq] at e <;> subst e
  · exact rd_lstO r (.inl rfl)
  · exact rd_lstO r (.inr rfl)
theorem dats_map : ∀ ds : List PV, PV.dats ds = ds.map PV.dat
  | [] => rfl
  | d :: ds => by simp [PV.dats, dats_map ds]
def sortP (ds kds : List PV) : List PV := ((ds.zip kds).mergeSort fun a b => leD a.2.dat b.2.dat).map (·.1)
abbrev TP := Val × PV × PV
def tri3 : List Val → List PV → List PV → List TP
  | x :: xs, d :: ds, k :: ks => (x, d, k) :: tri3 xs ds ks
  | _, _, _ => []
theorem tri3_maps : ∀ {xs : List Val} {ds ks : List PV}, xs.length = ds.length → ds.length = ks.length → (tri3 xs ds ks).map (fun t => (t.1, t.2.2.dat)) = xs.zip (ks.map PV.dat) ∧ (tri3 xs ds ks).map (fun t => (t.2.1, t.2.2)) = ds.zip ks
  | [], [], [], _, _ => ⟨rfl, rfl⟩
  | x :: xs, d :: ds, k :: ks, e1, e2 => by
    obtain ⟨a, b⟩ := tri3_maps (xs := xs) (ds := ds) (ks := ks) (by simpa using e1) (by simpa using e2)
    exact ⟨by simp [tri3, a], by simp [tri3, b]⟩
  | [], _ :: _, _, e, _ => by simp at e
  | _ :: _, [], _, e, _ => by simp at e
  | _ :: _, _ :: _, [], _, e => by simp at e
  | [], [], _ :: _, _, e => by simp at e
theorem tri3_im {h : MH} {S : Nat → Prop} : ∀ {xs : List Val} {ds ks : List PV}, Ims h S xs ds → ∀ t ∈ tri3 xs ds ks, Im h S t.1 t.2.1
  | _, _, _, .nil => fun t ht => by simp [tri3] at ht
  | _, _, [], .cons _ _ => fun t ht => by simp [tri3] at ht
  | _, _, k :: ks, .cons a b => fun t ht => by
    rcases List.mem_cons.mp ht with rfl | ht
    · exact a
    · exact tri3_im b t ht
theorem ims_map {h : MH} {S : Nat → Prop} : ∀ {ts : List TP}, (∀ t ∈ ts, Im h S t.1 t.2.1) → Ims h S (ts.map (·.1)) (ts.map (·.2.1))
  | [], _ => .nil
  | t :: ts, h => .cons (h t (List.mem_cons_self ..)) (ims_map fun q hq => h q (List.mem_cons_of_mem _ hq))
theorem sort_im {h : MH} {S : Nat → Prop} {xs : List Val} {ds ks : List PV} (r : Ims h S xs ds) (l : ds.length = ks.length) : Ims h S (sortV xs (ks.map PV.dat)) (sortP ds ks) := by
  obtain ⟨a, b⟩ := tri3_maps r.length l
  have e1 := PySem.W.sort_maps (r := fun s t : TP => leD s.2.2.dat t.2.2.dat) (s := fun a b : Val × PyData => leD a.2 b.2) (fun t : TP => (t.1, t.2.2.dat)) (l := tri3 xs ds ks) fun _ _ _ _ => rfl
  have e2 := PySem.W.sort_maps (r := fun s t : TP => leD s.2.2.dat t.2.2.dat) (s := fun a b : PV × PV => leD a.2.dat b.2.dat) (fun t : TP => (t.2.1, t.2.2)) (l := tri3 xs ds ks) fun _ _ _ _ => rfl
  unfold sortV sortP
  rw [← a, ← b, ← e1, ← e2, List.map_map, List.map_map]
  exact ims_map fun t ht => tri3_im r t ((List.mergeSort_perm ..).mem_iff.mp ht)
def qSorted : List PV → Option PO
  | [d] => match lstP d with
    | some ds => if PV.okds 16 ds = true ∧ sortB (ds.map PV.dat) = true then some (.ow (.lst (sortP ds ds))) else none
    | none => none
  | _ => none
theorem fa_sorted : FA bSorted qSorted := by
  intro h S xs ds o r e
  unfold qSorted at e
  split at e
  · obtain ⟨x, rfl, w⟩ := rds1 r; clear r; have r := w; clear w
    split at e
    · rename_i ds' ed
      split at e
      · rename_i c
        cases e
        obtain ⟨vs, ev, ims⟩ := rd_lstP r ed
        have dd := ims_dat (f := pdat 16) (g := dat h 16) (fun v d e => im_dat 16 v d e) ims _ (pdats_of 16 ds' c.1)
        rw [dats_map] at dd
        exact ⟨.n (sortV vs (ds'.map PV.dat)), by simp only [bSorted, ev, dd, c.2, if_true], _, _, rfl, rfl, sort_im ims rfl⟩
      · cases e
    · cases e
  · cases e
def keysP (pf : PFn) : List PV → Option (List PV)
  | [] => some []
  | d :: ds => match pf [d] with
    | .ok (.im k) _ => match keysP pf ds with
      | some ks => some (k :: ks)
      | none => none
    | _ => none
theorem Rn.grow {T : Nat → Prop} {A : Aa} {h h' : MH} {ρ : En} {π : PEn} (r : Rn T A h ρ π) (l : h.length ≤ h'.length) (k : ∀ n, n < h.length → h'[n]? = h[n]?) : Rn T A h' ρ π ∧ Fx A A π π h h' := by
  have mk : ∀ n o, ¬ Av A T n → h[n]? = some o → h'[n]? = some o ∧ ¬ Av A T n := fun n o a e => ⟨by rw [k n (lt_of_get e)]; exact e, a⟩
  refine ⟨⟨r.len, fun i d e => ?_, fun i s d e q => ?_, r.dom, r.inj, fun n z => Nat.lt_of_lt_of_le (r.tl n z) l, r.ta⟩, ⟨l, fun n z _ => k n z, fun i n e => .inl ⟨i, e⟩, fun i d e => ⟨rfl, d, e⟩⟩⟩
  · obtain ⟨v, a, b⟩ := r.im i d e
    exact ⟨v, a, b.mono mk⟩
  · obtain ⟨n, o, a, b, c, f⟩ := r.ow i s d e q
    exact ⟨n, o, a, b, by rw [k n (lt_of_get c)]; exact c, f.mono mk⟩
def itP (d : PV) : Option (List PV) := match lstP d with
  | some xs => some xs
  | none => match d with
    | .dct (.kt [.kt []] :: ks) _ => some ks
    | _ => none
def sortKO (pf : PFn) (o : Option PV) (π : PEn) : PR PO := match o with
  | some d => match itP d with
    | some ds => match keysP pf ds with
      | some ks => if PV.okds 16 ks = true ∧ sortB (ks.map PV.dat) = true then .ok (.ow (.lst (sortP ds ks))) π else .bad
      | none => .bad
    | none => .bad
  | none => .bad
def pSortK (pf : PFn) (p : PD) : PD := fun π => (p π).bind fun o π1 => sortKO pf (pv π1 o) π1
def capP (π : PEn) : List Nat → Option (List PV)
  | [] => some []
  | i :: is => match π[i]?, capP π is with
    | some (some (.im d)), some ds => some (d :: ds)
    | _, _ => none
def sortCO (pf : PFn) (o : Option PV) (c : Option (List PV)) (π : PEn) : PR PO := match c with
  | some cd => sortKO (fun as => pf (as ++ cd)) o π
  | none => .bad
def pSortC (pf : PFn) (is : List Nat) (p : PD) : PD := fun π => (p π).bind fun o π1 => sortCO pf (pv π1 o) (capP π1 is) π1
def pLtT (d e : PV) : Option PO := match d, e with
  | .int i, .int j => some (.im (.bl (decide (i < j))))
  | .str a, .str b => some (.im (.bl (decide (a < b))))
  | d, e => if PV.okd 16 d = true ∧ PV.okd 16 e = true ∧ PySem.W.alike d.dat e.dat = true ∧ isNonD d.dat = false then some (.im (.bl (PySem.W.dataLt d.dat e.dat))) else none
theorem dataLt_is (i j : Int) (s t : List Nat) : PySem.W.dataLt (.tuple [.int i, .str (sOf s)]) (.tuple [.int j, .str (sOf t)]) = decide (i < j ∨ (i = j ∧ s < t)) := by
  rw [PySem.W.dataLt_pair (by simp [PySem.W.alike]) (by simp [PySem.W.alike]), PySem.W.dataLt_int, PySem.W.dataLt_str]
  simp only [PyData.eqv, beq_iff_eq]
  by_cases h1 : i = j
  · by_cases h2 : s = t
    · subst h1; subst h2
      simp [List.lt_irrefl]
    · have : ¬ sOf s = sOf t := fun q => h2 (sOf_inj.1 q)
      simp [h1, this]
  · simp [h1]
theorem pLtT_is (i j : Int) (s t : List Nat) : pLtT (.tup [.int i, .str s]) (.tup [.int j, .str t]) = some (.im (.bl (decide (i < j ∨ (i = j ∧ s < t))))) := by
  have e : PySem.W.dataLt (PV.tup [.int i, .str s]).dat (PV.tup [.int j, .str t]).dat = decide (i < j ∨ (i = j ∧ s < t)) := dataLt_is i j s t
  simp only [pLtT, e]
  rw [if_pos ⟨by simp [PV.okd, PV.okds], by simp [PV.okd, PV.okds], by simp [PV.dat, PV.dats, PySem.W.alike, PySem.W.alikeAll], rfl⟩]
theorem pSortK_ap (pf : PFn) (p : PD) (π : PEn) : pSortK pf p π = @bq _ _ (p π) ⟨fun o π1 => sortKO pf (pv π1 o) π1⟩ := rfl
theorem qSorted_l {xs : List PV} (h1 : PV.okds 16 xs = true) (h2 : sortB (xs.map PV.dat) = true) : qSorted [.lst xs] = some (.ow (.lst (sortP xs xs))) := by
  simp only [qSorted, lstP, h1, h2, and_self, if_true]
end Pq

namespace Pq
open PySem L2 Mi
theorem flatC_n1 : [PV.non].all flatC = true := rfl
theorem flatC_n2 : [PV.non, PV.non].all flatC = true := rfl
theorem flatC_n3 : [PV.non, PV.non, PV.non].all flatC = true := rfl
theorem flatO_b (b : Bool) : flatO (.im (.bl b)) = true := rfl
theorem flatO_i (b : Int) : flatO (.im (.int b)) = true := rfl
theorem flatO_s (b : List Nat) : flatO (.im (.str b)) = true := rfl
theorem pIsN_b (b : Bool) : pIsN (.bl b) = some (.im (.bl false)) := rfl
theorem pIsN_i (b : Int) : pIsN (.int b) = some (.im (.bl false)) := rfl
theorem pIsN_s (b : List Nat) : pIsN (.str b) = some (.im (.bl false)) := rfl
theorem pIsN_t (b : List PV) : pIsN (.tup b) = some (.im (.bl false)) := rfl
theorem pIsN_l (b : List PV) : pIsN (.lst b) = some (.im (.bl false)) := rfl
theorem pNotN_b (b : Bool) : pNotN (.bl b) = some (.im (.bl true)) := rfl
theorem pNotN_i (b : Int) : pNotN (.int b) = some (.im (.bl true)) := rfl
theorem pNotN_s (b : List Nat) : pNotN (.str b) = some (.im (.bl true)) := rfl
theorem pNotN_t (b : List PV) : pNotN (.tup b) = some (.im (.bl true)) := rfl
theorem pNotN_l (b : List PV) : pNotN (.lst b) = some (.im (.bl true)) := rfl
theorem zipP_self : ∀ xs : List PV, zipP xs xs = xs.map fun x => .tup [x, x]
  | [] => rfl
  | x :: xs => by simp [zipP, zipP_self xs]
def zK (o o' : PO) (a b : Option PV) (π : PEn) : PR (List PV × Wt) := match a, b with
  | some d, some e => match seqP d, seqP e with
    | some xs, some ys => if isTup d = isTup e ∧ (brs [o, o'] = [] ∨ (PV.flats xs = true ∧ PV.flats ys = true ∧ isTup d = false)) then .ok (zipP xs ys, wtO o xs ++ wtO o' ys) π else .bad
    | _, _ => .bad
  | _, _ => .bad
theorem pdiZ_ap (p q : PD) (π : PEn) : pdiZ p q π = @bq _ _ (p π) ⟨fun o π1 => @bq _ _ (q π1) ⟨fun o' π2 => zK o o' (pv π2 o) (pv π2 o') π2⟩⟩ := by
  unfold pdiZ zK bq
  rfl
theorem zK_l (d e : PV) (xs ys : List PV) (π : PEn) : zK (.im d) (.im e) (some (.lst xs)) (some (.lst ys)) π = .ok (zipP xs ys, []) π := by
  simp [zK, seqP, isTup, brs, wtO]
theorem zK_t (d e : PV) (xs ys : List PV) (π : PEn) : zK (.im d) (.im e) (some (.tup xs)) (some (.tup ys)) π = .ok (zipP xs ys, []) π := by
  simp [zK, seqP, isTup, brs, wtO]
end Pq

namespace Mi
open PySem L2 PyProof PyProof.Rows
abbrev Tab := List (List Nat × List (List Nat))
def lkT : Tab → List Nat → Option (List (List Nat))
  | [], _ => none
  | (z, ys) :: t, s => if s = z then some ys else lkT t s
abbrev txV (ys : List (List Nat)) : List V := ys.map fun y => V.str (sOf y)
inductive KEnts (K : PySem.W.Frag) : List DictEntry → Tab → Prop
  | nil : KEnts K [] []
  | cons {e : DictEntry} {es : List DictEntry} {z : List Nat} {ys : List (List Nat)} {tab : Tab} {b : Addr} (k : ∃ t, e.key = .str (sOf z) t) (v : e.val = .ref b) (t : KTp K b (txV ys)) (r : KEnts K es tab) : KEnts K (e :: es) ((z, ys) :: tab)
section
variable {X : Cx} {ca : CA} {W : WX} {e : Expr} {d da db : D} {pos apos cpos p : Pos} {x : Str} {tab : Tab}
def fKGet (tab : Tab) (o : O) (h : MH) : R O := match o with
  | .v (.str s) => match lkT tab s with
    | some ys => .ok (.v (.kt (ys.map Val.str))) h
    | none => .ok (.v .non) h
  | _ => .bad
def bLenK (os : List O) (h : MH) : R O := match os with
  | [.v (.kt xs)] => .ok (.v (.int xs.length)) h
  | _ => .bad
def diZK (da db : D) : DI := fun ρ h => (da ρ h).bind fun o h1 => (db ρ h1).bind fun o2 h2 => match seqO h2 o, o2 with
  | some (.tp, xs), .v (.kt ys) => .ok (zipF xs ys, fun _ => true) h2
  | _, _ => .bad
end
end Mi

namespace Pq
open PySem L2 Mi
def qLenK : List PV → Option PO
  | [.kt xs] => some (.im (.int xs.length))
  | _ => none
def zkK (a b : Option PV) (π : PEn) : PR (List PV × Wt) := match a, b with
  | some (.tup xs), some (.kt ys) => .ok (zipP xs ys, []) π
  | _, _ => .bad
def pdiZK (p q : PD) : PDI := fun π => (p π).bind fun o π1 => (q π1).bind fun o' π2 => zkK (pv π2 o) (pv π2 o') π2
theorem pdiZK_ap (p q : PD) (π : PEn) : pdiZK p q π = @bq _ _ (p π) ⟨fun o π1 => @bq _ _ (q π1) ⟨fun o' π2 => zkK (pv π2 o) (pv π2 o') π2⟩⟩ := by
  unfold pdiZK bq
  rfl
theorem tyP_k (b : List PV) : tyP (.kt b) = .tup := rfl
theorem zkK_t (xs ys : List PV) (π : PEn) : zkK (some (.tup xs)) (some (.kt ys)) π = .ok (zipP xs ys, []) π := rfl
theorem qLenK_k (xs : List PV) : qLenK [.kt xs] = some (.im (.int xs.length)) := rfl
theorem pIsN_k (b : List PV) : pIsN (.kt b) = some (.im (.bl false)) := rfl
def qIsNo (k : Bool) (d : PV) : Option PO := match d with
  | .bl c => some (.im (.bl (!decide (c = k))))
  | _ => none
theorem qIsNo_b (k c : Bool) : qIsNo k (.bl c) = some (.im (.bl (!decide (c = k)))) := rfl
def pntL (is : List Nat) : PTD := fun d π => match d with
  | .lst ds => pset is ds π
  | _ => none
theorem pntL_l (is : List Nat) (ds : List PV) (π : PEn) : pntL is (.lst ds) π = pset is ds π := rfl
end Pq

namespace Mi
open PySem L2 PyProof PyProof.Rows
abbrev CD := List (List Nat × Int)
abbrev c2 (s : List Nat) (i : Int) : List Nat × Int := (s, i)
section
variable {X : Cx} {ca : CA} {W : WX} {pos p : Pos}
def isDk (x : Val) (h : MH) : Bool := match x with
  | .ref n => match h[n]? with
    | some (.dK _) => true
    | some (.lk _) => true
    | _ => false
  | _ => false
abbrev rDGet2 : V → List V → Hp → VK → Prop := fun x xs H Q => ∃ a y z o, x = .ref a ∧ xs = [y, z] ∧ DGet H a y o ∧ Q (o.getD z) H
theorem mt_dget2 (hu : X.A.units + 64 < cLine) : MtR X "dict.get" rDGet2 := by
  intro pins s σ H x xs v us Q I r rs ⟨a, y, z, o, e1, e2, g, q⟩
  subst e1; subst e2
  obtain rfl : v = Value.ref a := r
  cases rs with
  | cons r1 rs =>
    cases rs with
    | cons r2 rs =>
      cases rs
      exact d_get2 (by omega) I g r1 r2 fun w' s4 I4 rw' => ⟨_, H, I4, rw', q⟩
def mGet2 : MD := fun x xs h => match xs with
  | [y, z] => match dgetO h (.v x) y with
    | some (some w) => .ok (.v w) h
    | some none => .ok (.v z) h
    | none => .bad
  | _ => .bad
theorem mGet2_ok {g : G} : MOk g W mGet2 rDGet2 := fun m0 m σ Hs H h v x vs xs Q fr r rv rvs c => by
  unfold mGet2 at c
  split at c
  · rename_i y z
    cases rvs with
    | cons r1 rvs =>
      cases rvs with
      | cons r2 rvs =>
        cases rvs
        split at c
        · rename_i w e
          obtain ⟨a, w', rfl, g1, q⟩ := dget_ok (x := .v x) (H0 := H) r (show rO g H H m v (.v x) from rv) r1 e
          refine ⟨a, _, _, w', rfl, rfl, g1, ?_⟩
          rcases q with ⟨_, q⟩ | ⟨w1, z1, rfl, q, r3⟩
          · cases q
          · cases q; exact Ct.val c fr r r3
        · rename_i e
          obtain ⟨a, w', rfl, g1, q⟩ := dget_ok (x := .v x) (H0 := H) r (show rO g H H m v (.v x) from rv) r1 e
          refine ⟨a, _, _, w', rfl, rfl, g1, ?_⟩
          rcases q with ⟨rfl, _⟩ | ⟨w1, z1, _, q, _⟩
          · exact Ct.val c fr r r2
          · cases q
        · exact c.elim
  · exact c.elim
end
section
variable {X : Cx} {ca : CA} {W : WX} {a b e : Expr} {da db d : D} {pos : Pos}
end
end Mi

namespace Mi
open PySem L2 PyProof PyProof.Rows
end Mi

namespace Mi
open PySem L2 PyProof PyProof.Rows
def dNewK : D := fun _ h => .ok (.v (.ref h.length)) (h ++ [.dK []])
def dNewT : D := fun _ h => .ok (.v (.ref h.length)) (h ++ [.dT []])
section
variable {X : Cx} {ca : CA} {W : WX} {pos : Pos}
theorem se_newT : SE X ca W (.Dict [] [] pos) dNewT :=
  pe_w pe_dnewT fun σ H Q ⟨m, ρ, h, rh, re, c⟩ => by
    intro q hq
    have hn : ∀ n, m n ≠ some q := fun n e => rh.ne hq e rfl
    exact c (m.add h.length q) _ _ ((Ext.laid hq).numd (rh.laid hq) hq) ((rh.laid hq).numd (o := .dT []) hn ⟨_, upd_same, .nil⟩) (.ref Mu.add_same)
end
def isDt (x : Val) (h : MH) : Bool := match x with
  | .ref n => match h[n]? with
    | some (.dT _) => true
    | _ => false
  | _ => false
theorem isDt_ok {g : G} : TyOk g "dict" isDt := fun m H h v x r rv e => by
  unfold isDt at e
  split at e
  · split at e
    · rename_i kvs hk
      cases rv with
      | ref hm =>
        obtain ⟨b, e2, ks, e3, _⟩ := r.at_ _ _ hk
        rw [hm] at e2; cases e2
        exact .inr ⟨rfl, _, rfl, .inr ⟨ks, .inl e3⟩⟩
    · cases e
  · cases e
theorem sortB_strs : ∀ ks : List Str, sortB (ks.map PyData.str) = true := fun ks => by
  simp only [sortB, alikeB, Bool.and_eq_true, Bool.or_eq_true]
  refine ⟨List.all_eq_true.mpr fun d hd => List.all_eq_true.mpr fun e he => ?_, .inr (List.all_eq_true.mpr fun d hd => ?_)⟩
  · obtain ⟨x, _, rfl⟩ := List.mem_map.mp hd
    obtain ⟨y, _, rfl⟩ := List.mem_map.mp he
    rfl
  · obtain ⟨x, _, rfl⟩ := List.mem_map.mp hd
    rfl
def sortS (ss : List (List Nat)) : List (List Nat) := ss.mergeSort fun a b => leD (.str (sOf a)) (.str (sOf b))
end Mi

namespace Pq
open PySem L2 Mi
def cdP (kvs : CD) : PV := .dct (.kt [.kt []] :: kvs.map fun p => .str p.1) (kvs.map fun p => .int p.2)
def pDispC (kvs : CD) : PD := fun π => .ok (.im (cdP kvs)) π
def pNewK : PD := fun π => .ok (.ow (.dct [.kt [.kt []]] [])) π
def pNewT : PD := fun π => .ok (.ow (.dct [.kt []] [])) π
theorem new_T {T : Nat → Prop} {A : Aa} {h : MH} {ρ : En} {π : PEn} (rn : Rn T A h ρ π) {o : Ob} {d : PV} (oc : OC (h ++ [o]) (Av A fun n => T n ∨ n = h.length) o d) : Go RO T A h.length ρ h π (.ok (.v (.ref h.length)) (h ++ [o])) (.ok (.ow d) π) := by
  refine ⟨_, _, fun n => T n ∨ n = h.length, rfl, Fx.app [o], ⟨fun _ t => .inl t, fun n t => t.elim .inl fun e => .inr (by omega)⟩, ?_, .inr ⟨h.length, o, rfl, .inr rfl, fun i e => absurd (rn.lt e) (Nat.lt_irrefl _), Nat.le_refl _, new_ref' _ _, oc⟩⟩
  exact rn.addT (n := h.length) (Nat.le_refl _) app_keep (by simp) fun m z => z
theorem pu_newT : PuE dNewT pNewT := fun T A h ρ π rn => new_T rn ⟨_, _, rfl, .cons (.kt .nil) .nil, .nil⟩
def isOw : PO → Bool
  | .ow _ => true
  | _ => false
def kindP : Bool → PV → Bool
  | false, .dct (.kt [.kt []] :: _) _ => true
  | true, .dct (.kt [] :: _) _ => true
  | _, _ => false
def getR (z : PV) : Option (Option PV) → PEn → PR PO
  | some (some v), π => .ok (.im v) π
  | some none, π => .ok (.im z) π
  | none, _ => .bad
def getB : List PV → Option PV → PEn → PR PO
  | [y, z], some d, π => getR z (dgetP d y) π
  | _, _, _ => .bad
def getA (k : Bool) (a : PDV) (o : PO) : Option PV → PEn → PR PO
  | some d, π => if isOw o = false ∧ kindP k d = true then (a π).bind fun es π2 => getB es (pv π2 o) π2 else .bad
  | none, _ => .bad
def pGet2 (k : Bool) (r : PD) (a : PDV) : PD := fun π => (r π).bind fun o π1 => getA k a o (pv π1 o) π1
theorem not_ow {h : MH} {A : Aa} {T T2 : Nat → Prop} {L : Nat} {x : O} {o : PO} (r : RO h A T T2 L x o) (e : isOw o = false) : ∃ v, x = .v v := by
  cases o with
  | im d => obtain ⟨v, e, _⟩ := r; exact ⟨v, e⟩
  | ow d => cases e
  | br i => obtain ⟨n, e, _⟩ := r; exact ⟨_, e⟩
theorem pu_getG {k : Bool} {ty : Val → MH → Bool} (hty : ∀ h S v d, RD h S (.v v) d → kindP k d = true → ty v h = true) {d : D} {p : PD} {ds : DV} {a : PDV} (hr : PuE d p) (ha : PuV ds a) : PuE (dMt ty mGet2 d ds) (pGet2 k p a) := fun T A h ρ π rn =>
  Go.bind tt (hr T A h ρ π rn) fun x h1 T2 o π1 fx t tq rn1 rx => by
    unfold getA
    cases e1 : pv π1 o with
    | none => trivial
    | some d1 =>
      simp only
      by_cases q : isOw o = false ∧ kindP k d1 = true
      · rw [if_pos q]
        obtain ⟨v, rfl⟩ := not_ow rx q.1
        have w1 := rx.w t
        have rd1 := w1.rd rn1 t e1
        have ht := hty _ _ _ _ rd1 q.2
        show Go RO T A h.length ρ h1 π1 (if ty v h1 = true then (ds ρ h1).bind fun xs h2 => mGet2 v xs h2 else .bad) _
        rw [if_pos ht]
        have rnT := rn1.weak t
        refine Go.bind tt (ha T A h1 ρ π1 rnT) fun xs h2 T3 es π2 fx2 t2 tq2 rn2 rxs => ?_
        have rn2 := rn2.weak t2
        unfold getB
        split
        · rename_i y z d2 e2
          cases rxs with
          | cons r1 rxs =>
            cases rxs with
            | cons r2 rxs =>
              cases rxs
              have rd2 := (w1.kept fx2).rd rn2 tt (by assumption)
              unfold getR
              split
              · rename_i w q2
                obtain ⟨u, e3, iu⟩ := dget_im rd2 r1 q2
                simp only [mGet2, e3]
                exact Go.ok rn2 ⟨_, rfl, iu⟩
              · rename_i q2
                have e3 := dget_im rd2 r1 q2
                simp only at e3
                simp only [mGet2, e3]
                exact Go.ok rn2 ⟨_, rfl, r2⟩
              · trivial
        · trivial
      · rw [if_neg q]; trivial
theorem kind_T {h : MH} {S : Nat → Prop} {v : Val} {d : PV} (r : RD h S (.v v) d) (k : kindP true d = true) : isDt v h = true := by
  cases d with
  | dct ks vs =>
    obtain ⟨n, o, kl, vl, e, a, b, c, d⟩ := rd_dct r
    cases e
    rcases dct_casesR a b c d with ⟨kvs, t, ho, rfl, k1, k2⟩ | ⟨kvs, t, rfl, rfl, k1, k2⟩
    · cases k
    · simp only [isDt, a]
  | _ => cases k
theorem pu_get2T {d : D} {p : PD} {ds : DV} {a : PDV} (hr : PuE d p) (ha : PuV ds a) : PuE (dMt isDt mGet2 d ds) (pGet2 true p a) := pu_getG (fun _ _ _ _ r k => kind_T r k) hr ha
theorem pDispC_ap (kvs : CD) (π : PEn) : pDispC kvs π = .ok (.im (cdP kvs)) π := rfl
theorem pNewK_ap (π : PEn) : pNewK π = .ok (.ow (.dct [.kt [.kt []]] [])) π := rfl
theorem pNewT_ap (π : PEn) : pNewT π = .ok (.ow (.dct [.kt []] [])) π := rfl
theorem pGet2_ap (k : Bool) (r : PD) (a : PDV) (π : PEn) : pGet2 k r a π = @bq _ _ (r π) ⟨fun o π1 => getA k a o (pv π1 o) π1⟩ := rfl
theorem getA_K (a : PDV) (i : Nat) (ks vs : List PV) (π : PEn) : getA false a (.br i) (some (.dct (.kt [.kt []] :: ks) vs)) π = @bq _ _ (a π) ⟨fun es π2 => getB es (pv π2 (.br i)) π2⟩ := rfl
theorem getA_T (a : PDV) (i : Nat) (ks vs : List PV) (π : PEn) : getA true a (.br i) (some (.dct (.kt [] :: ks) vs)) π = @bq _ _ (a π) ⟨fun es π2 => getB es (pv π2 (.br i)) π2⟩ := rfl
theorem getA_Ki (a : PDV) (d : PV) (ks vs : List PV) (π : PEn) : getA false a (.im d) (some (.dct (.kt [.kt []] :: ks) vs)) π = @bq _ _ (a π) ⟨fun es π2 => getB es (pv π2 (.im d)) π2⟩ := rfl
theorem getA_Ti (a : PDV) (d : PV) (ks vs : List PV) (π : PEn) : getA true a (.im d) (some (.dct (.kt [] :: ks) vs)) π = @bq _ _ (a π) ⟨fun es π2 => getB es (pv π2 (.im d)) π2⟩ := rfl
theorem getB_s (y z d : PV) (π : PEn) : getB [y, z] (some d) π = getR z (dgetP d y) π := rfl
theorem getR_s (z v : PV) (π : PEn) : getR z (some (some v)) π = .ok (.im v) π := rfl
theorem getR_n (z : PV) (π : PEn) : getR z (some none) π = .ok (.im z) π := rfl
theorem dgetP_s (ks vs : List PV) (s : List Nat) : dgetP (.dct (.kt [.kt []] :: ks) vs) (.str s) = some (dfind ks vs (.str s)) := rfl
theorem dgetP_i (ks vs : List PV) (s : Int) : dgetP (.dct (.kt [.kt []] :: ks) vs) (.int s) = some (dfind ks vs (.int s)) := rfl
def ixR : Option (Option PV) → Option PO
  | some (some v) => some (.im v)
  | _ => none
theorem ixR_s (v : PV) : ixR (some (some v)) = some (.im v) := rfl
theorem pIx_ds (ks vs : List PV) (s : List Nat) : pIx (.dct ks vs) (.str s) = ixR (dgetP (.dct ks vs) (.str s)) := rfl
theorem pIx_di (ks vs : List PV) (s : Int) : pIx (.dct ks vs) (.int s) = ixR (dgetP (.dct ks vs) (.int s)) := rfl
theorem pIx_dt (ks vs ts : List PV) : pIx (.dct ks vs) (.tup ts) = ixR (dgetP (.dct ks vs) (.tup ts)) := rfl
def inR : Option (Option PV) → Option Bool
  | some r => some r.isSome
  | none => none
def inO (n : Bool) : Option Bool → Option PO
  | some b => some (.im (.bl (if n then !b else b)))
  | none => none
theorem pIn_ds (ks vs : List PV) (s : List Nat) : pIn (.str s) (.dct ks vs) = inO false (inR (dgetP (.dct ks vs) (.str s))) := by
  simp only [pIn, inP, seqP, inR, inO]
  cases dgetP (.dct ks vs) (.str s) <;> rfl
theorem pIn_dt (ks vs ts : List PV) : pIn (.tup ts) (.dct ks vs) = inO false (inR (dgetP (.dct ks vs) (.tup ts))) := by
  simp only [pIn, inP, seqP, inR, inO]
  cases dgetP (.dct ks vs) (.tup ts) <;> rfl
theorem pNotIn_ds (ks vs : List PV) (s : List Nat) : pNotIn (.str s) (.dct ks vs) = inO true (inR (dgetP (.dct ks vs) (.str s))) := by
  simp only [pNotIn, inP, seqP, inR, inO]
  cases dgetP (.dct ks vs) (.str s) <;> rfl
theorem pNotIn_dt (ks vs ts : List PV) : pNotIn (.tup ts) (.dct ks vs) = inO true (inR (dgetP (.dct ks vs) (.tup ts))) := by
  simp only [pNotIn, inP, seqP, inR, inO]
  cases dgetP (.dct ks vs) (.tup ts) <;> rfl
theorem inR_s (r : Option PV) : inR (some r) = some r.isSome := rfl
theorem inO_f (b : Bool) : inO false (some b) = some (.im (.bl b)) := rfl
theorem inO_t (b : Bool) : inO true (some b) = some (.im (.bl (!b))) := rfl
theorem setIx_dK (ks vs : List PV) (s : List Nat) (z : PV) : setIxP (.dct (.kt [.kt []] :: ks) vs) (.str s) z = if vs.length < 16777216 then some (.dct (.kt [.kt []] :: dputK ks (.str s)) (dputV ks vs (.str s) z)) else none := by
  simp [setIxP, keyS]
theorem setIx_dT (ks vs ts : List PV) (z : PV) (h : ts.all keyS = true) : setIxP (.dct (.kt [] :: ks) vs) (.tup ts) z = if vs.length < 16777216 then some (.dct (.kt [] :: dputK ks (.tup ts)) (dputV ks vs (.tup ts) z)) else none := by
  simp [setIxP, keyT, h]
end Pq

namespace Pq
open PySem L2 Mi
def qListS (ds : List PV) : Option PO := match ds with
  | [.str s] => if s.length ≤ 16777216 then some (.ow (.lst (s.map fun c => PV.str [c]))) else none
  | [.lst xs] => qList [.lst xs]
  | [.tup xs] => qList [.tup xs]
  | _ => none
theorem qListS_s (s : List Nat) : qListS [.str s] = if s.length ≤ 16777216 then some (.ow (.lst (s.map fun c => PV.str [c]))) else none := rfl
theorem qListS_t (xs : List PV) : qListS [.tup xs] = some (.ow (.lst xs)) := rfl
end Pq

namespace Mi
open PySem L2 PyProof PyProof.Rows
abbrev VP := V × V
section
variable {X : Cx} {pins : List (Addr × Obj)} {σ : L2.St} {H : Hp} {s : Shared} {a : Addr} {ps : List VP}
end
def tupsK (kvs : List (Val × Val)) : List Val := kvs.map fun p => .tup [p.1, p.2]
def bSortIt (x : O) (h : MH) : R O := match x with
  | .v (.ref n) => match h[n]? with
    | some (.dK kvs) => match optAll (dat h 16) (tupsK kvs) with
      | some ds => if sortB ds = true then .ok (.n (sortV (tupsK kvs) ds)) h else .bad
      | none => .bad
    | some (.lk kvs) => match optAll (dat h 16) (tupsK kvs) with
      | some ds => if sortB ds = true then .ok (.n (sortV (tupsK kvs) ds)) h else .bad
      | none => .bad
    | _ => .bad
  | _ => .bad
section
variable {X : Cx} {ca : CA} {W : WX} {e : Expr} {d : D} {p apos cpos pos : Pos}
end
end Mi

namespace Pq
open PySem L2 Mi
def qSortedK : List PV → Option PO
  | [.dct (.kt [.kt []] :: ks) vs] => match strsP ks with
    | some ss => some (.ow (.lst ((sortS ss).map PV.str)))
    | none => none
  | _ => none
def skK : Option (List (List Nat)) → Option PO
  | some ss => some (.ow (.lst ((sortS ss).map PV.str)))
  | none => none
theorem qSortedK_d (ks vs : List PV) : qSortedK [.dct (.kt [.kt []] :: ks) vs] = skK (strsP ks) := by
  simp only [qSortedK, skK]
theorem skK_s (ss : List (List Nat)) : skK (some ss) = some (.ow (.lst ((sortS ss).map PV.str))) := rfl
theorem setIx_dT_ss (ks vs : List PV) (a b : List Nat) (z : PV) : setIxP (.dct (.kt [] :: ks) vs) (.tup [.str a, .str b]) z = if vs.length < 16777216 then some (.dct (.kt [] :: dputK ks (.tup [.str a, .str b])) (dputV ks vs (.tup [.str a, .str b]) z)) else none := setIx_dT ks vs _ z rfl
theorem setIx_dT_si (ks vs : List PV) (a : List Nat) (b : Int) (z : PV) : setIxP (.dct (.kt [] :: ks) vs) (.tup [.str a, .int b]) z = if vs.length < 16777216 then some (.dct (.kt [] :: dputK ks (.tup [.str a, .int b])) (dputV ks vs (.tup [.str a, .int b]) z)) else none := setIx_dT ks vs _ z rfl
theorem setIx_dT_ssi (ks vs : List PV) (a c : List Nat) (b : Int) (z : PV) : setIxP (.dct (.kt [] :: ks) vs) (.tup [.str a, .str c, .int b]) z = if vs.length < 16777216 then some (.dct (.kt [] :: dputK ks (.tup [.str a, .str c, .int b])) (dputV ks vs (.tup [.str a, .str c, .int b]) z)) else none := setIx_dT ks vs _ z rfl
theorem dgetP_ss (ks vs : List PV) (a b : List Nat) : dgetP (.dct (.kt [] :: ks) vs) (.tup [.str a, .str b]) = some (dfind ks vs (.tup [.str a, .str b])) := rfl
theorem dgetP_si (ks vs : List PV) (a : List Nat) (b : Int) : dgetP (.dct (.kt [] :: ks) vs) (.tup [.str a, .int b]) = some (dfind ks vs (.tup [.str a, .int b])) := rfl
theorem dgetP_ssi (ks vs : List PV) (a c : List Nat) (b : Int) : dgetP (.dct (.kt [] :: ks) vs) (.tup [.str a, .str c, .int b]) = some (dfind ks vs (.tup [.str a, .str c, .int b])) := rfl
end Pq

namespace Mi
open PySem L2 PyProof PyProof.Rows
def pairsOf : List Val → Option (List (Val × Val))
  | [] => some []
  | .tup [k, v] :: xs => if isKey k = true then match pairsOf xs with
    | some r => some ((k, v) :: r)
    | none => none
    else none
  | _ => none
end Mi

namespace Pq
open PySem L2 Mi
def newK (p : List PV → Option PV) : Option (List PV) → PEn → PR PO
  | some ds, π => match p ds with
    | some d => .ok (.ow d) π
    | none => .bad
  | none, _ => .bad
def pBn (p : List PV → Option PV) (t : PDA) : PD := fun π => (t π).bind fun os π1 => newK p (pvAll π1 os) π1
def pairsP : List PV → Option (List (PV × PV))
  | [] => some []
  | .tup [k, v] :: xs => if keyS k = true then match pairsP xs with
    | some r => some ((k, v) :: r)
    | none => none
    else none
  | _ => none
inductive Ips (h : MH) (S : Nat → Prop) : List (Val × Val) → List (PV × PV) → Prop
  | nil : Ips h S [] []
  | cons {k v : Val} {kd vd : PV} {ps : List (Val × Val)} {qs : List (PV × PV)} : Im h S k kd → keyS kd = true → Im h S v vd → Ips h S ps qs → Ips h S ((k, v) :: ps) ((kd, vd) :: qs)
theorem pairs_ok {h : MH} {S : Nat → Prop} : ∀ {xs : List Val} {ds : List PV} {qs : List (PV × PV)}, Ims h S xs ds → pairsP ds = some qs → ∃ ps, pairsOf xs = some ps ∧ Ips h S ps qs
  | _, _, _, .nil, e => by simp [pairsP] at e; subst e; exact ⟨[], rfl, .nil⟩
  | _, _, _, .cons a b, e => by
    unfold pairsP at e
    split at e
    · rename_i h0; cases h0
    · rename_i k v xs h0
      cases h0
      split at e
      · rename_i hk
        split at e
        · rename_i r er
          cases e
          obtain ⟨ps, e1, e2⟩ := pairs_ok b er
          cases a with
          | tup a =>
            cases a with
            | cons r1 r2 =>
              cases r2 with
              | cons r3 r4 =>
                cases r4
                exact ⟨_, by simp only [pairsOf, isKey_of r1 hk, if_true, e1], .cons r1 hk r3 e2⟩
        · cases e
      · cases e
    · cases e
theorem pBn_ap (p : List PV → Option PV) (t : PDA) (π : PEn) : pBn p t π = @bq _ _ (t π) ⟨fun os π1 => newK p (pvAll π1 os) π1⟩ := rfl
def newO (o : Option PV) (π : PEn) : PR PO := match o with
  | some d => .ok (.ow d) π
  | none => .bad
theorem newK_s (p : List PV → Option PV) (ds : List PV) (π : PEn) : newK p (some ds) π = newO (p ds) π := rfl
theorem newO_s (d : PV) (π : PEn) : newO (some d) π = .ok (.ow d) π := rfl
end Pq

namespace Mi
open PySem L2 PyProof PyProof.Rows
end Mi

namespace Pq
open PySem L2 Mi
end Pq

namespace Mi
open PySem L2 PyProof PyProof.Rows
end Mi

namespace Pq
open PySem L2 Mi
end Pq

namespace Mi
open PySem L2 PyProof PyProof.Rows
structure OwnEx (K : PySem.W.Frag) (mg : Str → Option Value) (x : Str) (C : Addr) (B newId initId : String) (bmB : List Value) : Prop where
  facts : ExcBaseFacts B newId initId bmB
  exc : PySem.W.excIn K C bmB newId = true
  glob : mg x = some (.ref C)
  kept : PySem.W.keepIn K (.ref C) = true
  sub : PySem.W.subIn K (.ref C) (.type "BaseException") = some true
  typ : PySem.W.typeIn K (.ref C) = some (.type "type")
end Mi

namespace Pq
open PySem L2 Mi
def pRaise (c : Nat) : PSD := fun π => .ex c π
theorem ws_raise (c : Nat) (π : PEn) (K : Kq) : @ws (pRaise c π) ⟨K⟩ = K.ex c π := by
  rw [ws_fn]
  rfl
end Pq

namespace Mi
open PySem PySem.Spec PyProof.Rows L2
structure Grow (H H' : Hp) : Prop where
  st : ∀ b o, H b = some o → (∀ ps, o ≠ .tbl ps) → H' b = some o
  tb : ∀ b ps, H b = some (.tbl ps) → ∃ more, H' b = some (.tbl (ps ++ more))
theorem Grow.refl {H : Hp} : Grow H H := ⟨fun _ _ e _ => e, fun _ _ e => ⟨#[], by rw [e, Array.append_empty]⟩⟩
theorem Grow.ext {m : Mu} {H H' : Hp} (g : Grow H H') : Ext m m H H' := ⟨fun _ _ e => e, fun _ _ e => .inl e, fun b o e t _ => g.st b o e t, fun b ps e _ => g.tb b ps e, fun b o u e => g.st b _ e fun _ z => by cases z⟩
theorem Grow.rep {g : G} {m : Mu} {H H' : Hp} {h : MH} (k : Grow H H') (r : RepH g m H h) (t : LamX.Tabs g.ca.T H') : RepH g m H' h :=
  ⟨r.dom, r.inj, fun n o e => (by
    obtain ⟨a, e1, q⟩ := r.at_ n o e
    obtain ⟨u, e2, _, _, nt, _⟩ := q.there
    exact ⟨a, e1, q.mono ((k.ext (m := m)).sqt r) (fun _ _ z => z) (by rw [k.st _ _ e2 nt, e2])⟩), t⟩
section
variable {X : Cx} {pins : List (Addr × Obj)} {σ : L2.St} {H : Hp} {s : Shared}
structure Caps (X : Cx) (fr : List Str) (is : List Nat) : Prop where
  len : is.length = fr.length
  at_ : ∀ (i : Nat) (y : Str), fr[i]? = some y → ∃ j, is[i]? = some j ∧ X.N[j]? = some y ∧ X.env.scope.names.lookup y = some .cell
end
end Mi

namespace Mi
open PySem PySem.Spec PyProof.Rows L2
section
variable {X : Cx} {pins : List (Addr × Obj)} {σ : L2.St} {H : Hp} {s : Shared}
end
section
variable {X : Cx} {x n y : Str} {cv : Value} {i j : Nat} {body : List Stmt} {np yp vp ap hp pos : Pos} {tb : WX → TS} {Wout : WX}
end
section
variable {X : Cx} {ca : CA} {W : WX} {p p4 pos : Pos} {e ce : Expr} {d : D}
end
end Mi

namespace Mi
open PySem PySem.Spec PyProof.Rows L2
section
variable {X : Cx}
end
end Mi

namespace Pq
open PySem L2 Mi
def miR : Option PV → PEn → PR PO
  | some v, π => .ok (.im v) π
  | none, _ => .bad
def miB (f : PV → PV → Option PV) : List PV → Option PV → PEn → PR PO
  | [y], some d, π => miR (f d y) π
  | _, _, _ => .bad
def isLst : PV → Bool
  | .lst _ => true
  | _ => false
def miA (f : PV → PV → Option PV) (a : PDV) (o : PO) : Option PV → PEn → PR PO
  | some d, π => if isOw o = false ∧ isLst d = true then (a π).bind fun es π2 => miB f es (pv π2 o) π2 else .bad
  | none, _ => .bad
def pMi (f : PV → PV → Option PV) (r : PD) (a : PDV) : PD := fun π => (r π).bind fun o π1 => miA f a o (pv π1 o) π1
def qExtend : List PV → List PV → Option (PV × List PV) := fun xs ys => match ys with
  | [.lst zs] => if xs.length + zs.length ≤ 16777216 then some (.non, xs ++ zs) else none
  | _ => none
theorem pSortC_ap (pf : PFn) (is : List Nat) (p : PD) (π : PEn) : pSortC pf is p π = @bq _ _ (p π) ⟨fun o π1 => sortCO pf (pv π1 o) (capP π1 is) π1⟩ := rfl
theorem sortCO_s (pf : PFn) (o : Option PV) (cd : List PV) (π : PEn) : sortCO pf o (some cd) π = sortKO (fun as => pf (as ++ cd)) o π := rfl
theorem pMi_ap (f : PV → PV → Option PV) (r : PD) (a : PDV) (π : PEn) : pMi f r a π = @bq _ _ (r π) ⟨fun o π1 => miA f a o (pv π1 o) π1⟩ := rfl
theorem miA_b (f : PV → PV → Option PV) (a : PDV) (i : Nat) (xs : List PV) (π : PEn) : miA f a (.br i) (some (.lst xs)) π = @bq _ _ (a π) ⟨fun es π2 => miB f es (pv π2 (.br i)) π2⟩ := rfl
theorem miA_i (f : PV → PV → Option PV) (a : PDV) (d : PV) (xs : List PV) (π : PEn) : miA f a (.im d) (some (.lst xs)) π = @bq _ _ (a π) ⟨fun es π2 => miB f es (pv π2 (.im d)) π2⟩ := rfl
theorem miB_s (f : PV → PV → Option PV) (y d : PV) (π : PEn) : miB f [y] (some d) π = miR (f d y) π := rfl
theorem miR_s (v : PV) (π : PEn) : miR (some v) π = .ok (.im v) π := rfl
theorem qExtend_l (xs zs : List PV) : qExtend xs [.lst zs] = if xs.length + zs.length ≤ 16777216 then some (.non, xs ++ zs) else none := rfl
end Pq

namespace HTS
open PySem PySem.Spec PyProof.Rows L2
section
variable {X : Cx}
end
end HTS
namespace Mi
open PySem L2 PyProof PyProof.Rows
section
variable {X : Cx} {ca : CA} {W : WX} {a : Expr} {da : D} {k : Nat} {p1 p2 p3 pos : Pos}
end
end Mi
namespace Mi
end Mi
namespace Mi
open PySem L2 PyProof PyProof.Rows
end Mi

namespace Pq
open PySem L2 Mi
def qRevA : PV → Option PO
  | .str s => szs s.length (.im (.str s.reverse))
  | d => pRev d
def msNO : Option (List PV) → PEn → PR PO
  | some r, π => .ok (.ow (.lst r)) π
  | none, _ => .bad
def msN (f : PV → List PV → Option (List PV)) (a : PDV) : PV → PEn → PR PO
  | .str s, π => (a π).bind fun es π2 => msNO (f (.str s) es) π2
  | _, _ => .bad
def pMsN (f : PV → List PV → Option (List PV)) (r : PD) (a : PDV) : PD := fun π => (r π).bind fun o π1 => (poI o π1).bind fun d π1 => msN f a d π1
theorem qRevA_s (s : List Nat) : qRevA (.str s) = szs s.length (.im (.str s.reverse)) := rfl
theorem qRevA_t (s : List PV) : qRevA (.tup s) = some (.im (.tup s.reverse)) := rfl
theorem qRevA_l (s : List PV) : qRevA (.lst s) = some (.ow (.lst s.reverse)) := rfl
theorem pMsN_ap (f : PV → List PV → Option (List PV)) (r : PD) (a : PDV) (π : PEn) : pMsN f r a π = @bq _ _ (r π) ⟨fun o π1 => @bq _ _ (poI o π1) ⟨fun d π1 => msN f a d π1⟩⟩ := rfl
theorem msN_s (f : PV → List PV → Option (List PV)) (a : PDV) (s : List Nat) (π : PEn) : msN f a (.str s) π = @bq _ _ (a π) ⟨fun es π2 => msNO (f (.str s) es) π2⟩ := rfl
theorem msNO_s (r : List PV) (π : PEn) : msNO (some r) π = .ok (.ow (.lst r)) π := rfl
end Pq
namespace Pq
open PySem L2 Mi
def pdiC (xs : List Int) : PDI := fun π => .ok (xs.map PV.int, []) π
theorem pdiC_ap (xs : List Int) (π : PEn) : pdiC xs π = .ok (xs.map PV.int, []) π := rfl
end Pq

namespace Pq
open PySem L2 Mi
theorem OutR.app {h h' : MH} {S : Nat → Prop} (k : ∀ (n : Nat) (o : Ob), h[n]? = some o → h'[n]? = some o) : ∀ {js : Js} {outs : List PV}, OutR h S js outs → OutR h' S js outs
  | _, _, .nil => .nil
  | _, _, .im t => .im (OutR.app k t)
  | _, _, .io e c t => .io (k _ _ e) (c.mono fun n o a b => ⟨k n o b, a⟩) (OutR.app k t)
end Pq

section
local macro_rules | `(tactic| walk_at "pwp") => `(tactic| simp -implicitDefEqProofs only [Pq.pSortC_ap, Pq.sortCO_s, Pq.pdiC_ap, Pq.qRevA_s, Pq.qRevA_t, Pq.qRevA_l, Pq.pMsN_ap, Pq.msN_s, Pq.msNO_s, Pq.pMi_ap, Pq.miA_b, Pq.miA_i, Pq.miB_s, Pq.miR_s, Pq.qExtend_l, Pq.pBn_ap, Pq.newK_s, Pq.newO_s, Pq.pNewK_ap, Pq.pNewT_ap, Pq.getA_K, Pq.getA_T, Pq.getA_Ki, Pq.getA_Ti, Pq.getB_s, Pq.getR_s, Pq.getR_n, Pq.dgetP_s, Pq.dgetP_i, Pq.dgetP_ss, Pq.dgetP_si, Pq.dgetP_ssi, Pq.ixR_s, Pq.pIx_ds, Pq.pIx_di, Pq.pIx_dt, Pq.pIn_ds, Pq.pIn_dt, Pq.pNotIn_ds, Pq.pNotIn_dt, Pq.inR_s, Pq.inO_f, Pq.inO_t, Pq.setIx_dK, Pq.setIx_dT_ss, Pq.setIx_dT_si, Pq.setIx_dT_ssi, Pq.qSortedK_d, Pq.skK_s, Option.isSome_some, Option.isSome_none, Pq.qListS_s, Pq.qListS_t, Pq.pDispC_ap, Pq.pGet2_ap, Pq.pntL_l, Pq.qIsNo_b, Pq.tyP_k, Pq.pdiZK_ap, Pq.zkK_t, Pq.qLenK_k, Pq.pIsN_k, Pq.flatC_n1, Pq.flatC_n2, Pq.flatC_n3, Pq.flatO_b, Pq.flatO_i, Pq.flatO_s, Pq.pIsN_b, Pq.pIsN_i, Pq.pIsN_s, Pq.pIsN_t, Pq.pIsN_l, Pq.pNotN_b, Pq.pNotN_i, Pq.pNotN_s, Pq.pNotN_t, Pq.pNotN_l, Pq.pdiZ_ap, Pq.zK_l, Pq.zK_t, Pq.pLtT_is, Pq.qIs_b, Pq.qInR_i, Pq.pSortK_ap, Pq.isIo_fw, Pq.pIn_t2, Pq.pNotIn_t2, Pq.pRev_t, Pq.pRev_l, Pq.pIn_sc, Pq.pIn_strs, Pq.qsJoin_l, Pq.pMs_ap, Pq.msK_s, Pq.ms2_s, Pq.wq_ms2i, Pq.wf_run, Pq.wf_ok, Pq.wf_ex, Pq.ws_nil, Pq.ws_seq, Pq.ws_ret, Pq.ws_retN, Pq.ws_raise, Pq.ws_expr, Pq.ws_set, Pq.ws_setA, Pq.wsetA_im, Pq.wsetA_ow, Pq.ws_if, Pq.ws_brk, Pq.ws_cnt, Pq.ws_aug, Pq.ws_par, Pq.ws_parG, Pq.ws_asg, Pq.ws_frz, Pq.ws_for, Pq.frz_0, Pq.frz_0i, Pq.frz_0n, Pq.frz_0o, Pq.frz_s, Pq.wg_go, Pq.wi_t, Pq.wi_f, Pq.wn_t, Pq.wq_ok, Pq.wq_ex, Pq.wq_bind, Pq.wq_optS, Pq.wq_gd, Pq.wq_szs, Pq.wq_optI, Pq.wq_ite, Pq.wq_br, Pq.bq_ok, Pq.brq_t, Pq.brq_f, Pq.wo_s, Pq.wo_n, Pq.wo_ite, Pq.wo_some_ite, Pq.wo_sub, Pq.pVar_s, Pq.pVar_im, Pq.pVar_ow, Pq.pVar_io, Pq.ps_0, Pq.ps_s, Pq.pC_ap, Pq.pOp_ap, Pq.pU_ap, Pq.pT_ap, Pq.pbAnd_ap, Pq.pbOr_ap, Pq.pbNot_ap, Pq.pAnd_ap, Pq.pOr_ap, Pq.pNot_ap, Pq.pIf_ap, Pq.pCh_ap, Pq.pCh3_ap, Pq.pasB_b, Pq.see2_e, Pq.see1_e, Pq.seeA_e, Pq.opt2_s, Pq.opt1_s, Pq.optA_s, Pq.pv_im, Pq.pv_ow, Pq.pv_br, Pq.ownK_ow, Pq.ownK_io, Pq.pvAll_n, Pq.pvAll_c, Pq.pvC_s, Pq.paNil_ap, Pq.paCons_ap, Pq.pB_ap, Pq.poI_im, Pq.poI_ow, Pq.pvNil_ap, Pq.pvCons_ap, Pq.pTup_ap, Pq.pLst_ap, Pq.pgNil_ap, Pq.pgCons_ap, Pq.argO_1, Pq.argO_2, Pq.argO_3, Pq.argO_4, Pq.argO_5, Pq.pNone_ap, Pq.asIq_i, Pq.pSome_ap, Pq.pSl_ap, Pq.pCall_ap, Pq.wq_call, Pq.callOk_e, Pq.brs_n, Pq.brs_br, Pq.brs_im, Pq.brs_ow, Pq.owc_n, Pq.owc_br, Pq.owc_im, Pq.owc_ow, Pq.nodB_n, Pq.nodB_1, Pq.nodB_2, Pq.nodB_3, Pq.imb_n, Pq.imb_f, Pq.imb_t, Pq.imb_fi, Pq.imb_fo, Pq.callFl_e, Pq.isE_n, Pq.isE_c, Pq.putO_n, Pq.putO_b, Pq.putO_f, Pq.putO_im, Pq.putO_ow, Pq.upd_0, Pq.upd_s, Pq.PS_put_im, Pq.PS_put_ow, Pq.PS_put_io, Pq.pAdd_ii, Pq.pAdd_ss, Pq.pAdd_ll, Pq.pAdd_tt, Pq.pSub_ii, Pq.pMul_ii, Pq.pMul_si, Pq.pMul_li, Pq.pMod_ii, Pq.pFdiv_ii, Pq.pPow_ii, Pq.pNeg_i, Pq.pLt_ii, Pq.pLe_ii, Pq.pGt_ii, Pq.pGe_ii, Pq.pLt_ss, Pq.pLe_ss, Pq.pAddI_ii, Pq.pAddI_ss, Pq.ixK_s, Pq.pIx_l, Pq.pIx_t, Pq.pIx_f, Pq.pSlF_l, Pq.pSlF_t, Pq.pSlF_f, Pq.pSlF_s, Pq.pEq_ii, Pq.pNe_ii, Pq.pEq_ss, Pq.pNe_ss, Pq.pEq_bb, Pq.pNe_bb, Pq.pIsN_n, Pq.pNotN_n, Pq.qLen_l, Pq.qLen_t, Pq.qLen_f, Pq.qLen_d, Pq.qLen_s, Pq.qAbs_i, Pq.qInt_i, Pq.qInt_b, Pq.qMax_ii, Pq.qMin_ii, Pq.qDivmod_ii, Pq.qList_l, Pq.qList_t, Pq.qList_f, Pq.qTuple_l, Pq.qTuple_t, Pq.qTuple_f, Pq.qStr_s, Pq.qStr_i, Pq.qStr_b, Pq.qStr_n, Pq.qIsi_e, Pq.qIsi2_e, Pq.tyP_1, Pq.tyP_2, Pq.tyP_3, Pq.tyP_4, Pq.tyP_5, Pq.tyP_6, Pq.tyP_7, Pq.tyP_8, Pq.sb_00, Pq.sb_01, Pq.sb_02, Pq.sb_03, Pq.sb_04, Pq.sb_05, Pq.sb_06, Pq.sb_10, Pq.sb_11, Pq.sb_12, Pq.sb_13, Pq.sb_14, Pq.sb_15, Pq.sb_16, Pq.sb_20, Pq.sb_21, Pq.sb_22, Pq.sb_23, Pq.sb_24, Pq.sb_25, Pq.sb_26, Pq.sb_30, Pq.sb_31, Pq.sb_32, Pq.sb_33, Pq.sb_34, Pq.sb_35, Pq.sb_36, Pq.sb_40, Pq.sb_41, Pq.sb_42, Pq.sb_43, Pq.sb_44, Pq.sb_45, Pq.sb_46, Pq.sb_50, Pq.sb_51, Pq.sb_52, Pq.sb_53, Pq.sb_54, Pq.sb_55, Pq.sb_56, Pq.sb_60, Pq.sb_61, Pq.sb_62, Pq.sb_63, Pq.sb_64, Pq.sb_65, Pq.sb_66, Pq.retO_im, Pq.retO_ow, Pq.retO_br, Pq.retK_s, Pq.isIo_fv, Pq.notOwn_fv, Pq.frz_fv, Pq.isIo_im, Pq.isIo_ow, Pq.isIo_io, Pq.isIo_n, Pq.isIo_s, Pq.pset_n, Pq.pset_c, Pq.psetG_n, Pq.psetG_i, Pq.psetG_o, Pq.pnt_nm, Pq.pnt_tp, Pq.pnt_tpl, Pq.ex_im, Pq.setIx_li, Pq.setK_s, Pq.prunT_n, Pq.prunT_c, Pq.pgT_t, Pq.wq_mt, Pq.isLK_s, Pq.mtK_s, Pq.qAppend_1, Pq.qReverse_0, Pq.qClear_0, Pq.qInsert_2, Pq.okw_n, Pq.all_n, Pq.pdiV_ap, Pq.pitV_e, Pq.pitK_l, Pq.pitK_lo, Pq.pitK_lb, Pq.pitK_t, Pq.pitK_f, Pq.pitK_s, Pq.pdiR1_ap, Pq.pdiR2_ap, Pq.pdiR1_e, Pq.pdiR2_e, Pq.pdiE_ap, Pq.penO_ol, Pq.penO_il, Pq.wq_comp, Pq.pYes_ap, Pq.wipeP_n, Pq.wipeP_c, Pq.restP_n, Pq.restP_c, Pq.notOwn_0, Pq.notOwn_1, Pq.notOwn_2, Pq.notOwn_3, Pq.notOwn_s, Pq.all_c, Pq.all_e, Pq.Kf_nx, Pq.Kf_rt, Pq.Kf_ex, Pq.wout_e, Pq.outK_n, Pq.outK_f, Pq.outK_t, Pq.contK_s, Pq.start_n, Pq.start_t, Pq.start_f, Pq.Kin_nx, Pq.Kin_ct, Pq.Kin_bk, Pq.Kin_rt, Pq.Kin_ex, Pq.atI_0, Pq.atI_1, Pq.atI_2, Pq.atI_3, Pq.atI_4, List.set_cons_succ, List.set_cons_zero, List.map_cons, List.map_nil, List.cons_append, List.nil_append, List.length_cons, List.length_nil, List.replicate_succ, List.replicate_zero, List.append_nil, Nat.reduceSub, Nat.reduceAdd, Nat.reduceMul, Int.reduceAdd, Int.reduceSub, Int.reduceMul, Int.reduceNeg, Int.reduceLT, Int.reduceLE, Nat.reduceLeDiff, Nat.reduceLT, decide_true, decide_false, Int.reduceToNat, Bool.not_true, Bool.not_false, and_true, true_and, and_self, true_or, or_true, List.set_nil, Int.reduceMod, Int.reduceDiv, Int.reducePow, Int.cast_ofNat_Int, Int.reduceEq, Int.reduceNe, Nat.reduceEqDiff, eq_self, false_and, and_false, Nat.zero_add, Int.zero_add, Int.add_zero, or_false, false_or, Option.getD_some, Option.getD_none, List.getElem?_cons_zero, List.getElem?_cons_succ, reduceIte, Bool.and_self, Bool.or_self, Bool.and_true, Bool.true_and, Bool.and_false, Bool.false_and, Bool.or_true, Bool.or_false, Bool.true_or, Bool.false_or, Bool.false_eq_true, Bool.true_eq_false, not_true_eq_false, not_false_eq_true])
namespace Pq
open PySem L2 Mi
def b_l_box : SD :=
    (sSeq (sSet 2 (dIf (dT (dOp fLt (dVar 1) (dB bLen (aCons (dVar 0) aNil)))) (dOp fIx (dVar 0) (dVar 1)) (dC (.int 0))))
    (sRet (dLst (vCons (dOp fMul (dB bAbs (aCons (dVar 2) aNil)) (dB bInt (aCons (dOp fGe (dB bAbs (aCons (dVar 2) aNil)) (dC (.int 1000000000000000000))) aNil))) (vCons (dOp fMod (dOp fMul (dOp fAdd (dOp fAdd (dOp fMod (dVar 2) (dC (.int 2147483629))) (dOp fMul (dC (.int 15485863)) (dVar 1))) (dC (.int 37))) (dC (.int 48271))) (dC (.int 2147483647))) (vCons (dC (.int 0)) vNil))))))
def f_l_box : DF := runB 3 b_l_box
def b_l_take : SD :=
    (sSeq (sIf (dT (dOp fGt (dOp fIx (dVar 0) (dC (.int 0))) (dC (.int 0)))) (sSeq (sAsg (dB bDivmod (aCons (dOp fIx (dVar 0) (dC (.int 0))) (aCons (dVar 1) aNil))) (tdT [(tdSub (dVar 0) (dC (.int 0))), (tdN (.nm 2))]))
    (sRet (dVar 2))) sNil)
    (sSeq (sAsg (dOp fAdd (dOp fIx (dVar 0) (dC (.int 2))) (dC (.int 1))) (tdSub (dVar 0) (dC (.int 2))))
    (sSeq (sSet 3 (dOp fAdd (dC (.int 69621)) (dOp fMul (dOp fIx (dVar 0) (dC (.int 2))) (dOp fIx (dVar 0) (dC (.int 2))))))
    (sSeq (sSet 4 (dOp fMod (dOp fMul (dOp fAdd (dOp fIx (dVar 0) (dC (.int 1))) (dOp fMul (dC (.int 39373)) (dOp fIx (dVar 0) (dC (.int 2))))) (dVar 3)) (dC (.int 2147483587))))
    (sSeq (sSet 5 (dOp fMod (dOp fAdd (dOp fMul (dVar 4) (dOp fAdd (dOp fMod (dVar 4) (dC (.int 30011))) (dC (.int 5)))) (dOp fIx (dVar 0) (dC (.int 2)))) (dC (.int 2147483563))))
    (sRet (dOp fMod (dOp fFdiv (dOp fMod (dOp fMul (dVar 5) (dOp fAdd (dOp fMod (dVar 5) (dC (.int 1013))) (dC (.int 3)))) (dC (.int 998244353))) (dC (.int 16))) (dVar 1))))))))
def f_l_take : DF := runB 6 b_l_take
def b_l_folded : SD :=
    (sSeq (sSet 2 (dB bList (aCons (dSl (dVar 0) oNone (oSome (dVar 1))) aNil)))
    (sSeq (sFor (diE (dSl (dVar 0) (oSome (dVar 1)) (oSome (dC (.int 63))))) (.tp [3, 4]) (sAsg (dOp fAdd (dOp fIx (dVar 2) (dOp fMod (dVar 3) (dVar 1))) (dOp fMul (dVar 4) (dOp fAdd (dVar 3) (dC (.int 2))))) (tdSub (dVar 2) (dOp fMod (dVar 3) (dVar 1)))))
    (sRet (dVar 2))))
def f_l_folded : DF := runB 5 b_l_folded
def pb_l_box : PSD :=
    (pSeq (pSet 2 (pIf (pT (pOp pLt (pVar 1) (pB qLen (paCons (pVar 0) paNil)))) (pOp pIx (pVar 0) (pVar 1)) (pC (.int 0))))
    (pRet (pLst (pvCons (pOp pMul (pB qAbs (paCons (pVar 2) paNil)) (pB qInt (paCons (pOp pGe (pB qAbs (paCons (pVar 2) paNil)) (pC (.int 1000000000000000000))) paNil))) (pvCons (pOp pMod (pOp pMul (pOp pAdd (pOp pAdd (pOp pMod (pVar 2) (pC (.int 2147483629))) (pOp pMul (pC (.int 15485863)) (pVar 1))) (pC (.int 37))) (pC (.int 48271))) (pC (.int 2147483647))) (pvCons (pC (.int 0)) pvNil))))))
def pf_l_box : PFn := runP [false, false] 3 pb_l_box
def pb_l_take : PSD :=
    (pSeq (pIfS (pT (pOp pGt (pOp pIx (pVar 0) (pC (.int 0))) (pC (.int 0)))) (pSeq (pAsg (pB qDivmod (paCons (pOp pIx (pVar 0) (pC (.int 0))) (paCons (pVar 1) paNil))) (pgT [(pgSub 0 (pC (.int 0))), (pnt (.nm 2))]))
    (pRet (pVar 2))) (pNil))
    (pSeq (pAsg (pOp pAdd (pOp pIx (pVar 0) (pC (.int 2))) (pC (.int 1))) (pgSub 0 (pC (.int 2))))
    (pSeq (pSet 3 (pOp pAdd (pC (.int 69621)) (pOp pMul (pOp pIx (pVar 0) (pC (.int 2))) (pOp pIx (pVar 0) (pC (.int 2))))))
    (pSeq (pSet 4 (pOp pMod (pOp pMul (pOp pAdd (pOp pIx (pVar 0) (pC (.int 1))) (pOp pMul (pC (.int 39373)) (pOp pIx (pVar 0) (pC (.int 2))))) (pVar 3)) (pC (.int 2147483587))))
    (pSeq (pSet 5 (pOp pMod (pOp pAdd (pOp pMul (pVar 4) (pOp pAdd (pOp pMod (pVar 4) (pC (.int 30011))) (pC (.int 5)))) (pOp pIx (pVar 0) (pC (.int 2)))) (pC (.int 2147483563))))
    (pRet (pOp pMod (pOp pFdiv (pOp pMod (pOp pMul (pVar 5) (pOp pAdd (pOp pMod (pVar 5) (pC (.int 1013))) (pC (.int 3)))) (pC (.int 998244353))) (pC (.int 16))) (pVar 1))))))))
def pf_l_take : PFn := runP [true, false] 6 pb_l_take
def pb_l_folded : PSD :=
    (pSeq (pSetA 2 (pB qList (paCons (pSl (pVar 0) pNone (pSome (pVar 1))) paNil)))
    (pSeq (pFor (pdiE (pSl (pVar 0) (pSome (pVar 1)) (pSome (pC (.int 63))))) (.tp [3, 4]) (pAsg (pOp pAdd (pOp pIx (pVar 2) (pOp pMod (pVar 3) (pVar 1))) (pOp pMul (pVar 4) (pOp pAdd (pVar 3) (pC (.int 2))))) (pgSub 2 (pOp pMod (pVar 3) (pVar 1)))))
    (pRet (pVar 2))))
def pf_l_folded : PFn := runP [false, false] 5 pb_l_folded
theorem pu_l_box : PuF f_l_box [false, false] pf_l_box := pu_f 3 [false, false] (pu_seq (pu_set 2 (pu_if (pu_T (pu_op f2_lt (pu_var 1) (pu_b fa_len (pu_aCons (pu_var 0) pu_aNil)))) (pu_op f2_ix (pu_var 0) (pu_var 1)) (pu_ci)))
    (pu_ret (pu_lst (pu_vCons (pu_op f2_mul (pu_b fa_abs (pu_aCons (pu_var 2) pu_aNil)) (pu_b fa_int (pu_aCons (pu_op f2_ge (pu_b fa_abs (pu_aCons (pu_var 2) pu_aNil)) (pu_ci)) pu_aNil))) (pu_vCons (pu_op f2_mod (pu_op f2_mul (pu_op f2_add (pu_op f2_add (pu_op f2_mod (pu_var 2) (pu_ci)) (pu_op f2_mul (pu_ci) (pu_var 1))) (pu_ci)) (pu_ci)) (pu_ci)) (pu_vCons (pu_ci) pu_vNil))))))
theorem pu_l_take : PuF f_l_take [true, false] pf_l_take := pu_f 6 [true, false] (pu_seq (pu_ifS (pu_T (pu_op f2_gt (pu_op f2_ix (pu_var 0) (pu_ci)) (pu_ci))) (pu_seq (pu_asg (pu_b fa_divmod (pu_aCons (pu_op f2_ix (pu_var 0) (pu_ci)) (pu_aCons (pu_var 1) pu_aNil))) (pu_gT (PuGs.cons (pu_gSub 0 (pu_ci)) (PuGs.cons (pu_gN (.nm 2)) PuGs.nil))))
    (pu_ret (pu_var 2))) (pu_nil))
    (pu_seq (pu_asg (pu_op f2_add (pu_op f2_ix (pu_var 0) (pu_ci)) (pu_ci)) (pu_gSub 0 (pu_ci)))
    (pu_seq (pu_set 3 (pu_op f2_add (pu_ci) (pu_op f2_mul (pu_op f2_ix (pu_var 0) (pu_ci)) (pu_op f2_ix (pu_var 0) (pu_ci)))))
    (pu_seq (pu_set 4 (pu_op f2_mod (pu_op f2_mul (pu_op f2_add (pu_op f2_ix (pu_var 0) (pu_ci)) (pu_op f2_mul (pu_ci) (pu_op f2_ix (pu_var 0) (pu_ci)))) (pu_var 3)) (pu_ci)))
    (pu_seq (pu_set 5 (pu_op f2_mod (pu_op f2_add (pu_op f2_mul (pu_var 4) (pu_op f2_add (pu_op f2_mod (pu_var 4) (pu_ci)) (pu_ci))) (pu_op f2_ix (pu_var 0) (pu_ci))) (pu_ci)))
    (pu_ret (pu_op f2_mod (pu_op f2_fdiv (pu_op f2_mod (pu_op f2_mul (pu_var 5) (pu_op f2_add (pu_op f2_mod (pu_var 5) (pu_ci)) (pu_ci))) (pu_ci)) (pu_ci)) (pu_var 1))))))))
theorem pu_l_folded : PuF f_l_folded [false, false] pf_l_folded := pu_f 5 [false, false] (pu_seq (pu_setA 2 (pu_b fa_list (pu_aCons (pu_sl (pu_var 0) pu_oNone (pu_oSome (pu_var 1))) pu_aNil)))
    (pu_seq (pu_for (.tp [3, 4]) (pu_iE (pu_sl (pu_var 0) (pu_oSome (pu_var 1)) (pu_oSome (pu_ci)))) (pu_asg (pu_op f2_add (pu_op f2_ix (pu_var 2) (pu_op f2_mod (pu_var 3) (pu_var 1))) (pu_op f2_mul (pu_var 4) (pu_op f2_add (pu_var 3) (pu_ci)))) (pu_gSub 2 (pu_op f2_mod (pu_var 3) (pu_var 1)))))
    (pu_ret (pu_var 2))))
def Bx (k : Nat) (d : PV) : Prop := ∃ a s c : Int, d = .lst [.int a, .int s, .int c] ∧ 0 ≤ a ∧ 0 ≤ s ∧ s < 2147483647 ∧ 0 ≤ c ∧ c + k ≤ 1000000000
theorem Bx.mono {d : PV} {k m : Nat} (x : Bx k d) (l : m ≤ k) : Bx m d := by
  obtain ⟨a, s, c, e, q1, q2, q3, q4, q5⟩ := x
  exact ⟨a, s, c, e, q1, q2, q3, q4, by omega⟩
theorem take_ok {b : PV} {k : Nat} {z : Int} {P : PO → List PV → Prop} {X : XF} (B : Bx k b) (hk : 0 < k) (z0 : 0 < z) (z1 : z < 18446744073709551616)
    (g : ∀ v b', 0 ≤ v → v < z → Bx (k - 1) b' → P (.im (.int v)) [b', .non]) : @wf (pf_l_take [b, .int z]) ⟨P⟩ ⟨X⟩ := by
  obtain ⟨a, s, c, rfl, a0, s0, s1, c0, c1⟩ := B
  unfold pf_l_take pb_l_take
  walk_at "pwp"
  refine wi_d (fun ha => ?_) fun ha => ?_
  · walk_at "pwp"
    refine wn_i ⟨z0, z1⟩ ?_
    (repeat (first | walk_at "pwp" | simp only [show ixN 3 0 = some 0 from rfl]))
    exact g _ _ (Int.emod_nonneg _ (by omega)) (Int.emod_lt_of_pos _ z0) ⟨a / z, s, c, rfl, Int.ediv_nonneg a0 (by omega), s0, s1, c0, by omega⟩
  · (repeat (first | walk_at "pwp" | refine wn_i (by omega) ?_ | simp only [show ixN 3 2 = some 2 from rfl]))
    generalize hx : (s + 39373 * (c + 1)) * (69621 + (c + 1) * (c + 1)) % 2147483587 = x
    have x0 : 0 ≤ x := by rw [← hx]; exact Int.emod_nonneg _ (by decide)
    have x1 : x < 2147483587 := by rw [← hx]; exact Int.emod_lt_of_pos _ (by decide)
    (repeat (first | walk_at "pwp" | refine wn_i (by omega) ?_))
    generalize hy : (x * (x % 30011 + 5) + (c + 1)) % 2147483563 = y
    have y0 : 0 ≤ y := by rw [← hy]; exact Int.emod_nonneg _ (by decide)
    have y1 : y < 2147483563 := by rw [← hy]; exact Int.emod_lt_of_pos _ (by decide)
    (repeat (first | walk_at "pwp" | refine wn_i (by omega) ?_))
    exact g _ _ (Int.emod_nonneg _ (by omega)) (Int.emod_lt_of_pos _ z0) ⟨a, s, c + 1, rfl, a0, s0, s1, by omega, by omega⟩
theorem box_ok {cs : List Int} {z : Int} {P : PO → List PV → Prop} {X : XF} (z0 : 0 ≤ z)
    (g : ∀ b, Bx 1000000000 b → P (.ow b) [.non, .non]) : @wf (pf_l_box [.lst (cs.map PV.int), .int z]) ⟨P⟩ ⟨X⟩ := by
  have last : ∀ c : Int, P (.ow (.lst [.int ((if c < 0 then -c else c) * (if decide (1000000000000000000 ≤ (if c < 0 then -c else c)) then 1 else 0)), .int ((c % 2147483629 + 15485863 * z + 37) * 48271 % 2147483647), .int 0])) [.non, .non] := fun c =>
    g _ ⟨_, _, _, rfl, Int.mul_nonneg (by split <;> omega) (by split <;> omega), Int.emod_nonneg _ (by decide), Int.emod_lt_of_pos _ (by decide), by omega, by omega⟩
  unfold pf_l_box pb_l_box
  walk_at "pwp"
  refine wi_d (fun hz => ?_) fun hz => ?_
  · obtain ⟨x, e1, e2, e3⟩ := atI_lt z0 hz
    obtain ⟨c, _, rfl⟩ := List.mem_map.mp e3
    (repeat (first | walk_at "pwp" | simp only [e1]))
    refine wn_i (by right; split <;> omega) ?_
    (repeat (first | walk_at "pwp" | refine wn_i (by omega) ?_))
    exact last c
  · walk_at "pwp"
    simpa using last 0
theorem cutL_map {α β : Type} (f : α → β) (xs : List α) (lo hi : Option Int) : cutL (xs.map f) lo hi = (cutL xs lo hi).map f := by
  simp [cutL, List.map_drop, List.map_take]
theorem cutL_to {α : Type} (xs : List α) (k : Nat) : cutL xs none (some (k : Int)) = xs.take k := by
  simp only [cutL, HT.sIx_none, HT.sIx_nat, List.drop_zero, Nat.sub_zero]
  rcases Nat.le_total k xs.length with l | l
  · rw [Nat.min_eq_left l]
  · rw [Nat.min_eq_right l, List.take_of_length_le (Nat.le_refl _), List.take_of_length_le l]
theorem cutL_mid {α : Type} (xs : List α) (k m : Nat) : ∃ n, cutL xs (some (k : Int)) (some (m : Int)) = (xs.drop k).take n := by
  simp only [cutL, HT.sIx_nat]
  rcases Nat.le_total k xs.length with l | l
  · rw [Nat.min_eq_left l]; exact ⟨_, rfl⟩
  · refine ⟨0, ?_⟩
    rw [Nat.min_eq_right l]; simp
theorem enumP_cons (j : Nat) (x : PV) (xs : List PV) : enumP j (x :: xs) = .tup [.int j, x] :: enumP (j + 1) xs := rfl
theorem folded_ok {ns : List Int} {k : Nat} {P : PO → List PV → Prop} {X : XF} (hl : ns.length ≤ 63) (k0 : 0 < k) (k1 : k ≤ 63)
    (go : ∀ cs : List Int, cs.length ≤ k → P (.ow (.lst (cs.map PV.int))) [.non, .non]) : @wf (pf_l_folded [.frz (ns.map PV.int), .int k]) ⟨P⟩ ⟨X⟩ := by
  unfold pf_l_folded pb_l_folded
  (repeat (first | walk_at "pwp" | simp only [cutL_map, cutL_to]))
  obtain ⟨n, en⟩ := cutL_mid ns k 63
  have en : cutL ns (some (k : Int)) (some 63) = (ns.drop k).take n := en
  rw [en]
  have rl : ((ns.drop k).take n).length ≤ 63 := by simp; omega
  have rk : (ns.drop k).take n ≠ [] → (ns.take k).length = k := fun z => by
    have : ns.drop k ≠ [] := fun q => z (by rw [q]; simp)
    have : 0 < (ns.drop k).length := List.length_pos_iff.mpr this
    simp at this ⊢; omega
  generalize (ns.drop k).take n = rest at rl rk
  have ck : (ns.take k).length ≤ k := by simp; omega
  rw [← List.map_take]
  generalize ns.take k = cs0 at rk ck
  refine ws_forL (fun xs π => ∃ (j : Nat) (rest cs : List Int) (u v : Option PV), xs = enumP j (rest.map PV.int) ∧ j + rest.length ≤ 63 ∧ (rest ≠ [] → cs.length = k) ∧ cs.length ≤ k ∧ π = [some (.im (.frz (ns.map PV.int))), some (.im (.int k)), some (.ow (.lst (cs.map PV.int))), fv u, fv v]) _ _ ⟨0, rest, cs0, none, none, rfl, by omega, rk, ck, rfl⟩ ?_ ?_
  · rintro x xs π ⟨j, rest, cs, u, v, ex, jl, rk, ck, rfl⟩
    refine ⟨rfl, ?_⟩
    cases rest with
    | nil => cases ex
    | cons y ys =>
      rw [List.map_cons, enumP_cons] at ex
      obtain ⟨rfl, rfl⟩ := List.cons.inj ex
      have lk : cs.length = k := rk (by simp)
      have m0 : 0 ≤ (j : Int) % (k : Int) := Int.emod_nonneg _ (by omega)
      have m1 : (j : Int) % (k : Int) < k := Int.emod_lt_of_pos _ (by omega)
      obtain ⟨x, e1, e2, e3⟩ := atI_lt (xs := cs.map PV.int) m0 (by simp [lk]; omega)
      obtain ⟨c, _, rfl⟩ := List.mem_map.mp e3
      have ei : ixN (cs.map PV.int).length ((j : Int) % (k : Int)) = some ((j : Int) % (k : Int)).toNat := ixN_ok m0 (by simp [lk]; omega)
      simp only [List.length_cons] at jl
      (repeat (first | walk_at "pwp" | refine wn_i (by omega) ?_ | simp only [e1, ei]))
      exact ⟨j + 1, ys, cs.set ((j : Int) % (k : Int)).toNat (c + y * (j + 2)), some (.int j), some (.int y), rfl, by omega, fun _ => by simpa using lk, by simpa using ck, by simp [List.map_set, fv]⟩
  · rintro π ⟨j, rest, cs, u, v, ex, jl, rk, ck, rfl⟩
    refine ⟨rfl, ?_⟩
    walk_at "pwp"
    exact go cs ck
end Pq

end
section
local macro_rules | `(tactic| walk_at "pwp") => `(tactic| simp -implicitDefEqProofs only [Pq.pSortC_ap, Pq.sortCO_s, Pq.pdiC_ap, Pq.qRevA_s, Pq.qRevA_t, Pq.qRevA_l, Pq.pMsN_ap, Pq.msN_s, Pq.msNO_s, Pq.pMi_ap, Pq.miA_b, Pq.miA_i, Pq.miB_s, Pq.miR_s, Pq.qExtend_l, Pq.pBn_ap, Pq.newK_s, Pq.newO_s, Pq.pNewK_ap, Pq.pNewT_ap, Pq.getA_K, Pq.getA_T, Pq.getA_Ki, Pq.getA_Ti, Pq.getB_s, Pq.getR_s, Pq.getR_n, Pq.dgetP_s, Pq.dgetP_i, Pq.dgetP_ss, Pq.dgetP_si, Pq.dgetP_ssi, Pq.ixR_s, Pq.pIx_ds, Pq.pIx_di, Pq.pIx_dt, Pq.pIn_ds, Pq.pIn_dt, Pq.pNotIn_ds, Pq.pNotIn_dt, Pq.inR_s, Pq.inO_f, Pq.inO_t, Pq.setIx_dK, Pq.setIx_dT_ss, Pq.setIx_dT_si, Pq.setIx_dT_ssi, Pq.qSortedK_d, Pq.skK_s, Option.isSome_some, Option.isSome_none, Pq.qListS_s, Pq.qListS_t, Pq.pDispC_ap, Pq.pGet2_ap, Pq.pntL_l, Pq.qIsNo_b, Pq.tyP_k, Pq.pdiZK_ap, Pq.zkK_t, Pq.qLenK_k, Pq.pIsN_k, Pq.flatC_n1, Pq.flatC_n2, Pq.flatC_n3, Pq.flatO_b, Pq.flatO_i, Pq.flatO_s, Pq.pIsN_b, Pq.pIsN_i, Pq.pIsN_s, Pq.pIsN_t, Pq.pIsN_l, Pq.pNotN_b, Pq.pNotN_i, Pq.pNotN_s, Pq.pNotN_t, Pq.pNotN_l, Pq.pdiZ_ap, Pq.zK_l, Pq.zK_t, Pq.pLtT_is, Pq.qIs_b, Pq.qInR_i, Pq.pSortK_ap, Pq.isIo_fw, Pq.pIn_t2, Pq.pNotIn_t2, Pq.pRev_t, Pq.pRev_l, Pq.pIn_sc, Pq.pIn_strs, Pq.qsJoin_l, Pq.pMs_ap, Pq.msK_s, Pq.ms2_s, Pq.wq_ms2i, Pq.wf_run, Pq.wf_ok, Pq.wf_ex, Pq.ws_nil, Pq.ws_seq, Pq.ws_ret, Pq.ws_retN, Pq.ws_raise, Pq.ws_expr, Pq.ws_set, Pq.ws_setA, Pq.wsetA_im, Pq.wsetA_ow, Pq.ws_if, Pq.ws_brk, Pq.ws_cnt, Pq.ws_aug, Pq.ws_par, Pq.ws_parG, Pq.ws_asg, Pq.ws_frz, Pq.ws_for, Pq.frz_0, Pq.frz_0i, Pq.frz_0n, Pq.frz_0o, Pq.frz_s, Pq.wg_go, Pq.wi_t, Pq.wi_f, Pq.wn_t, Pq.wq_ok, Pq.wq_ex, Pq.wq_bind, Pq.wq_optS, Pq.wq_gd, Pq.wq_szs, Pq.wq_optI, Pq.wq_ite, Pq.wq_br, Pq.bq_ok, Pq.brq_t, Pq.brq_f, Pq.wo_s, Pq.wo_n, Pq.wo_ite, Pq.wo_some_ite, Pq.wo_sub, Pq.pVar_s, Pq.pVar_im, Pq.pVar_ow, Pq.pVar_io, Pq.ps_0, Pq.ps_s, Pq.pC_ap, Pq.pOp_ap, Pq.pU_ap, Pq.pT_ap, Pq.pbAnd_ap, Pq.pbOr_ap, Pq.pbNot_ap, Pq.pAnd_ap, Pq.pOr_ap, Pq.pNot_ap, Pq.pIf_ap, Pq.pCh_ap, Pq.pCh3_ap, Pq.pasB_b, Pq.see2_e, Pq.see1_e, Pq.seeA_e, Pq.opt2_s, Pq.opt1_s, Pq.optA_s, Pq.pv_im, Pq.pv_ow, Pq.pv_br, Pq.ownK_ow, Pq.ownK_io, Pq.pvAll_n, Pq.pvAll_c, Pq.pvC_s, Pq.paNil_ap, Pq.paCons_ap, Pq.pB_ap, Pq.poI_im, Pq.poI_ow, Pq.pvNil_ap, Pq.pvCons_ap, Pq.pTup_ap, Pq.pLst_ap, Pq.pgNil_ap, Pq.pgCons_ap, Pq.argO_1, Pq.argO_2, Pq.argO_3, Pq.argO_4, Pq.argO_5, Pq.pNone_ap, Pq.asIq_i, Pq.pSome_ap, Pq.pSl_ap, Pq.pCall_ap, Pq.wq_call, Pq.callOk_e, Pq.brs_n, Pq.brs_br, Pq.brs_im, Pq.brs_ow, Pq.owc_n, Pq.owc_br, Pq.owc_im, Pq.owc_ow, Pq.nodB_n, Pq.nodB_1, Pq.nodB_2, Pq.nodB_3, Pq.imb_n, Pq.imb_f, Pq.imb_t, Pq.imb_fi, Pq.imb_fo, Pq.callFl_e, Pq.isE_n, Pq.isE_c, Pq.putO_n, Pq.putO_b, Pq.putO_f, Pq.putO_im, Pq.putO_ow, Pq.upd_0, Pq.upd_s, Pq.PS_put_im, Pq.PS_put_ow, Pq.PS_put_io, Pq.pAdd_ii, Pq.pAdd_ss, Pq.pAdd_ll, Pq.pAdd_tt, Pq.pSub_ii, Pq.pMul_ii, Pq.pMul_si, Pq.pMul_li, Pq.pMod_ii, Pq.pFdiv_ii, Pq.pPow_ii, Pq.pNeg_i, Pq.pLt_ii, Pq.pLe_ii, Pq.pGt_ii, Pq.pGe_ii, Pq.pLt_ss, Pq.pLe_ss, Pq.pAddI_ii, Pq.pAddI_ss, Pq.ixK_s, Pq.pIx_l, Pq.pIx_t, Pq.pIx_f, Pq.pSlF_l, Pq.pSlF_t, Pq.pSlF_f, Pq.pSlF_s, Pq.pEq_ii, Pq.pNe_ii, Pq.pEq_ss, Pq.pNe_ss, Pq.pEq_bb, Pq.pNe_bb, Pq.pIsN_n, Pq.pNotN_n, Pq.qLen_l, Pq.qLen_t, Pq.qLen_f, Pq.qLen_d, Pq.qLen_s, Pq.qAbs_i, Pq.qInt_i, Pq.qInt_b, Pq.qMax_ii, Pq.qMin_ii, Pq.qDivmod_ii, Pq.qList_l, Pq.qList_t, Pq.qList_f, Pq.qTuple_l, Pq.qTuple_t, Pq.qTuple_f, Pq.qStr_s, Pq.qStr_i, Pq.qStr_b, Pq.qStr_n, Pq.qIsi_e, Pq.qIsi2_e, Pq.tyP_1, Pq.tyP_2, Pq.tyP_3, Pq.tyP_4, Pq.tyP_5, Pq.tyP_6, Pq.tyP_7, Pq.tyP_8, Pq.sb_00, Pq.sb_01, Pq.sb_02, Pq.sb_03, Pq.sb_04, Pq.sb_05, Pq.sb_06, Pq.sb_10, Pq.sb_11, Pq.sb_12, Pq.sb_13, Pq.sb_14, Pq.sb_15, Pq.sb_16, Pq.sb_20, Pq.sb_21, Pq.sb_22, Pq.sb_23, Pq.sb_24, Pq.sb_25, Pq.sb_26, Pq.sb_30, Pq.sb_31, Pq.sb_32, Pq.sb_33, Pq.sb_34, Pq.sb_35, Pq.sb_36, Pq.sb_40, Pq.sb_41, Pq.sb_42, Pq.sb_43, Pq.sb_44, Pq.sb_45, Pq.sb_46, Pq.sb_50, Pq.sb_51, Pq.sb_52, Pq.sb_53, Pq.sb_54, Pq.sb_55, Pq.sb_56, Pq.sb_60, Pq.sb_61, Pq.sb_62, Pq.sb_63, Pq.sb_64, Pq.sb_65, Pq.sb_66, Pq.retO_im, Pq.retO_ow, Pq.retO_br, Pq.retK_s, Pq.isIo_fv, Pq.notOwn_fv, Pq.frz_fv, Pq.isIo_im, Pq.isIo_ow, Pq.isIo_io, Pq.isIo_n, Pq.isIo_s, Pq.pset_n, Pq.pset_c, Pq.psetG_n, Pq.psetG_i, Pq.psetG_o, Pq.pnt_nm, Pq.pnt_tp, Pq.pnt_tpl, Pq.ex_im, Pq.setIx_li, Pq.setK_s, Pq.prunT_n, Pq.prunT_c, Pq.pgT_t, Pq.wq_mt, Pq.isLK_s, Pq.mtK_s, Pq.qAppend_1, Pq.qReverse_0, Pq.qClear_0, Pq.qInsert_2, Pq.okw_n, Pq.all_n, Pq.pdiV_ap, Pq.pitV_e, Pq.pitK_l, Pq.pitK_lo, Pq.pitK_lb, Pq.pitK_t, Pq.pitK_f, Pq.pitK_s, Pq.pdiR1_ap, Pq.pdiR2_ap, Pq.pdiR1_e, Pq.pdiR2_e, Pq.pdiE_ap, Pq.penO_ol, Pq.penO_il, Pq.wq_comp, Pq.pYes_ap, Pq.wipeP_n, Pq.wipeP_c, Pq.restP_n, Pq.restP_c, Pq.notOwn_0, Pq.notOwn_1, Pq.notOwn_2, Pq.notOwn_3, Pq.notOwn_s, Pq.all_c, Pq.all_e, Pq.Kf_nx, Pq.Kf_rt, Pq.Kf_ex, Pq.wout_e, Pq.outK_n, Pq.outK_f, Pq.outK_t, Pq.contK_s, Pq.start_n, Pq.start_t, Pq.start_f, Pq.Kin_nx, Pq.Kin_ct, Pq.Kin_bk, Pq.Kin_rt, Pq.Kin_ex, Pq.atI_0, Pq.atI_1, Pq.atI_2, Pq.atI_3, Pq.atI_4, List.set_cons_succ, List.set_cons_zero, List.map_cons, List.map_nil, List.cons_append, List.nil_append, List.length_cons, List.length_nil, List.replicate_succ, List.replicate_zero, List.append_nil, Nat.reduceSub, Nat.reduceAdd, Nat.reduceMul, Int.reduceAdd, Int.reduceSub, Int.reduceMul, Int.reduceNeg, Int.reduceLT, Int.reduceLE, Nat.reduceLeDiff, Nat.reduceLT, decide_true, decide_false, Int.reduceToNat, Bool.not_true, Bool.not_false, and_true, true_and, and_self, true_or, or_true, List.set_nil, Int.reduceMod, Int.reduceDiv, Int.reducePow, Int.cast_ofNat_Int, Int.reduceEq, Int.reduceNe, Nat.reduceEqDiff, eq_self, false_and, and_false, Nat.zero_add, Int.zero_add, Int.add_zero, or_false, false_or, Option.getD_some, Option.getD_none, List.getElem?_cons_zero, List.getElem?_cons_succ, reduceIte, Bool.and_self, Bool.or_self, Bool.and_true, Bool.true_and, Bool.and_false, Bool.false_and, Bool.or_true, Bool.or_false, Bool.true_or, Bool.false_or, Bool.false_eq_true, Bool.true_eq_false, not_true_eq_false, not_false_eq_true])
namespace Pq
open PySem L2 Mi PyProof.Rows
def b_l_names : SD :=
    (sSeq (sPar [2, 3] (vCons (dC (.str [97, 98, 99, 100, 101, 102, 103, 104, 105, 106, 107, 108, 109, 110, 111, 112, 113, 114, 115, 116, 117, 118, 119, 120, 121, 122])) (vCons (dLst vNil) vNil)))
    (sSeq (sPar [4, 5] (vCons (dOp fIx (dLst (vCons (dC (.int 1)) (vCons (dC (.int 3)) (vCons (dC (.int 5)) (vCons (dC (.int 7)) (vCons (dC (.int 9)) (vCons (dC (.int 11)) (vCons (dC (.int 15)) (vCons (dC (.int 17)) vNil))))))))) (dCall 2 f_l_take (vCons (dVar 0) (vCons (dC (.int 8)) vNil)))) (vCons (dCall 2 f_l_take (vCons (dVar 0) (vCons (dC (.int 26)) vNil))) vNil)))
    (sSeq (sSet 6 (dLst (vCons (dC (.str [105, 110])) (vCons (dC (.str [104, 101, 97, 100, 115])) (vCons (dC (.str [97, 108, 108, 111, 119])) (vCons (dC (.str [98, 97, 100])) (vCons (dC (.str [115, 117, 114, 118, 101, 121])) (vCons (dC (.str [108, 111, 115, 116])) (vCons (dC (.str [100, 114, 97, 119])) (vCons (dC (.str [115, 101, 110, 100])) (vCons (dC (.str [101, 97, 116, 101, 110])) (vCons (dC (.str [115, 112, 111, 105, 108, 116])) (vCons (dC (.str [110, 111, 110, 101])) (vCons (dC (.str [115, 104, 105, 112])) (vCons (dC (.str [112, 97, 103, 101])) vNil)))))))))))))))
    (sSeq (sFor (diR1 (dVar 1)) (.nm 7) (sSeq (sSet 8 (dOp fAdd (dOp fIx (dVar 2) (dOp fMod (dOp fAdd (dOp fMul (dVar 7) (dVar 4)) (dVar 5)) (dC (.int 26)))) (dOp fIx (dVar 2) (dOp fMod (dOp fAdd (dOp fMul (dOp fFdiv (dVar 7) (dC (.int 26))) (dC (.int 7))) (dVar 5)) (dC (.int 26))))))
    (sSeq (sSet 9 (dOp fAdd (dVar 8) (dMt isS mJoin (dC (.str [])) (vCons (dComp [10] (diR1 (dCall 2 f_l_take (vCons (dVar 0) (vCons (dC (.int 7)) vNil)))) (.nm 10) tYesB (dOp fIx (dVar 2) (dCall 2 f_l_take (vCons (dVar 0) (vCons (dC (.int 26)) vNil))))) vNil))))
    (sSeq (sIf ((bAnd (dT (dOp fLt (dVar 1) (dC (.int 14)))) (dT (dOp fEq (dCall 2 f_l_take (vCons (dVar 0) (vCons (dC (.int 3)) vNil))) (dC (.int 0)))))) (sSet 9 (dOp fIx (dVar 6) (dVar 7))) sNil)
    (sSeq (sFor (diV (dVar 2)) (.nm 11) (sIf (dT (dOp fIn (dVar 9) (dVar 3))) (sSet 9 (dOp fAdd (dVar 8) (dVar 11))) sNil))
    (sExpr (dMt isL (onL lAppend) (dVar 3) (vCons (dVar 9) vNil))))))))
    (sRet (dVar 3))))))
def f_l_names : DF := runB 12 b_l_names
def b_l_ounces : SD :=
    (sSeq (sSet 2 (dOp fIx (dLst (vCons (dC (.int 20)) (vCons (dC (.int 300)) (vCons (dC (.int 5000)) (vCons (dC (.int 1000000)) (vCons (dC (.int 1000000000)) vNil)))))) (dCall 2 f_l_take (vCons (dVar 0) (vCons (dOp fAdd (dC (.int 4)) (dB bInt (aCons (dVar 1) aNil))) vNil)))))
    (sRet (dOp fAdd (dC (.int 1)) (dCall 2 f_l_take (vCons (dVar 0) (vCons (dVar 2) vNil))))))
def f_l_ounces : DF := runB 3 b_l_ounces
def b_l_cask : SD :=
    (sSeq (sPar [4, 5] (vCons (dOp fIx (dVar 2) (dCall 2 f_l_take (vCons (dVar 0) (vCons (dB bLen (aCons (dVar 2) aNil)) vNil)))) (vCons (dOp fIx (dVar 3) (dCall 2 f_l_take (vCons (dVar 0) (vCons (dB bLen (aCons (dVar 3) aNil)) vNil)))) vNil)))
    (sSeq (sSet 6 (dOp fIx (dLst (vCons (dCall 2 f_l_take (vCons (dVar 0) (vCons (dC (.int 3)) vNil))) (vCons (dCall 2 f_l_take (vCons (dVar 0) (vCons (dC (.int 40)) vNil))) (vCons (dCall 2 f_l_take (vCons (dVar 0) (vCons (dC (.int 10000)) vNil))) vNil)))) (dCall 2 f_l_take (vCons (dVar 0) (vCons (dC (.int 3)) vNil)))))
    (sRet (dTup (vCons (dVar 1) (vCons (dVar 4) (vCons (dCall 2 f_l_ounces (vCons (dVar 0) (vCons (dC (.bl false)) vNil))) (vCons (dVar 5) (vCons (dVar 6) vNil)))))))))
def f_l_cask : DF := runB 7 b_l_cask
def b_l_part : SD :=
    (sSeq (sIf (dT (dOp fEq (dCall 2 f_l_take (vCons (dVar 0) (vCons (dC (.int 2)) vNil))) (dC (.int 0)))) (sRet (dOp fIx (dLst (vCons (dTup (vCons (dC (.int 1)) (vCons (dC (.int 1)) vNil))) (vCons (dTup (vCons (dC (.int 1)) (vCons (dC (.int 2)) vNil))) (vCons (dTup (vCons (dC (.int 2)) (vCons (dC (.int 3)) vNil))) vNil)))) (dCall 2 f_l_take (vCons (dVar 0) (vCons (dC (.int 3)) vNil))))) sNil)
    (sSeq (sSet 1 (dOp fAdd (dC (.int 1)) (dCall 2 f_l_take (vCons (dVar 0) (vCons (dC (.int 12)) vNil)))))
    (sSeq (sSet 2 (dOp fAdd (dC (.int 1)) (dCall 2 f_l_take (vCons (dVar 0) (vCons (dVar 1) vNil)))))
    (sSeq (sPar [3, 4] (vCons (dVar 2) (vCons (dVar 1) vNil)))
    (sSeq (sWhile 100000 (dT (dOp fGt (dVar 4) (dC (.int 0)))) (sPar [3, 4] (vCons (dVar 4) (vCons (dOp fMod (dVar 3) (dVar 4)) vNil))))
    (sRet (dTup (vCons (dOp fFdiv (dVar 2) (dVar 3)) (vCons (dOp fFdiv (dVar 1) (dVar 3)) vNil)))))))))
def f_l_part : DF := runB 5 b_l_part
def pb_l_names : PSD :=
    (pSeq (pParG [2, 3] (pgCons false (pC (.str [97, 98, 99, 100, 101, 102, 103, 104, 105, 106, 107, 108, 109, 110, 111, 112, 113, 114, 115, 116, 117, 118, 119, 120, 121, 122])) (pgCons true (pLst pvNil) pgNil)))
    (pSeq (pPar [4, 5] (pvCons (pOp pIx (pLst (pvCons (pC (.int 1)) (pvCons (pC (.int 3)) (pvCons (pC (.int 5)) (pvCons (pC (.int 7)) (pvCons (pC (.int 9)) (pvCons (pC (.int 11)) (pvCons (pC (.int 15)) (pvCons (pC (.int 17)) pvNil))))))))) (pCall [true, false] pf_l_take (pgCons true (pVar 0) (pgCons false (pC (.int 8)) pgNil)))) (pvCons (pCall [true, false] pf_l_take (pgCons true (pVar 0) (pgCons false (pC (.int 26)) pgNil))) pvNil)))
    (pSeq (pSet 6 (pLst (pvCons (pC (.str [105, 110])) (pvCons (pC (.str [104, 101, 97, 100, 115])) (pvCons (pC (.str [97, 108, 108, 111, 119])) (pvCons (pC (.str [98, 97, 100])) (pvCons (pC (.str [115, 117, 114, 118, 101, 121])) (pvCons (pC (.str [108, 111, 115, 116])) (pvCons (pC (.str [100, 114, 97, 119])) (pvCons (pC (.str [115, 101, 110, 100])) (pvCons (pC (.str [101, 97, 116, 101, 110])) (pvCons (pC (.str [115, 112, 111, 105, 108, 116])) (pvCons (pC (.str [110, 111, 110, 101])) (pvCons (pC (.str [115, 104, 105, 112])) (pvCons (pC (.str [112, 97, 103, 101])) pvNil)))))))))))))))
    (pSeq (pFor (pdiR1 (pVar 1)) (.nm 7) (pSeq (pSet 8 (pOp pAdd (pOp pIx (pVar 2) (pOp pMod (pOp pAdd (pOp pMul (pVar 7) (pVar 4)) (pVar 5)) (pC (.int 26)))) (pOp pIx (pVar 2) (pOp pMod (pOp pAdd (pOp pMul (pOp pFdiv (pVar 7) (pC (.int 26))) (pC (.int 7))) (pVar 5)) (pC (.int 26))))))
    (pSeq (pSet 9 (pOp pAdd (pVar 8) (pMs qsJoin (pC (.str [])) (pvCons (pComp [10] (pdiR1 (pCall [true, false] pf_l_take (pgCons true (pVar 0) (pgCons false (pC (.int 7)) pgNil)))) (.nm 10) pYes (pOp pIx (pVar 2) (pCall [true, false] pf_l_take (pgCons true (pVar 0) (pgCons false (pC (.int 26)) pgNil))))) pvNil))))
    (pSeq (pIfS (pbAnd (pT (pOp pLt (pVar 1) (pC (.int 14)))) (pT (pOp pEq (pCall [true, false] pf_l_take (pgCons true (pVar 0) (pgCons false (pC (.int 3)) pgNil))) (pC (.int 0))))) (pSet 9 (pOp pIx (pVar 6) (pVar 7))) (pNil))
    (pSeq (pFor (pdiV (pVar 2)) (.nm 11) (pIfS (pT (pOp pIn (pVar 9) (pVar 3))) (pSet 9 (pOp pAdd (pVar 8) (pVar 11))) (pNil)))
    (pExpr (pMt 3 qAppend (pvCons (pVar 9) pvNil))))))))
    (pRet (pVar 3))))))
def pf_l_names : PFn := runP [true, false] 12 pb_l_names
def pb_l_ounces : PSD :=
    (pSeq (pSet 2 (pOp pIx (pLst (pvCons (pC (.int 20)) (pvCons (pC (.int 300)) (pvCons (pC (.int 5000)) (pvCons (pC (.int 1000000)) (pvCons (pC (.int 1000000000)) pvNil)))))) (pCall [true, false] pf_l_take (pgCons true (pVar 0) (pgCons false (pOp pAdd (pC (.int 4)) (pB qInt (paCons (pVar 1) paNil))) pgNil)))))
    (pRet (pOp pAdd (pC (.int 1)) (pCall [true, false] pf_l_take (pgCons true (pVar 0) (pgCons false (pVar 2) pgNil))))))
def pf_l_ounces : PFn := runP [true, false] 3 pb_l_ounces
def pb_l_cask : PSD :=
    (pSeq (pPar [4, 5] (pvCons (pOp pIx (pVar 2) (pCall [true, false] pf_l_take (pgCons true (pVar 0) (pgCons false (pB qLen (paCons (pVar 2) paNil)) pgNil)))) (pvCons (pOp pIx (pVar 3) (pCall [true, false] pf_l_take (pgCons true (pVar 0) (pgCons false (pB qLen (paCons (pVar 3) paNil)) pgNil)))) pvNil)))
    (pSeq (pSet 6 (pOp pIx (pLst (pvCons (pCall [true, false] pf_l_take (pgCons true (pVar 0) (pgCons false (pC (.int 3)) pgNil))) (pvCons (pCall [true, false] pf_l_take (pgCons true (pVar 0) (pgCons false (pC (.int 40)) pgNil))) (pvCons (pCall [true, false] pf_l_take (pgCons true (pVar 0) (pgCons false (pC (.int 10000)) pgNil))) pvNil)))) (pCall [true, false] pf_l_take (pgCons true (pVar 0) (pgCons false (pC (.int 3)) pgNil)))))
    (pRet (pTup (pvCons (pVar 1) (pvCons (pVar 4) (pvCons (pCall [true, false] pf_l_ounces (pgCons true (pVar 0) (pgCons false (pC (.bl false)) pgNil))) (pvCons (pVar 5) (pvCons (pVar 6) pvNil)))))))))
def pf_l_cask : PFn := runP [true, false, false, false] 7 pb_l_cask
theorem pu_l_names : PuF f_l_names [true, false] pf_l_names := pu_f 12 [true, false] (pu_seq (pu_parG [2, 3] (pu_gCons (pu_cs) (pu_gCons (pu_lst pu_vNil) pu_gNil)))
    (pu_seq (pu_par [4, 5] (pu_vCons (pu_op f2_ix (pu_lst (pu_vCons (pu_ci) (pu_vCons (pu_ci) (pu_vCons (pu_ci) (pu_vCons (pu_ci) (pu_vCons (pu_ci) (pu_vCons (pu_ci) (pu_vCons (pu_ci) (pu_vCons (pu_ci) pu_vNil))))))))) (pu_call 2 pu_l_take (pu_gCons (pu_var 0) (pu_gCons (pu_ci) pu_gNil)))) (pu_vCons (pu_call 2 pu_l_take (pu_gCons (pu_var 0) (pu_gCons (pu_ci) pu_gNil))) pu_vNil)))
    (pu_seq (pu_set 6 (pu_lst (pu_vCons (pu_cs) (pu_vCons (pu_cs) (pu_vCons (pu_cs) (pu_vCons (pu_cs) (pu_vCons (pu_cs) (pu_vCons (pu_cs) (pu_vCons (pu_cs) (pu_vCons (pu_cs) (pu_vCons (pu_cs) (pu_vCons (pu_cs) (pu_vCons (pu_cs) (pu_vCons (pu_cs) (pu_vCons (pu_cs) pu_vNil)))))))))))))))
    (pu_seq (pu_for (.nm 7) (pu_iR1 (pu_var 1)) (pu_seq (pu_set 8 (pu_op f2_add (pu_op f2_ix (pu_var 2) (pu_op f2_mod (pu_op f2_add (pu_op f2_mul (pu_var 7) (pu_var 4)) (pu_var 5)) (pu_ci))) (pu_op f2_ix (pu_var 2) (pu_op f2_mod (pu_op f2_add (pu_op f2_mul (pu_op f2_fdiv (pu_var 7) (pu_ci)) (pu_ci)) (pu_var 5)) (pu_ci)))))
    (pu_seq (pu_set 9 (pu_op f2_add (pu_var 8) (pu_ms fs_join (pu_cs) (pu_vCons (pu_comp (.nm 10) [10] (pu_iR1 (pu_call 2 pu_l_take (pu_gCons (pu_var 0) (pu_gCons (pu_ci) pu_gNil)))) pu_yes (pu_op f2_ix (pu_var 2) (pu_call 2 pu_l_take (pu_gCons (pu_var 0) (pu_gCons (pu_ci) pu_gNil))))) pu_vNil))))
    (pu_seq (pu_ifS (pu_bAnd (pu_T (pu_op f2_lt (pu_var 1) (pu_ci))) (pu_T (pu_op f2_eq (pu_call 2 pu_l_take (pu_gCons (pu_var 0) (pu_gCons (pu_ci) pu_gNil))) (pu_ci)))) (pu_set 9 (pu_op f2_ix (pu_var 6) (pu_var 7))) (pu_nil))
    (pu_seq (pu_for (.nm 11) (pu_iV (pu_var 2)) (pu_ifS (pu_T (pu_op f2_in (pu_var 9) (pu_var 3))) (pu_set 9 (pu_op f2_add (pu_var 8) (pu_var 11))) (pu_nil)))
    (pu_expr (pu_mt 3 fl_append (pu_vCons (pu_var 9) pu_vNil))))))))
    (pu_ret (pu_var 3))))))
theorem pu_l_ounces : PuF f_l_ounces [true, false] pf_l_ounces := pu_f 3 [true, false] (pu_seq (pu_set 2 (pu_op f2_ix (pu_lst (pu_vCons (pu_ci) (pu_vCons (pu_ci) (pu_vCons (pu_ci) (pu_vCons (pu_ci) (pu_vCons (pu_ci) pu_vNil)))))) (pu_call 2 pu_l_take (pu_gCons (pu_var 0) (pu_gCons (pu_op f2_add (pu_ci) (pu_b fa_int (pu_aCons (pu_var 1) pu_aNil))) pu_gNil)))))
    (pu_ret (pu_op f2_add (pu_ci) (pu_call 2 pu_l_take (pu_gCons (pu_var 0) (pu_gCons (pu_var 2) pu_gNil))))))
theorem pu_l_cask : PuF f_l_cask [true, false, false, false] pf_l_cask := pu_f 7 [true, false, false, false] (pu_seq (pu_par [4, 5] (pu_vCons (pu_op f2_ix (pu_var 2) (pu_call 2 pu_l_take (pu_gCons (pu_var 0) (pu_gCons (pu_b fa_len (pu_aCons (pu_var 2) pu_aNil)) pu_gNil)))) (pu_vCons (pu_op f2_ix (pu_var 3) (pu_call 2 pu_l_take (pu_gCons (pu_var 0) (pu_gCons (pu_b fa_len (pu_aCons (pu_var 3) pu_aNil)) pu_gNil)))) pu_vNil)))
    (pu_seq (pu_set 6 (pu_op f2_ix (pu_lst (pu_vCons (pu_call 2 pu_l_take (pu_gCons (pu_var 0) (pu_gCons (pu_ci) pu_gNil))) (pu_vCons (pu_call 2 pu_l_take (pu_gCons (pu_var 0) (pu_gCons (pu_ci) pu_gNil))) (pu_vCons (pu_call 2 pu_l_take (pu_gCons (pu_var 0) (pu_gCons (pu_ci) pu_gNil))) pu_vNil)))) (pu_call 2 pu_l_take (pu_gCons (pu_var 0) (pu_gCons (pu_ci) pu_gNil)))))
    (pu_ret (pu_tup (pu_vCons (pu_var 1) (pu_vCons (pu_var 4) (pu_vCons (pu_call 2 pu_l_ounces (pu_gCons (pu_var 0) (pu_gCons (pu_cb) pu_gNil))) (pu_vCons (pu_var 5) (pu_vCons (pu_var 6) pu_vNil)))))))))
def abc : List Nat := [97, 98, 99, 100, 101, 102, 103, 104, 105, 106, 107, 108, 109, 110, 111, 112, 113, 114, 115, 116, 117, 118, 119, 120, 121, 122]
def Nm (z : List Nat) : Prop := 2 ≤ z.length ∧ z.length ≤ 8 ∧ ∀ c ∈ z, c ∈ abc
theorem abc_at {z : Int} (z0 : 0 ≤ z) (z1 : z < 26) : pIx (.str abc) (.int z) = some (.im (.str [97 + z.toNat])) := by
  have h : ∀ n : Fin 26, atI abc (n.val : Int) = some (97 + n.val) := by decide +kernel
  have h := h ⟨z.toNat, by omega⟩
  have e : ((z.toNat : Nat) : Int) = z := by omega
  rw [pIx_s, if_pos (by decide)]
  simp only [e] at h
  rw [h]; rfl
theorem abc_mem {z : Int} (z0 : 0 ≤ z) (z1 : z < 26) : 97 + z.toNat ∈ abc := by
  have : ∀ n : Fin 26, 97 + n.val ∈ abc := by decide
  have h := this ⟨z.toNat, by omega⟩
  exact h
def pre2 (a c : Int) (k : Nat) : List Nat := [97 + (((k : Int) * a + c) % 26).toNat, 97 + (((k : Int) / 26 * 7 + c) % 26).toNat]
def oddA (a : Int) : Prop := a = 1 ∨ a = 3 ∨ a = 5 ∨ a = 7 ∨ a = 9 ∨ a = 11 ∨ a = 15 ∨ a = 17
theorem pre2_inj {a c : Int} (ha : oddA a) {j k : Nat} (hj : j ≤ 100) (hk : k ≤ 100) (e : pre2 a c j = pre2 a c k) : j = k := by
  simp only [pre2, List.cons.injEq, and_true] at e
  obtain ⟨e1, e2⟩ := e
  have e1 : ((j : Int) * a + c) % 26 = ((k : Int) * a + c) % 26 := by omega
  have e2 : ((j : Int) / 26 * 7 + c) % 26 = ((k : Int) / 26 * 7 + c) % 26 := by omega
  have m1 : (j : Int) % 26 = (k : Int) % 26 := by
    rcases ha with rfl | rfl | rfl | rfl | rfl | rfl | rfl | rfl <;> omega
  omega
theorem nodup_len {α : Type} [DecidableEq α] : ∀ (l l2 : List α), l.Nodup → (∀ x ∈ l, x ∈ l2) → l.length ≤ l2.length
  | [], _, _, _ => Nat.zero_le _
  | x :: l, l2, nd, h => by
    have hx := h x (List.mem_cons_self ..)
    have nd' := List.nodup_cons.mp nd
    have := nodup_len l (l2.erase x) nd'.2 fun y hy => (List.mem_erase_of_ne (fun e => nd'.1 (by rw [← e]; exact hy))).mpr (h y (List.mem_cons_of_mem _ hy))
    rw [List.length_erase_of_mem hx] at this
    have := List.length_pos_of_mem hx
    simp only [List.length_cons]; omega
theorem len_of_all {zs : List (List Nat)} {x y : Nat} (h : ∀ c ∈ abc, [x, y, c] ∈ zs) : 26 ≤ zs.length := by
  have nd2 : (abc.map fun c => [x, y, c]).Nodup := by
    refine List.Pairwise.map _ (R := (· ≠ ·)) (fun a b h e => h (by simpa using e)) (by decide)
  have l := nodup_len _ zs nd2 fun z hz => by
    obtain ⟨c, hc, rfl⟩ := List.mem_map.mp hz
    exact h c hc
  simpa [abc] using l
theorem cut2 {α β : Type} (C : α → β → Prop) {T : α → β → Prop} {G : Prop} (h1 : (∀ a b, C a b → T a b) → G) (h2 : ∀ a b, C a b → T a b) : G := h1 h2
theorem jn_one : ∀ cs : List Nat, jn [] (cs.map fun q => [q]) = cs
  | [] => rfl
  | [a] => rfl
  | a :: b :: r => by
    have := jn_one (b :: r)
    simp only [List.map_cons] at this ⊢
    simp only [jn, List.nil_append, List.cons_append, this]
theorem sum_one : ∀ cs : List Nat, ((cs.map fun q => [q]).map List.length).sum = cs.length
  | [] => rfl
  | a :: r => by
    have := sum_one r
    simp only [List.map_cons, List.sum_cons, List.length_cons, List.length_nil] at this ⊢
    omega
theorem join_cs {cs : List Nat} (h : cs.length ≤ 6) : qsJoin (.str []) [.lst (cs.map fun q => PV.str [q])] = some (.str cs) := by
  have e : (cs.map fun q => PV.str [q]) = (cs.map fun q => [q]).map PV.str := by rw [List.map_map]; rfl
  rw [e, qsJoin_l, sum_one, jn_one, if_pos (by simp; omega)]
theorem names_ok {b : PV} {k m : Nat} {P : PO → List PV → Prop} {X : XF} (B : Bx k b) (hk : 8 * m + 2 ≤ k) (hm : m ≤ 100)
    (g : ∀ (zs : List (List Nat)) b', zs.length = m → (∀ z ∈ zs, Nm z) → zs.Nodup → Bx (k - (8 * m + 2)) b' → P (.ow (.lst (zs.map PV.str))) [b', .non]) : @wf (pf_l_names [b, .int m]) ⟨P⟩ ⟨X⟩ := by
  unfold pf_l_names pb_l_names
  rw [show ([97, 98, 99, 100, 101, 102, 103, 104, 105, 106, 107, 108, 109, 110, 111, 112, 113, 114, 115, 116, 117, 118, 119, 120, 121, 122] : List Nat) = abc from rfl]
  (repeat (first | walk_at "pwp" | refine wn_i (by omega) ?_))
  refine take_ok B (by omega) (by decide) (by decide) fun t b1 t0 t1 B1 => ?_
  obtain ⟨x, e1, _, hx⟩ := atI_lt t0 (by simpa using t1) (xs := [PV.int 1, .int 3, .int 5, .int 7, .int 9, .int 11, .int 15, .int 17])
  obtain ⟨a, rfl, ha⟩ : ∃ a : Int, x = .int a ∧ oddA a := by
    simp only [List.mem_cons, List.not_mem_nil, or_false] at hx
    rcases hx with rfl | rfl | rfl | rfl | rfl | rfl | rfl | rfl <;> exact ⟨_, rfl, by simp [oddA]⟩
  have a01 : 0 ≤ a ∧ a ≤ 17 := by rcases ha with rfl | rfl | rfl | rfl | rfl | rfl | rfl | rfl <;> omega
  obtain ⟨a0, a1⟩ := a01
  (repeat (first | walk_at "pwp" | simp only [e1]))
  refine take_ok B1 (by omega) (by decide) (by decide) fun c b2 c0 c1 B2 => ?_
  (repeat (first | walk_at "pwp" | refine wn_i (by omega) ?_))
  generalize hW : ([PV.str [105, 110], PV.str [104, 101, 97, 100, 115], PV.str [97, 108, 108, 111, 119], PV.str [98, 97, 100], PV.str [115, 117, 114, 118, 101, 121], PV.str [108, 111, 115, 116], PV.str [100, 114, 97, 119], PV.str [115, 101, 110, 100], PV.str [101, 97, 116, 101, 110], PV.str [115, 112, 111, 105, 108, 116], PV.str [110, 111, 110, 101], PV.str [115, 104, 105, 112], PV.str [112, 97, 103, 101]] : List PV) = W
  have lW : W.length = 13 := by rw [← hW]; rfl
  have mW : ∀ x ∈ W, ∃ s, x = .str s ∧ Nm s := by
    rw [← hW]
    intro x hx
    simp only [List.mem_cons, List.not_mem_nil, or_false] at hx
    rcases hx with rfl | rfl | rfl | rfl | rfl | rfl | rfl | rfl | rfl | rfl | rfl | rfl | rfl <;> exact ⟨_, rfl, by decide, by decide, by decide⟩
  clear hW
  rw [rngP_map]
  refine ws_forM (fun i : Nat => PV.int (0 + (i : Int))) (fun don xs π => ∃ (zs : List (List Nat)) (b : PV) (u1 u2 u3 u4 : Option PV), Bx (k - (8 * m + 2) + 8 * xs.length) b ∧ zs.length = don.length ∧ (∀ z ∈ zs, Nm z) ∧ zs.Nodup ∧
    (14 ≤ m → ∀ (j : Nat) (z : List Nat), zs[j]? = some z → ∃ cs, z = pre2 a c j ++ cs) ∧
    π = [some (.io b), some (.im (.int m)), some (.im (.str abc)), some (.ow (.lst (zs.map PV.str))), some (.im (.int a)), some (.im (.int c)), some (.im (.lst W)), fv u1, fv u2, fv u3, none, fv u4]) (List.range m) [] _ _ (by simp) ⟨[], b2, none, none, none, none, B2.mono (by simp; omega), rfl, by simp, .nil, by simp, rfl⟩ ?_ ?_
  · rintro don x xs π hall ⟨zs, b, u1, u2, u3, u4, B, zl, hz, nd, hp, rfl⟩
    have hl := congrArg List.length hall
    simp only [List.length_append, List.length_cons, List.length_range] at hl
    have hx : x = don.length := by
      have h := congrArg (fun l => l[don.length]?) hall
      simp only [List.getElem?_append_right (Nat.le_refl _), Nat.sub_self, List.getElem?_cons_zero] at h
      rw [List.getElem?_range (by omega)] at h
      exact Option.some.inj h
    have hxz : x = zs.length := by omega
    have xm : x < m := by omega
    simp only [List.length_cons] at B
    have p0 : 0 ≤ (x : Int) * a := Int.mul_nonneg (by omega) a0
    have p1 : (x : Int) * a ≤ 100 * 17 := Int.mul_le_mul (by omega) a1 a0 (by decide)
    have y0 : 0 ≤ ((x : Int) * a + c) % 26 := Int.emod_nonneg _ (by decide)
    have y1 : ((x : Int) * a + c) % 26 < 26 := Int.emod_lt_of_pos _ (by decide)
    have z0 : 0 ≤ ((x : Int) / 26 * 7 + c) % 26 := Int.emod_nonneg _ (by decide)
    have z1 : ((x : Int) / 26 * 7 + c) % 26 < 26 := Int.emod_lt_of_pos _ (by decide)
    have m1 := abc_mem y0 y1
    have m2 := abc_mem z0 z1
    have hpre : pre2 a c x = [97 + (((x : Int) * a + c) % 26).toNat, 97 + (((x : Int) / 26 * 7 + c) % 26).toNat] := rfl
    (repeat (first | walk_at "pwp" | refine wn_i (by omega) ?_ | simp only [abc_at y0 y1, abc_at z0 z1]))
    generalize 97 + (((x : Int) * a + c) % 26).toNat = q1 at m1 hpre ⊢
    generalize 97 + (((x : Int) / 26 * 7 + c) % 26).toNat = q2 at m2 hpre ⊢
    (repeat (first | walk_at "pwp" | refine wn_i (by omega) ?_))
    refine take_ok B (by omega) (by decide) (by decide) fun n b1 n0 n1 B1 => ?_
    (repeat (first | walk_at "pwp" | refine wn_i (by omega) ?_ | simp only [rngP_len]))
    refine wq_compI (fun ys don π => ∃ (b : PV) (cs : List Nat), Bx (k - (8 * m + 2) + 8 * xs.length + 1 + ys.length) b ∧ don = cs.map (fun q => PV.str [q]) ∧ cs.length + ys.length ≤ 6 ∧ (∀ q ∈ cs, q ∈ abc) ∧
      π = [some (.io b), some (.im (.int m)), some (.im (.str abc)), some (.ow (.lst (zs.map PV.str))), some (.im (.int a)), some (.im (.int c)), some (.im (.lst W)), some (.im (.int x)), some (.im (.str [q1, q2])), fv u3, none, fv u4]) _ _ ⟨b1, [], B1.mono (by rw [rngP_len]; omega), rfl, by rw [rngP_len]; simp; omega, by simp, rfl⟩ ?_ ?_
    · rintro y ys don π ⟨b, cs, B, rfl, cl, hc, rfl⟩
      walk_at "pwp"
      refine take_ok B (by simp only [List.length_cons]; omega) (by decide) (by decide) fun z b' z0 z1 B' => ?_
      (repeat (first | walk_at "pwp" | simp only [abc_at z0 z1]))
      refine ⟨b', cs ++ [97 + z.toNat], B'.mono (by simp only [List.length_cons]; omega), by simp, by simp only [List.length_cons, List.length_append, List.length_nil] at cl ⊢; omega, ?_, rfl⟩
      intro x hx
      rcases List.mem_append.mp hx with h | h
      · exact hc x h
      · simp only [List.mem_singleton] at h; subst h; exact abc_mem z0 z1
    · rintro ys π ⟨b, cs, B, rfl, cl, hc, rfl⟩
      have cl : cs.length ≤ 6 := by simpa using cl
      have hN : Nm (q1 :: q2 :: cs) := ⟨by simp, by simp only [List.length_cons]; omega, by
        intro x hx
        rcases List.mem_cons.mp hx with rfl | hx
        · exact m1
        rcases List.mem_cons.mp hx with rfl | hx
        · exact m2
        exact hc x hx⟩
      refine' cut2 (α := PV) (β := List Nat) (fun b9 nm9 => Bx (k - (8 * m + 2) + 8 * xs.length) b9 ∧ Nm nm9 ∧ (14 ≤ m → ∃ cs, nm9 = pre2 a c x ++ cs)) (fun tail => _) _
      rotate_left
      · (repeat (first | walk_at "pwp" | refine wn_i (by omega) ?_ | simp only [join_cs cl]))
        have h9 : 14 ≤ m → ∃ cs', q1 :: q2 :: cs = pre2 a c x ++ cs' := fun _ => ⟨cs, by rw [hpre]; rfl⟩
        obtain ⟨nm9, hnm9⟩ : ∃ nm9, nm9 = q1 :: q2 :: cs := ⟨_, rfl⟩
        rw [← hnm9] at hN h9 ⊢
        refine wi_d (fun lt => ?_) fun lt => ?_
        · walk_at "pwp"
          refine take_ok B (by omega) (by decide) (by decide) fun v b9 v0 v1 B9 => ?_
          have B9 : Bx (k - (8 * m + 2) + 8 * xs.length) b9 := B9.mono (by simp)
          walk_at "pwp"
          refine wi_d (fun ez => ?_) fun ez => ?_
          · obtain ⟨w, ew, _, hw⟩ := atI_lt (xs := W) (show 0 ≤ (x : Int) by omega) (by rw [lW]; omega)
            obtain ⟨nm8, rfl, hn⟩ := mW w hw
            (repeat (first | walk_at "pwp" | simp only [ew]))
            exact tail b9 nm8 ⟨B9, hn, fun h => by omega⟩
          · walk_at "pwp"
            exact tail b9 nm9 ⟨B9, hN, h9⟩
        · walk_at "pwp"
          exact tail b nm9 ⟨B.mono (by simp), hN, h9⟩
      · rintro b9 nm9 ⟨B9, hN, h9⟩
        have n9 : 14 ≤ m → nm9 ∉ zs := fun h z => by
          obtain ⟨j, hj⟩ := List.getElem?_of_mem z
          obtain ⟨c1, e1⟩ := hp h j nm9 hj
          obtain ⟨c2, e2⟩ := h9 h
          have jl := (List.getElem?_eq_some_iff.mp hj).1
          have := pre2_inj ha (j := j) (k := x) (by omega) (by omega) (List.append_inj (e1.symm.trans e2) (by simp [pre2])).1
          omega
        refine ws_forM (fun c => PV.str [c]) (fun don ys π => ∃ (nm : List Nat) (u4 : Option PV), Nm nm ∧ (nm ∉ zs ∨ ∀ c ∈ don, [q1, q2, c] ∈ zs) ∧ (14 ≤ m → nm ∉ zs ∧ ∃ cs, nm = pre2 a c x ++ cs) ∧
          π = [some (.io b9), some (.im (.int m)), some (.im (.str abc)), some (.ow (.lst (zs.map PV.str))), some (.im (.int a)), some (.im (.int c)), some (.im (.lst W)), some (.im (.int x)), some (.im (.str [q1, q2])), some (.im (.str nm)), none, fv u4]) abc [] abc _ rfl ⟨nm9, u4, hN, .inr (by simp), fun h => ⟨n9 h, h9 h⟩, rfl⟩ ?_ ?_
        · rintro don y ys π hall ⟨nm, u5, hn, hin, h14, rfl⟩
          have hy : y ∈ abc := by rw [← hall]; simp
          (repeat (first | walk_at "pwp" | refine wn_i (by omega) ?_))
          refine wi_d (fun hz1 => ?_) fun hz1 => ?_
          · (repeat (first | walk_at "pwp" | refine wn_i (by omega) ?_))
            refine ⟨[q1, q2, y], some (.str [y]), ⟨by simp, by simp, ?_⟩, ?_, fun h => absurd hz1 (h14 h).1, rfl⟩
            · intro x hx
              simp only [List.mem_cons, List.not_mem_nil, or_false] at hx
              rcases hx with rfl | rfl | rfl
              · exact m1
              · exact m2
              · exact hy
            · by_cases hq : [q1, q2, y] ∈ zs
              · right
                intro c' hc'
                rcases List.mem_append.mp hc' with h | h
                · rcases hin with q | q
                  · exact absurd hz1 q
                  · exact q c' h
                · simp only [List.mem_singleton] at h; subst h; exact hq
              · exact .inl hq
          · walk_at "pwp"
            exact ⟨nm, some (.str [y]), hn, .inl hz1, h14, rfl⟩
        · rintro π ⟨nm, u5, hn, hin, h14, rfl⟩
          have fresh : nm ∉ zs := by
            by_cases h : 14 ≤ m
            · exact (h14 h).1
            · rcases hin with q | q
              · exact q
              · have := len_of_all q
                omega
          walk_at "pwp"
          refine wn_i (by simp only [List.length_map]; omega) ?_
          walk_at "pwp"
          refine ⟨zs ++ [nm], b9, some (.int x), some (.str [q1, q2]), some (.str nm), u5, B9, by simp only [List.length_append, List.length_cons, List.length_nil]; omega, ?_, ?_, ?_, by simp [fv]⟩
          · intro z h
            rcases List.mem_append.mp h with h | h
            · exact hz z h
            · simp only [List.mem_singleton] at h; subst h; exact hn
          · exact List.nodup_append.mpr ⟨nd, by simp, fun a ha b hb e => by simp only [List.mem_singleton] at hb; subst hb; subst e; exact fresh ha⟩
          · intro h j z hj
            by_cases hjl : j < zs.length
            · rw [List.getElem?_append_left hjl] at hj
              exact hp h j z hj
            · rw [List.getElem?_append_right (by omega)] at hj
              have : j - zs.length = 0 := by
                rcases Nat.eq_zero_or_pos (j - zs.length) with q | q
                · exact q
                · rw [List.getElem?_eq_none (by simp; omega)] at hj; cases hj
              rw [this] at hj
              simp only [List.getElem?_cons_zero, Option.some.injEq] at hj
              subst hj
              have : j = x := by omega
              rw [this]
              exact (h14 h).2
  · rintro π ⟨zs, b, u1, u2, u3, u4, B, zl, hz, nd, _, rfl⟩
    walk_at "pwp"
    exact g zs b (by simpa using zl) hz nd (B.mono (by simp))
theorem ounces_ok {b : PV} {k : Nat} {P : PO → List PV → Prop} {X : XF} (B : Bx k b) (hk : 2 ≤ k)
    (g : ∀ (v : Int) b', 1 ≤ v → v ≤ 1000000000 → Bx (k - 2) b' → P (.im (.int v)) [b', .non]) : @wf (pf_l_ounces [b, .bl false]) ⟨P⟩ ⟨X⟩ := by
  unfold pf_l_ounces pb_l_ounces
  (repeat (first | walk_at "pwp" | refine wn_i (by omega) ?_))
  refine take_ok B (by omega) (by decide) (by decide) fun t b1 t0 t1 B1 => ?_
  obtain ⟨x, e1, _, hx⟩ := atI_lt t0 (by simp only [List.length_cons, List.length_nil]; omega) (xs := [PV.int 20, .int 300, .int 5000, .int 1000000, .int 1000000000])
  obtain ⟨a, rfl, a0, a1⟩ : ∃ a : Int, x = .int a ∧ 0 < a ∧ a ≤ 1000000000 := by
    simp only [List.mem_cons, List.not_mem_nil, or_false] at hx
    rcases hx with rfl | rfl | rfl | rfl | rfl <;> exact ⟨_, rfl, by decide, by decide⟩
  (repeat (first | walk_at "pwp" | refine wn_i (by omega) ?_ | simp only [e1]))
  refine take_ok B1 (by omega) a0 (by omega) fun v b2 v0 v1 B2 => ?_
  (repeat (first | walk_at "pwp" | refine wn_i (by omega) ?_))
  exact g _ _ (by omega) (by omega) (B2.mono (by omega))
theorem mk_ok {b : PV} {k : Nat} {s : List Nat} {us ys : List (List Nat)} {P : PO → List PV → Prop} {X : XF} (B : Bx k b) (hk : 8 ≤ k) (w0 : us ≠ []) (y0 : ys ≠ []) (wl : us.length ≤ 100) (yl : ys.length ≤ 100)
    (g : ∀ (w y : List Nat) (o f : Int) b', w ∈ us → y ∈ ys → 1 ≤ o → o ≤ 1000000000 → 0 ≤ f → f ≤ 9999 → Bx (k - 8) b' → P (.im (.tup [.str s, .str w, .int o, .str y, .int f])) [b', .non, .non, .non]) : @wf (pf_l_cask [b, .str s, .lst (us.map PV.str), .lst (ys.map PV.str)]) ⟨P⟩ ⟨X⟩ := by
  have wp := List.length_pos_iff.mpr w0
  have yp := List.length_pos_iff.mpr y0
  unfold pf_l_cask pb_l_cask
  (repeat (first | walk_at "pwp" | refine wn_i (by omega) ?_))
  refine take_ok B (by omega) (by simp; omega) (by simp; omega) fun t b1 t0 t1 B1 => ?_
  obtain ⟨x, e1, _, hx⟩ := atI_lt t0 t1
  obtain ⟨w, hw, rfl⟩ := List.mem_map.mp hx
  (repeat (first | walk_at "pwp" | refine wn_i (by omega) ?_ | simp only [e1]))
  refine take_ok B1 (by omega) (by simp; omega) (by simp; omega) fun t b2 t0 t1 B2 => ?_
  obtain ⟨x, e2, _, hx⟩ := atI_lt t0 t1
  obtain ⟨y, hy, rfl⟩ := List.mem_map.mp hx
  (repeat (first | walk_at "pwp" | refine wn_i (by omega) ?_ | simp only [e2]))
  refine take_ok B2 (by omega) (by decide) (by decide) fun f1 b3 p0 p1 B3 => ?_
  (repeat (first | walk_at "pwp" | refine wn_i (by omega) ?_))
  refine take_ok B3 (by omega) (by decide) (by decide) fun f2 b4 q0 q1 B4 => ?_
  (repeat (first | walk_at "pwp" | refine wn_i (by omega) ?_))
  refine take_ok B4 (by omega) (by decide) (by decide) fun f3 b5 r0 r1 B5 => ?_
  (repeat (first | walk_at "pwp" | refine wn_i (by omega) ?_))
  refine take_ok B5 (by omega) (by decide) (by decide) fun t b6 t0 t1 B6 => ?_
  obtain ⟨x, e3, _, hx⟩ := atI_lt t0 t1 (xs := [PV.int f1, .int f2, .int f3])
  obtain ⟨f, rfl, a0, a1⟩ : ∃ a : Int, x = .int a ∧ 0 ≤ a ∧ a ≤ 9999 := by
    simp only [List.mem_cons, List.not_mem_nil, or_false] at hx
    rcases hx with rfl | rfl | rfl <;> exact ⟨_, rfl, by omega, by omega⟩
  (repeat (first | walk_at "pwp" | refine wn_i (by omega) ?_ | simp only [e3]))
  refine ounces_ok B6 (by omega) fun o b7 o0 o1 B7 => ?_
  (repeat (first | walk_at "pwp" | refine wn_i (by omega) ?_))
  exact g w y o f _ hw hy o0 o1 a0 a1 (B7.mono (by omega))
end Pq

end
section
local macro_rules | `(tactic| walk_at "pwp") => `(tactic| simp -implicitDefEqProofs only [Pq.pSortC_ap, Pq.sortCO_s, Pq.pdiC_ap, Pq.qRevA_s, Pq.qRevA_t, Pq.qRevA_l, Pq.pMsN_ap, Pq.msN_s, Pq.msNO_s, Pq.pMi_ap, Pq.miA_b, Pq.miA_i, Pq.miB_s, Pq.miR_s, Pq.qExtend_l, Pq.pBn_ap, Pq.newK_s, Pq.newO_s, Pq.pNewK_ap, Pq.pNewT_ap, Pq.getA_K, Pq.getA_T, Pq.getA_Ki, Pq.getA_Ti, Pq.getB_s, Pq.getR_s, Pq.getR_n, Pq.dgetP_s, Pq.dgetP_i, Pq.dgetP_ss, Pq.dgetP_si, Pq.dgetP_ssi, Pq.ixR_s, Pq.pIx_ds, Pq.pIx_di, Pq.pIx_dt, Pq.pIn_ds, Pq.pIn_dt, Pq.pNotIn_ds, Pq.pNotIn_dt, Pq.inR_s, Pq.inO_f, Pq.inO_t, Pq.setIx_dK, Pq.setIx_dT_ss, Pq.setIx_dT_si, Pq.setIx_dT_ssi, Pq.qSortedK_d, Pq.skK_s, Option.isSome_some, Option.isSome_none, Pq.qListS_s, Pq.qListS_t, Pq.pDispC_ap, Pq.pGet2_ap, Pq.pntL_l, Pq.qIsNo_b, Pq.tyP_k, Pq.pdiZK_ap, Pq.zkK_t, Pq.qLenK_k, Pq.pIsN_k, Pq.flatC_n1, Pq.flatC_n2, Pq.flatC_n3, Pq.flatO_b, Pq.flatO_i, Pq.flatO_s, Pq.pIsN_b, Pq.pIsN_i, Pq.pIsN_s, Pq.pIsN_t, Pq.pIsN_l, Pq.pNotN_b, Pq.pNotN_i, Pq.pNotN_s, Pq.pNotN_t, Pq.pNotN_l, Pq.pdiZ_ap, Pq.zK_l, Pq.zK_t, Pq.pLtT_is, Pq.qIs_b, Pq.qInR_i, Pq.pSortK_ap, Pq.isIo_fw, Pq.pIn_t2, Pq.pNotIn_t2, Pq.pRev_t, Pq.pRev_l, Pq.pIn_sc, Pq.pIn_strs, Pq.qsJoin_l, Pq.pMs_ap, Pq.msK_s, Pq.ms2_s, Pq.wq_ms2i, Pq.wf_run, Pq.wf_ok, Pq.wf_ex, Pq.ws_nil, Pq.ws_seq, Pq.ws_ret, Pq.ws_retN, Pq.ws_raise, Pq.ws_expr, Pq.ws_set, Pq.ws_setA, Pq.wsetA_im, Pq.wsetA_ow, Pq.ws_if, Pq.ws_brk, Pq.ws_cnt, Pq.ws_aug, Pq.ws_par, Pq.ws_parG, Pq.ws_asg, Pq.ws_frz, Pq.ws_for, Pq.frz_0, Pq.frz_0i, Pq.frz_0n, Pq.frz_0o, Pq.frz_s, Pq.wg_go, Pq.wi_t, Pq.wi_f, Pq.wn_t, Pq.wq_ok, Pq.wq_ex, Pq.wq_bind, Pq.wq_optS, Pq.wq_gd, Pq.wq_szs, Pq.wq_optI, Pq.wq_ite, Pq.wq_br, Pq.bq_ok, Pq.brq_t, Pq.brq_f, Pq.wo_s, Pq.wo_n, Pq.wo_ite, Pq.wo_some_ite, Pq.wo_sub, Pq.pVar_s, Pq.pVar_im, Pq.pVar_ow, Pq.pVar_io, Pq.ps_0, Pq.ps_s, Pq.pC_ap, Pq.pOp_ap, Pq.pU_ap, Pq.pT_ap, Pq.pbAnd_ap, Pq.pbOr_ap, Pq.pbNot_ap, Pq.pAnd_ap, Pq.pOr_ap, Pq.pNot_ap, Pq.pIf_ap, Pq.pCh_ap, Pq.pCh3_ap, Pq.pasB_b, Pq.see2_e, Pq.see1_e, Pq.seeA_e, Pq.opt2_s, Pq.opt1_s, Pq.optA_s, Pq.pv_im, Pq.pv_ow, Pq.pv_br, Pq.ownK_ow, Pq.ownK_io, Pq.pvAll_n, Pq.pvAll_c, Pq.pvC_s, Pq.paNil_ap, Pq.paCons_ap, Pq.pB_ap, Pq.poI_im, Pq.poI_ow, Pq.pvNil_ap, Pq.pvCons_ap, Pq.pTup_ap, Pq.pLst_ap, Pq.pgNil_ap, Pq.pgCons_ap, Pq.argO_1, Pq.argO_2, Pq.argO_3, Pq.argO_4, Pq.argO_5, Pq.pNone_ap, Pq.asIq_i, Pq.pSome_ap, Pq.pSl_ap, Pq.pCall_ap, Pq.wq_call, Pq.callOk_e, Pq.brs_n, Pq.brs_br, Pq.brs_im, Pq.brs_ow, Pq.owc_n, Pq.owc_br, Pq.owc_im, Pq.owc_ow, Pq.nodB_n, Pq.nodB_1, Pq.nodB_2, Pq.nodB_3, Pq.imb_n, Pq.imb_f, Pq.imb_t, Pq.imb_fi, Pq.imb_fo, Pq.callFl_e, Pq.isE_n, Pq.isE_c, Pq.putO_n, Pq.putO_b, Pq.putO_f, Pq.putO_im, Pq.putO_ow, Pq.upd_0, Pq.upd_s, Pq.PS_put_im, Pq.PS_put_ow, Pq.PS_put_io, Pq.pAdd_ii, Pq.pAdd_ss, Pq.pAdd_ll, Pq.pAdd_tt, Pq.pSub_ii, Pq.pMul_ii, Pq.pMul_si, Pq.pMul_li, Pq.pMod_ii, Pq.pFdiv_ii, Pq.pPow_ii, Pq.pNeg_i, Pq.pLt_ii, Pq.pLe_ii, Pq.pGt_ii, Pq.pGe_ii, Pq.pLt_ss, Pq.pLe_ss, Pq.pAddI_ii, Pq.pAddI_ss, Pq.ixK_s, Pq.pIx_l, Pq.pIx_t, Pq.pIx_f, Pq.pSlF_l, Pq.pSlF_t, Pq.pSlF_f, Pq.pSlF_s, Pq.pEq_ii, Pq.pNe_ii, Pq.pEq_ss, Pq.pNe_ss, Pq.pEq_bb, Pq.pNe_bb, Pq.pIsN_n, Pq.pNotN_n, Pq.qLen_l, Pq.qLen_t, Pq.qLen_f, Pq.qLen_d, Pq.qLen_s, Pq.qAbs_i, Pq.qInt_i, Pq.qInt_b, Pq.qMax_ii, Pq.qMin_ii, Pq.qDivmod_ii, Pq.qList_l, Pq.qList_t, Pq.qList_f, Pq.qTuple_l, Pq.qTuple_t, Pq.qTuple_f, Pq.qStr_s, Pq.qStr_i, Pq.qStr_b, Pq.qStr_n, Pq.qIsi_e, Pq.qIsi2_e, Pq.tyP_1, Pq.tyP_2, Pq.tyP_3, Pq.tyP_4, Pq.tyP_5, Pq.tyP_6, Pq.tyP_7, Pq.tyP_8, Pq.sb_00, Pq.sb_01, Pq.sb_02, Pq.sb_03, Pq.sb_04, Pq.sb_05, Pq.sb_06, Pq.sb_10, Pq.sb_11, Pq.sb_12, Pq.sb_13, Pq.sb_14, Pq.sb_15, Pq.sb_16, Pq.sb_20, Pq.sb_21, Pq.sb_22, Pq.sb_23, Pq.sb_24, Pq.sb_25, Pq.sb_26, Pq.sb_30, Pq.sb_31, Pq.sb_32, Pq.sb_33, Pq.sb_34, Pq.sb_35, Pq.sb_36, Pq.sb_40, Pq.sb_41, Pq.sb_42, Pq.sb_43, Pq.sb_44, Pq.sb_45, Pq.sb_46, Pq.sb_50, Pq.sb_51, Pq.sb_52, Pq.sb_53, Pq.sb_54, Pq.sb_55, Pq.sb_56, Pq.sb_60, Pq.sb_61, Pq.sb_62, Pq.sb_63, Pq.sb_64, Pq.sb_65, Pq.sb_66, Pq.retO_im, Pq.retO_ow, Pq.retO_br, Pq.retK_s, Pq.isIo_fv, Pq.notOwn_fv, Pq.frz_fv, Pq.isIo_im, Pq.isIo_ow, Pq.isIo_io, Pq.isIo_n, Pq.isIo_s, Pq.pset_n, Pq.pset_c, Pq.psetG_n, Pq.psetG_i, Pq.psetG_o, Pq.pnt_nm, Pq.pnt_tp, Pq.pnt_tpl, Pq.ex_im, Pq.setIx_li, Pq.setK_s, Pq.prunT_n, Pq.prunT_c, Pq.pgT_t, Pq.wq_mt, Pq.isLK_s, Pq.mtK_s, Pq.qAppend_1, Pq.qReverse_0, Pq.qClear_0, Pq.qInsert_2, Pq.okw_n, Pq.all_n, Pq.pdiV_ap, Pq.pitV_e, Pq.pitK_l, Pq.pitK_lo, Pq.pitK_lb, Pq.pitK_t, Pq.pitK_f, Pq.pitK_s, Pq.pdiR1_ap, Pq.pdiR2_ap, Pq.pdiR1_e, Pq.pdiR2_e, Pq.pdiE_ap, Pq.penO_ol, Pq.penO_il, Pq.wq_comp, Pq.pYes_ap, Pq.wipeP_n, Pq.wipeP_c, Pq.restP_n, Pq.restP_c, Pq.notOwn_0, Pq.notOwn_1, Pq.notOwn_2, Pq.notOwn_3, Pq.notOwn_s, Pq.all_c, Pq.all_e, Pq.Kf_nx, Pq.Kf_rt, Pq.Kf_ex, Pq.wout_e, Pq.outK_n, Pq.outK_f, Pq.outK_t, Pq.contK_s, Pq.start_n, Pq.start_t, Pq.start_f, Pq.Kin_nx, Pq.Kin_ct, Pq.Kin_bk, Pq.Kin_rt, Pq.Kin_ex, Pq.atI_0, Pq.atI_1, Pq.atI_2, Pq.atI_3, Pq.atI_4, List.set_cons_succ, List.set_cons_zero, List.map_cons, List.map_nil, List.cons_append, List.nil_append, List.length_cons, List.length_nil, List.replicate_succ, List.replicate_zero, List.append_nil, Nat.reduceSub, Nat.reduceAdd, Nat.reduceMul, Int.reduceAdd, Int.reduceSub, Int.reduceMul, Int.reduceNeg, Int.reduceLT, Int.reduceLE, Nat.reduceLeDiff, Nat.reduceLT, decide_true, decide_false, Int.reduceToNat, Bool.not_true, Bool.not_false, and_true, true_and, and_self, true_or, or_true, List.set_nil, Int.reduceMod, Int.reduceDiv, Int.reducePow, Int.cast_ofNat_Int, Int.reduceEq, Int.reduceNe, Nat.reduceEqDiff, eq_self, false_and, and_false, Nat.zero_add, Int.zero_add, Int.add_zero, or_false, false_or, Option.getD_some, Option.getD_none, List.getElem?_cons_zero, List.getElem?_cons_succ, reduceIte, Bool.and_self, Bool.or_self, Bool.and_true, Bool.true_and, Bool.and_false, Bool.false_and, Bool.or_true, Bool.or_false, Bool.true_or, Bool.false_or, Bool.false_eq_true, Bool.true_eq_false, not_true_eq_false, not_false_eq_true])
namespace Pq
open PySem L2 Mi PyProof.Rows
abbrev tab_FORMS : Tab := [([105, 110], [[99, 97, 115, 107]]), ([104, 101, 97, 100, 115], [[110, 97, 109, 101], [104, 101, 97, 100, 115]]), ([97, 108, 108, 111, 119], [[112, 97, 114, 116]]), ([98, 97, 100], [[110, 97, 109, 101]]), ([115, 117, 114, 118, 101, 121], [[110, 97, 109, 101]]), ([108, 111, 115, 116], [[110, 97, 109, 101], [111, 117, 110, 99, 101, 115]]), ([100, 114, 97, 119], [[110, 97, 109, 101], [111, 117, 110, 99, 101, 115], [110, 97, 109, 101]]), ([115, 101, 110, 100], [[110, 97, 109, 101], [110, 97, 109, 101]])]
def b_common_divisor : SD :=
    (sSeq (sWhile 100000 (dT (dOp fGt (dVar 1) (dC (.int 0)))) (sPar [0, 1] (vCons (dVar 1) (vCons (dOp fMod (dVar 0) (dVar 1)) vNil))))
    (sRet (dVar 0)))
def f_common_divisor : DF := runB 2 b_common_divisor
def b_is_part : SD :=
    (sSeq (sIf ((bOr (bNot (dT (dU (fIsi .tup) (dVar 0)))) (dT (dOp fNe (dB bLen (aCons (dVar 0) aNil)) (dC (.int 2)))))) (sRet (dC (.bl false))) sNil)
    (sSeq (sIf (bNot (dT (dB bAll (aCons (dComp [1] (diV (dVar 0)) (.nm 1) tYesB ((dAnd (dU (fIsi .int) (dVar 1)) (dNot (dU (fIsi .bool) (dVar 1)))))) aNil)))) (sRet (dC (.bl false))) sNil)
    (sRet ((dAnd (dCh3 fLe fLe fLe (dC (.int 1)) (dOp fIx (dVar 0) (dC (.int 0))) (dOp fIx (dVar 0) (dC (.int 1))) (dC (.int 12))) (dOp fEq (dCall 2 f_common_divisor (vCons (dOp fIx (dVar 0) (dC (.int 0))) (vCons (dOp fIx (dVar 0) (dC (.int 1))) vNil))) (dC (.int 1))))))))
def f_is_part : DF := runB 2 b_is_part
def b_is_name : SD :=
    (sSeq (sIf ((bOr (bNot (dT (dU (fIsi .str) (dVar 0)))) (bNot (dT (dCh fLe fLe (dC (.int 1)) (dB bLen (aCons (dVar 0) aNil)) (dC (.int 8))))))) (sRet (dC (.bl false))) sNil)
    (sRet (dB bAll (aCons (dComp [1] (diV (dVar 0)) (.nm 1) tYesB (dOp fIn (dVar 1) (dC (.str [97, 98, 99, 100, 101, 102, 103, 104, 105, 106, 107, 108, 109, 110, 111, 112, 113, 114, 115, 116, 117, 118, 119, 120, 121, 122])))) aNil))))
def f_is_name : DF := runB 2 b_is_name
def b_is_whole : SD :=
    (sRet ((dAnd (dU (fIsi .int) (dVar 0)) (dAnd (dNot (dU (fIsi .bool) (dVar 0))) (dCh fLe fLe (dVar 1) (dVar 0) (dVar 2))))))
def f_is_whole : DF := runB 3 b_is_whole
def b_is_tuple_of : SD :=
    (sRet ((dAnd (dU (fIsi .tup) (dVar 0)) (dOp fEq (dB bLen (aCons (dVar 0) aNil)) (dVar 1)))))
def f_is_tuple_of : DF := runB 2 b_is_tuple_of
def b_is_cask : SD :=
    (sSeq (sIf (bNot (dT (dCall 2 f_is_tuple_of (vCons (dVar 0) (vCons (dC (.int 5)) vNil))))) (sRet (dC (.bl false))) sNil)
    (sSeq (sAsg (dVar 0) (tdN (.tp [1, 2, 3, 4, 5])))
    (sSeq (sIf ((bOr (bNot (dT (dCall 1 f_is_name (vCons (dVar 1) vNil)))) (bOr (bNot (dT (dCall 1 f_is_name (vCons (dVar 2) vNil)))) (bNot (dT (dCall 1 f_is_name (vCons (dVar 4) vNil))))))) (sRet (dC (.bl false))) sNil)
    (sRet ((dAnd (dCall 3 f_is_whole (vCons (dVar 3) (vCons (dC (.int 1)) (vCons (dC (.int 1000000000)) vNil)))) (dCall 3 f_is_whole (vCons (dVar 5) (vCons (dC (.int 0)) (vCons (dC (.int 9999)) vNil))))))))))
def f_is_cask : DF := runB 6 b_is_cask
def b_is_of_sort : SD :=
    (sSeq (sIf (dT (dOp fEq (dVar 1) (dC (.str [99, 97, 115, 107])))) (sRet (dCall 1 f_is_cask (vCons (dVar 0) vNil))) sNil)
    (sSeq (sIf (dT (dOp fEq (dVar 1) (dC (.str [112, 97, 114, 116])))) (sRet (dCall 1 f_is_part (vCons (dVar 0) vNil))) sNil)
    (sSeq (sIf (dT (dOp fEq (dVar 1) (dC (.str [104, 101, 97, 100, 115])))) (sRet (dCall 3 f_is_whole (vCons (dVar 0) (vCons (dC (.int 0)) (vCons (dC (.int 1000)) vNil))))) sNil)
    (sSeq (sIf (dT (dOp fEq (dVar 1) (dC (.str [111, 117, 110, 99, 101, 115])))) (sRet (dCall 3 f_is_whole (vCons (dVar 0) (vCons (dC (.int 1)) (vCons (dC (.int 1000000000)) vNil))))) sNil)
    (sRet (dCall 1 f_is_name (vCons (dVar 0) vNil)))))))
def f_is_of_sort : DF := runB 2 b_is_of_sort
def b_is_deed : SD :=
    (sSeq (sIf ((bOr (bNot (dT (dU (fIsi .tup) (dVar 0)))) (bOr (dT (dOp fEq (dB bLen (aCons (dVar 0) aNil)) (dC (.int 0)))) (bNot (dT (dU (fIsi .str) (dOp fIx (dVar 0) (dC (.int 0))))))))) (sRet (dC (.bl false))) sNil)
    (sSeq (sSet 1 (dU (fKGet tab_FORMS) (dOp fIx (dVar 0) (dC (.int 0)))))
    (sSeq (sIf ((bOr (dT (dU fIsN (dVar 1))) (dT (dOp fNe (dB bLen (aCons (dVar 0) aNil)) (dOp fAdd (dB bLenK (aCons (dVar 1) aNil)) (dC (.int 1))))))) (sRet (dC (.bl false))) sNil)
    (sRet (dB bAll (aCons (dComp [2, 3] (diZK (dSl (dVar 0) (oSome (dC (.int 1))) oNone) (dVar 1)) (.tp [2, 3]) tYesB (dCall 2 f_is_of_sort (vCons (dVar 2) (vCons (dVar 3) vNil)))) aNil))))))
def f_is_deed : DF := runB 4 b_is_deed
def b_is_page : SD :=
    (sSeq (sIf ((bOr (bNot (dT (dU (fIsi2 .lst .tup) (dVar 0)))) (dT (dOp fGt (dB bLen (aCons (dVar 0) aNil)) (dC (.int 20)))))) (sRet (dC (.bl false))) sNil)
    (sRet (dB bAll (aCons (dComp [1] (diV (dVar 0)) (.nm 1) tYesB (dCall 1 f_is_deed (vCons (dVar 1) vNil))) aNil))))
def f_is_page : DF := runB 2 b_is_page
def b_l_deed : SD :=
    (sSeq (sSet 5 (dOp fIx (dLst (vCons (dC (.str [105, 110])) (vCons (dC (.str [105, 110])) (vCons (dC (.str [104, 101, 97, 100, 115])) (vCons (dC (.str [97, 108, 108, 111, 119])) (vCons (dC (.str [98, 97, 100])) (vCons (dC (.str [115, 117, 114, 118, 101, 121])) (vCons (dC (.str [108, 111, 115, 116])) (vCons (dC (.str [100, 114, 97, 119])) (vCons (dC (.str [100, 114, 97, 119])) (vCons (dC (.str [115, 101, 110, 100])) (vCons (dC (.str [115, 101, 110, 100])) vNil)))))))))))) (dCall 2 f_l_take (vCons (dVar 0) (vCons (dC (.int 11)) vNil)))))
    (sSeq (sPar [6, 7] (vCons (dOp fIx (dVar 1) (dCall 2 f_l_take (vCons (dVar 0) (vCons (dB bLen (aCons (dVar 1) aNil)) vNil)))) (vCons (dOp fIx (dVar 1) (dCall 2 f_l_take (vCons (dVar 0) (vCons (dB bLen (aCons (dVar 1) aNil)) vNil)))) vNil)))
    (sSeq (sPar [8, 9] (vCons (dOp fIx (dVar 4) (dCall 2 f_l_take (vCons (dVar 0) (vCons (dB bLen (aCons (dVar 4) aNil)) vNil)))) (vCons (dOp fIx (dLst (vCons (dCall 2 f_l_take (vCons (dVar 0) (vCons (dC (.int 13)) vNil))) (vCons (dCall 2 f_l_take (vCons (dVar 0) (vCons (dC (.int 1001)) vNil))) vNil))) (dCall 2 f_l_take (vCons (dVar 0) (vCons (dC (.int 2)) vNil)))) vNil)))
    (sSeq (sIf (dT (dOp fEq (dVar 5) (dC (.str [105, 110])))) (sRet (dTup (vCons (dVar 5) (vCons (dCall 4 f_l_cask (vCons (dVar 0) (vCons (dVar 6) (vCons (dVar 2) (vCons (dOp fAdd (dU fRev (dVar 2)) (dLst (vCons (dC (.str [121, 97, 114, 100])) vNil))) vNil))))) vNil)))) sNil)
    (sSeq (sIf (dT (dOp fEq (dVar 5) (dC (.str [104, 101, 97, 100, 115])))) (sRet (dTup (vCons (dVar 5) (vCons (dOp fIx (dVar 3) (dCall 2 f_l_take (vCons (dVar 0) (vCons (dB bLen (aCons (dVar 3) aNil)) vNil)))) (vCons (dVar 9) vNil))))) sNil)
    (sSeq (sIf (dT (dOp fEq (dVar 5) (dC (.str [97, 108, 108, 111, 119])))) (sRet (dTup (vCons (dVar 5) (vCons (dCall 1 f_l_part (vCons (dVar 0) vNil)) vNil)))) sNil)
    (sSeq (sIf (dT (dOp fIn (dVar 5) (dTup (vCons (dC (.str [108, 111, 115, 116])) (vCons (dC (.str [100, 114, 97, 119])) vNil))))) (sSeq (sSet 10 (dOp fIx (dLst (vCons (dOp fAdd (dC (.int 1)) (dCall 2 f_l_take (vCons (dVar 0) (vCons (dC (.int 9)) vNil)))) (vCons (dCall 2 f_l_ounces (vCons (dVar 0) (vCons (dC (.bl false)) vNil))) vNil))) (dCall 2 f_l_take (vCons (dVar 0) (vCons (dC (.int 2)) vNil)))))
    (sRet (dSl (dTup (vCons (dVar 5) (vCons (dVar 6) (vCons (dVar 10) (vCons (dVar 7) vNil))))) oNone (oSome (dOp fAdd (dC (.int 3)) (dB bInt (aCons (dOp fEq (dVar 5) (dC (.str [100, 114, 97, 119]))) aNil))))))) sNil)
    (sRet (dSl (dTup (vCons (dVar 5) (vCons (dVar 6) (vCons (dVar 8) vNil)))) oNone (oSome (dOp fAdd (dC (.int 2)) (dB bInt (aCons (dOp fEq (dVar 5) (dC (.str [115, 101, 110, 100]))) aNil)))))))))))))
def f_l_deed : DF := runB 11 b_l_deed
def vp (a b : Int) : Bool := decide (1 ≤ a) && (decide (a ≤ b) && (decide (b ≤ 12) && decide (Int.gcd a b = 1)))
theorem two {xs : List PV} (h : (xs.length : Int) = 2) : ∃ a b, xs = [a, b] := by
  rcases xs with _ | ⟨a, _ | ⟨b, _ | ⟨c, d⟩⟩⟩
  · simp at h
  · simp at h
  · exact ⟨a, b, rfl⟩
  · simp at h; omega
end Pq

end
namespace Pq
open PySem L2 Mi
abbrev DD := List (List Nat × Int)
def kys (D : DD) : List (List Nat) := D.map (·.1)
def tot (D : DD) (w : List Nat) : Int := ((D.filter fun p => decide (p.1 = w)).map (·.2)).sum
def addD (D : DD) (p : List Nat × Int) : DD := if p.1 ∈ kys D then D.map (fun q => if q.1 = p.1 then (q.1, q.2 + p.2) else q) else D ++ [p]
def accD (L D : DD) : DD := L.foldl addD D
def ssort (ks : List (List Nat)) : List (List Nat) := ks.mergeSort fun a b => decide (a ≤ b)
theorem ssort_perm (ks : List (List Nat)) : (ssort ks).Perm ks := List.mergeSort_perm ..
def canon (D : DD) : DD := (ssort (kys D)).map fun k => (k, tot D k)
def sums (L : DD) : DD := canon (accD L [])
end Pq

section
local macro_rules | `(tactic| walk_at "pwp") => `(tactic| simp -implicitDefEqProofs only [Pq.pSortC_ap, Pq.sortCO_s, Pq.pdiC_ap, Pq.qRevA_s, Pq.qRevA_t, Pq.qRevA_l, Pq.pMsN_ap, Pq.msN_s, Pq.msNO_s, Pq.pMi_ap, Pq.miA_b, Pq.miA_i, Pq.miB_s, Pq.miR_s, Pq.qExtend_l, Pq.pBn_ap, Pq.newK_s, Pq.newO_s, Pq.pNewK_ap, Pq.pNewT_ap, Pq.getA_K, Pq.getA_T, Pq.getA_Ki, Pq.getA_Ti, Pq.getB_s, Pq.getR_s, Pq.getR_n, Pq.dgetP_s, Pq.dgetP_i, Pq.dgetP_ss, Pq.dgetP_si, Pq.dgetP_ssi, Pq.ixR_s, Pq.pIx_ds, Pq.pIx_di, Pq.pIx_dt, Pq.pIn_ds, Pq.pIn_dt, Pq.pNotIn_ds, Pq.pNotIn_dt, Pq.inR_s, Pq.inO_f, Pq.inO_t, Pq.setIx_dK, Pq.setIx_dT_ss, Pq.setIx_dT_si, Pq.setIx_dT_ssi, Pq.qSortedK_d, Pq.skK_s, Option.isSome_some, Option.isSome_none, Pq.qListS_s, Pq.qListS_t, Pq.pDispC_ap, Pq.pGet2_ap, Pq.pntL_l, Pq.qIsNo_b, Pq.tyP_k, Pq.pdiZK_ap, Pq.zkK_t, Pq.qLenK_k, Pq.pIsN_k, Pq.flatC_n1, Pq.flatC_n2, Pq.flatC_n3, Pq.flatO_b, Pq.flatO_i, Pq.flatO_s, Pq.pIsN_b, Pq.pIsN_i, Pq.pIsN_s, Pq.pIsN_t, Pq.pIsN_l, Pq.pNotN_b, Pq.pNotN_i, Pq.pNotN_s, Pq.pNotN_t, Pq.pNotN_l, Pq.pdiZ_ap, Pq.zK_l, Pq.zK_t, Pq.pLtT_is, Pq.qIs_b, Pq.qInR_i, Pq.pSortK_ap, Pq.isIo_fw, Pq.pIn_t2, Pq.pNotIn_t2, Pq.pRev_t, Pq.pRev_l, Pq.pIn_sc, Pq.pIn_strs, Pq.qsJoin_l, Pq.pMs_ap, Pq.msK_s, Pq.ms2_s, Pq.wq_ms2i, Pq.wf_run, Pq.wf_ok, Pq.wf_ex, Pq.ws_nil, Pq.ws_seq, Pq.ws_ret, Pq.ws_retN, Pq.ws_raise, Pq.ws_expr, Pq.ws_set, Pq.ws_setA, Pq.wsetA_im, Pq.wsetA_ow, Pq.ws_if, Pq.ws_brk, Pq.ws_cnt, Pq.ws_aug, Pq.ws_par, Pq.ws_parG, Pq.ws_asg, Pq.ws_frz, Pq.ws_for, Pq.frz_0, Pq.frz_0i, Pq.frz_0n, Pq.frz_0o, Pq.frz_s, Pq.wg_go, Pq.wi_t, Pq.wi_f, Pq.wn_t, Pq.wq_ok, Pq.wq_ex, Pq.wq_bind, Pq.wq_optS, Pq.wq_gd, Pq.wq_szs, Pq.wq_optI, Pq.wq_ite, Pq.wq_br, Pq.bq_ok, Pq.brq_t, Pq.brq_f, Pq.wo_s, Pq.wo_n, Pq.wo_ite, Pq.wo_some_ite, Pq.wo_sub, Pq.pVar_s, Pq.pVar_im, Pq.pVar_ow, Pq.pVar_io, Pq.ps_0, Pq.ps_s, Pq.pC_ap, Pq.pOp_ap, Pq.pU_ap, Pq.pT_ap, Pq.pbAnd_ap, Pq.pbOr_ap, Pq.pbNot_ap, Pq.pAnd_ap, Pq.pOr_ap, Pq.pNot_ap, Pq.pIf_ap, Pq.pCh_ap, Pq.pCh3_ap, Pq.pasB_b, Pq.see2_e, Pq.see1_e, Pq.seeA_e, Pq.opt2_s, Pq.opt1_s, Pq.optA_s, Pq.pv_im, Pq.pv_ow, Pq.pv_br, Pq.ownK_ow, Pq.ownK_io, Pq.pvAll_n, Pq.pvAll_c, Pq.pvC_s, Pq.paNil_ap, Pq.paCons_ap, Pq.pB_ap, Pq.poI_im, Pq.poI_ow, Pq.pvNil_ap, Pq.pvCons_ap, Pq.pTup_ap, Pq.pLst_ap, Pq.pgNil_ap, Pq.pgCons_ap, Pq.argO_1, Pq.argO_2, Pq.argO_3, Pq.argO_4, Pq.argO_5, Pq.pNone_ap, Pq.asIq_i, Pq.pSome_ap, Pq.pSl_ap, Pq.pCall_ap, Pq.wq_call, Pq.callOk_e, Pq.brs_n, Pq.brs_br, Pq.brs_im, Pq.brs_ow, Pq.owc_n, Pq.owc_br, Pq.owc_im, Pq.owc_ow, Pq.nodB_n, Pq.nodB_1, Pq.nodB_2, Pq.nodB_3, Pq.imb_n, Pq.imb_f, Pq.imb_t, Pq.imb_fi, Pq.imb_fo, Pq.callFl_e, Pq.isE_n, Pq.isE_c, Pq.putO_n, Pq.putO_b, Pq.putO_f, Pq.putO_im, Pq.putO_ow, Pq.upd_0, Pq.upd_s, Pq.PS_put_im, Pq.PS_put_ow, Pq.PS_put_io, Pq.pAdd_ii, Pq.pAdd_ss, Pq.pAdd_ll, Pq.pAdd_tt, Pq.pSub_ii, Pq.pMul_ii, Pq.pMul_si, Pq.pMul_li, Pq.pMod_ii, Pq.pFdiv_ii, Pq.pPow_ii, Pq.pNeg_i, Pq.pLt_ii, Pq.pLe_ii, Pq.pGt_ii, Pq.pGe_ii, Pq.pLt_ss, Pq.pLe_ss, Pq.pAddI_ii, Pq.pAddI_ss, Pq.ixK_s, Pq.pIx_l, Pq.pIx_t, Pq.pIx_f, Pq.pSlF_l, Pq.pSlF_t, Pq.pSlF_f, Pq.pSlF_s, Pq.pEq_ii, Pq.pNe_ii, Pq.pEq_ss, Pq.pNe_ss, Pq.pEq_bb, Pq.pNe_bb, Pq.pIsN_n, Pq.pNotN_n, Pq.qLen_l, Pq.qLen_t, Pq.qLen_f, Pq.qLen_d, Pq.qLen_s, Pq.qAbs_i, Pq.qInt_i, Pq.qInt_b, Pq.qMax_ii, Pq.qMin_ii, Pq.qDivmod_ii, Pq.qList_l, Pq.qList_t, Pq.qList_f, Pq.qTuple_l, Pq.qTuple_t, Pq.qTuple_f, Pq.qStr_s, Pq.qStr_i, Pq.qStr_b, Pq.qStr_n, Pq.qIsi_e, Pq.qIsi2_e, Pq.tyP_1, Pq.tyP_2, Pq.tyP_3, Pq.tyP_4, Pq.tyP_5, Pq.tyP_6, Pq.tyP_7, Pq.tyP_8, Pq.sb_00, Pq.sb_01, Pq.sb_02, Pq.sb_03, Pq.sb_04, Pq.sb_05, Pq.sb_06, Pq.sb_10, Pq.sb_11, Pq.sb_12, Pq.sb_13, Pq.sb_14, Pq.sb_15, Pq.sb_16, Pq.sb_20, Pq.sb_21, Pq.sb_22, Pq.sb_23, Pq.sb_24, Pq.sb_25, Pq.sb_26, Pq.sb_30, Pq.sb_31, Pq.sb_32, Pq.sb_33, Pq.sb_34, Pq.sb_35, Pq.sb_36, Pq.sb_40, Pq.sb_41, Pq.sb_42, Pq.sb_43, Pq.sb_44, Pq.sb_45, Pq.sb_46, Pq.sb_50, Pq.sb_51, Pq.sb_52, Pq.sb_53, Pq.sb_54, Pq.sb_55, Pq.sb_56, Pq.sb_60, Pq.sb_61, Pq.sb_62, Pq.sb_63, Pq.sb_64, Pq.sb_65, Pq.sb_66, Pq.retO_im, Pq.retO_ow, Pq.retO_br, Pq.retK_s, Pq.isIo_fv, Pq.notOwn_fv, Pq.frz_fv, Pq.isIo_im, Pq.isIo_ow, Pq.isIo_io, Pq.isIo_n, Pq.isIo_s, Pq.pset_n, Pq.pset_c, Pq.psetG_n, Pq.psetG_i, Pq.psetG_o, Pq.pnt_nm, Pq.pnt_tp, Pq.pnt_tpl, Pq.ex_im, Pq.setIx_li, Pq.setK_s, Pq.prunT_n, Pq.prunT_c, Pq.pgT_t, Pq.wq_mt, Pq.isLK_s, Pq.mtK_s, Pq.qAppend_1, Pq.qReverse_0, Pq.qClear_0, Pq.qInsert_2, Pq.okw_n, Pq.all_n, Pq.pdiV_ap, Pq.pitV_e, Pq.pitK_l, Pq.pitK_lo, Pq.pitK_lb, Pq.pitK_t, Pq.pitK_f, Pq.pitK_s, Pq.pdiR1_ap, Pq.pdiR2_ap, Pq.pdiR1_e, Pq.pdiR2_e, Pq.pdiE_ap, Pq.penO_ol, Pq.penO_il, Pq.wq_comp, Pq.pYes_ap, Pq.wipeP_n, Pq.wipeP_c, Pq.restP_n, Pq.restP_c, Pq.notOwn_0, Pq.notOwn_1, Pq.notOwn_2, Pq.notOwn_3, Pq.notOwn_s, Pq.all_c, Pq.all_e, Pq.Kf_nx, Pq.Kf_rt, Pq.Kf_ex, Pq.wout_e, Pq.outK_n, Pq.outK_f, Pq.outK_t, Pq.contK_s, Pq.start_n, Pq.start_t, Pq.start_f, Pq.Kin_nx, Pq.Kin_ct, Pq.Kin_bk, Pq.Kin_rt, Pq.Kin_ex, Pq.atI_0, Pq.atI_1, Pq.atI_2, Pq.atI_3, Pq.atI_4, List.set_cons_succ, List.set_cons_zero, List.map_cons, List.map_nil, List.cons_append, List.nil_append, List.length_cons, List.length_nil, List.replicate_succ, List.replicate_zero, List.append_nil, Nat.reduceSub, Nat.reduceAdd, Nat.reduceMul, Int.reduceAdd, Int.reduceSub, Int.reduceMul, Int.reduceNeg, Int.reduceLT, Int.reduceLE, Nat.reduceLeDiff, Nat.reduceLT, decide_true, decide_false, Int.reduceToNat, Bool.not_true, Bool.not_false, and_true, true_and, and_self, true_or, or_true, List.set_nil, Int.reduceMod, Int.reduceDiv, Int.reducePow, Int.cast_ofNat_Int, Int.reduceEq, Int.reduceNe, Nat.reduceEqDiff, eq_self, false_and, and_false, Nat.zero_add, Int.zero_add, Int.add_zero, or_false, false_or, Option.getD_some, Option.getD_none, List.getElem?_cons_zero, List.getElem?_cons_succ, reduceIte, Bool.and_self, Bool.or_self, Bool.and_true, Bool.true_and, Bool.and_false, Bool.false_and, Bool.or_true, Bool.or_false, Bool.true_or, Bool.false_or, Bool.false_eq_true, Bool.true_eq_false, not_true_eq_false, not_false_eq_true])
namespace Pq
open PySem L2 Mi PyProof.Rows
def b_l_rules : SD :=
    (sSeq (sPar [2, 3, 4] (vCons (dLst vNil) (vCons (dLst vNil) (vCons (dNewT) vNil))))
    (sSeq (sFor (diR1 (dC (.int 7))) (.nm 5) (sSeq (sSet 6 (dComp [7] (diV (dB bSorted (aCons (dVar 1) aNil))) (.nm 7) (dT (dOp fGt (dCall 2 f_l_take (vCons (dVar 0) (vCons (dC (.int 3)) vNil))) (dC (.int 0)))) (dVar 7)))
    (sSeq (sSet 8 (dComp [7] (diV (dVar 6)) (.nm 7) tYesB (dTup (vCons (dVar 7) (vCons (dOp fAdd (dC (.int 1)) (dCall 2 f_l_take (vCons (dVar 0) (vCons (dOp fIx (dLst (vCons (dC (.int 9)) (vCons (dC (.int 100)) vNil))) (dCall 2 f_l_take (vCons (dVar 0) (vCons (dC (.int 2)) vNil)))) vNil)))) vNil)))))
    (sSeq (sIf ((bAnd (dT (dOp fGt (dVar 5) (dC (.int 0)))) (dT (dOp fEq (dCall 2 f_l_take (vCons (dVar 0) (vCons (dC (.int 4)) vNil))) (dC (.int 0)))))) (sSet 8 (dB bList (aCons (dOp fIx (dVar 2) (dC (.int (-1)))) aNil))) sNil)
    (sExpr (dMt isL (onL lAppend) (dVar 2) (vCons (dB bTuple (aCons (dVar 8) aNil)) vNil)))))))
    (sSeq (sFor (diR1 (dOp fMul (dOp fIx (dLst (vCons (dC (.int 0)) (vCons (dC (.int 2)) (vCons (dC (.int 4)) (vCons (dC (.int 12)) vNil))))) (dCall 2 f_l_take (vCons (dVar 0) (vCons (dC (.int 4)) vNil)))) (dB bInt (aCons (dOp fGt (dB bLen (aCons (dVar 1) aNil)) (dC (.int 1))) aNil)))) (.nm 9) (sSeq (sSet 10 (dCall 2 f_l_take (vCons (dVar 0) (vCons (dB bLen (aCons (dVar 1) aNil)) vNil))))
    (sSeq (sPar [7, 11] (vCons (dOp fIx (dVar 1) (dVar 10)) (vCons (dOp fIx (dVar 1) (dOp fMod (dOp fAdd (dOp fAdd (dVar 10) (dC (.int 1))) (dCall 2 f_l_take (vCons (dVar 0) (vCons (dOp fSub (dB bLen (aCons (dVar 1) aNil)) (dC (.int 1))) vNil)))) (dB bLen (aCons (dVar 1) aNil)))) vNil)))
    (sIf (dT (dOp fNotIn (dTup (vCons (dVar 7) (vCons (dVar 11) vNil))) (dVar 4))) (sSeq (sAsg (dC (.bl true)) (tdSub (dVar 4) (dTup (vCons (dVar 7) (vCons (dVar 11) vNil)))))
    (sExpr (dMt isL (onL lAppend) (dVar 3) (vCons (dTup (vCons (dVar 7) (vCons (dVar 11) (vCons (dOp fAdd (dC (.int 1)) (dCall 2 f_l_take (vCons (dVar 0) (vCons (dOp fIx (dLst (vCons (dC (.int 3)) (vCons (dC (.int 20)) vNil))) (dCall 2 f_l_take (vCons (dVar 0) (vCons (dC (.int 2)) vNil)))) vNil)))) (vCons (dOp fAdd (dC (.int 1)) (dCall 2 f_l_take (vCons (dVar 0) (vCons (dC (.int 4)) vNil)))) vNil))))) vNil)))) sNil))))
    (sRet (dTup (vCons (dB bTuple (aCons (dVar 2) aNil)) (vCons (dB bTuple (aCons (dVar 3) aNil)) vNil)))))))
def f_l_rules : DF := runB 12 b_l_rules
def b_l_due : SD :=
    (sSeq (sSet 4 (dLst vNil))
    (sSeq (sFor (diV (dOp fIx (dOp fIx (dVar 0) (dC (.int 0))) (dOp fMod (dVar 1) (dC (.int 7))))) (.tp [5, 6]) (sSeq (sSet 7 (dOp fFdiv (dOp fMul (dOp fMul (dVar 2) (dVar 6)) (dOp fIx (dVar 3) (dC (.int 0)))) (dOp fIx (dVar 3) (dC (.int 1)))))
    (sIf (dT (dOp fGt (dVar 7) (dC (.int 0)))) (sExpr (dMt isL (onL lAppend) (dVar 4) (vCons (dTup (vCons (dVar 5) (vCons (dVar 7) vNil))) vNil))) sNil)))
    (sRet (dVar 4))))
def f_l_due : DF := runB 8 b_l_due
def b_l_as (r_l_as : DF) : SD :=
    (sSeq (sIf (bNot (dT (dU (fIsi2 .lst .tup) (dVar 1)))) (sRet (dVar 1)) sNil)
    (sSeq (sSet 2 (dComp [3] (diV (dVar 1)) (.nm 3) tYesB (dCall 2 r_l_as (vCons (dVar 0) (vCons (dVar 3) vNil)))))
    (sRet (dIf (dT (dOp fEq (dCall 2 f_l_take (vCons (dVar 0) (vCons (dC (.int 2)) vNil))) (dC (.int 0)))) (dB bTuple (aCons (dVar 2) aNil)) (dVar 2)))))
def g_l_as : Nat → DF
  | 0 => fun _ _ => .bad
  | n + 1 => runB 4 (b_l_as (g_l_as n))
def f_l_as : DF := g_l_as 24
def b_l_messes : SD :=
    (sRet (dComp [2] (diV (dVar 1)) (.nm 2) tYesB (dTup (vCons (dVar 2) (vCons (dOp fIx (dLst (vCons (dC (.int 0)) (vCons (dC (.int 1)) (vCons (dOp fAdd (dC (.int 1)) (dCall 2 f_l_take (vCons (dVar 0) (vCons (dC (.int 12)) vNil)))) (vCons (dOp fAdd (dC (.int 1)) (dCall 2 f_l_take (vCons (dVar 0) (vCons (dC (.int 1000)) vNil)))) vNil))))) (dCall 2 f_l_take (vCons (dVar 0) (vCons (dC (.int 4)) vNil)))) vNil)))))
def f_l_messes : DF := runB 3 b_l_messes
def b_part_of : SD :=
    (sRet (dOp fFdiv (dOp fMul (dVar 0) (dOp fIx (dVar 1) (dC (.int 0)))) (dOp fIx (dVar 1) (dC (.int 1)))))
def f_part_of : DF := runB 2 b_part_of
def b_due_list : SD :=
    (sSeq (sSet 4 (dComp [5, 6] (diV (dOp fIx (dOp fIx (dVar 0) (dC (.int 0))) (dOp fMod (dVar 1) (dC (.int 7))))) (.tp [5, 6]) tYesB (dTup (vCons (dVar 5) (vCons (dCall 2 f_part_of (vCons (dOp fMul (dVar 2) (dVar 6)) (vCons (dVar 3) vNil))) vNil)))))
    (sRet (dComp [5, 6] (diV (dVar 4)) (.tp [5, 6]) (dT (dOp fGt (dVar 6) (dC (.int 0)))) (dTup (vCons (dVar 5) (vCons (dVar 6) vNil))))))
def f_due_list : DF := runB 7 b_due_list
def b_week_needs : SD :=
    (sSeq (sSet 3 (dNewK))
    (sSeq (sFor (diR1 (dC (.int 7))) (.nm 4) (sFor (diV (dVar 1)) (.tp [5, 6]) (sFor (diV (dCall 4 f_due_list (vCons (dVar 0) (vCons (dVar 4) (vCons (dVar 6) (vCons (dVar 2) vNil)))))) (.tp [7, 8]) (sAsg (dOp fAdd (dMt isDk mGet2 (dVar 3) (vCons (dVar 7) (vCons (dC (.int 0)) vNil))) (dVar 8)) (tdSub (dVar 3) (dVar 7))))))
    (sRet (dU bSortIt (dVar 3)))))
def f_week_needs : DF := runB 9 b_week_needs
def pb_l_due : PSD :=
    (pSeq (pSetA 4 (pLst pvNil))
    (pSeq (pFor (pdiV (pOp pIx (pOp pIx (pVar 0) (pC (.int 0))) (pOp pMod (pVar 1) (pC (.int 7))))) (.tp [5, 6]) (pSeq (pSet 7 (pOp pFdiv (pOp pMul (pOp pMul (pVar 2) (pVar 6)) (pOp pIx (pVar 3) (pC (.int 0)))) (pOp pIx (pVar 3) (pC (.int 1)))))
    (pIfS (pT (pOp pGt (pVar 7) (pC (.int 0)))) (pExpr (pMt 4 qAppend (pvCons (pTup (pvCons (pVar 5) (pvCons (pVar 7) pvNil))) pvNil))) (pNil))))
    (pRet (pVar 4))))
def pf_l_due : PFn := runP [false, false, false, false] 8 pb_l_due
theorem pu_l_due : PuF f_l_due [false, false, false, false] pf_l_due := pu_f 8 [false, false, false, false] (pu_seq (pu_setA 4 (pu_lst pu_vNil))
    (pu_seq (pu_for (.tp [5, 6]) (pu_iV (pu_op f2_ix (pu_op f2_ix (pu_var 0) (pu_ci)) (pu_op f2_mod (pu_var 1) (pu_ci)))) (pu_seq (pu_set 7 (pu_op f2_fdiv (pu_op f2_mul (pu_op f2_mul (pu_var 2) (pu_var 6)) (pu_op f2_ix (pu_var 3) (pu_ci))) (pu_op f2_ix (pu_var 3) (pu_ci))))
    (pu_ifS (pu_T (pu_op f2_gt (pu_var 7) (pu_ci))) (pu_expr (pu_mt 4 fl_append (pu_vCons (pu_tup (pu_vCons (pu_var 5) (pu_vCons (pu_var 7) pu_vNil))) pu_vNil))) (pu_nil))))
    (pu_ret (pu_var 4))))
def Sq (x : PV) (xs : List PV) : Prop := x = .tup xs ∨ x = .lst xs
inductive All2 {α β : Type} (R : α → β → Prop) : List α → List β → Prop
  | nil : All2 R [] []
  | cons {a : α} {b : β} {as : List α} {bs : List β} : R a b → All2 R as bs → All2 R (a :: as) (b :: bs)
theorem All2.len {α β : Type} {R : α → β → Prop} {as : List α} {bs : List β} (h : All2 R as bs) : as.length = bs.length := by
  induction h with
  | nil => rfl
  | cons _ _ ih => simp [ih]
theorem All2.get {α β : Type} {R : α → β → Prop} {as : List α} {bs : List β} (h : All2 R as bs) : ∀ {i : Nat} {b : β}, bs[i]? = some b → ∃ a, as[i]? = some a ∧ R a b := by
  induction h with
  | nil => intro i b e; simp at e
  | cons r _ ih =>
    intro i b e
    cases i with
    | zero => simp at e; subst e; exact ⟨_, rfl, r⟩
    | succ i => obtain ⟨a, e1, e2⟩ := ih (i := i) (by simpa using e); exact ⟨a, by simpa using e1, e2⟩
theorem All2.mem {α β : Type} {R : α → β → Prop} {as : List α} {bs : List β} (h : All2 R as bs) : ∀ a ∈ as, ∃ b ∈ bs, R a b := by
  induction h with
  | nil => intro a h; cases h
  | cons r _ ih =>
    intro a h
    rcases List.mem_cons.mp h with rfl | h
    · exact ⟨_, List.mem_cons_self .., r⟩
    · obtain ⟨b, h1, h2⟩ := ih a h; exact ⟨b, List.mem_cons_of_mem _ h1, h2⟩
theorem All2.map {α β γ : Type} {R : α → β → Prop} {f : α → γ} {g : β → γ} {as : List α} {bs : List β} (h : All2 R as bs) (e : ∀ a b, R a b → f a = g b) : as.map f = bs.map g := by
  induction h with
  | nil => rfl
  | cons r _ ih => rw [List.map_cons, List.map_cons, e _ _ r, ih]
structure WkOk (w : List DD) : Prop where
  seven : w.length = 7
  few : ∀ r ∈ w, r.length ≤ 100
  small : ∀ r ∈ w, ∀ q ∈ r, 0 ≤ q.2 ∧ q.2 ≤ 1000
def pos (r : DD) : DD := r.filter fun q => decide (0 < q.2)
abbrev Ins := List Nat × List Nat × Int × Int
def inV (i : Ins) : PV := .tup [.str i.1, .str i.2.1, .int i.2.2.1, .int i.2.2.2]
structure RwOk (us : List (List Nat)) (r : DD) : Prop where
  rise : (kys r).Pairwise (· < ·)
  at_ : ∀ q ∈ r, q.1 ∈ us ∧ 1 ≤ q.2 ∧ q.2 ≤ 100
structure InsOk (us : List (List Nat)) (ins : List Ins) : Prop where
  len : ins.length ≤ 12
  at_ : ∀ i ∈ ins, i.1 ∈ us ∧ i.2.1 ∈ us ∧ i.1 ≠ i.2.1 ∧ 1 ≤ i.2.2.1 ∧ i.2.2.1 ≤ 20 ∧ 1 ≤ i.2.2.2 ∧ i.2.2.2 ≤ 4
  nd : (ins.map fun i => (i.1, i.2.1)).Nodup
theorem pair_lt {ks : List (List Nat)} (h : ks.Pairwise (· < ·)) : ks.Nodup := h.imp fun h e => by subst e; exact List.lt_irrefl _ h
theorem RwOk.few {us : List (List Nat)} {r : DD} (h : RwOk us r) : r.length ≤ us.length := by
  have := nodup_len (kys r) us (pair_lt h.rise) fun k hk => by
    obtain ⟨q, hq, rfl⟩ := List.mem_map.mp hk
    exact (h.at_ q hq).1
  simpa [kys] using this
theorem okds_strs {n : Nat} : ∀ us : List (List Nat), PV.okds n (us.map PV.str) = true
  | [] => by simp [PV.okds]
  | u :: us => by simp [PV.okds, PV.okd, okds_strs us]
theorem sortB_strP (us : List (List Nat)) : sortB ((us.map PV.str).map PV.dat) = true := by
  have : (us.map PV.str).map PV.dat = (us.map sOf).map PyData.str := by rw [List.map_map, List.map_map]; rfl
  rw [this]; exact sortB_strs _
theorem sortP_strs (us : List (List Nat)) : sortP (us.map PV.str) (us.map PV.str) = (ssort us).map PV.str := by
  have e1 := PySem.W.sort_maps (r := fun a b : List Nat => decide (a ≤ b)) (s := fun a b : PV × PV => leD a.2.dat b.2.dat) (fun q => (PV.str q, PV.str q)) (l := us) fun a _ b _ => by
    have h := PySem.W.dataLe_str (β := List Nat) sOf
    exact (congrFun (congrFun h a) b).symm
  unfold sortP
  rw [show (us.map PV.str).zip (us.map PV.str) = us.map fun q => (PV.str q, PV.str q) by rw [List.zip_map']]
  rw [← e1, List.map_map]
  rfl
theorem sorted_strs (us : List (List Nat)) : qSorted [.lst (us.map PV.str)] = some (.ow (.lst ((ssort us).map PV.str))) := by
  rw [qSorted_l (okds_strs us) (sortB_strP us), sortP_strs]
theorem ssort_len (us : List (List Nat)) : (ssort us).length = us.length := (ssort_perm us).length_eq
mutual
inductive Lk : PV → PV → Prop
  | leaf (x : PV) : (tyP x).sub .lst = false → (tyP x).sub .tup = false → Lk x x
  | seq {x y : PV} {xs ys : List PV} : Sq x xs → Sq y ys → Lks xs ys → Lk x y
inductive Lks : List PV → List PV → Prop
  | nil : Lks [] []
  | cons {x y : PV} {xs ys : List PV} : Lk x y → Lks xs ys → Lks (x :: xs) (y :: ys)
end
end Pq

end
section
local macro_rules | `(tactic| walk_at "pwp") => `(tactic| simp -implicitDefEqProofs only [Pq.pSortC_ap, Pq.sortCO_s, Pq.pdiC_ap, Pq.qRevA_s, Pq.qRevA_t, Pq.qRevA_l, Pq.pMsN_ap, Pq.msN_s, Pq.msNO_s, Pq.pMi_ap, Pq.miA_b, Pq.miA_i, Pq.miB_s, Pq.miR_s, Pq.qExtend_l, Pq.pBn_ap, Pq.newK_s, Pq.newO_s, Pq.pNewK_ap, Pq.pNewT_ap, Pq.getA_K, Pq.getA_T, Pq.getA_Ki, Pq.getA_Ti, Pq.getB_s, Pq.getR_s, Pq.getR_n, Pq.dgetP_s, Pq.dgetP_i, Pq.dgetP_ss, Pq.dgetP_si, Pq.dgetP_ssi, Pq.ixR_s, Pq.pIx_ds, Pq.pIx_di, Pq.pIx_dt, Pq.pIn_ds, Pq.pIn_dt, Pq.pNotIn_ds, Pq.pNotIn_dt, Pq.inR_s, Pq.inO_f, Pq.inO_t, Pq.setIx_dK, Pq.setIx_dT_ss, Pq.setIx_dT_si, Pq.setIx_dT_ssi, Pq.qSortedK_d, Pq.skK_s, Option.isSome_some, Option.isSome_none, Pq.qListS_s, Pq.qListS_t, Pq.pDispC_ap, Pq.pGet2_ap, Pq.pntL_l, Pq.qIsNo_b, Pq.tyP_k, Pq.pdiZK_ap, Pq.zkK_t, Pq.qLenK_k, Pq.pIsN_k, Pq.flatC_n1, Pq.flatC_n2, Pq.flatC_n3, Pq.flatO_b, Pq.flatO_i, Pq.flatO_s, Pq.pIsN_b, Pq.pIsN_i, Pq.pIsN_s, Pq.pIsN_t, Pq.pIsN_l, Pq.pNotN_b, Pq.pNotN_i, Pq.pNotN_s, Pq.pNotN_t, Pq.pNotN_l, Pq.pdiZ_ap, Pq.zK_l, Pq.zK_t, Pq.pLtT_is, Pq.qIs_b, Pq.qInR_i, Pq.pSortK_ap, Pq.isIo_fw, Pq.pIn_t2, Pq.pNotIn_t2, Pq.pRev_t, Pq.pRev_l, Pq.pIn_sc, Pq.pIn_strs, Pq.qsJoin_l, Pq.pMs_ap, Pq.msK_s, Pq.ms2_s, Pq.wq_ms2i, Pq.wf_run, Pq.wf_ok, Pq.wf_ex, Pq.ws_nil, Pq.ws_seq, Pq.ws_ret, Pq.ws_retN, Pq.ws_raise, Pq.ws_expr, Pq.ws_set, Pq.ws_setA, Pq.wsetA_im, Pq.wsetA_ow, Pq.ws_if, Pq.ws_brk, Pq.ws_cnt, Pq.ws_aug, Pq.ws_par, Pq.ws_parG, Pq.ws_asg, Pq.ws_frz, Pq.ws_for, Pq.frz_0, Pq.frz_0i, Pq.frz_0n, Pq.frz_0o, Pq.frz_s, Pq.wg_go, Pq.wi_t, Pq.wi_f, Pq.wn_t, Pq.wq_ok, Pq.wq_ex, Pq.wq_bind, Pq.wq_optS, Pq.wq_gd, Pq.wq_szs, Pq.wq_optI, Pq.wq_ite, Pq.wq_br, Pq.bq_ok, Pq.brq_t, Pq.brq_f, Pq.wo_s, Pq.wo_n, Pq.wo_ite, Pq.wo_some_ite, Pq.wo_sub, Pq.pVar_s, Pq.pVar_im, Pq.pVar_ow, Pq.pVar_io, Pq.ps_0, Pq.ps_s, Pq.pC_ap, Pq.pOp_ap, Pq.pU_ap, Pq.pT_ap, Pq.pbAnd_ap, Pq.pbOr_ap, Pq.pbNot_ap, Pq.pAnd_ap, Pq.pOr_ap, Pq.pNot_ap, Pq.pIf_ap, Pq.pCh_ap, Pq.pCh3_ap, Pq.pasB_b, Pq.see2_e, Pq.see1_e, Pq.seeA_e, Pq.opt2_s, Pq.opt1_s, Pq.optA_s, Pq.pv_im, Pq.pv_ow, Pq.pv_br, Pq.ownK_ow, Pq.ownK_io, Pq.pvAll_n, Pq.pvAll_c, Pq.pvC_s, Pq.paNil_ap, Pq.paCons_ap, Pq.pB_ap, Pq.poI_im, Pq.poI_ow, Pq.pvNil_ap, Pq.pvCons_ap, Pq.pTup_ap, Pq.pLst_ap, Pq.pgNil_ap, Pq.pgCons_ap, Pq.argO_1, Pq.argO_2, Pq.argO_3, Pq.argO_4, Pq.argO_5, Pq.pNone_ap, Pq.asIq_i, Pq.pSome_ap, Pq.pSl_ap, Pq.pCall_ap, Pq.wq_call, Pq.callOk_e, Pq.brs_n, Pq.brs_br, Pq.brs_im, Pq.brs_ow, Pq.owc_n, Pq.owc_br, Pq.owc_im, Pq.owc_ow, Pq.nodB_n, Pq.nodB_1, Pq.nodB_2, Pq.nodB_3, Pq.imb_n, Pq.imb_f, Pq.imb_t, Pq.imb_fi, Pq.imb_fo, Pq.callFl_e, Pq.isE_n, Pq.isE_c, Pq.putO_n, Pq.putO_b, Pq.putO_f, Pq.putO_im, Pq.putO_ow, Pq.upd_0, Pq.upd_s, Pq.PS_put_im, Pq.PS_put_ow, Pq.PS_put_io, Pq.pAdd_ii, Pq.pAdd_ss, Pq.pAdd_ll, Pq.pAdd_tt, Pq.pSub_ii, Pq.pMul_ii, Pq.pMul_si, Pq.pMul_li, Pq.pMod_ii, Pq.pFdiv_ii, Pq.pPow_ii, Pq.pNeg_i, Pq.pLt_ii, Pq.pLe_ii, Pq.pGt_ii, Pq.pGe_ii, Pq.pLt_ss, Pq.pLe_ss, Pq.pAddI_ii, Pq.pAddI_ss, Pq.ixK_s, Pq.pIx_l, Pq.pIx_t, Pq.pIx_f, Pq.pSlF_l, Pq.pSlF_t, Pq.pSlF_f, Pq.pSlF_s, Pq.pEq_ii, Pq.pNe_ii, Pq.pEq_ss, Pq.pNe_ss, Pq.pEq_bb, Pq.pNe_bb, Pq.pIsN_n, Pq.pNotN_n, Pq.qLen_l, Pq.qLen_t, Pq.qLen_f, Pq.qLen_d, Pq.qLen_s, Pq.qAbs_i, Pq.qInt_i, Pq.qInt_b, Pq.qMax_ii, Pq.qMin_ii, Pq.qDivmod_ii, Pq.qList_l, Pq.qList_t, Pq.qList_f, Pq.qTuple_l, Pq.qTuple_t, Pq.qTuple_f, Pq.qStr_s, Pq.qStr_i, Pq.qStr_b, Pq.qStr_n, Pq.qIsi_e, Pq.qIsi2_e, Pq.tyP_1, Pq.tyP_2, Pq.tyP_3, Pq.tyP_4, Pq.tyP_5, Pq.tyP_6, Pq.tyP_7, Pq.tyP_8, Pq.sb_00, Pq.sb_01, Pq.sb_02, Pq.sb_03, Pq.sb_04, Pq.sb_05, Pq.sb_06, Pq.sb_10, Pq.sb_11, Pq.sb_12, Pq.sb_13, Pq.sb_14, Pq.sb_15, Pq.sb_16, Pq.sb_20, Pq.sb_21, Pq.sb_22, Pq.sb_23, Pq.sb_24, Pq.sb_25, Pq.sb_26, Pq.sb_30, Pq.sb_31, Pq.sb_32, Pq.sb_33, Pq.sb_34, Pq.sb_35, Pq.sb_36, Pq.sb_40, Pq.sb_41, Pq.sb_42, Pq.sb_43, Pq.sb_44, Pq.sb_45, Pq.sb_46, Pq.sb_50, Pq.sb_51, Pq.sb_52, Pq.sb_53, Pq.sb_54, Pq.sb_55, Pq.sb_56, Pq.sb_60, Pq.sb_61, Pq.sb_62, Pq.sb_63, Pq.sb_64, Pq.sb_65, Pq.sb_66, Pq.retO_im, Pq.retO_ow, Pq.retO_br, Pq.retK_s, Pq.isIo_fv, Pq.notOwn_fv, Pq.frz_fv, Pq.isIo_im, Pq.isIo_ow, Pq.isIo_io, Pq.isIo_n, Pq.isIo_s, Pq.pset_n, Pq.pset_c, Pq.psetG_n, Pq.psetG_i, Pq.psetG_o, Pq.pnt_nm, Pq.pnt_tp, Pq.pnt_tpl, Pq.ex_im, Pq.setIx_li, Pq.setK_s, Pq.prunT_n, Pq.prunT_c, Pq.pgT_t, Pq.wq_mt, Pq.isLK_s, Pq.mtK_s, Pq.qAppend_1, Pq.qReverse_0, Pq.qClear_0, Pq.qInsert_2, Pq.okw_n, Pq.all_n, Pq.pdiV_ap, Pq.pitV_e, Pq.pitK_l, Pq.pitK_lo, Pq.pitK_lb, Pq.pitK_t, Pq.pitK_f, Pq.pitK_s, Pq.pdiR1_ap, Pq.pdiR2_ap, Pq.pdiR1_e, Pq.pdiR2_e, Pq.pdiE_ap, Pq.penO_ol, Pq.penO_il, Pq.wq_comp, Pq.pYes_ap, Pq.wipeP_n, Pq.wipeP_c, Pq.restP_n, Pq.restP_c, Pq.notOwn_0, Pq.notOwn_1, Pq.notOwn_2, Pq.notOwn_3, Pq.notOwn_s, Pq.all_c, Pq.all_e, Pq.Kf_nx, Pq.Kf_rt, Pq.Kf_ex, Pq.wout_e, Pq.outK_n, Pq.outK_f, Pq.outK_t, Pq.contK_s, Pq.start_n, Pq.start_t, Pq.start_f, Pq.Kin_nx, Pq.Kin_ct, Pq.Kin_bk, Pq.Kin_rt, Pq.Kin_ex, Pq.atI_0, Pq.atI_1, Pq.atI_2, Pq.atI_3, Pq.atI_4, List.set_cons_succ, List.set_cons_zero, List.map_cons, List.map_nil, List.cons_append, List.nil_append, List.length_cons, List.length_nil, List.replicate_succ, List.replicate_zero, List.append_nil, Nat.reduceSub, Nat.reduceAdd, Nat.reduceMul, Int.reduceAdd, Int.reduceSub, Int.reduceMul, Int.reduceNeg, Int.reduceLT, Int.reduceLE, Nat.reduceLeDiff, Nat.reduceLT, decide_true, decide_false, Int.reduceToNat, Bool.not_true, Bool.not_false, and_true, true_and, and_self, true_or, or_true, List.set_nil, Int.reduceMod, Int.reduceDiv, Int.reducePow, Int.cast_ofNat_Int, Int.reduceEq, Int.reduceNe, Nat.reduceEqDiff, eq_self, false_and, and_false, Nat.zero_add, Int.zero_add, Int.add_zero, or_false, false_or, Option.getD_some, Option.getD_none, List.getElem?_cons_zero, List.getElem?_cons_succ, reduceIte, Bool.and_self, Bool.or_self, Bool.and_true, Bool.true_and, Bool.and_false, Bool.false_and, Bool.or_true, Bool.or_false, Bool.true_or, Bool.false_or, Bool.false_eq_true, Bool.true_eq_false, not_true_eq_false, not_false_eq_true])
namespace Pq
open PySem L2 Mi PyProof.Rows
theorem nm_sm {s : List Nat} (h : Nm s) : Sm 4 10 (.str s) := sm_str (fun c hc => by
    have := h.2.2 c hc
    simp only [abc, List.mem_cons, List.not_mem_nil, or_false] at this
    omega) (by have := h.2.1; omega)
theorem wf_get {r : PF} {Q : PO → List PV → Prop} (w : @wf r ⟨Q⟩ ⟨NoF⟩) : ∃ o outs, r = .ok o outs ∧ Q o outs := by
  have h := @wf.out r ⟨Q⟩ ⟨NoF⟩ w
  cases r with
  | ok o outs => exact ⟨o, outs, rfl, h⟩
  | ex c outs => exact (show False from h).elim
  | bad => exact (show False from h).elim
abbrev KN (N : PEn → Prop) : Kq := ⟨N, fun _ _ => False, fun _ => False, fun _ => False, fun _ _ => False⟩
abbrev KR (N : PO → PEn → Prop) : Kq := ⟨fun _ => False, N, fun _ => False, fun _ => False, fun _ _ => False⟩
theorem ws_nx {q : POut} {N : PEn → Prop} (w : @ws q ⟨(KN N)⟩) : ∃ π, q = .nx π ∧ N π := by
  have w := @ws.out q ⟨KN N⟩ w
  cases q <;> first | exact ⟨_, rfl, w⟩ | exact (show False from w).elim
theorem ws_rt {q : POut} {N : PO → PEn → Prop} (w : @ws q ⟨(KR N)⟩) : ∃ o π, q = .rt o π ∧ N o π := by
  have w := @ws.out q ⟨KR N⟩ w
  cases q <;> first | exact ⟨_, _, rfl, w⟩ | exact (show False from w).elim
abbrev NoT : Nat → Prop := fun _ => False
inductive ZR (h : MH) (S : Nat → Prop) : En → PEn → Js → Prop
  | nil : ZR h S [] [] []
  | no {x : Option Val} {ρ : En} {π : PEn} {js : Js} : ZR h S ρ π js → ZR h S (x :: ρ) (none :: π) (none :: js)
  | im {v : Val} {d : PV} {ρ : En} {π : PEn} {js : Js} : Im h S v d → ZR h S ρ π js → ZR h S (some v :: ρ) (some (.im d) :: π) (none :: js)
  | ow {n : Nat} {o : Ob} {d : PV} {ρ : En} {π : PEn} {js : Js} : h[n]? = some o → OC h S o d → ZR h S ρ π js → ZR h S (some (.ref n) :: ρ) (some (.ow d) :: π) (some n :: js)
theorem ZR.len {h : MH} {S : Nat → Prop} {ρ : En} {π : PEn} {js : Js} (z : ZR h S ρ π js) : ρ.length = π.length := by
  induction z with
  | nil => rfl
  | no _ ih => simp [ih]
  | im _ _ ih => simp [ih]
  | ow _ _ _ ih => simp [ih]
theorem ZR.at_ {h : MH} {S : Nat → Prop} {ρ : En} {π : PEn} {js : Js} (z : ZR h S ρ π js) : ∀ (i : Nat) (s : PS), π[i]? = some (some s) →
    (∃ d v, s = .im d ∧ ρ[i]? = some (some v) ∧ Im h S v d) ∨ ∃ d n o, s = .ow d ∧ ρ[i]? = some (some (.ref n)) ∧ h[n]? = some o ∧ OC h S o d ∧ js[i]? = some (some n) := by
  induction z with
  | nil => intro i s e; simp at e
  | no _ ih =>
    intro i s e
    cases i with
    | zero => simp at e
    | succ i => simp at e; simpa using ih i s e
  | im r _ ih =>
    intro i s e
    cases i with
    | zero => simp at e; subst e; exact .inl ⟨_, _, rfl, rfl, r⟩
    | succ i => simp at e; simpa using ih i s e
  | ow q r _ ih =>
    intro i s e
    cases i with
    | zero => simp at e; subst e; exact .inr ⟨_, _, _, rfl, rfl, q, r, rfl⟩
    | succ i => simp at e; simpa using ih i s e
theorem ZR.js {h : MH} {S : Nat → Prop} {ρ : En} {π : PEn} {js : Js} (z : ZR h S ρ π js) : ∀ (i n : Nat), js[i]? = some (some n) → ∃ d, π[i]? = some (some (.ow d)) := by
  induction z with
  | nil => intro i n e; simp at e
  | no _ ih =>
    intro i n e
    cases i with
    | zero => simp at e
    | succ i => simp at e ⊢; exact ih i n e
  | im _ _ ih =>
    intro i n e
    cases i with
    | zero => simp at e
    | succ i => simp at e ⊢; exact ih i n e
  | ow _ _ _ ih =>
    intro i n e
    cases i with
    | zero => exact ⟨_, rfl⟩
    | succ i => simp at e ⊢; exact ih i n e
theorem ZR.rn {h : MH} {ρ : En} {π : PEn} {js : Js} (z : ZR h (Sj NoT js) ρ π js) (inj : ∀ (i j n : Nat), js[i]? = some (some n) → js[j]? = some (some n) → i = j) : Rn NoT (jA js) h ρ π := by
  refine ⟨z.len, fun i d e => ?_, fun i s d e q => ?_, fun i m e => ?_, fun i k m e1 e2 => inj i k m (jA_s.1 e1) (jA_s.1 e2), fun _ z => z.elim, fun i m _ z => z⟩
  · rcases z.at_ i _ e with ⟨d', v, e1, e2, r⟩ | ⟨d', n', o, e1, _⟩
    · cases e1
      exact ⟨v, e2, r.weak fun m z => (jA_av m).1 z⟩
    · cases e1
  · rcases z.at_ i _ e with ⟨d', v, e1, e2, r⟩ | ⟨d', n', o, e1, e2, e3, e4, e5⟩
    · subst e1; cases q
    · subst e1; cases q
      exact ⟨n', o, jA_s.2 e5, e2, e3, e4.mono (sub_mk fun m z => (jA_av m).1 z)⟩
  · obtain ⟨d, e2⟩ := z.js i m (jA_s.1 e)
    exact ⟨_, d, e2, rfl⟩
theorem part_nx {s : SD} {p : PSD} (hp : PuS s p) {h : MH} {ρ : En} {π : PEn} {A : Aa} (rn : Rn NoT A h ρ π) {N : PEn → Prop} (w : @ws (p π) ⟨(KN N)⟩) : ∃ ρ' h' π', s ρ h = .nx ρ' h' ∧ Nx NoT A h π π' ρ' h' ∧ N π' := by
  obtain ⟨π', e, n⟩ := ws_nx w
  have g := hp NoT A h ρ π rn
  rw [e] at g
  obtain ⟨ρ', h', e2, nx⟩ := g
  exact ⟨ρ', h', π', e2, nx, n⟩
theorem part_rt {s : SD} {p : PSD} (hp : PuS s p) {h : MH} {ρ : En} {π : PEn} {A : Aa} (rn : Rn NoT A h ρ π) {N : PO → PEn → Prop} (w : @ws (p π) ⟨(KR N)⟩) :
    ∃ v h' ρ' A' T2 o π', s ρ h = .rt v h' ∧ Fx A A' π π' h h' ∧ Rn T2 A' h' ρ' π' ∧ RT h' A' T2 (Nio A π h.length) v o ∧ N o π' := by
  obtain ⟨o, π', e, n⟩ := ws_rt w
  have g := hp NoT A h ρ π rn
  rw [e] at g
  obtain ⟨v, h', ρ', A', T2, e2, f, _, r, rr, _⟩ := g
  exact ⟨v, h', ρ', A', T2, o, π', e2, f, r, rr, n⟩
def Keeps (s : SD) : Prop := ∀ ρ h, match s ρ h with
  | .nx ρ' _ => ρ' = ρ
  | .ct ρ' _ => ρ' = ρ
  | .bk ρ' _ => ρ' = ρ
  | _ => True
theorem keeps_nil : Keeps sNil := fun _ _ => rfl
theorem keeps_ret (d : D) : Keeps (sRet d) := fun ρ h => by
  unfold sRet R.out
  cases d ρ h <;> trivial
theorem keeps_if {t : DB} {a b : SD} (ha : Keeps a) (hb : Keeps b) : Keeps (sIf t a b) := fun ρ h => by
  unfold sIf R.out
  cases t ρ h with
  | ok k h1 =>
    cases k
    · exact hb ρ h1
    · exact ha ρ h1
  | _ => trivial
theorem Keeps.nx {s : SD} (k : Keeps s) {ρ ρ' : En} {h h' : MH} (e : s ρ h = .nx ρ' h') : ρ' = ρ := by
  have := k ρ h
  rw [e] at this
  exact this
def At (h : MH) (k n : Nat) : Prop := ∃ (b : PV) (o : Ob), Bx k b ∧ h[n]? = some o ∧ ∀ h' S', OC h' S' o b
theorem oc_flat {h : MH} {S : Nat → Prop} {o : Ob} {b : PV} {k : Nat} (B : Bx k b) (r : OC h S o b) : ∀ h' S', OC h' S' o b := fun h' S' => by
  obtain ⟨a, s, c, rfl, _⟩ := B
  exact OC.flat r rfl
theorem ints_val {h : MH} {S : Nat → Prop} : ∀ {cs : List Int} {xs : List Val}, Ims h S xs (cs.map PV.int) → xs = cs.map Val.int
  | [], _, .nil => rfl
  | c :: cs, _, .cons a b => by
    cases a
    rw [ints_val b]; rfl
theorem ims_int {h : MH} {S : Nat → Prop} : ∀ cs : List Int, Ims h S (cs.map Val.int) (cs.map PV.int)
  | [] => .nil
  | c :: cs => .cons (.int c) (ims_int cs)
theorem box_eq {cs : List Int} {z : Int} (z0 : 0 ≤ z) : ∃ b, Bx 1000000000 b ∧ pf_l_box [.lst (cs.map PV.int), .int z] = .ok (.ow b) [.non, .non] := by
  have h : @wf (pf_l_box [.lst (cs.map PV.int), .int z]) ⟨(fun o outs => ∃ b, Bx 1000000000 b ∧ o = .ow b ∧ outs = [.non, .non])⟩ ⟨NoF⟩ := box_ok z0 fun b B => ⟨b, B, rfl, rfl⟩
  obtain ⟨o, outs, e, b, B, rfl, rfl⟩ := wf_get h
  exact ⟨b, B, e⟩
theorem box_call {h : MH} {n1 : Nat} {cs : List Int} {z : Int} (e1 : h[n1]? = some (.lst (cs.map Val.int))) (z0 : 0 ≤ z) : ∃ (n : Nat) (h' : MH), f_l_box [.ref n1, .int z] h = .ok (.ref n) h' ∧ h.length ≤ n ∧ At h' 1000000000 n ∧ ∀ (m : Nat) (o : Ob), h[m]? = some o → h'[m]? = some o := by
  obtain ⟨b, B, e⟩ := box_eq (cs := cs) z0
  have f := pu_l_box (fun _ => False) h [.ref n1, .int z] [.lst (cs.map PV.int), .int z] [none, none] ⟨fun _ z => z.elim, fun n z => by simp at z, fun i j n z => by
    rcases i with _ | _ | i <;> simp at z, rfl⟩ (.im (.ref (fun z => by rcases z with z | z; exact z; simp at z) e1 (ims_int cs)) (.im (.int z) .nil))
  rw [e] at f
  obtain ⟨v, h', T2, e2, ch, _, _, _, _, n, o, rfl, t2, ln, e3, oc⟩ := f
  exact ⟨n, h', e2, ln, ⟨b, o, B, e3, oc_flat B oc⟩, fun m o q => by rw [ch.keep m (lt_of_get q) (by simp)]; exact q⟩
theorem At.keep {h h' : MH} {k n : Nat} (a : At h k n) (e : h'[n]? = h[n]?) : At h' k n := by
  obtain ⟨b, o, B, e1, oc⟩ := a
  exact ⟨b, o, B, by rw [e]; exact e1, oc⟩
theorem At.lt {h : MH} {k n : Nat} (a : At h k n) : n < h.length := by
  obtain ⟨b, o, B, e1, oc⟩ := a
  exact lt_of_get e1
end Pq

end
namespace Mi
open PySem PySem.Spec PyProof.Rows L2
def dfn (x : Str) (st : Stmt) : He.DefD := ⟨(x, none), x, x, defArgs st, defBody st, defScope st, [], []⟩
theorem fun_at {fa : List He.Fa} {fn : List He.DefD} {K : PySem.W.Frag} (c : He.SaysD fa fn K) (i : Nat) (p : Str × Option Str) {x q : Str} {st : Stmt} (h : fn[i]? = some ⟨p, x, q, defArgs st, defBody st, defScope st, [], []⟩) :
    ∃ fd, Fun K x q st (He.fAd K p) fd ∧ fd.code = .ref (He.cT K p).1 := by
  obtain ⟨fd, F⟩ := c.def_ i h
  obtain ⟨oc, od, dV, kV, doc, pm, an, cdv, ct, osl, e, lk, hcd, dv, _⟩ := F.ex
  have e0 : dV = .none := by
    rcases dv with ⟨_, z⟩ | ⟨z, _⟩
    · exact z
    · exact absurd rfl z
  subst e e0
  obtain ⟨k, rfl⟩ := He.codeIn_ref hcd
  exact ⟨_, ⟨⟨oc, od, kV, doc, pm, an, _, ct, osl, rfl, lk, hcd⟩, F.kp⟩, congrArg Value.ref (He.codeOf_eq lk rfl).symm⟩
abbrev Tfq : Type := List (He.Defn × Str)
def tbs (K : PySem.W.Frag) (l : Tfq) : List (Addr × Str) := l.map fun z => ((He.cT K z.1).2, (z.2 ++ ".<locals>.") ++ "<lambda>")
def tfs (l : Tfq) : List He.Defn := l.map (·.1)
def tabNd (K : PySem.W.Frag) (l : Tfq) : Bool := decide ((l.map fun z => (He.cT K z.1).2).Nodup)
theorem tab_facts {fa : List He.Fa} {fn : List He.DefD} {l : Tfq} {ex : PySem.W.Frag → Bool} {w : World} {h : Heap} {K : PySem.W.Frag} {mg : Str → Option Value} (X : K.In h) (c : He.SaysX fa fn [] (tfs l) ex w h K) : TabF K mg h ((tfs l).map (He.cT K)) where
  emp := fun p hp => by
    obtain ⟨q, hq, rfl⟩ := List.mem_map.mp hp
    exact c.empty q hq
  out := fun p hp => by
    obtain ⟨q, hq, rfl⟩ := List.mem_map.mp hp
    exact c.out q hq
  hd := fun p hp => by
    obtain ⟨q, hq, rfl⟩ := List.mem_map.mp hp
    exact PySem.W.codeHd_of_K X (c.hd q hq)
theorem tab_in {K : PySem.W.Frag} {l : Tfq} : ∀ t ∈ tbs K l, t.1 ∈ ((tfs l).map (He.cT K)).map (·.2) := fun t ht => by
  obtain ⟨z, hz, rfl⟩ := List.mem_map.mp ht
  exact List.mem_map.mpr ⟨He.cT K z.1, List.mem_map.mpr ⟨z.1, List.mem_map.mpr ⟨z, hz, rfl⟩, rfl⟩, rfl⟩
end Mi
namespace Mi
open PySem PySem.Spec PyProof.Rows L2
end Mi
namespace Mi
open PySem PySem.Spec PyProof.Rows L2
theorem law_binds {K : PySem.W.Frag} {x q : Str} {st : Stmt} {f : Addr} {fd : FuncData} (F : Fun K x q st f fd) {p : Str} (h : ∀ (kV doc pm : Value) (an : Option Addr) (cdv ct v : Value), bindArgs (PySem.W.fnOf x q (defArgs st) (defBody st) (defScope st) .none kV doc pm an cdv ct) ⟨[v], []⟩ = pure [(p, v)]) (s : Shared) (v : Value) :
    BindsTo s fd ⟨[v], []⟩ [(p, v)] := by
  obtain ⟨oc, od, kV, doc, pm, an, cdv, ct, osl, rfl, _, _⟩ := F.ex
  exact .of_eq (h _ _ _ _ _ _ _)
end Mi
namespace Mi
open PySem PySem.Spec PyProof.Rows L2
def clsA (cls : List Str) (K : PySem.W.Frag) (c : Nat) : Addr := He.ga K (cls.getD c "")
inductive CR where
  | own (x : Str) | ty (n : String)
def CR.u (K : PySem.W.Frag) : CR → Value
  | .own x => .ref (He.ga K x)
  | .ty n => .type n
theorem exs_at {exs : List (PySem.W.Frag → Bool)} {K : PySem.W.Frag} (h : exs.all (fun f => f K) = true) (i : Nat) {f : PySem.W.Frag → Bool} (e : exs[i]? = some f) : f K = true := List.all_eq_true.mp h f (List.mem_of_getElem? e)
section
open PyProof.Rows
variable {X : Cx} {ca : CA} {W : WX} {a b c d : Expr} {ta tb tc td : TE} {da db dc dd : D} {pos : Pos} {op op' op'' : CmpOp} {r r' r'' : R2} {f f' f'' : O → O → MH → R O}
end
end Mi

namespace Mi
open PySem PySem.Spec PyProof PyProof.Rows L2
end Mi

namespace Mi
open PySem PySem.Spec PyProof PyProof.Rows L2
theorem RF.lookup {K : PySem.W.Frag} {H : Hp} {m : Mu} {f : Str} : ∀ {us : List (Str × V)} {fs : List (Str × Val)} {y : Val}, RF K H m us fs → fs.lookup f = some y → ∃ v, us.lookup f = some v ∧ RV K H m v y
  | _, _, _, .nil, e => by cases e
  | _, _, _, .cons (k := k) (v := v) (y := y') q r, e => by
    rw [List.lookup_cons] at e ⊢
    cases hk : f == k with
    | true =>
      rw [hk] at e
      cases e
      exact ⟨v, rfl, q⟩
    | false =>
      rw [hk] at e
      exact RF.lookup r e
def putFV (f : Str) (v : Val) : List (Str × Val) → List (Str × Val)
  | [] => [(f, v)]
  | (g, x) :: r => if g = f then (g, v) :: r else (g, x) :: putFV f v r
theorem RF.put {K : PySem.W.Frag} {H : Hp} {m : Mu} {f : Str} {w : V} {z : Val} (q : RV K H m w z) : ∀ {us : List (Str × V)} {fs : List (Str × Val)}, RF K H m us fs → RF K H m (putF f w us) (putFV f z fs)
  | _, _, .nil => .cons q .nil
  | _, _, .cons (k := k) rv r => by
    unfold putF putFV
    by_cases h : k = f
    · rw [if_pos h, if_pos h]; exact .cons q r
    · rw [if_neg h, if_neg h]; exact .cons rv (RF.put q r)
theorem RF.len {K : PySem.W.Frag} {H : Hp} {m : Mu} : ∀ {us : List (Str × V)} {fs : List (Str × Val)}, RF K H m us fs → us.length = fs.length
  | _, _, .nil => rfl
  | _, _, .cons _ r => by rw [List.length_cons, List.length_cons, RF.len r]
end Mi

namespace Mi
open PySem PySem.Spec PyProof PyProof.Rows L2
def CalM (P : Program) (w : World) (K : PySem.W.Frag) (mg : Str → Option Value) (base : Heap) (ca : CA) (k c : Nat) (mt : Str) (n : Nat) (fn : DF) : Prop :=
  ∃ (f : Addr) (fd : FuncData) (ps : List Str), FnG P w K mg base k f fd ps (spE ⟨K, ca⟩ n fn) ∧ Meth K (ca c) mt f ∧ Cls K (ca c) ∧ Binds K fd ps []
theorem CalM.mono {P : Program} {w : World} {K : PySem.W.Frag} {mg : Str → Option Value} {base : Heap} {ca : CA} {j k c : Nat} {mt : Str} {n : Nat} {fn : DF} (z : CalM P w K mg base ca j c mt n fn) (h : j ≤ k) : CalM P w K mg base ca k c mt n fn := by
  obtain ⟨f, fd, ps, F, a, b, d⟩ := z
  exact ⟨f, fd, ps, ⟨F.len, fun A outer s H args us vs Q E hg hr => F.run A outer s H args us vs Q E hg (hr.mono h)⟩, a, b, d⟩
section
variable {X : Cx} {ca : CA} {W : WX} {mt : Str} {apos pos : Pos} {o e : Expr} {es : List Expr} {d : D} {ds : DV} {k n c : Nat} {fn : DF}
end
def CalI (P : Program) (w : World) (K : PySem.W.Frag) (mg : Str → Option Value) (base : Heap) (ca : CA) (k c : Nat) (x : Str) (n : Nat) (fn : DF) : Prop :=
  ∃ (f : Addr) (fd : FuncData) (ps : List Str), FnG P w K mg base k f fd ps (spE ⟨K, ca⟩ n fn) ∧ Mk K (ca c) f ∧ mg x = some (.ref (ca c)) ∧ Binds K fd ps []
theorem CalI.mono {P : Program} {w : World} {K : PySem.W.Frag} {mg : Str → Option Value} {base : Heap} {ca : CA} {j k c : Nat} {x : Str} {n : Nat} {fn : DF} (z : CalI P w K mg base ca j c x n fn) (h : j ≤ k) : CalI P w K mg base ca k c x n fn := by
  obtain ⟨f, fd, ps, F, a, b, d⟩ := z
  exact ⟨f, fd, ps, ⟨F.len, fun A outer s H args us vs Q E hg hr => F.run A outer s H args us vs Q E hg (hr.mono h)⟩, a, b, d⟩
section
variable {X : Cx} {ca : CA} {W : WX} {x : Str} {p pos : Pos} {e : Expr} {es : List Expr} {ds : DV} {k n c : Nat} {fn : DF}
end
end Mi
namespace Mi
open PySem
end Mi

namespace Mi
open PySem PySem.Spec PyProof PyProof.Rows L2
section
variable {X : Cx} {ca : CA} {W : WX} {tg e : Expr} {d : D} {apos cpos : Pos}
end
section
variable {g : G} {m0 m m1 : Mu} {H H1 : Hp} {h h2 h3 : MH} {n : Nat} {a : Addr} {od : Obj} {ks : List (Key × V)} {kvs : List (Val × Val)}
end
end Mi
namespace Mi
open PySem PySem.Spec PyProof PyProof.Rows L2
end Mi

namespace Mi
open PySem PySem.Spec PyProof PyProof.Rows L2
section
variable {X : Cx} {ca : CA} {W : WX} {o i e : Expr} {da db d : D} {op : Operator} {tpos pos : Pos} {f : O → O → MH → R O} {r : R2}
end
end Mi
namespace Mi
open PySem PySem.Spec PyProof PyProof.Rows L2
end Mi

namespace Mi
open PySem L2 PyProof PyProof.Rows
end Mi

namespace Mi
open PySem PySem.Spec PyProof PyProof.Rows L2
end Mi

namespace Mi
open PySem L2 PyProof PyProof.Rows
def DK (H : Hp) (a : Addr) (ks : List (Key × V)) : Prop := H a = some (.dK ks) ∨ ∃ o, H a = some (.frz o (.dK ks))
theorem DK.ok {X : Cx} {H : Hp} {hp : Heap} {a : Addr} {ks : List (Key × V)} (k : ∀ (a : Addr) o, H a = some o → ObjOk X.prog X.w H hp a o) (d : DK H a ks) : ObjOk X.prog X.w H hp a (.dK ks) := by
  rcases d with e | ⟨o, e⟩
  · exact k a _ e
  · exact (show _ ∧ ObjOk X.prog X.w H hp a (.dK ks) from k a _ e).2
end Mi

namespace Mi.Lt
open PySem PySem.SeqAt
open AutoSeq1 (wpAny_loadPart')
open MeetsSeq MeetsSeq2 MeetsSeq3 SeqRoads2
end Mi.Lt

namespace Mi.Lt
open PySem PySem.SeqAt PySem.W
def rowX (i : Int) (t : Str) (xs : List PyData) : List PyData := .int i :: .str t :: xs
end Mi.Lt

namespace Mi.Lt
open PySem PySem.SeqAt PySem.W
open MeetsSeq MeetsSeq2 MeetsSeq3 SeqRoads2
section
variable {A : Around} {s : Shared} {l b : Addr} {xs ys : Array Value} {e r : Nat → Bool}
end
end Mi.Lt

namespace Mi.Lt
open PySem PySem.SeqAt PySem.W PyProof.Rows
section
variable {prog : Program} {w : World} {A : Around} {E : Value → Shared → Prop} {s : Shared}
def Apart (i i' : Int) (t t' : Str) (xs ys : List PyData) : Prop := i = i' → t = t' → xs.length = ys.length ∧ ∀ j, pairEq (rowX i t xs) (rowX i' t' ys) j = true
end
end Mi.Lt

namespace Mi.Lt
open PySem PySem.SeqAt PySem.W PyProof.Rows
structure RowD where
  i : Int
  t : Str
  xs : List PyData
def RowD.enc (b : RowD) : PyData := .list (rowX b.i b.t b.xs)
def RowD.key (b : RowD) : PyData := .list [.int b.i, .str b.t]
structure RowsOk (bs : List RowD) : Prop where
  lay : ∀ b ∈ bs, b.enc.canLay0 = true
  pl : ∀ b ∈ bs, PyData.plainAll b.xs = true
  ap : ∀ b ∈ bs, ∀ c ∈ bs, Apart b.i c.i b.t c.t b.xs c.xs
end Mi.Lt

namespace Mi.Lt
open PySem PySem.SeqAt PySem.W PyProof.Rows
end Mi.Lt

namespace Mi.Lt
open PySem PySem.SeqAt PySem.W PyProof.Rows
section
variable {β : Type} {f : β → RowD}
end
end Mi.Lt

namespace Mi
open PySem L2
section
variable {X : Cx}
end
end Mi

namespace Mi
open PySem L2 PyProof PyProof.Rows
end Mi

namespace Mi
open PySem L2 PyProof PyProof.Rows
end Mi

namespace Mi
open PySem L2 PyProof PyProof.Rows PySem.Spec
abbrev set0 (w : World) : Obj := { cls := .type "set", dict := none, data := .set #[] 0 (.fresh 0 0 (!w.params.followText "set-order")) }
def AddsJ (P : Program) (w : World) (A : Around) (S : Addr) (J : Nat → Heap → Prop) (i : Nat) (v : Value) : Prop :=
  ∀ (s : Shared) (E : Value → Shared → Prop) (Q : Bool → Shared → Prop), J i s.heap →
    (∀ b h' tk, Heap.SameBut S s.heap h' → s.toks ≤ tk → J (i + 1) h' → Q b { s with heap := h', toks := tk }) → wpAny (model P w) A (setAdd S v) Q E s
section
variable {P : Program} {w : World} {A : Around}
theorem upd_run {I S : Addr} {fp wr : List Addr} {G : Array GenState → Array GenState → Prop} {n : Nat} {Pv : Nat → Value → Prop} {St : Nat → Shared → Prop} {R : Result → Shared → Prop}
    (W : WalksS P w A.in1 I fp wr G n Pv St) (out : S ∉ fp) (J : Nat → Heap → Prop)
    (keep : ∀ i h h', J i h → (∀ b o, b ∉ wr → h.get? b = some o → h'.get? b = some o) → J i h')
    (more : ∀ i v, i < n → Pv i v → AddsJ P w A.in1 S J i v) :
    ∀ (k i : Nat) (s : Shared), i + k = n → St i s → J i s.heap → (∀ s', Moved (S :: wr) G s s' → J n s'.heap → R (.ok (.ret .none)) s') →
      codeAny (model P w) A (.builtin "set.update.loop" ⟨[.ref S, .ref I], []⟩) R s := by
  have into : ∀ b ∈ wr, b ∈ S :: wr := fun b q => .tail _ q
  intro k
  induction k with
  | zero =>
    intro i s e st j fin
    obtain rfl : i = n := e
    refine codeAny_builtin F.entry_set_update_loop ?_; rw [Around.under_plainId F.plain_set_update_loop _]
    show wpAny _ A.in1 (pyNext (.ref I) >>= _) _ _ s; refine wpAny_bind (W.done s _ _ st fun s' mv => ?_)
    show wpAny _ A.in1 (ret Value.none) _ _ s'
    exact wpAny_pure (fin s' (mv.mono into) (keep _ _ _ j mv.heap))
  | succ k ih =>
    intro i s e st j fin
    have il : i < n := by omega
    refine codeAny_builtin F.entry_set_update_loop ?_; rw [Around.under_plainId F.plain_set_update_loop _]
    show wpAny _ A.in1 (pyNext (.ref I) >>= _) _ _ s; refine wpAny_bind (W.item i s _ _ il st fun v s' pv st' mv => ?_)
    show wpAny _ A.in1 (holding [v] (setAdd S v) >>= _) _ _ s'
    refine wpAny_bind (wpAny_holding (more i v il pv s' _ _ (keep _ _ _ j mv.heap) fun b h' tk sb tl j' => ?_))
    refine wpAny_pure ⟨plainId_quiet F.plain_set_update_loop _, ih (i + 1) _ (by omega) (W.frame _ s' _ _ st' tl fun b hb o q => ?_) j' fun s2 mv2 j2 => ?_⟩
    · rw [sb.2 b fun z : b = S => out (z ▸ hb)]; exact q
    · refine fin s2 (Moved.trans W.gtrans ((mv.mono into).then_heap tl fun b o hb q => ?_) mv2) j2
      rw [sb.2 b fun z : b = S => hb (z ▸ .head _)]; exact q
variable {E : Value → Shared → Prop} {s : Shared}
set_option maxRecDepth 100000 in
set_option maxHeartbeats 3200000 in
theorem set_list {l : Addr} {items : Array Value} {Q : Value → Shared → Prop} (hh : A.handled = none) (hl : s.heap.IsList l items) (J : Nat → Heap → Prop)
    (j0 : ∀ h, h.get? s.heap.objs.size = some (set0 w) → (∀ b o, s.heap.get? b = some o → h.get? b = some o) → J 0 h)
    (keep : ∀ i h h', J i h → (∀ b o, b ≠ s.heap.objs.size + 1 → h.get? b = some o → h'.get? b = some o) → J i h')
    (more : ∀ i v A', items[i]? = some v → A'.units ≤ A.units + 4 → AddsJ P w A' s.heap.objs.size J i v)
    (fin : ∀ h' tk, J items.size h' → (∀ b o, s.heap.get? b = some o → h'.get? b = some o) → Q (.ref s.heap.objs.size) { s with heap := h', toks := tk }) :
    wpAny (model P w) A (call (.type "set") [.ref l]) Q E s := by
  obtain ⟨c0, l0, mro0⟩ := F.called_set.mro; have made0 := F.called_set.made; have sub0 := F.called_set.sub
  refine wpAny_call (codeAny_of_tree ?_); show wpAny _ _ (callAny (.type "set") _) _ _ _
  refine wpAny_pure ⟨Code.quiet_builtin _ (by decide +kernel), codeAny_builtin F.entry_type_call ?_⟩; rw [Around.under_plain (weight_type_call_type "set" [.ref l] []) rfl]
  have n1 := F.called_set.notType; have n2 := F.called_set.canCreate; have n3 := F.typeCall_set_1 (.ref l)
  repeat (any_goals (first | assumption | wp_step))
  refine codeAny_mono (code_set_led1 (.ref l) (E := E) (Q₁ := fun v z => v = .ref s.heap.objs.size ∧ z = { s with heap := s.heap.push (set0 w) }) ⟨rfl, rfl⟩) fun r z hr => ?_
  match r, hr with
  | .error e, hr => exact hr
  | .ok (.ret v), hr =>
    obtain ⟨rfl, rfl⟩ := hr
    have at0 : (s.heap.push (set0 w)).get? s.heap.objs.size = some (set0 w) := Heap.get?_push_size _ rfl
    have ty0 : Shared.TypeIs { s with heap := s.heap.push (set0 w) } (.ref s.heap.objs.size) "set" := ⟨_, at0, rfl⟩
    have i1 := F.called_set.init.lookup; have i2 := F.called_set.init.bind (.ref s.heap.objs.size)
    repeat (any_goals (first | assumption | wp_step))
    refine codeAny_mono (codeAny_call_builtin (R := wants (fun r z => r = .none ∧ ∃ h' tk, z = { s with heap := h', toks := tk } ∧ J items.size h' ∧ ∀ b o, s.heap.get? b = some o → h'.get? b = some o) E) F.called_set.init.plain F.entry_set_init (check_set_init_1 ty0 ?_)) fun r z hr => ?_
    · obtain ⟨ol, at1, c1, n1, d1⟩ := hl
      obtain ⟨oc, od, ot, os⟩ := ol
      simp only at c1 d1
      subst c1; subst d1
      have at2 : (s.heap.push (set0 w)).get? l = some { cls := .type "list", dict := od, data := .seq items n1, slots := os } := Heap.get?_push_of_some _ at1
      have b1 := F.sub_list_set; have b2 := F.sub_list_frozenset
      have b3 : (Value.type "list" == Value.type "dict") = false := by decide
      have ls : (s.heap.push (set0 w)).IsList l items := ⟨_, at2, rfl, n1, rfl⟩
      unfold Builtin.«set.__init__» noKeywords Builtin.Frozenset.updateFrom
      generalize hPI : pyIter = PI
      wp_walk
      subst hPI
      refine wpAny_pyIter_list ls (wpAny_bind (wpAny_runValue ?_))
      have lS : l < s.heap.objs.size := Heap.lt_size at1
      have hh3 : A.in1.in1.in1.handled = none := by simp [hh]
      have z1 : (s.heap.push (set0 w)).objs.size = s.heap.objs.size + 1 := Heap.size_push ..
      rw [z1]
      refine upd_run ((Walks.list hh3 (s.heap.objs.size + 1) l (Nat.ne_of_lt (Nat.lt_succ_of_lt lS)) items).toS) (fun q => (List.mem_cons.mp q).elim (fun e => Nat.succ_ne_self _ e.symm) fun q => Nat.ne_of_gt lS (List.mem_singleton.mp q)) J (fun i h h' j k => keep i h h' j fun b o nb e => k b o (by simpa using nb) e)
        (fun i v _ pv => more i v _ pv (by show A.units + 1 + 1 + 1 ≤ _; omega)) items.size 0 _ (by omega) ⟨⟨_, by rw [← z1]; exact Heap.get?_push_size _ rfl, rfl, rfl⟩, ls.push _⟩ ?_ fun z mv j => ?_
      · exact j0 _ (Heap.get?_push_of_some _ at0) fun b o e => Heap.get?_push_of_some _ (Heap.get?_push_of_some _ e)
      · obtain ⟨h', g', d', tk', os'⟩ := z
        have q1 : g' = s.gens := mv.gens; have q2 : d' = s.drawn := mv.drawn; have q3 : os' = s.os := mv.os
        subst q1; subst q2; subst q3
        refine wpAny_pure ?_; show wpAny _ _ (ret Value.none) _ _ _
        refine wpAny_pure ⟨rfl, h', tk', rfl, j, fun b o e => mv.heap b o ?_ (Heap.get?_push_of_some _ (Heap.get?_push_of_some _ e))⟩
        have lt := Heap.lt_size e
        exact fun q => (List.mem_cons.mp q).elim (Nat.ne_of_lt lt) fun q => Nat.ne_of_lt (Nat.lt_succ_of_lt lt) (List.mem_singleton.mp q)
    · match r, hr with
      | .error e, hr => exact hr
      | .ok (.ret v), hr =>
        obtain ⟨rfl, h', tk, rfl, j, k⟩ := hr
        repeat (any_goals (first | assumption | wp_step))
        exact fin _ _ j k
end
end Mi

namespace Mi
open PySem L2 PyProof PyProof.Rows PySem.Spec
def stxV : Value → PySem.Str
  | .str x _ => x
  | _ => ⟨#[]⟩
abbrev ledOk (w : World) (t : SetTable) : Prop := w.params.followText "set-order" = true ∨ t.led = true
structure TxE (w : World) (es : Array (Int × Value)) (t : SetTable) (L : List PySem.Str) : Prop where
  txt : ∀ e ∈ es.toList, ∃ x k, e = (hashStr w x, Value.str x k)
  keys : es.toList.map (fun e => stxV e.2) = L
  nd : L.Nodup
  few : L.length < scanBound
  fits : t.fits es.size = true
  ris : Ris t.place.toList
  led : ledOk w t
def TxR (w : World) (h : Heap) (a : Addr) (L : List PySem.Str) : Prop := ∃ o es ep t, h.get? a = some o ∧ o.ExactSet ∧ o.data = .set es ep t ∧ TxE w es t L
section
variable {P : Program} {w : World} {A : Around} {E : Value → Shared → Prop} {s : Shared} {h h' : Heap} {a : Addr} {L : List PySem.Str} {es : Array (Int × Value)} {t : SetTable}
theorem TxE.size (e : TxE w es t L) : es.size = L.length := by rw [← e.keys, List.length_map, Array.length_toList]
theorem TxE.re {es' : Array (Int × Value)} {t' : SetTable} {L' : List PySem.Str} (e : TxE w es t L) (hp : es'.toList.Perm es.toList) (f : t'.fits es'.size = true) (r : Ris t'.place.toList) (l : ledOk w t') : ∃ L', TxE w es' t' L' ∧ L'.Perm L := by
  have pm : (es'.toList.map fun e => stxV e.2).Perm L := by rw [← e.keys]; exact hp.map _
  exact ⟨_, ⟨fun z hz => e.txt z (hp.mem_iff.mp hz), rfl, pm.nodup_iff.mpr e.nd, by rw [pm.length_eq]; exact e.few, f, r, l⟩, pm⟩
theorem TxE.has (e : TxE w es t L) (x : PySem.Str) : x ∈ L ↔ ∃ z ∈ es.toList, (PySem.strKind P w).is x z.2 = true := by
  rw [← e.keys, List.mem_map]
  have is : ∀ z ∈ es.toList, stxV z.2 = x ↔ (PySem.strKind P w).is x z.2 = true := fun z hz => by
    obtain ⟨y, k, rfl⟩ := e.txt z hz
    show y = x ↔ (y == x) = true
    exact beq_iff_eq.symm
  exact ⟨fun ⟨z, hz, q⟩ => ⟨z, hz, (is z hz).1 q⟩, fun ⟨z, hz, q⟩ => ⟨z, hz, (is z hz).2 q⟩⟩
theorem TxE.elems (e : TxE w es t L) : ElemsOf (PySem.strKind P w) es.toList := fun z hz => by
  obtain ⟨y, k, rfl⟩ := e.txt z hz
  exact ⟨⟨y, beq_self_eq_true y, rfl⟩, rfl⟩
theorem TxR.at (R : TxR w h a L) (k : ∀ o, h.get? a = some o → h'.get? a = some o) : TxR w h' a L := by
  obtain ⟨o, es, ep, t, g, r⟩ := R
  exact ⟨o, es, ep, t, k o g, r⟩
theorem TxR.lt (R : TxR w h a L) : a < h.objs.size := by
  obtain ⟨o, es, ep, t, g, r⟩ := R
  exact Heap.lt_size g
theorem put_at {o : Obj} {es' : Array (Int × Value)} {ep : Nat} {t' : SetTable} (g : s.heap.get? a = some o) (x : o.ExactSet) (d : o.data = .set es ep t) (e : TxE w es' t' L) {Q : Unit → Shared → Prop}
    (hQ : ∀ h' o', Heap.SameBut a s.heap h' → h'.get? a = some o' → o'.ExactSet → o'.data = .set es' (ep + 1) t' → Q () { s with heap := h' }) : wpAny (model P w) A (storeSet a es' t') Q E s :=
  wpAny_storeSet_of g d (hQ _ _ (Heap.SameBut.update s.heap a (Obj.putSet es' t')) (store_at g d) x rfl) (fits_of_scanBound (by rw [e.size]; exact e.few))
theorem TxR.add (R : TxR w s.heap a L) (room : L.length + 1 < scanBound) {x : PySem.Str} {k : Tok} {Q : Bool → Shared → Prop}
    (hQ : ∀ b h' L', Heap.SameBut a s.heap h' → TxR w h' a L' → (x ∈ L → L' = L) → (x ∉ L → L'.Perm (x :: L)) → Q b { s with heap := h' }) : wpAny (model P w) A (setAddHashed a (.str x k) (hashStr w x)) Q E s := by
  obtain ⟨o, es, ep, t, g, hx, d, e⟩ := R
  have is : (PySem.strKind P w).is x (.str x k) = true := beq_self_eq_true x
  have el : ElemsOf (PySem.strKind P w) es.toList := e.elems
  have sc : (Value.str x k).scannable = true := rfl
  unfold setAddHashed setAddHashedIn
  refine wpAny_holding (wpAny_bind (wpAny_setState_of g d e.fits ?_))
  dsimp only
  rw [byScan_of sc (by rw [e.size]; exact e.few) el, if_pos rfl]
  unfold setAddByScan
  refine wpAny_bind (wpAny_bind (wpAny_rule (wpAny_bind (wpAny_setScan_of is g d e.fits el ?_))))
  cases q : List.findIdx? (fun e => (PySem.strKind P w).is x e.2) es.toList with
  | some j =>
    dsimp only
    obtain ⟨lj, pj, _⟩ := List.findIdx?_eq_some_iff_getElem.mp q
    have hm : x ∈ L := (e.has (P := P) x).2 ⟨es.toList[j], List.getElem_mem lj, pj⟩
    exact wpAny_pure (wpAny_pure (hQ _ s.heap L (Heap.SameBut.refl a s.heap) ⟨o, es, ep, t, g, hx, d, e⟩ (fun _ => rfl) fun n => absurd hm n))
  | none =>
    dsimp only
    have hm : x ∉ L := fun m => by
      obtain ⟨z, hz, p⟩ := (e.has (P := P) x).1 m
      have := List.findIdx?_eq_none_iff.mp q z hz
      rw [p] at this; cases this
    have gw : ∀ (b : Bool) {z : Shared} {Q' : Unit → Shared → Prop}, Q' () z → wpAny (model P w) A (match b with | true => rule "set.scan.the-table-gave-way" | false => pure ()) Q' E z :=
      fun b z Q' y => match b with
        | true => wpAny_rule y
        | false => wpAny_pure y
    have p1 := layNew_perm t es (hashStr w x) (.str x k); have p2 := layNew_fits t es (hashStr w x) (.str x k); have p3 := layNew_ris t es (hashStr w x) (.str x k) e.ris; have p4 := layNew_led t es (hashStr w x) (.str x k)
    show wpAny _ _ (match layNew t es (hashStr w x) (.str x k) with | (es, t, wasDummy, gave) => _) _ _ s
    generalize layNew t es (hashStr w x) (.str x k) = Z at p1 p2 p3 p4 ⊢
    obtain ⟨es1, t1, wd, gv⟩ := Z
    dsimp only at p1 p2 p3 p4 ⊢
    rw [Array.toList_push] at p1
    have pc : es1.toList.Perm ((hashStr w x, Value.str x k) :: es.toList) := p1.trans (List.perm_append_singleton _ _)
    have e1 : ∀ t2 : SetTable, t2.fits es1.size = true → Ris t2.place.toList → t2.led = t1.led → ∃ L', TxE w es1 t2 L' ∧ L'.Perm (x :: L) := fun t2 f r l => by
      have pk : (es1.toList.map fun e => stxV e.2).Perm (x :: L) := by
        have := pc.map fun e => stxV e.2
        rw [List.map_cons, e.keys] at this
        exact this
      refine ⟨_, ⟨fun z hz => ?_, rfl, pk.nodup_iff.mpr (List.nodup_cons.mpr ⟨hm, e.nd⟩), by rw [pk.length_eq]; exact room, f, r, by rw [ledOk, l, p4]; exact e.led⟩, pk⟩
      rcases List.mem_cons.mp (pc.mem_iff.mp hz) with y | y
      · exact ⟨x, k, y⟩
      · exact e.txt z y
    have last : ∀ t2 : SetTable, t2.fits es1.size = true → Ris t2.place.toList → t2.led = t1.led → wpAny (model P w) A (do
        storeSet a es1 t2
        if (!wd && t2.tooFull) = true then do
            (match (relayAll t2 es1 (SetTable.grown es1.size)).2.2 with | true => rule "set.scan.the-table-gave-way" | false => pure ())
            storeSet a (relayAll t2 es1 (SetTable.grown es1.size)).1 (relayAll t2 es1 (SetTable.grown es1.size)).2.1
            pure (some true)
          else pure (some true)) (fun r z => wpAny (model P w) A (match r with | some added => pure added | none => setAddHashedIn a (.str x k) (hashStr w x) 99999) Q E z) E s := fun t2 f r l => by
      obtain ⟨L1, x1, m1⟩ := e1 t2 f r l
      refine wpAny_bind (put_at g hx d x1 fun h1 o1 sb g1 hx1 d1 => ?_)
      split
      · have r1 := relayAll_perm t2 es1 (SetTable.grown es1.size); have r2 := relayAll_fits t2 es1 (SetTable.grown es1.size); have r3 := relayAll_ris t2 es1 (SetTable.grown es1.size); have r4 := relayAll_led t2 es1 (SetTable.grown es1.size)
        obtain ⟨L2, x2, m2⟩ := x1.re (L' := []) r1 r2 r3 (by rw [ledOk, r4]; exact x1.led)
        refine wpAny_bind (gw _ (wpAny_bind (put_at (s := { s with heap := h1 }) g1 hx1 d1 x2 fun h2 o2 sb2 g2 hx2 d2 => ?_)))
        exact wpAny_pure (wpAny_pure (hQ _ h2 L2 (sb.trans sb2) ⟨o2, _, _, _, g2, hx2, d2, x2⟩ (fun n => absurd n hm) fun _ => m2.trans m1))
      · exact wpAny_pure (wpAny_pure (hQ _ h1 L1 sb ⟨o1, _, _, _, g1, hx1, d1, x1⟩ (fun n => absurd n hm) fun _ => m1))
    refine wpAny_bind (gw _ ?_)
    split
    · refine wpAny_bind ?_
      rw [hashByValue_scannable 8 sc]
      exact wpAny_pure (last { t1 with plain := false } (SetTable.fits_plain_off p2) p3 rfl)
    · exact wpAny_bind (wpAny_pure (last t1 p2 p3 rfl))
end
end Mi

namespace Mi
open PySem L2 PyProof PyProof.Rows PySem.Spec
open Builtin.Frozenset (isAnySet addrOf sizeOf slot1 difference baseOf unchanged subsetOf walkUnseen quietEq)
section
variable {P : Program} {w : World} {A : Around} {E : Value → Shared → Prop} {s : Shared} {h h' : Heap} {a b c : Addr} {L L1 L2 : List PySem.Str} {es : Array (Int × Value)} {t : SetTable} {o : Obj} {ep : Nat}
theorem walk_at (g : s.heap.get? a = some o) (d : o.data = .set es ep t) (e : TxE w es t L) (hp : w.params.followText "set-order" = true ∨ (w.params.followText "set-order" = false ∧ (!t.plain && decide (es.size > 1)) = false)) {Q : Array (Int × Value) → Shared → Prop}
    (q : ∀ out : Array (Int × Value), out.toList.Perm es.toList → Q out s) : wpAny (model P w) A (setWalk a) Q E s := by
  unfold setWalk
  refine wpAny_bind (wpAny_setState_of g d e.fits ?_)
  dsimp only
  refine wpAny_bind (wpAny_byText ?_)
  rcases hp with z | ⟨z, y⟩
  · exact wp_if_pos z (wpAny_bind (wpAny_askSetting (wpAny_pure (q _ (pick_perm ..)))))
  · have ld : t.led = true := e.led.resolve_left (by rw [z]; exact Bool.false_ne_true)
    refine wp_if_neg (by rw [z]; exact Bool.false_ne_true) ?_
    refine wp_if_neg (by show ¬ ((!t.plain && decide (es.size > 1)) = true); rw [y]; exact Bool.false_ne_true) ?_
    refine wpAny_bind (wpAny_of_eq (a := ()) ?_ (wpAny_pure (q _ (.refl _))))
    show (if (!t.led && decide (es.size > 1)) = true then unsupported "set:maker-not-led" else pure ()) = pure ()
    rw [ld] <;> rfl
end
section
variable {X : Cx}
end
end Mi

namespace Mi
open PySem L2 PyProof PyProof.Rows
section
variable {X : Cx} {ca : CA} {W : WX} {e1 e2 : Expr} {d1 d2 : DA}
section
variable {p1 p2 p3 p4 p5 p6 p7 p8 : Pos} (hc : X.calm = true) (hu : X.A.units + 64 < cLine) (hm : X.mg "set" = none) (h1 : SA X ca W [e1] d1) (h2 : SA X ca W [e2] d2) (hg : Gl X "set" := by rfl)
    (a1 : starEach [e1] X.env = (false, eval e1 X.env) :: starEach [] X.env := by rfl) (a2 : starEach [e2] X.env = (false, eval e2 X.env) :: starEach [] X.env := by rfl)
include hc hm h1 h2 hg a1 a2 in
include hc hu hm h1 h2 hg a1 a2 in
include hc hu hm h1 h2 hg a1 a2 in
end
end
end Mi

namespace Mi
open PySem L2 PyProof PyProof.Rows PySem.Spec
section
variable {P : Program} {w : World}
abbrev th (P : Program) (w : World) (k : List Key) : Int := tupleKeyHash (mixKind P w) k
abbrev IsM (P : Program) (w : World) (h : Heap) (k : List Key) (b : Addr) : Prop := IsTupleKey (mixKind P w) h k b
abbrev rowM (P : Program) (w : World) (p : Addr × List Key) : Int × Value := (th P w p.2, Value.ref p.1)
structure TuR (P : Program) (w : World) (h : Heap) (a : Addr) (L : List (Addr × List Key)) (es : Array (Int × Value)) (ep : Nat) (t : SetTable) : Prop where
  ob : ∃ o, h.get? a = some o ∧ o.ExactSet ∧ o.data = .set es ep t
  rows : es.toList = L.map (rowM P w)
  tab : TabOk t (L.map fun p => th P w p.2)
  nd : (L.map (·.2)).Nodup
  tup : ∀ p ∈ L, IsM P w h p.2 p.1
  led : ledOk w t
  room : L.length * 5 < t.mask * 3
  few : L.length < 64
end
section
variable {P : Program} {w : World} {A : Around} {E : Value → Shared → Prop} {s : Shared} {h h' : Heap} {a x : Addr} {k : List Key} {L : List (Addr × List Key)} {es : Array (Int × Value)} {ep : Nat} {t : SetTable}
theorem sizeM (e : es.toList = L.map (rowM P w)) : es.size = L.length := by rw [← Array.length_toList, e, List.length_map]
theorem TuR.fits (R : TuR P w h a L es ep t) : t.fits es.size = true := by
  have z := R.tab.sz
  rw [List.length_map] at z
  have y := sizeM R.rows
  have q := R.room
  unfold SetTable.fits SetTable.fill
  rw [R.tab.dm, Bool.and_eq_true, beq_iff_eq, decide_eq_true_eq]
  exact ⟨by omega, by show t.place.size + 0 ≤ t.mask; omega⟩
theorem TuR.at_ (R : TuR P w h a L es ep t) {i : Nat} {p : Addr × List Key} (e : L[i]? = some p) : es[i]? = some (rowM P w p) := by rw [← Array.getElem?_toList, R.rows, List.getElem?_map, e]; rfl
theorem plain_items {k : List Key} {vs : List Value} (h : ItemsAre (mixKind P w) k vs) : ∀ v ∈ vs, v.scannable = true := by
  induction h with
  | nil => intro v hv; cases hv
  | cons z _ ih =>
    intro v hv
    rcases List.mem_cons.mp hv with rfl | hv
    · rcases keyIs_shape z with ⟨i, t, _, rfl⟩ | ⟨y, t, _, rfl⟩ <;> rfl
    · exact ih v hv
theorem noClass {v : Value} (hv : v.scannable = true) (n : Nat) : ofAClassStatement n v = pure false := by
  cases v <;> first | (cases n <;> rfl) | cases hv
theorem class_no (hk : IsM P w s.heap k x) {Q : Bool → Shared → Prop} (q : Q false s) : wpAny (model P w) A (ofAClassStatement 8 (.ref x)) Q E s := by
  have ty := hk.typeIs
  obtain ⟨o, its, n, g, _, d, hi⟩ := hk
  unfold ofAClassStatement
  refine wpAny_bind (wpAny_typeOf ty ?_)
  dsimp only
  rw [if_pos (show (("tuple" : String) == "tuple") = true by decide)]
  refine wpAny_bind (wpAny_pure (wp_if_neg (by decide) ?_))
  refine wpAny_bind (wpAny_seqItems g d (wpAny_bind ?_))
  rw [← Array.forIn_toList]
  refine wpAny_forIn_list _ (fun rest r z => r.1 = none ∧ z = s ∧ ∀ v ∈ rest, v.scannable = true) _ ?_ ?_ _ _ ⟨rfl, rfl, plain_items hi⟩
  · rintro v rest r z ⟨hr, rfl, hall⟩
    rw [noClass (hall v (.head _))]
    refine wpAny_bind (wpAny_pure (wp_if_neg (by decide) ?_))
    exact wpAny_pure ⟨rfl, rfl, fun u hu => hall u (.tail _ hu)⟩
  · rintro ⟨r1, r2⟩ z ⟨hr, rfl, _⟩
    simp only at hr
    subst hr
    exact wpAny_pure q
theorem hash_by (hk : IsM P w s.heap k x) {Q : Bool → Shared → Prop} (q : ∀ r, Q r s) : wpAny (model P w) A (hashByValue 8 (.ref x)) Q E s := by
  have ty := hk.typeIs
  obtain ⟨o, its, n, g, _, d, hi⟩ := hk
  unfold hashByValue
  refine wpAny_bind (wpAny_specialOf ty F.slot_tuple_hash.lookup ?_)
  show wpAny _ _ (seqItems? (.ref x) >>= _) _ _ s
  refine wpAny_bind (wpAny_seqItems g d (wpAny_bind ?_))
  show wpAny _ _ (forIn its _ _) _ _ s
  rw [← Array.forIn_toList]
  refine wpAny_forIn_list _ (fun rest r z => z = s ∧ ∀ v ∈ rest, v.scannable = true) _ ?_ ?_ _ _ ⟨rfl, plain_items hi⟩
  · rintro v rest r z ⟨rfl, hall⟩
    rw [hashByValue_scannable 7 (hall v (.head _))]
    refine wpAny_bind (wpAny_pure ?_)
    split
    · refine wpAny_pure ?_
      exact wpAny_pure (q false)
    · exact wpAny_pure ⟨rfl, fun u hu => hall u (.tail _ hu)⟩
  · rintro ⟨r1, r2⟩ z ⟨rfl, _⟩
    cases r1 with
    | none => exact wpAny_pure (q true)
    | some r => exact wpAny_pure (q r)
theorem unseen (hk : IsM P w s.heap k x) {ys : List Value} (hy : ∀ y ∈ ys, ∃ k' c, y = Value.ref c ∧ IsM P w s.heap k' c) {Q : Bool → Shared → Prop} (q : Q false s) : wpAny (model P w) A (searchCouldBeSeen (.ref x) ys) Q E s := by
  unfold searchCouldBeSeen
  refine wpAny_bind (wpAny_forIn_list _ (fun rest r z => r.1 = none ∧ z = s ∧ ∀ y ∈ rest, ∃ k' c, y = Value.ref c ∧ IsM P w s.heap k' c) _ ?_ ?_ _ _ ⟨rfl, rfl, hy⟩)
  · rintro v rest r z ⟨hr, rfl, hall⟩
    obtain ⟨k', c, rfl, hc⟩ := hall v (.head _)
    have on : ∀ y ∈ rest, ∃ k' c, y = Value.ref c ∧ IsM P w z.heap k' c := fun u hu => hall u (.tail _ hu)
    dsimp only
    split
    · exact wpAny_pure ⟨rfl, rfl, on⟩
    · refine wpAny_bind (wpAny_eqIsQuiet_tuple hk (wp_if_neg (by decide) ?_))
      refine wpAny_bind (wpAny_eqIsQuiet_tuple hc (wp_if_neg (by decide) ?_))
      refine wpAny_bind (class_no hk (wp_if_neg (by decide) ?_))
      refine wpAny_bind (class_no hc (wp_if_neg (by decide) ?_))
      exact wpAny_pure ⟨rfl, rfl, on⟩
  · rintro ⟨r1, r2⟩ z ⟨hr, rfl, _⟩
    simp only at hr
    subst hr
    exact wpAny_pure q
abbrev stp (t : SetTable) (H : Int) (c : Nat) : SetTable.Probe := nth t.mask (runAt t.mask (SetTable.bits H % (t.mask + 1)) (SetTable.bits H)) c
theorem no_dm (m : Nat) : ∀ (n : Nat) (p : SetTable.Probe), p.dummy = none → (nth m p n).dummy = none
  | 0, _, h => h
  | n + 1, p, h => no_dm m n (adv m p) (by unfold adv; split <;> exact h)
theorem seek (R : TuR P w s.heap a L es ep t) (hx : IsM P w s.heap k x) (hu : A.units < cLine) {K : Nat} (hK : K < 10 * SetTable.turns t.mask) (free : way t.mask (th P w k) K ∉ t.place.toList) (full : ∀ c, c < K → way t.mask (th P w k) c ∈ t.place.toList) {Q : SetFound → Shared → Prop}
    (yes : k ∈ L.map (·.2) → Q (.there none) s) (no : k ∉ L.map (·.2) → Q (.free (way t.mask (th P w k) K) false) s) :
    ∀ (f c : Nat) (stand : Option SetTable.Probe), stand.getD (t.probeStart (th P w k)) = stp t (th P w k) c → c ≤ K → K - c < f →
      (∀ (i : Nat) p, L[i]? = some p → p.2 = k → ∃ c', c ≤ c' ∧ c' < K ∧ t.place.toList[i]? = some (way t.mask (th P w k) c')) → wpAny (model P w) A (setSearchFrom a (.ref x) (th P w k) true f stand) Q E s
  | 0, c, stand, _, _, hf, _ => absurd hf (Nat.not_lt_zero _)
  | f + 1, c, stand, at_, hc, hf, later => by
    obtain ⟨o, g, hx0, d⟩ := R.ob
    have gone : ¬ t.gaveWay = true := by
      unfold SetTable.gaveWay; rw [mask_odd R.tab.mok]; decide
    rw [setSearchFrom_succ]
    refine wpAny_bind (wpAny_setState_of g d R.fits (wp_if_neg gone ?_))
    have sh : ∀ q, nth t.mask (stp t (th P w k) c) q = stp t (th P w k) (c + q) := fun q => (nth_add t.mask c _ q).symm
    have shj : ∀ q, (nth t.mask (stp t (th P w k) c) q).j = way t.mask (th P w k) (c + q) := fun q => congrArg SetTable.Probe.j (sh q)
    have toK : c + (K - c) = K := by omega
    have hashAt : ∀ (i : Nat) p, L[i]? = some p → (fun i => (es[i]?.map (·.1)).getD 0) i = th P w p.2 := fun i p e => by
      show (es[i]?.map (·.1)).getD 0 = _
      rw [R.at_ e]; rfl
    rcases go_spec t R.tab.ris R.tab.dm (fun i => (es[i]?.map (·.1)).getD 0) (th P w k) (10 * SetTable.turns t.mask) (K - c) _ (no_dm t.mask c _ rfl) (by omega) (fun q hq => by rw [shj]; exact full (c + q) (by omega)) (by rw [shj, toK]; exact free) with ⟨q, i, hq, hi, hh, none_, met⟩ | ⟨none_, met⟩
    · -- one of the same hash
      have pr : t.probe (fun i => (es[i]?.map (·.1)).getD 0) (th P w k) (stand.getD (t.probeStart (th P w k))) = some (.candidate (way t.mask (th P w k) (c + q)) i (stp t (th P w k) (c + (q + 1)))) := by
        rw [at_, ← shj, ← sh]; exact met
      rw [pr]
      dsimp only
      rw [shj] at hi
      have il : i < L.length := by
        have y : i < t.place.toList.length := (List.getElem?_eq_some_iff.mp hi).1
        have z := R.tab.sz
        rw [List.length_map] at z
        rw [Array.length_toList] at y
        omega
      obtain ⟨p, hp⟩ : ∃ p, L[i]? = some p := ⟨_, List.getElem?_eq_getElem il⟩
      have pm := List.mem_of_getElem? hp
      have look : wpAny (model P w) A (searchRest a (.ref x) (th P w k) true f es t (way t.mask (th P w k) (c + q)) i (stp t (th P w k) (c + (q + 1)))) Q E s := by
        unfold searchRest
        rw [R.at_ hp]
        refine wpAny_bind (wpAny_holding (wpAny_eqBool_tuple hu (R.tup p pm) hx ?_))
        refine wpAny_bind (wpAny_setState_of g d R.fits ?_)
        dsimp only
        by_cases hkk : p.2 = k
        · exact wp_if_pos (by simp [hkk]) (wpAny_pure (yes (List.mem_map.mpr ⟨p, pm, hkk⟩)))
        · refine wp_if_neg (by simp [hkk]) ?_
          rw [sameMem]
          have sl : t.slot (way t.mask (th P w k) (c + q)) = .live i := slot_live R.tab.ris hi
          simp only [if_true, sl, R.at_ hp]
          refine wpAny_bind (wpAny_isSame_ref_self (wpAny_bind (wpAny_pure ?_)))
          simp only [if_true]
          refine wp_if_neg (by simp [hkk]) ?_
          refine seek R hx hu hK free full yes no f (c + (q + 1)) _ rfl (by omega) (by omega) fun j p0 e0 k0 => ?_
          obtain ⟨c', z1, z2, z3⟩ := later j p0 e0 k0
          refine ⟨c', Nat.lt_of_not_le fun le => ?_, z2, z3⟩
          have le : c' ≤ c + q := le
          rcases Nat.lt_or_eq_of_le le with y | y
          · refine none_ (c' - c) j (by omega) (by rw [shj, show c + (c' - c) = c' by omega]; exact z3) ?_
            exact (hashAt j p0 e0).trans (congrArg (th P w) k0)
          · rw [y] at z3
            have y2 := slot_live R.tab.ris z3
            rw [sl] at y2
            injection y2 with y2
            rw [← y2, hp] at e0
            exact hkk ((congrArg Prod.snd (Option.some.inj e0)).trans k0)
      split
      · refine wpAny_bind (unseen hx (fun y hy => ?_) (wp_if_neg (by decide) look))
        obtain ⟨e, he, rfl⟩ := List.mem_map.mp hy
        have he : e ∈ es.toList := by
          have : e ∈ es ∧ e.1 = th P w k := by simpa using he
          simpa using this.1
        rw [R.rows] at he
        obtain ⟨p2, hp2, rfl⟩ := List.mem_map.mp he
        exact ⟨p2.2, p2.1, rfl, R.tup p2 hp2⟩
      · exact look
    · -- an empty slot
      have pr : t.probe (fun i => (es[i]?.map (·.1)).getD 0) (th P w k) (stand.getD (t.probeStart (th P w k))) = some (.empty (way t.mask (th P w k) K) none) := by
        rw [at_, show way t.mask (th P w k) K = (nth t.mask (stp t (th P w k) c) (K - c)).j by rw [shj, toK]]; exact met
      rw [pr]
      refine wpAny_pure (no fun hm => ?_)
      obtain ⟨p0, m0, k0⟩ := List.mem_map.mp hm
      obtain ⟨j, jl, e0⟩ := List.getElem_of_mem m0
      have e0 : L[j]? = some p0 := by rw [List.getElem?_eq_getElem jl, e0]
      obtain ⟨c', z1, z2, z3⟩ := later j p0 e0 k0
      refine none_ (c' - c) j (by omega) (by rw [shj, show c + (c' - c) = c' by omega]; exact z3) ?_
      exact (hashAt j p0 e0).trans (congrArg (th P w) k0)
theorem seek0 (R : TuR P w s.heap a L es ep t) (hx : IsM P w s.heap k x) (hu : A.units < cLine) {Q : SetFound → Shared → Prop} (yes : k ∈ L.map (·.2) → Q (.there none) s)
    (no : ∀ K, k ∉ L.map (·.2) → way t.mask (th P w k) K ∉ t.place.toList → (∀ c, c < K → way t.mask (th P w k) c ∈ t.place.toList) → Q (.free (way t.mask (th P w k) K) false) s) : wpAny (model P w) A (setSearch a (.ref x) (th P w k) true) Q E s := by
  have rm := R.room
  obtain ⟨K, hK, free, full⟩ := R.tab.first (by rw [List.length_map]; omega) (th P w k)
  have big : K < 100000 := by
    have : 10 * SetTable.turns t.mask ≤ 1420 := by
      unfold SetTable.turns
      rcases R.tab.mok with e | e | e <;> omega
    omega
  unfold setSearch
  refine seek R hx hu hK free full yes (fun n => no K n free full) 100000 0 none rfl (Nat.zero_le _) (by omega) fun i p e z => ?_
  have hi : (L.map fun p => th P w p.2)[i]? = some (th P w k) := by rw [List.getElem?_map, e, ← z]; rfl
  have il : i < t.place.toList.length := by
    have y : i < L.length := (List.getElem?_eq_some_iff.mp e).1
    have z := R.tab.sz
    rw [List.length_map] at z
    rw [Array.length_toList]
    omega
  obtain ⟨c, hc, y⟩ := R.tab.before free hi (List.getElem?_eq_getElem il)
  exact ⟨c, Nat.zero_le _, hc, by rw [List.getElem?_eq_getElem il, y]⟩
theorem isM_but {o : Obj} (hk : IsM P w h k x) (g : h.get? a = some o) (d : o.data = .set es ep t) (sb : Heap.SameBut a h h') : IsM P w h' k x := by
  obtain ⟨o', its, n, g', c, d', hi⟩ := hk
  refine ⟨o', its, n, (sb.2 x ?_).trans g', c, d', hi⟩
  rintro rfl
  rw [g] at g'
  cases g'
  rw [d] at d'
  exact nomatch d'
theorem isM_at (hk : IsM P w h k x) (g : ∀ o, h.get? x = some o → h'.get? x = some o) : IsM P w h' k x := by
  obtain ⟨o', its, n, g', r⟩ := hk
  exact ⟨o', its, n, g _ g', r⟩
theorem orderM {order : Array Nat} (rows : es.toList = L.map (rowM P w)) (pm : order.toList.Perm (List.range L.length)) :
    ∃ L2 : List (Addr × List Key), (order.filterMap (es[·]?)).toList = L2.map (rowM P w) ∧ L2.Perm L ∧ (L2.map fun p => th P w p.2) = order.toList.map fun i => (es.map (·.1)).getD i 0 := by
  have ent : ∀ i, es[i]? = (L[i]?).map (rowM P w) := fun i => by rw [← Array.getElem?_toList, rows, List.getElem?_map]
  have pick : ∀ l : List Nat, (∀ i ∈ l, i < L.length) → l.filterMap (fun i => es[i]?) = (l.filterMap fun i => L[i]?).map (rowM P w) ∧ ((l.filterMap fun i => L[i]?).map fun p => th P w p.2) = l.map fun i => (es.map (·.1)).getD i 0 := by
    intro l
    induction l with
    | nil => intro _; exact ⟨rfl, rfl⟩
    | cons i l ih =>
      intro hl
      obtain ⟨i1, i2⟩ := ih fun j hj => hl j (.tail _ hj)
      have il := hl i (.head _)
      have e1 : L[i]? = some L[i] := List.getElem?_eq_getElem il
      have e2 : es[i]? = some (rowM P w L[i]) := by rw [ent, e1]; rfl
      have e3 : (es.map (·.1)).getD i 0 = th P w (L[i]).2 := by
        rw [Array.getD_eq_getD_getElem?, Array.getElem?_map, e2]; rfl
      rw [List.filterMap_cons_some e2, List.filterMap_cons_some e1, List.map_cons, List.map_cons, List.map_cons, i1, i2, e3]
      exact ⟨rfl, rfl⟩
  obtain ⟨p1, p2⟩ := pick order.toList fun i hi => List.mem_range.mp (pm.mem_iff.mp hi)
  refine ⟨order.toList.filterMap fun i => L[i]?, by rw [Array.toList_filterMap]; exact p1, ?_, p2⟩
  have := pm.filterMap fun i => L[i]?
  rwa [List.filterMap_getElem?_range_length] at this
theorem relayM {o : Obj} (g : s.heap.get? a = some o) (hx : o.ExactSet) (d : o.data = .set es ep t) (rows : es.toList = L.map (rowM P w)) (sz : t.place.size = es.size) (dm : t.dummies = #[]) (fl : es.size ≤ t.mask) (nd : (L.map (·.2)).Nodup)
    (tup : ∀ p ∈ L, IsM P w s.heap p.2 p.1) (ld : ledOk w t) (few : L.length < 64) {n M : Nat} (hM : SetTable.sizeAbove n - 1 = M) (ok : MaskOk M) (hn : SetTable.sizeAbove n ≤ 128) (rm : L.length * 5 < M * 3) {Q : Unit → Shared → Prop}
    (q : ∀ h' L' es' ep' t', Heap.SameBut a s.heap h' → TuR P w h' a L' es' ep' t' → L'.Perm L → Q () { s with heap := h' }) : wpAny (model P w) A (setRelay a n) Q E s := by
  have sl := sizeM rows
  have fits : t.fits es.size = true := by
    unfold SetTable.fits SetTable.fill
    rw [dm, Bool.and_eq_true, beq_iff_eq, decide_eq_true_eq]
    exact ⟨sz, by show t.place.size + 0 ≤ t.mask; omega⟩
  obtain ⟨t', order, e, pm, T, em, el, _, ed⟩ := relaid_ok t (hs := es.map (·.1)) (wanted := n) hM ok (by rw [Array.size_map, sl]; omega)
  rw [Array.size_map, sl] at pm
  obtain ⟨L2, r1, r2, r3⟩ := orderM rows pm
  rw [← r3] at T
  have s2 : (order.filterMap (es[·]?)).size = es.size := by rw [sizeM r1, r2.length_eq, sl]
  rw [setRelay_eq]
  refine wpAny_bind (wpAny_setState_of g d fits (wp_if_neg (by rw [sizeLine_eq]; omega) ?_))
  rw [e]
  refine wpAny_bind (wp_if_neg (by rw [s2]; simp) (wpAny_pure ?_))
  have sb : Heap.SameBut a s.heap (s.heap.update a (Obj.putSet (order.filterMap (es[·]?)) t')) := Heap.SameBut.update ..
  refine wpAny_storeSet_of g d (q _ L2 _ (ep + 1) t' sb ⟨⟨_, store_at g d, hx, rfl⟩, r1, T, (r2.map (·.2)).nodup_iff.mpr nd, fun p hp => isM_but (tup p (r2.mem_iff.mp hp)) g d sb, by rw [ledOk, el]; exact ld, by rw [r2.length_eq, em]; exact rm, by rw [r2.length_eq]; exact few⟩ r2) (by rw [s2, sl, sizeLine_eq]; omega)
theorem TuR.add (R : TuR P w s.heap a L es ep t) (hx : IsM P w s.heap k x) (hu : A.units < cLine) (few : L.length + 1 < 64) {Q : Bool → Shared → Prop}
    (q : ∀ b h' L' es' ep' t', Heap.SameBut a s.heap h' → TuR P w h' a L' es' ep' t' → (k ∈ L.map (·.2) → L' = L) → (k ∉ L.map (·.2) → L'.Perm ((x, k) :: L)) → Q b { s with heap := h' }) : wpAny (model P w) A (setAddHashed a (.ref x) (th P w k)) Q E s := by
  obtain ⟨o, g, ho, d⟩ := R.ob
  have sl := sizeM R.rows
  have rm := R.room
  unfold setAddHashed
  refine wpAny_holding ?_
  rw [show (100000 : Nat) = 99999 + 1 from rfl, setAddHashedIn_succ]
  refine wpAny_bind (wpAny_setState_of g d R.fits (wp_if_neg (by simp [byScan, Value.scannable]) ?_))
  refine wpAny_bind (seek0 R hx hu (fun hm => ?_) fun K hm free full => ?_)
  · exact wpAny_pure (q _ s.heap L es ep t (Heap.SameBut.refl a s.heap) R (fun _ => rfl) fun n => absurd hm n)
  · dsimp only
    refine wpAny_bind (wpAny_setState_of g d R.fits ?_)
    obtain ⟨q1, q2, q3, q4, q5, q6, q7, q8, q9⟩ := R.tab.put free full
    dsimp only
    generalize t.put (way t.mask (th P w k) K) = pt at q1 q3 q4 q5 q6 q7 q8 q9 ⊢
    obtain ⟨t1, j⟩ := pt
    dsimp only at q1 q3 q4 q5 q6 q7 q8 q9 ⊢
    subst q1
    generalize SetTable.below t.place (way t.mask (th P w k) K) = j at q2 q3 ⊢
    have pm := put_perm L j (x, k)
    have rows1 : (SetTable.insertAt es j (th P w k, Value.ref x)).toList = (L.take j ++ (x, k) :: L.drop j).map (rowM P w) := by
      rw [SetTable.toList_insertAt, R.rows, List.map_append, List.map_cons, List.map_take, List.map_drop]
    have hs1 : (L.map fun p => th P w p.2).take j ++ th P w k :: (L.map fun p => th P w p.2).drop j = (L.take j ++ (x, k) :: L.drop j).map fun p => th P w p.2 := by
      rw [List.map_append, List.map_cons, List.map_take, List.map_drop]
    rw [hs1] at q3
    generalize L.take j ++ (x, k) :: L.drop j = L1 at pm rows1 q3
    generalize SetTable.insertAt es j (th P w k, Value.ref x) = es1 at rows1 ⊢
    have len1 : L1.length = L.length + 1 := pm.length_eq
    have sz1 := sizeM rows1
    have nd1 : (L1.map (·.2)).Nodup := (pm.map (·.2)).nodup_iff.mpr (by rw [List.map_cons]; exact List.nodup_cons.mpr ⟨hm, R.nd⟩)
    have behind : ∀ t2 : SetTable, t2.place = t1.place → t2.dummies = t1.dummies → t2.mask = t1.mask → t2.led = t1.led → TabOk t2 (L1.map fun p => th P w p.2) → wpAny (model P w) A (do
        storeSet a es1 t2
        if (!false && t2.tooFull) = true then do
            setRelay a (SetTable.grown (es.size + 1))
            pure true
          else pure true) Q E s := fun t2 tp td tm tl T => by
      have fill2 : t2.fill = L.length + 1 := by
        rw [List.length_map] at q9
        rw [← q9]
        unfold SetTable.fill
        rw [tp, td]
      have ld1 : ledOk w t2 := by rw [ledOk, tl, q5]; exact R.led
      refine wpAny_bind (wpAny_storeSet_of g d ?_ (by rw [sz1, len1, sizeLine_eq]; omega))
      have sb : Heap.SameBut a s.heap (s.heap.update a (Obj.putSet es1 t2)) := Heap.SameBut.update ..
      have g1 := store_at (es' := es1) (t' := t2) g d
      generalize s.heap.update a (Obj.putSet es1 t2) = h1 at sb g1 ⊢
      have tup1 : ∀ p ∈ L1, IsM P w h1 p.2 p.1 := fun p hp => by
        rcases List.mem_cons.mp (pm.mem_iff.mp hp) with e | hp
        · rw [e]; exact isM_but hx g d sb
        · exact isM_but (R.tup p hp) g d sb
      by_cases full2 : t2.tooFull = true
      · refine wp_if_pos (by simp [full2]) (wpAny_bind ?_)
        have hf : (L.length + 1) * 5 ≥ t2.mask * 3 := by
          have y := full2
          unfold SetTable.tooFull at y
          rw [decide_eq_true_eq, fill2] at y
          exact y
        rw [tm, q4] at hf
        have two : (t.mask = 7 ∧ L.length = 4) ∨ (t.mask = 31 ∧ L.length = 18) := by
          rcases R.tab.mok with e | e | e <;> rw [e] at hf rm
          · exact .inl ⟨e, by omega⟩
          · exact .inr ⟨e, by omega⟩
          · omega
        have go : ∀ M, SetTable.sizeAbove (SetTable.grown (L.length + 1)) - 1 = M → MaskOk M → SetTable.sizeAbove (SetTable.grown (L.length + 1)) ≤ 128 → (L.length + 1) * 5 < M * 3 → wpAny (model P w) A (setRelay a (SetTable.grown (es.size + 1))) (fun _ s' => wpAny (model P w) A (pure true) Q E s') E { s with heap := h1 } := fun M y1 y2 y3 y4 => by
          rw [sl]
          refine relayM (s := { s with heap := h1 }) g1 ho rfl rows1 (by have := T.sz; rw [List.length_map] at this; rw [this, sz1]) T.dm (by rw [sz1, len1, tm, q4]; rcases two with ⟨e, e2⟩ | ⟨e, e2⟩ <;> omega) nd1 tup1 ld1 (by rw [len1]; exact few) y1 y2 y3 (by rw [len1]; exact y4) fun h2 L2 es2 ep2 t3 sb2 R2 pm2 => ?_
          exact wpAny_pure (q true h2 L2 es2 ep2 t3 (sb.trans sb2) R2 (fun z => absurd z hm) fun _ => pm2.trans pm)
        rcases two with ⟨_, e2⟩ | ⟨_, e2⟩
        · exact go 31 (by rw [e2, size_20]) (.inr (.inl rfl)) (by rw [e2, size_20]; decide) (by omega)
        · exact go 127 (by rw [e2, size_76]) (.inr (.inr rfl)) (by rw [e2, size_76]; decide) (by omega)
      · refine wp_if_neg (by simp [full2]) ?_
        refine wpAny_pure (q true h1 L1 es1 (ep + 1) t2 sb ⟨⟨_, g1, ho, rfl⟩, rows1, T, nd1, tup1, ld1, ?_, by rw [len1]; exact few⟩ (fun z => absurd z hm) fun _ => pm)
        have y := full2
        unfold SetTable.tooFull at y
        rw [decide_eq_true_eq, fill2] at y
        rw [len1]
        omega
    have whole := behind t1 rfl rfl rfl rfl q3
    split
    · refine wpAny_bind (hash_by hx fun r => ?_)
      cases r with
      | true => exact whole
      | false => exact behind { t1 with plain := false } rfl rfl rfl rfl ⟨q3.ris, q3.dm, q3.sz, q3.mok, q3.bd, q3.reach⟩
    · exact wpAny_bind (wpAny_pure whole)
theorem tuR_0 (g : h.get? a = some (set0 w)) : TuR P w h a [] #[] 0 (.fresh 0 0 (!w.params.followText "set-order")) where
  ob := ⟨_, g, ⟨rfl, rfl, rfl⟩, rfl⟩
  rows := rfl
  tab := ⟨.nil, rfl, rfl, .inl rfl, fun x hx => (by cases hx), fun i h j hi => (by simp at hi)⟩
  nd := .nil
  tup := fun p hp => (by cases hp)
  led := by
    show _ ∨ (!w.params.followText "set-order") = true
    cases w.params.followText "set-order" <;> simp
  room := by show 0 * 5 < 7 * 3; decide
  few := by decide
theorem TuR.at (R : TuR P w h a L es ep t) (g : ∀ o, h.get? a = some o → h'.get? a = some o) (tu : ∀ p ∈ L, IsM P w h' p.2 p.1) : TuR P w h' a L es ep t := by
  obtain ⟨o, e, r⟩ := R.ob
  exact ⟨⟨o, g o e, r⟩, R.rows, R.tab, R.nd, tu, R.led, R.room, R.few⟩
end
def uniq {α : Type} [DecidableEq α] : List α → List α
  | [] => []
  | x :: xs => if x ∈ uniq xs then uniq xs else x :: uniq xs
theorem uniq_mem {α : Type} [DecidableEq α] {y : α} : ∀ {xs : List α}, y ∈ uniq xs ↔ y ∈ xs
  | [] => Iff.rfl
  | x :: xs => by
    rw [uniq]
    split
    · rename_i m
      rw [uniq_mem, List.mem_cons]
      exact ⟨.inr, fun z => z.elim (fun e => e ▸ uniq_mem.mp m) id⟩
    · rw [List.mem_cons, List.mem_cons, uniq_mem]
theorem uniq_nd {α : Type} [DecidableEq α] : ∀ xs : List α, (uniq xs).Nodup
  | [] => .nil
  | x :: xs => by
    rw [uniq]
    split
    · exact uniq_nd xs
    · rename_i m
      exact List.nodup_cons.mpr ⟨m, uniq_nd xs⟩
section
variable {X : Cx}
theorem items_keys {P : Program} {w : World} : ∀ {k : List Key} {us : List Value}, Vals (k.map kV) us → ItemsAre (mixKind P w) k us
  | [], _, .nil => .nil
  | n :: k, _, .cons r t => .cons (kV_is r) (items_keys t)
theorem isM_of {pins : List (Addr × Obj)} {σ : L2.St} {H : Hp} {s : Shared} {b : Addr} {k : List Key} (I : Inv X pins σ H s) (e : SqT X.K H b (k.map kV)) : IsM X.prog X.w s.heap k b := by
  obtain ⟨its, r, ⟨o, g, c, n, d⟩, _⟩ := I.tuple e
  exact ⟨o, its.toArray, n, g, c, d, by simpa using items_keys r⟩
end
end Mi

namespace Mi
open PySem L2 PyProof PyProof.Rows
def lstA (os : List O) (h : MH) : Option (List Val) := match os with
  | [o] => lstO h o
  | _ => none
theorem lstA_ok {g : G} {m : Mu} {H H0 : Hp} {h : MH} {vs : List V} {os : List O} {xs : List Val} (r : RepH g m H h) (q : rOs g H0 H m vs os) (e : lstA os h = some xs) : ∃ l us, vs = [.ref l] ∧ SqL g.K H l us ∧ RVs g.K H m us xs := by
  unfold lstA at e
  split at e
  · obtain ⟨v, rfl, q1⟩ := q.one
    obtain ⟨a, us, rfl, la, ra⟩ := lstO_ok r q1 e
    exact ⟨a, us, rfl, la, ra⟩
  · cases e
section
variable {X : Cx} {ca : CA} {W : WX} {e1 : Expr} {d1 : DA}
end
end Mi

namespace Mi
open PySem L2 PyProof PyProof.Rows PySem.Spec
section
variable {X : Cx} {ca : CA} {W : WX} {e1 : Expr} {d1 : DA}
end
end Mi

namespace HTL
open PySem PySem.Spec PyProof.Rows L2 RT
section
variable {prog : Program} {w : World} {A : Around} {E : Value → Shared → Prop} {s : Shared} {R : Result → Shared → Prop}
end
end HTL
namespace Mi
open PySem L2 PyProof PyProof.Rows RT
section
variable {X : Cx}
variable {ca : CA} {W : WX} {e1 : Expr} {d1 : D}
end
end Mi

namespace Mi
open PySem L2 PyProof PyProof.Rows
section
variable {X : Cx}
end
end Mi

namespace Mi
open PySem L2 PyProof PyProof.Rows PySem.Spec
abbrev F3 := List Nat × List Nat × Int
def key3 (f : F3) : List Key := [.inr (sOf f.1), .inr (sOf f.2.1), .inl f.2.2]
def d3 (f : F3) : PyData := .tuple [.str (sOf f.1), .str (sOf f.2.1), .int f.2.2]
def v3 (f : F3) : Val := .tup [.str f.1, .str f.2.1, .int f.2.2]
def le3 (a b : F3) : Bool := decide (a.1 < b.1 ∨ (a.1 = b.1 ∧ (a.2.1 < b.2.1 ∨ (a.2.1 = b.2.1 ∧ a.2.2 ≤ b.2.2))))
def sort3 (xs : List F3) : List F3 := xs.mergeSort le3
theorem key3_inj {a b : F3} (h : key3 a = key3 b) : a = b := by
  simp only [key3, List.cons.injEq, Sum.inr.injEq, Sum.inl.injEq, sOf_inj, and_true] at h
  exact Prod.ext h.1 (Prod.ext h.2.1 h.2.2)
theorem s_eqv (a b : List Nat) : PyData.eqv (.str (sOf a)) (.str (sOf b)) = decide (a = b) := by
  rw [Bool.eq_iff_iff]
  simp only [PyData.eqv, beq_iff_eq, decide_eq_true_eq]
  exact sOf_inj
theorem i_eqv (a b : Int) : PyData.eqv (.int a) (.int b) = decide (a = b) := by
  rw [Bool.eq_iff_iff]
  simp only [PyData.eqv, beq_iff_eq, decide_eq_true_eq]
theorem dataLe_3 {β : Type} (k : β → F3) : PySem.W.dataLe false (fun b => d3 (k b)) = fun a b => le3 (k a) (k b) := by
  funext a b
  rw [PySem.W.dataLe_eq]
  show (!PySem.W.dataLt (d3 (k b)) (d3 (k a))) = _
  unfold d3 le3
  have ss : ∀ x y : List Nat, PySem.W.alike (.str (sOf x)) (.str (sOf y)) = true := fun x y => by simp [PySem.W.alike]
  have ii : ∀ x y : Int, PySem.W.alike (.int x) (.int y) = true := fun x y => by simp [PySem.W.alike]
  have cs : ∀ x : List Nat, (sOf x).cps.toList = x := fun x => by simp [sOf]
  rw [PySem.W.dataLt_tuple, PySem.W.dataLt_cons (ss _ _), PySem.W.dataLt_cons (ss _ _), PySem.W.dataLt_cons (ii _ _), s_eqv, s_eqv, i_eqv, PySem.W.dataLt_str, PySem.W.dataLt_str, PySem.W.dataLt_int, cs, cs, cs, cs]
  generalize k a = p
  generalize k b = q
  obtain ⟨p1, p2, p3⟩ := p
  obtain ⟨q1, q2, q3⟩ := q
  simp only [decide_eq_true_eq]
  by_cases e1 : q1 = p1
  · subst e1
    have n1 : ¬ q1 < q1 := List.lt_irrefl _
    rw [if_pos rfl]
    by_cases e2 : q2 = p2
    · subst e2
      have n2 : ¬ q2 < q2 := List.lt_irrefl _
      rw [if_pos rfl]
      by_cases e3 : q3 = p3
      · subst e3
        rw [if_pos rfl, PyProof.Rows.lex_irrefl]
        simp [n1, n2]
      · rw [if_neg e3, Bool.eq_iff_iff]
        simp [n1, n2]
    · have e2' : ¬ p2 = q2 := fun e => e2 e.symm
      rw [if_neg e2, Bool.eq_iff_iff]
      simp only [Bool.not_eq_true', decide_eq_false_iff_not, decide_eq_true_eq, n1, e2', false_or, true_and, false_and, or_false]
      exact ⟨fun h => Std.lt_of_le_of_ne h e2', fun h => List.le_of_lt h⟩
  · have e1' : ¬ p1 = q1 := fun e => e1 e.symm
    rw [if_neg e1, Bool.eq_iff_iff]
    simp only [Bool.not_eq_true', decide_eq_false_iff_not, decide_eq_true_eq, e1', false_and, or_false]
    exact ⟨fun h => Std.lt_of_le_of_ne h e1', fun h => List.le_of_lt h⟩
theorem l_tri (a b : List Nat) : a < b ∨ a = b ∨ b < a := by
  by_cases e : a = b
  · exact .inr (.inl e)
  · rcases List.le_total a b with h | h
    · exact .inl (Std.lt_of_le_of_ne h e)
    · exact .inr (.inr (Std.lt_of_le_of_ne h fun z => e z.symm))
theorem le3_tot (a b : F3) : (le3 a b || le3 b a) = true := by
  simp only [le3, Bool.or_eq_true, decide_eq_true_eq]
  rcases l_tri a.1 b.1 with h | h | h
  · exact .inl (.inl h)
  · rcases l_tri a.2.1 b.2.1 with g | g | g
    · exact .inl (.inr ⟨h, .inl g⟩)
    · rcases Int.le_total a.2.2 b.2.2 with z | z
      · exact .inl (.inr ⟨h, .inr ⟨g, z⟩⟩)
      · exact .inr (.inr ⟨h.symm, .inr ⟨g.symm, z⟩⟩)
    · exact .inr (.inr ⟨h.symm, .inl g⟩)
  · exact .inr (.inl h)
theorem le3_trans (a b c : F3) (h1 : le3 a b = true) (h2 : le3 b c = true) : le3 a c = true := by
  simp only [le3, decide_eq_true_eq] at *
  rcases h1 with h1 | ⟨e1, h1⟩
  · rcases h2 with h2 | ⟨e2, h2⟩
    · exact .inl (List.lt_trans h1 h2)
    · exact .inl (e2 ▸ h1)
  · rcases h2 with h2 | ⟨e2, h2⟩
    · exact .inl (e1 ▸ h2)
    · refine .inr ⟨e1.trans e2, ?_⟩
      rcases h1 with h1 | ⟨f1, h1⟩
      · rcases h2 with h2 | ⟨f2, h2⟩
        · exact .inl (List.lt_trans h1 h2)
        · exact .inl (f2 ▸ h1)
      · rcases h2 with h2 | ⟨f2, h2⟩
        · exact .inl (f1 ▸ h2)
        · exact .inr ⟨f1.trans f2, by omega⟩
theorem le3_anti {a b : F3} (h1 : le3 a b = true) (h2 : le3 b a = true) : a = b := by
  simp only [le3, decide_eq_true_eq] at *
  have ir : ∀ {x y : List Nat}, x < y → y < x → False := fun h g => List.lt_irrefl _ (List.lt_trans h g)
  have e1 : a.1 = b.1 := by
    rcases h1 with h1 | ⟨e, _⟩
    · rcases h2 with h2 | ⟨e, _⟩
      · exact (ir h1 h2).elim
      · exact e.symm
    · exact e
  have n1 : ¬ a.1 < b.1 := by rw [e1]; exact List.lt_irrefl _
  have n2 : ¬ b.1 < a.1 := by rw [e1]; exact List.lt_irrefl _
  simp only [n1, n2, false_or] at h1 h2
  have e2 : a.2.1 = b.2.1 := by
    rcases h1.2 with h1 | ⟨e, _⟩
    · rcases h2.2 with h2 | ⟨e, _⟩
      · exact (ir h1 h2).elim
      · exact e.symm
    · exact e
  have m1 : ¬ a.2.1 < b.2.1 := by rw [e2]; exact List.lt_irrefl _
  have m2 : ¬ b.2.1 < a.2.1 := by rw [e2]; exact List.lt_irrefl _
  simp only [m1, m2, false_or] at h1 h2
  exact Prod.ext e1 (Prod.ext e2 (Int.le_antisymm h1.2.2 h2.2.2))
theorem sort3_sorted (xs : List F3) : (sort3 xs).Pairwise (fun a b => le3 a b = true) := List.pairwise_mergeSort le3_trans le3_tot xs
theorem sort3_perm (xs : List F3) : (sort3 xs).Perm xs := List.mergeSort_perm ..
theorem sort3_uniq {a b : List F3} (ha : a.Pairwise (fun x y => le3 x y = true)) (hb : b.Pairwise (fun x y => le3 x y = true)) (p : a.Perm b) : a = b := p.eq_of_pairwise (fun _ _ _ _ h1 h2 => le3_anti h1 h2) ha hb
theorem sort3_like {a b : List F3} (p : a.Perm b) : sort3 a = sort3 b := sort3_uniq (sort3_sorted a) (sort3_sorted b) ((sort3_perm a).trans (p.trans (sort3_perm b).symm))
theorem perm_lift {α β : Type} {f : α → β} {vs us : List β} (p : vs.Perm us) : ∀ L : List α, us = L.map f → ∃ L' : List α, vs = L'.map f ∧ L'.Perm L := by
  induction p with
  | nil =>
    intro L e
    cases L with
    | nil => exact ⟨[], rfl, .nil⟩
    | cons _ _ => cases e
  | cons x p ih =>
    intro L e
    cases L with
    | nil => cases e
    | cons y L =>
      rw [List.map_cons] at e
      obtain ⟨e1, e2⟩ := List.cons.inj e
      obtain ⟨L', e', p'⟩ := ih L e2
      exact ⟨y :: L', by rw [List.map_cons, e', e1], .cons y p'⟩
  | swap x y l =>
    intro L e
    cases L with
    | nil => cases e
    | cons a L =>
      cases L with
      | nil => cases e
      | cons b L =>
        simp only [List.map_cons, List.cons.injEq] at e
        obtain ⟨rfl, rfl, rfl⟩ := e
        exact ⟨b :: a :: L, rfl, .swap ..⟩
  | trans _ _ ih1 ih2 =>
    intro L e
    obtain ⟨L1, e1, p1⟩ := ih2 L e
    obtain ⟨L2, e2, p2⟩ := ih1 L1 e1
    exact ⟨L2, e2, p2.trans p1⟩
theorem lift_mem {α β : Type} {f : α → β} {ks : List α} : ∀ {L : List β}, (∀ x ∈ L, x ∈ ks.map f) → ∃ L' : List α, L = L'.map f ∧ ∀ x ∈ L', x ∈ ks
  | [], _ => ⟨[], rfl, fun _ h => nomatch h⟩
  | x :: L, h => by
    obtain ⟨y, hy, rfl⟩ := List.mem_map.mp (h x (List.mem_cons_self ..))
    obtain ⟨L', e, m⟩ := lift_mem (L := L) fun z hz => h z (List.mem_cons_of_mem _ hz)
    refine ⟨y :: L', by rw [List.map_cons, e], fun z hz => ?_⟩
    rcases List.mem_cons.mp hz with rfl | hz
    · exact hy
    · exact m z hz
abbrev g3 (p : Addr × F3) : Addr × List Key := (p.1, key3 p.2)
def TuO (P : Program) (w : World) (a : Addr) (L : List (Addr × F3)) : HO := .ext fun h => ∃ o es ep t, h.get? a = some o ∧ o.ExactSet ∧ o.data = .set es ep t ∧ es.toList = L.map (fun p => rowM P w (g3 p)) ∧ SetTable.fits t es.size = true ∧ Ris t.place.toList ∧ ledOk w t ∧ L.length < 64
section
variable {X : Cx}
def rSetTu (P : Program) (K : PySem.W.Frag) (w : World) : List V → Hp → VK → Prop := fun vs H Q => ∃ (l : Addr) (ks : List (Addr × F3)), vs = [.ref l] ∧ SqL K H l (ks.map fun p => V.ref p.1) ∧ (∀ p ∈ ks, SqT K H p.1 ((key3 p.2).map kV)) ∧ ks.length < 64 ∧
  ∀ (L : List (Addr × F3)) p, (L.map (·.2)).Nodup → (∀ f, f ∈ L.map (·.2) ↔ f ∈ ks.map (·.2)) → (∀ q ∈ L, q ∈ ks) → H p = none → Q (.ref p) (upd H p (TuO P w p L))
theorem cr_setTu (hc : X.calm = true) (hu : X.A.units + 64 < cLine) : CallR X (.type "set") (rSetTu X.prog X.K X.w) := by
  intro pins s σ H xs us Q I r h
  obtain ⟨l, k3, rfl, hq, ht, few, q⟩ := h
  rw [Vals.ref1 r]
  obtain ⟨its, rv, pl, hz⟩ := I.list hq
  obtain ⟨ks, hks⟩ : ∃ ks, k3.map g3 = ks := ⟨_, rfl⟩
  have lk : ks.length = k3.length := by rw [← hks, List.length_map]
  have ev : (k3.map fun p => V.ref p.1) = ks.map fun p => V.ref p.1 := by rw [← hks, List.map_map]; rfl
  rw [ev] at rv
  have len : its.length = ks.length := by rw [← rv.length, List.length_map]
  have tu : ∀ p ∈ ks, IsM X.prog X.w s.heap p.2 p.1 := fun p hp => by
    rw [← hks] at hp
    obtain ⟨z, hz', ez⟩ := List.mem_map.mp hp
    rw [← ez]
    exact isM_of I (ht z hz')
  have tuAt : ∀ {h' : Heap}, (∀ b o, s.heap.get? b = some o → h'.get? b = some o) → ∀ p ∈ ks, IsM X.prog X.w h' p.2 p.1 := fun k p hp => isM_at (tu p hp) fun o e => k _ o e
  refine set_list (I.ok.hd hc) pl.isList (fun i h => ∃ L es ep t, TuR X.prog X.w h s.heap.objs.size L es ep t ∧ (∀ k, k ∈ L.map (·.2) ↔ k ∈ (ks.take i).map (·.2)) ∧ (∀ p ∈ L, p ∈ ks) ∧ L.length ≤ i ∧ ∀ b o, s.heap.get? b = some o → h.get? b = some o)
    (fun h g k => ⟨[], _, _, _, tuR_0 g, by simp, by simp, Nat.le_refl _, k⟩) (fun i h h' ⟨L, es, ep, t, R, m, sub, z, kp⟩ k => ?_) (fun i v A' hv hA z E Q ⟨L, es, ep, t, R, m, sub, zl, kp⟩ k => ?_) fun h' tk ⟨L, es, ep, t, R, m, sub, z, kp⟩ keep => ?_
  · have kp' : ∀ b o, s.heap.get? b = some o → h'.get? b = some o := fun b o e => k b o (Nat.ne_of_lt (Nat.lt_succ_of_lt (Heap.lt_size e))) (kp b o e)
    exact ⟨L, es, ep, t, R.at (fun o e => k _ o (Nat.ne_of_lt (Nat.lt_succ_self _)) e) fun p hp => tuAt kp' p (sub p hp), m, sub, z, kp'⟩
  · have hv' : its[i]? = some v := by simpa using hv
    have il : i < ks.length := by rw [← len]; exact (List.getElem?_eq_some_iff.mp hv').1
    obtain ⟨u, hu', ru⟩ := rv.get (i := i) (x := V.ref ks[i].1) (by rw [List.getElem?_map, List.getElem?_eq_getElem il]; rfl)
    rw [hv'] at hu'
    obtain rfl := Option.some.inj hu'
    obtain rfl : v = Value.ref ks[i].1 := ru
    have hm : ks[i] ∈ ks := List.getElem_mem il
    have hA' : A'.units < cLine := by omega
    unfold setAdd
    refine wpAny_holding (wpAny_bind (wpAny_pyHash_tuple hA' (tuAt kp _ hm) ?_))
    refine TuR.add (s := { z with toks := z.toks + (ks[i].2.length + 1) }) R (tuAt kp _ hm) hA' (by omega) fun b h' L' es' ep' t' sb R' c1 c2 => k b h' _ sb (Nat.le_add_right _ _) ⟨L', es', ep', t', R', fun y => ?_, fun p hp => ?_, ?_, fun b o e => (sb.2 b (Nat.ne_of_lt (Heap.lt_size e))).trans (kp b o e)⟩
    · have tk : ks.take (i + 1) = ks.take i ++ [ks[i]] := (List.take_append_getElem il).symm
      rw [tk, List.map_append, List.mem_append, List.map_cons, List.map_nil, List.mem_singleton]
      by_cases c : ks[i].2 ∈ L.map (·.2)
      · rw [c1 c, m]
        exact ⟨.inl, fun y => y.elim id fun e => by rw [e]; exact (m _).1 c⟩
      · rw [((c2 c).map (·.2)).mem_iff, List.map_cons, List.mem_cons, m]
        exact Or.comm
    · by_cases c : ks[i].2 ∈ L.map (·.2)
      · rw [c1 c] at hp; exact sub p hp
      · rcases List.mem_cons.mp ((c2 c).mem_iff.mp hp) with e | hp
        · rw [e]; exact hm
        · exact sub p hp
    · by_cases c : ks[i].2 ∈ L.map (·.2)
      · rw [c1 c]; omega
      · rw [(c2 c).length_eq, List.length_cons]; omega
  · have whole : ks.take its.toArray.size = ks := by rw [List.size_toArray, len, List.take_length]
    rw [whole] at m
    obtain ⟨L3, eL, sub3⟩ := lift_mem (f := g3) (ks := k3) (L := L) fun p hp => by rw [hks]; exact sub p hp
    subst eL
    obtain ⟨o, g, hx, d⟩ := R.ob
    have few3 := R.few
    have rows := R.rows
    rw [List.length_map] at few3
    rw [List.map_map] at rows
    have ok : ∀ H', ObjOk X.prog X.w H' h' s.heap.objs.size (TuO X.prog X.w s.heap.objs.size L3) :=
      fun H' => ⟨⟨o, es, ep, t, g, hx, d, rows, R.fits, R.tab.ris, R.led, few3⟩, ⟨o, g⟩, fun h1 h2 p k => by
        obtain ⟨o, es, ep, t, g, r⟩ := p
        exact ⟨o, es, ep, t, k o g, r⟩⟩
    have nd : (L3.map (·.2)).Nodup := by
      have := R.nd
      rw [List.map_map] at this
      have e : (L3.map ((fun p : Addr × List Key => p.2) ∘ g3)) = (L3.map (·.2)).map key3 := by rw [List.map_map]; rfl
      rw [e] at this
      exact (List.pairwise_map.mp this).imp fun h e => h (congrArg key3 e)
    have mm : ∀ f, f ∈ L3.map (·.2) ↔ f ∈ k3.map (·.2) := fun f => by
      have := m (key3 f)
      rw [← hks, List.map_map, List.map_map] at this
      constructor
      · intro hf
        obtain ⟨p, hp, rfl⟩ := List.mem_map.mp hf
        exact List.mem_map.mpr ⟨p, sub3 p hp, rfl⟩
      · intro hf
        obtain ⟨p, hp, rfl⟩ := List.mem_map.mp hf
        obtain ⟨p', hp', e⟩ := List.mem_map.mp (this.mpr (List.mem_map.mpr ⟨p, hp, rfl⟩))
        have := key3_inj (a := p'.2) (b := p.2) e
        exact List.mem_map.mpr ⟨p', hp', this⟩
    exact ⟨.ref _, upd H s.heap.objs.size (TuO X.prog X.w s.heap.objs.size L3), I.laid (t' := tk) keep (Nat.le_refl _) (ok _), rfl, q L3 _ nd mm sub3 (I.hok.fresh (Nat.le_refl _))⟩
end
end Mi

namespace Mi
open PySem L2 PyProof PyProof.Rows PySem.Spec
theorem items_all {P : Program} {w : World} {h : Heap} : ∀ {k : List Key} {vs : List Value}, ItemsAre (mixKind P w) k vs → ReadsAll h vs (k.map fun x => match x with | .inl i => PyData.int i | .inr s => .str s) []
  | _, _, .nil => .nil
  | _, _, .cons z t => by
    rcases keyIs_shape z with ⟨i, t', rfl, rfl⟩ | ⟨y, t', rfl, rfl⟩
    · exact .cons (as := []) (bs := []) (.int i t') (items_all t)
    · exact .cons (as := []) (bs := []) (.str y t') (items_all t)
theorem reads3 {P : Program} {w : World} {h : Heap} {b : Addr} {f : F3} (t : IsM P w h (key3 f) b) : Reads h (.ref b) (d3 f) [] := by
  obtain ⟨o, its, n, g, c, d, hi⟩ := t
  exact .tuple g c d (items_all hi)
theorem each_r {P : Program} {w : World} {h : Heap} {a : Addr} : ∀ {ps : List (Addr × F3)}, (∀ p ∈ ps, IsM P w h (key3 p.2) p.1) → PySem.W.EachIs (fun v (p : Addr × F3) => ∃ as, Reads h v (d3 p.2) as ∧ a ∉ as) (ps.map fun p => Value.ref p.1) ps
  | [], _ => .nil
  | p :: ps, t => .cons ⟨[], reads3 (t p (List.mem_cons_self ..)), by simp⟩ (each_r fun q hq => t q (List.mem_cons_of_mem _ hq))
theorem each_e : ∀ ps : List (Addr × F3), PySem.W.EachIs (fun v (p : Addr × F3) => v = Value.ref p.1) (ps.map fun p => Value.ref p.1) ps
  | [] => .nil
  | p :: ps => .cons rfl (each_e ps)
theorem each_o : ∀ {out : List Value} {ps : List (Addr × F3)}, PySem.W.EachIs (fun v (p : Addr × F3) => v = Value.ref p.1) out ps → out = ps.map fun p => Value.ref p.1
  | _, _, .nil => rfl
  | _, _, .cons a b => by rw [List.map_cons, ← each_o b, a]
theorem sort3_ok (ps : List (Addr × F3)) : PySem.W.AllAlike (ps.map fun p => d3 p.2) ∧ PySem.W.Sortable (ps.map fun p => d3 p.2) := by
  refine ⟨fun d hd e he => ?_, .inl fun d hd => ?_⟩
  · obtain ⟨p, _, rfl⟩ := List.mem_map.mp hd
    obtain ⟨q, _, rfl⟩ := List.mem_map.mp he
    simp [d3, PySem.W.alike, PySem.W.alikeAll]
  · obtain ⟨p, _, rfl⟩ := List.mem_map.mp hd
    exact ⟨_, _, rfl⟩
section
variable {X : Cx}
def srt3 (ps : List (Addr × F3)) : List (Addr × F3) := ps.mergeSort fun x y => le3 x.2 y.2
theorem srt3_perm (ps : List (Addr × F3)) : (srt3 ps).Perm ps := List.mergeSort_perm ..
theorem srt3_map (ps : List (Addr × F3)) : (srt3 ps).map (·.2) = sort3 (ps.map (·.2)) :=
  PySem.W.sort_maps (r := fun x y : Addr × F3 => le3 x.2 y.2) (s := le3) (fun p : Addr × F3 => p.2) (l := ps) fun _ _ _ _ => rfl
def rSortTu (P : Program) (K : PySem.W.Frag) (w : World) : List V → Hp → VK → Prop := fun vs H Q => ∃ (a : Addr) (L : List (Addr × F3)), vs = [.ref a] ∧ H a = some (TuO P w a L) ∧ (∀ p ∈ L, SqT K H p.1 ((key3 p.2).map kV)) ∧
  ∀ (ps : List (Addr × F3)) q, ps.Perm L → H q = none → Q (.ref q) (upd H q (.lst ((srt3 ps).map fun p => V.ref p.1)))
theorem cr_sortTu (hu : X.A.units + 64 < cLine) (hc : X.calm = true) : CallR X (.builtin "sorted") (rSortTu X.prog X.K X.w) := by
  intro pins s σ H xs us Q I r q
  obtain ⟨a, L, rfl, hd, ht, q⟩ := q
  rw [Vals.ref1 r]
  obtain ⟨o, es, ep, t, g, hx, d, rows, fits, ris, led, few⟩ := (I.hok a _ hd).1
  have z : es.size = L.length := by rw [← Array.length_toList, rows, List.length_map]
  refine Calls.call_function_entry PyProof.Rows.kind_sorted PyProof.Rows.plain_sorted PyProof.Rows.entry_sorted (PyProof.Rows.args_sorted1 _) ?_
  unfold Builtin.«sorted»
  refine wpAny_bind (m := checkCount "sorted" 1 1 _) (wpAny_pure ?_)
  refine wpAny_bind (collect_set (A := X.A.in1) (I.ok.hd hc) ⟨o, g, hx.1, d⟩ fits (by rw [z]; unfold scanBound; omega) ris led fun s1 vs k1 hz g1 o1 pm => ?_)
  have er0 : es.toList.map (·.2) = L.map fun p => Value.ref p.1 := by rw [rows, List.map_map]; rfl
  rw [er0] at pm
  obtain ⟨ps, rfl, pL⟩ := perm_lift pm L rfl
  have tu : ∀ p ∈ ps, IsM X.prog X.w s.heap (key3 p.2) p.1 := fun p hp => isM_of I (ht p (pL.mem_iff.mp hp))
  have vl : ps.length ≤ sizeLine := by rw [pL.length_eq, sizeLine_eq]; omega
  refine wpAny_bind (wpAny_newList ?_ (by rw [List.length_map]; exact vl))
  have hoL : (s1.heap.push (seqObj "list" (ps.map fun p => Value.ref p.1).toArray 0)).get? s1.heap.objs.size = some (seqObj "list" (ps.map fun p => Value.ref p.1).toArray 0) := Heap.get?_push_size _ rfl
  obtain ⟨x1, x2⟩ := sort3_ok ps
  have er : PySem.W.EachIs (fun v (p : Addr × F3) => ∃ as, Reads (s1.heap.push (seqObj "list" (ps.map fun p => Value.ref p.1).toArray 0)) v (d3 p.2) as ∧ s1.heap.objs.size ∉ as) (ps.map fun p => Value.ref p.1) ps :=
    each_r (P := X.prog) (w := X.w) fun p hp => isM_at (tu p hp) fun o e => Heap.get?_push_of_some _ (k1 _ _ e)
  refine wpAny_bind (wpAny_holding (PySem.W.list_sort_data (s := { s1 with heap := s1.heap.push (seqObj "list" (ps.map fun p => Value.ref p.1).toArray 0) }) (enc := fun p : Addr × F3 => d3 p.2) (R := fun v (p : Addr × F3) => v = Value.ref p.1) hoL (each_e ps) er x1 x2 vl (fun b hb => ?_) fun out ho he => ?_))
  · have hdp : (d3 b.2).depth ≤ 2 := by simp [d3, PyData.depth, PyData.depthAll]
    show X.A.units + 1 + 1 + (d3 b.2).depth < cLine; omega
  rw [dataLe_3 (fun p : Addr × F3 => p.2)] at he
  have eo := each_o he
  obtain ⟨e', he'⟩ := PyProof.Rows.sortedHeap_at (vs := ps.map fun p => Value.ref p.1) (out := out.toArray) hoL
  have hlen : ((srt3 ps).map fun p => V.ref p.1).length ≤ sizeLine := by
    rw [List.length_map, (srt3_perm ps).length_eq]; exact vl
  have hn : H s1.heap.objs.size = none := I.hok.fresh hz
  have keep : ∀ b u, s.heap.get? b = some u → (sortedHeap (s1.heap.push (seqObj "list" (ps.map fun p => Value.ref p.1).toArray 0)) s1.heap.objs.size (ps.map fun p => Value.ref p.1) out.toArray).get? b = some u := fun b u e => by
    have q := k1 b u e
    have hb : b < s1.heap.objs.size := Heap.lt_size q
    rw [PyProof.Rows.sortedHeap_old (Nat.ne_of_lt hb) (by rw [size_push']; exact Nat.lt_succ_of_lt hb)]
    exact Heap.get?_push_of_some _ q
  have rv : Vals ((srt3 ps).map fun p => V.ref p.1) out := by rw [eo]; exact vals_maps (fun p : Addr × F3 => V.ref p.1) (fun p => Value.ref p.1) (srt3 ps) fun _ _ => rfl
  have J : Inv X pins σ (upd H s1.heap.objs.size (.lst ((srt3 ps).map fun p => V.ref p.1))) { s with heap := sortedHeap (s1.heap.push (seqObj "list" (ps.map fun p => Value.ref p.1).toArray 0)) s1.heap.objs.size (ps.map fun p => Value.ref p.1) out.toArray, gens := s1.gens, drawn := s1.drawn, toks := s1.toks } :=
    I.call (ch := []) (Un.laid keep hz hn) (I.hok.laid keep hz ⟨hlen, out, e', rv, he'⟩) (by rw [g1]; exact I.bare) (fun _ z => nomatch z)
  refine wpAny_pure ⟨_, rfl, .ref s1.heap.objs.size, _, ?_, rfl, q _ _ pL hn⟩
  have e : ({ s1 with heap := sortedHeap (s1.heap.push (seqObj "list" (ps.map fun p => Value.ref p.1).toArray 0)) s1.heap.objs.size (ps.map fun p => Value.ref p.1) out.toArray } : Shared) = { s with heap := sortedHeap (s1.heap.push (seqObj "list" (ps.map fun p => Value.ref p.1).toArray 0)) s1.heap.objs.size (ps.map fun p => Value.ref p.1) out.toArray, gens := s1.gens, drawn := s1.drawn, toks := s1.toks } := by
    cases s1
    cases s
    cases o1
    rfl
  exact e ▸ J
def rSortDT : List V → Hp → VK → Prop := fun xs H Q => ∃ (d : Addr) (kvs : List (List Key × V)) (fs : List F3), xs = [V.ref d] ∧ Rd H d (.dT kvs) ∧ kvs.map (·.1) = fs.map key3 ∧
  ∀ (ps : List (Addr × F3)) q, ps.map (·.2) = fs → (∀ p ∈ ps, H p.1 = some (.tup ((key3 p.2).map kV))) → H q = none → Q (.ref q) (upd H q (.lst ((srt3 ps).map fun p => V.ref p.1)))
theorem zip_fst {α β : Type} : ∀ {as : List α} {bs : List β}, as.length = bs.length → (as.zip bs).map (·.1) = as
  | [], [], _ => rfl
  | [], _ :: _, h => by cases h
  | _ :: _, [], h => by cases h
  | a :: as, b :: bs, h => by rw [List.zip_cons_cons, List.map_cons, zip_fst (by simpa using h)]
theorem zip_snd {α β : Type} : ∀ {as : List α} {bs : List β}, as.length = bs.length → (as.zip bs).map (·.2) = bs
  | [], [], _ => rfl
  | [], _ :: _, h => by cases h
  | _ :: _, [], h => by cases h
  | a :: as, b :: bs, h => by rw [List.zip_cons_cons, List.map_cons, zip_snd (by simpa using h)]
theorem isKeys_zip {H : Hp} : ∀ {kvs : List (List Key × V)} {bs : List Addr} {fs : List F3}, IsKeys H kvs bs → kvs.map (·.1) = fs.map key3 → bs.length = fs.length ∧ ∀ p ∈ bs.zip fs, H p.1 = some (.tup ((key3 p.2).map kV))
  | _, _, fs, .nil, e => by
    cases fs with
    | nil => exact ⟨rfl, fun p hp => nomatch hp⟩
    | cons _ _ => cases e
  | _, _, fs, .cons a b, e => by
    cases fs with
    | nil => cases e
    | cons f fs =>
      rw [List.map_cons, List.map_cons] at e
      obtain ⟨e1, e2⟩ := List.cons.inj e
      obtain ⟨l, h⟩ := isKeys_zip b e2
      refine ⟨by simp [l], fun p hp => ?_⟩
      rw [List.zip_cons_cons] at hp
      rcases List.mem_cons.mp hp with rfl | hp
      · rw [← e1]; exact a
      · exact h p hp
theorem cr_sortDT (hu : X.A.units + 64 < cLine) (hc : X.calm = true) : CallR X (.builtin "sorted") rSortDT := by
  intro pins s σ H xs us Q I r h
  obtain ⟨d, kvs, fs, rfl, hd, ek, q⟩ := h
  rw [Vals.ref1 r]
  obtain ⟨z, hs, ks, pr, o, es, ep, ho, hx, hdt, he, hn⟩ := (show ObjOk X.prog X.w H s.heap d (.dT kvs) from hd.ok I.hok)
  have l1 : es.size = ks.length := size_of_entries he
  have l2 : kvs.length = ks.length := Paired.length pr
  refine Calls.call_function_entry PyProof.Rows.kind_sorted PyProof.Rows.plain_sorted PyProof.Rows.entry_sorted (PyProof.Rows.args_sorted1 _) ?_
  unfold Builtin.«sorted»
  refine wpAny_bind (m := checkCount "sorted" 1 1 _) (wpAny_pure ?_)
  refine wpAny_bind (PySem.W.kdu_collect (A := X.A.in1) (kdl_raw hs hx hdt) (I.ok.hd hc) ho (by omega) fun h1 tk acc hk it => ?_)
  have ea : acc.toList = ks.map fun x => Value.ref x.2.1 := by
    have hl : acc.toList.length = ks.length := by rw [Array.length_toList, it.1]; exact l1
    apply List.ext_getElem?
    intro j
    rw [List.getElem?_map]
    cases hj : acc.toList[j]? with
    | none =>
      have h1 := List.getElem?_eq_none_iff.mp hj
      rw [List.getElem?_eq_none (by omega)]
      all_goals rfl
    | some v =>
      obtain ⟨en, hen, hv⟩ := it.2 j v (by rw [← Array.getElem?_toList]; exact hj)
      have qe := entry_at he j
      rw [hen] at qe
      cases hb : ks[j]? with
      | none =>
        rw [hb] at qe
        exact nomatch (show some en = none from qe)
      | some b =>
        rw [hb] at qe
        have e2 : en = entryOfKey (tupleKind (mixKind X.prog X.w)) b := Option.some.inj qe
        rw [hv, e2]
        all_goals rfl
  have ik := isKeys_of pr
  obtain ⟨lb, hb⟩ := isKeys_zip ik ek
  obtain ⟨ps, hps⟩ : ∃ ps, (ks.map fun x => x.2.1).zip fs = ps := ⟨_, rfl⟩
  have e1 : ps.map (·.1) = ks.map fun x => x.2.1 := by rw [← hps]; exact zip_fst lb
  have e2 : ps.map (·.2) = fs := by rw [← hps]; exact zip_snd lb
  rw [hps] at hb
  have eb : acc.toList = ps.map fun p => Value.ref p.1 := by
    rw [ea]
    have : (ps.map fun p => Value.ref p.1) = (ps.map (·.1)).map Value.ref := by rw [List.map_map]; rfl
    rw [this, e1, List.map_map]
    rfl
  rw [eb]
  have tu : ∀ p ∈ ps, IsM X.prog X.w s.heap (key3 p.2) p.1 := fun p hp => isM_of I (.inl (.inl (hb p hp)))
  have lp : ps.length = ks.length := by
    have := congrArg List.length e1
    simpa using this
  have vl : ps.length ≤ sizeLine := by omega
  refine wpAny_bind (wpAny_newList ?_ (by rw [List.length_map]; exact vl))
  have hoL : (h1.push (seqObj "list" (ps.map fun p => Value.ref p.1).toArray 0)).get? h1.objs.size = some (seqObj "list" (ps.map fun p => Value.ref p.1).toArray 0) := Heap.get?_push_size _ rfl
  show wpAny _ _ _ _ _ { s with heap := h1.push (seqObj "list" (ps.map fun p => Value.ref p.1).toArray 0), toks := tk }
  obtain ⟨x1, x2⟩ := sort3_ok ps
  have er : PySem.W.EachIs (fun v (p : Addr × F3) => ∃ as, Reads (h1.push (seqObj "list" (ps.map fun p => Value.ref p.1).toArray 0)) v (d3 p.2) as ∧ h1.objs.size ∉ as) (ps.map fun p => Value.ref p.1) ps :=
    each_r (P := X.prog) (w := X.w) fun p hp => isM_at (tu p hp) fun o e => Heap.get?_push_of_some _ (hk _ _ e)
  refine wpAny_bind (wpAny_holding (PySem.W.list_sort_data (s := { s with heap := h1.push (seqObj "list" (ps.map fun p => Value.ref p.1).toArray 0), toks := tk }) (enc := fun p : Addr × F3 => d3 p.2) (R := fun v (p : Addr × F3) => v = Value.ref p.1) hoL (each_e ps) er x1 x2 vl (fun b hb => ?_) fun out ho he => ?_))
  · have hdp : (d3 b.2).depth ≤ 2 := by simp [d3, PyData.depth, PyData.depthAll]
    show X.A.units + 1 + 1 + (d3 b.2).depth < cLine; omega
  rw [dataLe_3 (fun p : Addr × F3 => p.2)] at he
  have eo := each_o he
  obtain ⟨e', he'⟩ := PyProof.Rows.sortedHeap_at (vs := ps.map fun p => Value.ref p.1) (out := out.toArray) hoL
  have hlen : ((srt3 ps).map fun p => V.ref p.1).length ≤ sizeLine := by
    rw [List.length_map, (srt3_perm ps).length_eq]; exact vl
  have rv : Vals ((srt3 ps).map fun p => V.ref p.1) out := by rw [eo]; exact vals_maps (fun p : Addr × F3 => V.ref p.1) (fun p => Value.ref p.1) (srt3 ps) fun _ _ => rfl
  have I1 : Inv X pins σ H { s with heap := h1, toks := tk } := I.kept hk
  refine wpAny_pure ⟨_, rfl, .ref h1.objs.size, upd H h1.objs.size (.lst ((srt3 ps).map fun p => V.ref p.1)), I1.laid (t' := tk) (fun b u e => ?_) (Nat.le_refl _)
    ⟨hlen, out, e', rv, he'⟩, rfl, q ps _ e2 hb (I1.hok.fresh (Nat.le_refl _))⟩
  have hb : b < h1.objs.size := Heap.lt_size e
  rw [PyProof.Rows.sortedHeap_old (Nat.ne_of_lt hb) (by rw [size_push']; exact Nat.lt_succ_of_lt hb)]
  exact Heap.get?_push_of_some _ e
end
def of3 : Val → Option F3
  | .tup [.str a, .str b, .int i] => some (a, b, i)
  | _ => none
def of3s : List Val → Option (List F3)
  | [] => some []
  | x :: xs => match of3 x, of3s xs with
    | some f, some fs => some (f :: fs)
    | _, _ => none
theorem of3_v {x : Val} {f : F3} (e : of3 x = some f) : x = v3 f := by
  unfold of3 at e
  split at e
  · cases e; rfl
  · cases e
def Low3 (f : F3) : Prop := (∀ c ∈ f.1, c < 1114112) ∧ ∀ c ∈ f.2.1, c < 1114112
theorem of3s_ok {K : PySem.W.Frag} {H : Hp} {m : Mu} : ∀ {vs : List V} {xs : List Val} {fs : List F3}, RVs K H m vs xs → of3s xs = some fs → ∃ ps : List (Addr × F3), vs = ps.map (fun p => V.ref p.1) ∧ ps.map (·.2) = fs ∧ ∀ p ∈ ps, H p.1 = some (.tup ((key3 p.2).map kV)) ∧ Low3 p.2
  | _, _, fs, .nil, e => by cases e; exact ⟨[], rfl, rfl, fun p hp => nomatch hp⟩
  | _, _, fs, .cons rv t, e => by
    simp only [of3s] at e
    split at e
    · rename_i f fs' e1 e2
      cases e
      obtain ⟨ps, p1, p2, p3⟩ := of3s_ok t e2
      cases of3_v e1
      unfold v3 at rv
      cases rv with
      | tup ha r =>
        cases r with
        | cons r1 r =>
          cases r with
          | cons r2 r =>
            cases r with
            | cons r3 r =>
              cases r
              cases r1 with
              | str _ h1 =>
                cases r2 with
                | str _ h2 =>
                  cases r3
                  rename_i a
                  refine ⟨(a, f) :: ps, by rw [p1]; rfl, by rw [List.map_cons, p2], fun p hp => ?_⟩
                  rcases List.mem_cons.mp hp with rfl | hp
                  · exact ⟨ha, h1, h2⟩
                  · exact p3 p hp
    · cases e
theorem rv3 {K : PySem.W.Frag} {H : Hp} {m : Mu} : ∀ {ps : List (Addr × F3)}, (∀ p ∈ ps, H p.1 = some (.tup ((key3 p.2).map kV)) ∧ Low3 p.2) → RVs K H m (ps.map fun p => V.ref p.1) ((ps.map (·.2)).map v3)
  | [], _ => .nil
  | p :: ps, h => by
    obtain ⟨h1, h2, h3⟩ := h p (List.mem_cons_self ..)
    exact .cons (.tup h1 (.cons (.str _ h2) (.cons (.str _ h3) (.cons (.int _) .nil)))) (rv3 fun q hq => h q (List.mem_cons_of_mem _ hq))
def bSortSet3 (os : List O) (h : MH) : R O := match lstA os h with
  | some xs => match of3s xs with
    | some fs => if fs.length < 64 then .ok (.n ((sort3 (uniq fs)).map v3)) h else .bad
    | none => .bad
  | none => .bad
end Mi

namespace Mi
open PySem L2 PyProof PyProof.Rows PySem.Spec
def keys3 : List (List Val) → Option (List F3)
  | [] => some []
  | x :: xs => match of3 (.tup x), keys3 xs with
    | some f, some fs => some (f :: fs)
    | _, _ => none
theorem keys3_ok {K : PySem.W.Frag} {H : Hp} {m : Mu} : ∀ {ks : List (List Key × V)} {kvs : List (List Val × Val)} {fs : List F3}, RKT K H m ks kvs → keys3 (kvs.map (·.1)) = some fs → ks.map (·.1) = fs.map key3 ∧ ∀ f ∈ fs, Low3 f
  | _, _, fs, .nil, e => by cases e; exact ⟨rfl, fun f h => nomatch h⟩
  | _, _, fs, .cons (x := x) (k := k) ek rv t, e => by
    simp only [List.map_cons, keys3] at e
    split at e
    · rename_i f fs' e1 e2
      cases e
      obtain ⟨a, b⟩ := keys3_ok t e2
      have ex : x = [.str f.1, .str f.2.1, .int f.2.2] := by
        have := of3_v e1
        unfold v3 at this
        exact Val.tup.inj this
      subst ex
      simp only [keysOf, keyOf] at ek
      by_cases c1 : (f.1.all fun c => decide (c < 1114112)) = true
      · by_cases c2 : (f.2.1.all fun c => decide (c < 1114112)) = true
        · rw [if_pos c1, if_pos c2] at ek
          cases ek
          refine ⟨by rw [List.map_cons, List.map_cons, a]; rfl, fun g hg => ?_⟩
          rcases List.mem_cons.mp hg with rfl | hg
          · exact ⟨fun c hc => by simpa using List.all_eq_true.mp c1 c hc, fun c hc => by simpa using List.all_eq_true.mp c2 c hc⟩
          · exact b g hg
        · rw [if_neg c2] at ek
          simp at ek
      · rw [if_neg c1] at ek
        simp at ek
    · cases e
def bSort3K (os : List O) (h : MH) : R O := match os with
  | [.v (.ref n)] => match h[n]? with
    | some (.dT kvs) => match keys3 (kvs.map (·.1)) with
      | some fs => .ok (.n ((sort3 fs).map v3)) h
      | none => .bad
    | _ => .bad
  | _ => .bad
theorem bSort3K_ok {g : G} {W : WX} : COk g W bSort3K rSortDT := by
  intro m0 m σ Hs H0 H h vs os Q fr r rs c
  unfold bSort3K at c
  split at c
  · obtain ⟨v, rfl, q⟩ := rs.one
    cases q with
    | ref hm =>
      split at c
      · rename_i kvs hk
        obtain ⟨a, e1, ks, e2, e3⟩ := r.at_ _ _ hk
        rw [hm] at e1; cases e1
        split at c
        · rename_i fs es
          obtain ⟨x1, x2⟩ := keys3_ok e3 es
          refine ⟨_, ks, fs, rfl, .inl e2, x1, fun ps q ef hp hq => ?_⟩
          have pe := srt3_perm ps
          have rv := rv3 (K := g.K) (H := H) (m := m) (ps := srt3 ps) fun p hp' => by
            have hm' := pe.mem_iff.mp hp'
            exact ⟨hp p hm', x2 p.2 (by rw [← ef]; exact List.mem_map.mpr ⟨p, hm', rfl⟩)⟩
          rw [srt3_map, ef] at rv
          exact Ct.new c fr r rv q hq
        · exact c.elim
      · exact c.elim
  · exact c.elim
section
variable {X : Cx} {ca : CA} {W : WX} {e1 : Expr} {d1 : DA}
theorem se_sortSet3 {p1 p2 p3 p4 : Pos} (hc : X.calm = true) (hu : X.A.units + 64 < cLine) (hm : X.mg "sorted" = none) (hm2 : X.mg "set" = none) (h1 : SA X ca W [e1] d1) (hg : Gl X "sorted" := by rfl) (hg2 : Gl X "set" := by rfl)
    (a1 : starEach [e1] X.env = (false, eval e1 X.env) :: starEach [] X.env := by rfl) :
    SE X ca W (.Call (.Name "sorted" p1) [.Call (.Name "set" p2) [e1] [] p3] [] p4) (dB bSortSet3 d1) :=
  pe_w (pe_callB (cr_sortTu hu hc) hg hm PyProof.Rows.boot_sorted (pa_cons (pe_callTy (cr_setTu hc hu) hg2 hm2 boot_set h1 (by decide +kernel) (by decide +kernel) a1 (by rfl)) pa_nil (by rfl)) (by decide +kernel) (by decide +kernel) (by rfl) (by rfl)) fun σ H Q t => by
    refine TVv.imp (TVv.bind (rel := rOs (gx X ca)) (rel' := rO (gx X ca)) (f := fun _ => bSortSet3) t) ?_
    rintro vs H1 ⟨m0, m1, ρ, os, h1, fr, r1, en1, rv, c⟩
    unfold bSortSet3 at c
    split at c
    · rename_i xs ex
      split at c
      · rename_i fs ef
        split at c
        · rename_i lf
          obtain ⟨l, us, rfl, sq, ra⟩ := lstA_ok r1 rv ex
          obtain ⟨ks, rfl, p2, p3⟩ := of3s_ok ra ef
          have lk : ks.length = fs.length := by rw [← p2, List.length_map]
          refine ⟨l, ks, rfl, sq, fun p hp => .inl (.inl (p3 p hp).1), by omega, fun L p nd mm sub hp => ⟨p, L, rfl, by simp [upd], fun q hq => ?_, fun ps q pL hq => ?_⟩⟩
          · have e := (p3 q (sub q hq)).1
            exact .inl (.inl (by rw [upd_ne (ne_of_none e hp)]; exact e))
          · have pe := (srt3_perm ps).trans pL
            have rv := rv3 (K := (gx X ca).K) (H := upd H1 p (TuO X.prog X.w p L)) (m := m1) (ps := srt3 ps) fun z hz => by
              have e := p3 z (sub z (pe.mem_iff.mp hz))
              exact ⟨by rw [upd_ne (ne_of_none e.1 hp)]; exact e.1, e.2⟩
            have es : (ps.map (·.2)).Perm (uniq fs) := by
              refine (pL.map (·.2)).trans ((List.perm_ext_iff_of_nodup nd (uniq_nd fs)).mpr fun f => ?_)
              rw [mm, p2, uniq_mem]
            rw [srt3_map, sort3_like es] at rv
            exact Ct.new c (fr.tr r1 (Ext.laid hp)) (r1.laid hp) rv q hq
        · exact c.elim
      · exact c.elim
    · exact c.elim
end
end Mi

namespace Pq
open PySem L2 Mi
def SameR (h h' : MH) (S : Nat → Prop) : Prop := ∀ m o, ¬ S m → h[m]? = some o → h'[m]? = some o ∨ ∃ o', h'[m]? = some o' ∧ obR o' = obR o ∧ ∃ x, obR o = some x
mutual
theorem Im.same {h h' : MH} {S : Nat → Prop} (k : SameR h h' S) : ∀ {v : Val} {d : PV}, Im h S v d → Im h' S v d
  | _, _, .non => .non
  | _, _, .bl b => .bl b
  | _, _, .int b => .int b
  | _, _, .str b => .str b
  | _, _, .tup r => .tup (Ims.same k r)
  | _, _, .fl r => .fl (Ims.same k r)
  | _, _, .ref a b c => by
    rcases k _ _ a b with e | ⟨_, _, _, x, ex⟩
    · exact .ref a e (Ims.same k c)
    · cases ex
  | _, _, .dct a b c e f => by
    rcases k _ _ a b with q | ⟨o', q, er, _⟩
    · exact .dct a q c (Ims.same k e) (Ims.same k f)
    · exact .dct a q (by rw [er]; exact c) (Ims.same k e) (Ims.same k f)
  | _, _, .kt r => .kt (Ims.same k r)
theorem Ims.same {h h' : MH} {S : Nat → Prop} (k : SameR h h' S) : ∀ {v : List Val} {d : List PV}, Ims h S v d → Ims h' S v d
  | _, _, .nil => .nil
  | _, _, .cons a b => .cons (Im.same k a) (Ims.same k b)
end
theorem OC.same {h h' : MH} {S : Nat → Prop} (k : SameR h h' S) {o : Ob} {d : PV} (r : OC h S o d) : OC h' S o d := by
  cases d with
  | lst ds =>
    obtain ⟨xs, rfl, r⟩ := r.lst
    exact Ims.same k r
  | dct kd vd =>
    obtain ⟨ks, vs, e, a, b⟩ := r.dct
    have : ∃ ks vs, obD o = some (ks, vs) ∧ Ims h' S ks kd ∧ Ims h' S vs vd := ⟨ks, vs, e, a.same k, b.same k⟩
    cases o <;> exact this
  | _ => cases o <;> exact r.elim
theorem Rn.same {T : Nat → Prop} {A : Aa} {h h' : MH} {ρ : En} {π : PEn} (r : Rn T A h ρ π) (l : h'.length = h.length) (k : SameR h h' (Av A T)) (ka : ∀ i n, A i = some n → h'[n]? = h[n]?) : Rn T A h' ρ π := by
  refine ⟨r.len, fun i d e => ?_, fun i s d e q => ?_, r.dom, r.inj, fun n z => by rw [l]; exact r.tl n z, r.ta⟩
  · obtain ⟨v, a, b⟩ := r.im i d e
    exact ⟨v, a, b.same k⟩
  · obtain ⟨n, o, a, b, c, f⟩ := r.ow i s d e q
    exact ⟨n, o, a, b, by rw [ka i n a]; exact c, f.same k⟩
end Pq

namespace Pq
open PySem L2 Mi
end Pq

section
local macro_rules | `(tactic| walk_at "pwp") => `(tactic| simp -implicitDefEqProofs only [Pq.pSortC_ap, Pq.sortCO_s, Pq.pdiC_ap, Pq.qRevA_s, Pq.qRevA_t, Pq.qRevA_l, Pq.pMsN_ap, Pq.msN_s, Pq.msNO_s, Pq.pMi_ap, Pq.miA_b, Pq.miA_i, Pq.miB_s, Pq.miR_s, Pq.qExtend_l, Pq.pBn_ap, Pq.newK_s, Pq.newO_s, Pq.pNewK_ap, Pq.pNewT_ap, Pq.getA_K, Pq.getA_T, Pq.getA_Ki, Pq.getA_Ti, Pq.getB_s, Pq.getR_s, Pq.getR_n, Pq.dgetP_s, Pq.dgetP_i, Pq.dgetP_ss, Pq.dgetP_si, Pq.dgetP_ssi, Pq.ixR_s, Pq.pIx_ds, Pq.pIx_di, Pq.pIx_dt, Pq.pIn_ds, Pq.pIn_dt, Pq.pNotIn_ds, Pq.pNotIn_dt, Pq.inR_s, Pq.inO_f, Pq.inO_t, Pq.setIx_dK, Pq.setIx_dT_ss, Pq.setIx_dT_si, Pq.setIx_dT_ssi, Pq.qSortedK_d, Pq.skK_s, Option.isSome_some, Option.isSome_none, Pq.qListS_s, Pq.qListS_t, Pq.pDispC_ap, Pq.pGet2_ap, Pq.pntL_l, Pq.qIsNo_b, Pq.tyP_k, Pq.pdiZK_ap, Pq.zkK_t, Pq.qLenK_k, Pq.pIsN_k, Pq.flatC_n1, Pq.flatC_n2, Pq.flatC_n3, Pq.flatO_b, Pq.flatO_i, Pq.flatO_s, Pq.pIsN_b, Pq.pIsN_i, Pq.pIsN_s, Pq.pIsN_t, Pq.pIsN_l, Pq.pNotN_b, Pq.pNotN_i, Pq.pNotN_s, Pq.pNotN_t, Pq.pNotN_l, Pq.pdiZ_ap, Pq.zK_l, Pq.zK_t, Pq.pLtT_is, Pq.qIs_b, Pq.qInR_i, Pq.pSortK_ap, Pq.isIo_fw, Pq.pIn_t2, Pq.pNotIn_t2, Pq.pRev_t, Pq.pRev_l, Pq.pIn_sc, Pq.pIn_strs, Pq.qsJoin_l, Pq.pMs_ap, Pq.msK_s, Pq.ms2_s, Pq.wq_ms2i, Pq.wf_run, Pq.wf_ok, Pq.wf_ex, Pq.ws_nil, Pq.ws_seq, Pq.ws_ret, Pq.ws_retN, Pq.ws_raise, Pq.ws_expr, Pq.ws_set, Pq.ws_setA, Pq.wsetA_im, Pq.wsetA_ow, Pq.ws_if, Pq.ws_brk, Pq.ws_cnt, Pq.ws_aug, Pq.ws_par, Pq.ws_parG, Pq.ws_asg, Pq.ws_frz, Pq.ws_for, Pq.frz_0, Pq.frz_0i, Pq.frz_0n, Pq.frz_0o, Pq.frz_s, Pq.wg_go, Pq.wi_t, Pq.wi_f, Pq.wn_t, Pq.wq_ok, Pq.wq_ex, Pq.wq_bind, Pq.wq_optS, Pq.wq_gd, Pq.wq_szs, Pq.wq_optI, Pq.wq_ite, Pq.wq_br, Pq.bq_ok, Pq.brq_t, Pq.brq_f, Pq.wo_s, Pq.wo_n, Pq.wo_ite, Pq.wo_some_ite, Pq.wo_sub, Pq.pVar_s, Pq.pVar_im, Pq.pVar_ow, Pq.pVar_io, Pq.ps_0, Pq.ps_s, Pq.pC_ap, Pq.pOp_ap, Pq.pU_ap, Pq.pT_ap, Pq.pbAnd_ap, Pq.pbOr_ap, Pq.pbNot_ap, Pq.pAnd_ap, Pq.pOr_ap, Pq.pNot_ap, Pq.pIf_ap, Pq.pCh_ap, Pq.pCh3_ap, Pq.pasB_b, Pq.see2_e, Pq.see1_e, Pq.seeA_e, Pq.opt2_s, Pq.opt1_s, Pq.optA_s, Pq.pv_im, Pq.pv_ow, Pq.pv_br, Pq.ownK_ow, Pq.ownK_io, Pq.pvAll_n, Pq.pvAll_c, Pq.pvC_s, Pq.paNil_ap, Pq.paCons_ap, Pq.pB_ap, Pq.poI_im, Pq.poI_ow, Pq.pvNil_ap, Pq.pvCons_ap, Pq.pTup_ap, Pq.pLst_ap, Pq.pgNil_ap, Pq.pgCons_ap, Pq.argO_1, Pq.argO_2, Pq.argO_3, Pq.argO_4, Pq.argO_5, Pq.pNone_ap, Pq.asIq_i, Pq.pSome_ap, Pq.pSl_ap, Pq.pCall_ap, Pq.wq_call, Pq.callOk_e, Pq.brs_n, Pq.brs_br, Pq.brs_im, Pq.brs_ow, Pq.owc_n, Pq.owc_br, Pq.owc_im, Pq.owc_ow, Pq.nodB_n, Pq.nodB_1, Pq.nodB_2, Pq.nodB_3, Pq.imb_n, Pq.imb_f, Pq.imb_t, Pq.imb_fi, Pq.imb_fo, Pq.callFl_e, Pq.isE_n, Pq.isE_c, Pq.putO_n, Pq.putO_b, Pq.putO_f, Pq.putO_im, Pq.putO_ow, Pq.upd_0, Pq.upd_s, Pq.PS_put_im, Pq.PS_put_ow, Pq.PS_put_io, Pq.pAdd_ii, Pq.pAdd_ss, Pq.pAdd_ll, Pq.pAdd_tt, Pq.pSub_ii, Pq.pMul_ii, Pq.pMul_si, Pq.pMul_li, Pq.pMod_ii, Pq.pFdiv_ii, Pq.pPow_ii, Pq.pNeg_i, Pq.pLt_ii, Pq.pLe_ii, Pq.pGt_ii, Pq.pGe_ii, Pq.pLt_ss, Pq.pLe_ss, Pq.pAddI_ii, Pq.pAddI_ss, Pq.ixK_s, Pq.pIx_l, Pq.pIx_t, Pq.pIx_f, Pq.pSlF_l, Pq.pSlF_t, Pq.pSlF_f, Pq.pSlF_s, Pq.pEq_ii, Pq.pNe_ii, Pq.pEq_ss, Pq.pNe_ss, Pq.pEq_bb, Pq.pNe_bb, Pq.pIsN_n, Pq.pNotN_n, Pq.qLen_l, Pq.qLen_t, Pq.qLen_f, Pq.qLen_d, Pq.qLen_s, Pq.qAbs_i, Pq.qInt_i, Pq.qInt_b, Pq.qMax_ii, Pq.qMin_ii, Pq.qDivmod_ii, Pq.qList_l, Pq.qList_t, Pq.qList_f, Pq.qTuple_l, Pq.qTuple_t, Pq.qTuple_f, Pq.qStr_s, Pq.qStr_i, Pq.qStr_b, Pq.qStr_n, Pq.qIsi_e, Pq.qIsi2_e, Pq.tyP_1, Pq.tyP_2, Pq.tyP_3, Pq.tyP_4, Pq.tyP_5, Pq.tyP_6, Pq.tyP_7, Pq.tyP_8, Pq.sb_00, Pq.sb_01, Pq.sb_02, Pq.sb_03, Pq.sb_04, Pq.sb_05, Pq.sb_06, Pq.sb_10, Pq.sb_11, Pq.sb_12, Pq.sb_13, Pq.sb_14, Pq.sb_15, Pq.sb_16, Pq.sb_20, Pq.sb_21, Pq.sb_22, Pq.sb_23, Pq.sb_24, Pq.sb_25, Pq.sb_26, Pq.sb_30, Pq.sb_31, Pq.sb_32, Pq.sb_33, Pq.sb_34, Pq.sb_35, Pq.sb_36, Pq.sb_40, Pq.sb_41, Pq.sb_42, Pq.sb_43, Pq.sb_44, Pq.sb_45, Pq.sb_46, Pq.sb_50, Pq.sb_51, Pq.sb_52, Pq.sb_53, Pq.sb_54, Pq.sb_55, Pq.sb_56, Pq.sb_60, Pq.sb_61, Pq.sb_62, Pq.sb_63, Pq.sb_64, Pq.sb_65, Pq.sb_66, Pq.retO_im, Pq.retO_ow, Pq.retO_br, Pq.retK_s, Pq.isIo_fv, Pq.notOwn_fv, Pq.frz_fv, Pq.isIo_im, Pq.isIo_ow, Pq.isIo_io, Pq.isIo_n, Pq.isIo_s, Pq.pset_n, Pq.pset_c, Pq.psetG_n, Pq.psetG_i, Pq.psetG_o, Pq.pnt_nm, Pq.pnt_tp, Pq.pnt_tpl, Pq.ex_im, Pq.setIx_li, Pq.setK_s, Pq.prunT_n, Pq.prunT_c, Pq.pgT_t, Pq.wq_mt, Pq.isLK_s, Pq.mtK_s, Pq.qAppend_1, Pq.qReverse_0, Pq.qClear_0, Pq.qInsert_2, Pq.okw_n, Pq.all_n, Pq.pdiV_ap, Pq.pitV_e, Pq.pitK_l, Pq.pitK_lo, Pq.pitK_lb, Pq.pitK_t, Pq.pitK_f, Pq.pitK_s, Pq.pdiR1_ap, Pq.pdiR2_ap, Pq.pdiR1_e, Pq.pdiR2_e, Pq.pdiE_ap, Pq.penO_ol, Pq.penO_il, Pq.wq_comp, Pq.pYes_ap, Pq.wipeP_n, Pq.wipeP_c, Pq.restP_n, Pq.restP_c, Pq.notOwn_0, Pq.notOwn_1, Pq.notOwn_2, Pq.notOwn_3, Pq.notOwn_s, Pq.all_c, Pq.all_e, Pq.Kf_nx, Pq.Kf_rt, Pq.Kf_ex, Pq.wout_e, Pq.outK_n, Pq.outK_f, Pq.outK_t, Pq.contK_s, Pq.start_n, Pq.start_t, Pq.start_f, Pq.Kin_nx, Pq.Kin_ct, Pq.Kin_bk, Pq.Kin_rt, Pq.Kin_ex, Pq.atI_0, Pq.atI_1, Pq.atI_2, Pq.atI_3, Pq.atI_4, List.set_cons_succ, List.set_cons_zero, List.map_cons, List.map_nil, List.cons_append, List.nil_append, List.length_cons, List.length_nil, List.replicate_succ, List.replicate_zero, List.append_nil, Nat.reduceSub, Nat.reduceAdd, Nat.reduceMul, Int.reduceAdd, Int.reduceSub, Int.reduceMul, Int.reduceNeg, Int.reduceLT, Int.reduceLE, Nat.reduceLeDiff, Nat.reduceLT, decide_true, decide_false, Int.reduceToNat, Bool.not_true, Bool.not_false, and_true, true_and, and_self, true_or, or_true, List.set_nil, Int.reduceMod, Int.reduceDiv, Int.reducePow, Int.cast_ofNat_Int, Int.reduceEq, Int.reduceNe, Nat.reduceEqDiff, eq_self, false_and, and_false, Nat.zero_add, Int.zero_add, Int.add_zero, or_false, false_or, Option.getD_some, Option.getD_none, List.getElem?_cons_zero, List.getElem?_cons_succ, reduceIte, Bool.and_self, Bool.or_self, Bool.and_true, Bool.true_and, Bool.and_false, Bool.false_and, Bool.or_true, Bool.or_false, Bool.true_or, Bool.false_or, Bool.false_eq_true, Bool.true_eq_false, not_true_eq_false, not_false_eq_true])
namespace Pq
open PySem L2 Mi
section
variable {h : MH} {S : Nat → Prop}
end
end Pq

end
namespace Pq
open PySem L2 Mi
section
variable {h : MH} {S : Nat → Prop}
end
end Pq

namespace Pq
open PySem L2 Mi
def bJoin (s : List Nat) (os : List O) (h : MH) : R O := match os with
  | [o] => match seqO h o with
    | some (_, xs) => match strsOf xs with
      | some zs => if (zs.map List.length).sum + zs.length * s.length ≤ 16777216 then .ok (.v (.str (jn s zs))) h else .bad
      | none => .bad
    | none => .bad
  | _ => .bad
theorem join_eq (s : List Nat) (i : Nat) : dMt isS mJoin (dC (.str s)) (vCons (dVar i) vNil) = dB (bJoin s) (aCons (dVar i) aNil) := by
  funext ρ h
  simp only [dMt, dC, dVar, dB, aCons, aNil, vCons, vNil, R.bind, num, isS, if_true]
  cases e : ρ[i]? with
  | none => rfl
  | some x => cases x with
    | none => rfl
    | some v => rfl
end Pq

namespace Pq
open PySem L2 Mi
end Pq

namespace Pq
open PySem L2 Mi
def p3 : PV → Option F3
  | .tup [.str a, .str b, .int i] => some (a, b, i)
  | _ => none
def p3s : List PV → Option (List F3)
  | [] => some []
  | x :: xs => match p3 x, p3s xs with
    | some f, some fs => some (f :: fs)
    | _, _ => none
def w3 (f : F3) : PV := .tup [.str f.1, .str f.2.1, .int f.2.2]
theorem p3_w (f : F3) : p3 (w3 f) = some f := rfl
theorem p3s_w : ∀ fs : List F3, p3s (fs.map w3) = some fs
  | [] => rfl
  | f :: fs => by simp only [List.map_cons, p3s, p3_w, p3s_w fs]
section
variable {h : MH} {S : Nat → Prop}
theorem of3_im {x : Val} {d : PV} {f : F3} (i : Im h S x d) (e : p3 d = some f) : of3 x = some f := by
  unfold p3 at e
  split at e
  · cases e
    cases i with
    | tup i =>
      cases i with
      | cons a i =>
        cases i with
        | cons b i =>
          cases i with
          | cons c i =>
            cases i
            cases a; cases b; cases c
            rfl
  · cases e
theorem of3s_im : ∀ {xs : List Val} {ds : List PV} {fs : List F3}, Ims h S xs ds → p3s ds = some fs → of3s xs = some fs
  | _, _, _, .nil, e => by cases e; rfl
  | _, _, _, .cons a b, e => by
    simp only [p3s] at e
    split at e
    · rename_i e1 e2
      cases e
      simp only [of3s, of3_im a e1, of3s_im b e2]
    · cases e
theorem keys3_im : ∀ {kvs : List (List Val × Val)} {ks : List PV} {fs : List F3}, Ims h S (kvs.map fun p => .tup p.1) ks → p3s ks = some fs → keys3 (kvs.map (·.1)) = some fs
  | [], _, _, .nil, e => by cases e; rfl
  | p :: kvs, _, _, .cons a b, e => by
    simp only [p3s] at e
    split at e
    · rename_i e1 e2
      cases e
      simp only [List.map_cons, keys3, of3_im a e1, keys3_im b e2]
    · cases e
theorem w3_ims : ∀ fs : List F3, Ims h S (fs.map v3) (fs.map w3)
  | [] => .nil
  | f :: fs => .cons (.tup (.cons (.str _) (.cons (.str _) (.cons (.int _) .nil)))) (w3_ims fs)
end
def qSortSet3 : List PV → Option PO
  | [d] => match lstP d with
    | some ds => match p3s ds with
      | some fs => if fs.length < 64 then some (.ow (.lst ((sort3 (uniq fs)).map w3))) else none
      | none => none
    | none => none
  | _ => none
theorem fa_sortSet3 : FA bSortSet3 qSortSet3 := by
  intro h S xs ds o r e
  unfold qSortSet3 at e
  split at e
  · obtain ⟨x, rfl, w⟩ := rds1 r
    split at e
    · rename_i ds' ed
      obtain ⟨vs, ev, ims⟩ := rd_lstP w ed
      have la : lstA [x] h = some vs := ev
      split at e
      · rename_i fs ef
        split at e
        · rename_i lf
          cases e
          exact ⟨.n ((sort3 (uniq fs)).map v3), by simp only [bSortSet3, la, of3s_im ims ef, if_pos lf], _, _, rfl, rfl, w3_ims _⟩
        · cases e
      · cases e
    · cases e
  · cases e
theorem qSortSet3_l (fs : List F3) (l : fs.length < 64) : qSortSet3 [.lst (fs.map w3)] = some (.ow (.lst ((sort3 (uniq fs)).map w3))) := by
  simp only [qSortSet3, lstP, p3s_w, if_pos l]
def qSort3K : List PV → Option PO
  | [.dct (.kt [] :: ks) vs] => match p3s ks with
    | some fs => some (.ow (.lst ((sort3 fs).map w3)))
    | none => none
  | _ => none
theorem fa_sort3K : FA bSort3K qSort3K := by
  intro h S xs ds o r e
  unfold qSort3K at e
  split at e
  · rename_i ks vs
    obtain ⟨x, rfl, w⟩ := rds1 r
    split at e
    · rename_i fs ef
      cases e
      obtain ⟨n, ob, kl, vl, rfl, a, b, c, d⟩ := rd_dct w
      rcases dct_casesR a b c d with ⟨kvs, t, ho, ht, k1, k2⟩ | ⟨kvs, t, rfl, ht, k1, k2⟩
      · cases ht
      · cases ht
        exact ⟨.n ((sort3 fs).map v3), by simp only [bSort3K, a, keys3_im k1 ef], _, _, rfl, rfl, w3_ims _⟩
    · cases e
  · cases e
theorem qSort3K_d (fs : List F3) (vs : List PV) : qSort3K [.dct (.kt [] :: fs.map w3) vs] = some (.ow (.lst ((sort3 fs).map w3))) := by
  simp only [qSort3K, p3s_w]
end Pq

namespace Pq.k15
open PySem L2 Mi
def b_filling_of : SD :=
    (sSeq (sAsg (dVar 0) (tdN (.tp [1, 2, 3, 4, 5])))
    (sRet (dTup (vCons (dVar 2) (vCons (dVar 4) (vCons (dVar 5) vNil))))))
def f_filling_of : DF := runB 6 b_filling_of
def b_kin_groups : SD :=
    (sSeq (sSet 1 (dNewT))
    (sSeq (sFor (diV (dVar 0)) (.nm 2) (sAsg (dOp fAdd (dMt isDt mGet2 (dVar 1) (vCons (dCall 1 f_filling_of (vCons (dVar 2) vNil)) (vCons (dLst vNil) vNil))) (dLst (vCons (dOp fIx (dVar 2) (dC (.int 0))) vNil))) (tdSub (dVar 1) (dCall 1 f_filling_of (vCons (dVar 2) vNil)))))
    (sRet (dComp [3] (diV (dB bSort3K (aCons (dVar 1) aNil))) (.nm 3) tYesB (dTup (vCons (dVar 3) (vCons (dB bSorted (aCons (dOp fIx (dVar 1) (dVar 3)) aNil)) vNil)))))))
def f_kin_groups : DF := runB 4 b_kin_groups
def b_l_same (r_l_same : DF) : SD :=
    (sSeq (sIf (dT (dU (fIsi2 .lst .tup) (dVar 1))) (sSeq (sIf ((bOr (dT (dOp fNe (dU (fIsi .lst) (dVar 0)) (dU (fIsi .lst) (dVar 1)))) (dT (dOp fNe (dU (fIsi .tup) (dVar 0)) (dU (fIsi .tup) (dVar 1)))))) (sRet (dC (.bl false))) sNil)
    (sRet ((dAnd (dOp fEq (dB bLen (aCons (dVar 0) aNil)) (dB bLen (aCons (dVar 1) aNil))) (dB bAll (aCons (dComp [2, 3] (diZ (dVar 0) (dVar 1)) (.tp [2, 3]) tYesB (dCall 2 r_l_same (vCons (dVar 2) (vCons (dVar 3) vNil)))) aNil)))))) sNil)
    (sSeq (sIf ((bOr (dT (dU fIsN (dVar 1))) (dT (dU fIsN (dVar 0))))) (sRet ((dAnd (dU fIsN (dVar 1)) (dU fIsN (dVar 0))))) sNil)
    (sSeq (sIf (dT (dOp fNe (dU (fIsi .bool) (dVar 1)) (dU (fIsi .bool) (dVar 0)))) (sRet (dC (.bl false))) sNil)
    (sRet ((dAnd (dOp fEq (dU (fIsi .str) (dVar 0)) (dU (fIsi .str) (dVar 1))) (dOp fEq (dVar 0) (dVar 1))))))))
def g_l_same : Nat → DF
  | 0 => fun _ _ => .bad
  | n + 1 => runB 4 (b_l_same (g_l_same n))
def f_l_same : DF := g_l_same 24
def b_l_casks : SD :=
    (sSeq (sPar [4, 5] (vCons (dCall 2 f_l_names (vCons (dVar 0) (vCons (dVar 1) vNil))) (vCons (dLst vNil) vNil)))
    (sSeq (sFor (diV (dVar 4)) (.nm 6) (sExpr (dMt isL (onL lInsert) (dVar 5) (vCons (dCall 2 f_l_take (vCons (dVar 0) (vCons (dOp fAdd (dB bLen (aCons (dVar 5) aNil)) (dC (.int 1))) vNil))) (vCons (dCall 4 f_l_cask (vCons (dVar 0) (vCons (dVar 6) (vCons (dVar 2) (vCons (dVar 3) vNil))))) vNil)))))
    (sRet (dVar 5))))
def f_l_casks : DF := runB 7 b_l_casks
def b_l_due : SD :=
    (sSeq (sSet 1 (dLst vNil))
    (sSeq (sFor (diV (dB bSortSet3 (aCons (dComp [3] (diV (dVar 0)) (.nm 3) tYesB (dTup (vCons (dOp fIx (dVar 3) (dC (.int 1))) (vCons (dOp fIx (dVar 3) (dC (.int 3))) (vCons (dOp fIx (dVar 3) (dC (.int 4))) vNil))))) aNil))) (.nm 2) (sSeq (sSet 4 (dB bSorted (aCons (dComp [3] (diV (dVar 0)) (.nm 3) (dT (dOp fEq (dTup (vCons (dOp fIx (dVar 3) (dC (.int 1))) (vCons (dOp fIx (dVar 3) (dC (.int 3))) (vCons (dOp fIx (dVar 3) (dC (.int 4))) vNil)))) (dVar 2))) (dOp fIx (dVar 3) (dC (.int 0)))) aNil)))
    (sExpr (dMt isL (onL lAppend) (dVar 1) (vCons (dTup (vCons (dVar 2) (vCons (dVar 4) vNil))) vNil)))))
    (sRet (dVar 1))))
def f_l_due : DF := runB 5 b_l_due
def b_are_kin : SD :=
    (sRet ((dAnd (dOp fNe (dOp fIx (dVar 0) (dC (.int 0))) (dOp fIx (dVar 1) (dC (.int 0)))) (dOp fEq (dCall 1 f_filling_of (vCons (dVar 0) vNil)) (dCall 1 f_filling_of (vCons (dVar 1) vNil))))))
def f_are_kin : DF := runB 2 b_are_kin
def b_l_pairs_right : SD :=
    (sSeq (sFor (diR1 (dC (.int 8))) (.nm 2) (sSeq (sPar [3, 4] (vCons (dOp fIx (dVar 1) (dCall 2 f_l_take (vCons (dVar 0) (vCons (dB bLen (aCons (dVar 1) aNil)) vNil)))) (vCons (dOp fIx (dVar 1) (dCall 2 f_l_take (vCons (dVar 0) (vCons (dB bLen (aCons (dVar 1) aNil)) vNil)))) vNil)))
    (sSeq (sSet 5 (dOp fEq (dOp fAdd (dB bList (aCons (dSl (dVar 3) (oSome (dC (.int 1))) (oSome (dC (.int 2)))) aNil)) (dB bList (aCons (dSl (dVar 3) (oSome (dC (.int 3))) oNone) aNil))) (dOp fAdd (dB bList (aCons (dSl (dVar 4) (oSome (dC (.int 1))) (oSome (dC (.int 2)))) aNil)) (dB bList (aCons (dSl (dVar 4) (oSome (dC (.int 3))) oNone) aNil)))))
    (sSeq (sSet 5 ((dAnd (dVar 5) (dOp fNe (dOp fIx (dVar 3) (dC (.int 0))) (dOp fIx (dVar 4) (dC (.int 0)))))))
    (sSeq (sFor (diV (dTup (vCons (dCall 2 f_are_kin (vCons (dVar 3) (vCons (dVar 4) vNil))) (vCons (dCall 2 f_are_kin (vCons (dVar 4) (vCons (dVar 3) vNil))) (vCons (dCall 2 f_are_kin (vCons (dB bList (aCons (dVar 3) aNil)) (vCons (dB bTuple (aCons (dVar 4) aNil)) vNil))) vNil))))) (.nm 6) (sIf ((bOr (bNot (dT (dU (fIsi .bool) (dVar 6)))) (dT (dOp fNe (dVar 6) (dVar 5))))) (sRet (dC (.bl false))) sNil))
    (sIf (bNot (dT (dCall 2 f_l_same (vCons (dCall 1 f_filling_of (vCons (dVar 3) vNil)) (vCons (dTup (vCons (dOp fIx (dVar 3) (dC (.int 1))) (vCons (dOp fIx (dVar 3) (dC (.int 3))) (vCons (dOp fIx (dVar 3) (dC (.int 4))) vNil)))) vNil))))) (sRet (dC (.bl false))) sNil))))))
    (sRet (dC (.bl true))))
def f_l_pairs_right : DF := runB 7 b_l_pairs_right
def b_l_right : SD :=
    (sSeq (sPar [1, 2] (vCons (dCall 2 f_l_names (vCons (dVar 0) (vCons (dOp fAdd (dC (.int 1)) (dCall 2 f_l_take (vCons (dVar 0) (vCons (dC (.int 6)) vNil)))) vNil))) (vCons (dCall 2 f_l_names (vCons (dVar 0) (vCons (dOp fAdd (dC (.int 1)) (dCall 2 f_l_take (vCons (dVar 0) (vCons (dC (.int 3)) vNil)))) vNil))) vNil)))
    (sSeq (sSet 3 (dOp fIx (dLst (vCons (dCall 2 f_l_take (vCons (dVar 0) (vCons (dC (.int 8)) vNil))) (vCons (dCall 2 f_l_take (vCons (dVar 0) (vCons (dC (.int 40)) vNil))) (vCons (dC (.int 39)) vNil)))) (dCall 2 f_l_take (vCons (dVar 0) (vCons (dC (.int 3)) vNil)))))
    (sSeq (sSet 4 (dCall 4 f_l_casks (vCons (dVar 0) (vCons (dOp fAdd (dVar 3) (dC (.int 1))) (vCons (dVar 1) (vCons (dVar 2) vNil))))))
    (sSeq (sSet 5 (dMt isL (onL lPop) (dVar 4) vNil))
    (sSeq (sSet 6 (dComp [7] (diV (dVar 4)) (.nm 7) tYesB (dIf (dT (dOp fEq (dCall 2 f_l_take (vCons (dVar 0) (vCons (dC (.int 3)) vNil))) (dC (.int 0)))) (dB bList (aCons (dVar 7) aNil)) (dVar 7))))
    (sSeq (sPar [8, 9] (vCons (dB bRepr (aCons (dVar 6) aNil)) (vCons (dCall 1 f_l_due (vCons (dVar 4) vNil)) vNil)))
    (sSeq (sFor (diR1 (dC (.int 2))) (.nm 10) (sSeq (sSet 11 (dCall 1 f_kin_groups (vCons (dIf (dT (dOp fEq (dVar 10) (dC (.int 0)))) (dVar 6) (dB bTuple (aCons (dVar 6) aNil))) vNil)))
    (sSeq (sIf ((bOr (bNot (dT (dCall 2 f_l_same (vCons (dVar 11) (vCons (dVar 9) vNil))))) (dT (dOp fNe (dB bRepr (aCons (dVar 6) aNil)) (dVar 8))))) (sRet (dC (.bl false))) sNil)
    (sSeq (sFor (diV (dVar 11)) (.tp [12, 13]) (sExpr (dMt isL (onL lAppend) (dVar 13) (vCons (dC (.str [122, 122])) vNil))))
    (sExpr (dMt isL (onL lReverse) (dVar 11) vNil))))))
    (sSeq (sIf ((bAnd (dT (dOp fNe (dVar 4) (dLst vNil))) (bNot (dT (dCall 2 f_l_pairs_right (vCons (dVar 0) (vCons (dVar 6) vNil))))))) (sRet (dC (.bl false))) sNil)
    (sSeq (sSet 14 (dIf (dT (dOp fNe (dVar 4) (dLst vNil))) (dCall 2 f_l_take (vCons (dVar 0) (vCons (dC (.int 3)) vNil))) (dC (.int 0))))
    (sSeq (sIf (bNot (dT (dCall 2 f_l_same (vCons (dCall 1 f_kin_groups (vCons (dVar 6) vNil)) (vCons (dVar 9) vNil))))) (sRet (dC (.bl false))) sNil)
    (sSeq (sIf (dT (dOp fEq (dVar 14) (dC (.int 0)))) (sExpr (dMt isL (onL lInsert) (dVar 6) (vCons (dCall 2 f_l_take (vCons (dVar 0) (vCons (dOp fAdd (dB bLen (aCons (dVar 6) aNil)) (dC (.int 1))) vNil))) (vCons (dVar 5) vNil)))) (sIf (dT (dOp fEq (dVar 14) (dC (.int 1)))) (sExpr (dMt isL (onL lPopAt) (dVar 6) (vCons (dCall 2 f_l_take (vCons (dVar 0) (vCons (dB bLen (aCons (dVar 6) aNil)) vNil))) vNil))) (sAsg (dVar 5) (tdSub (dVar 6) (dCall 2 f_l_take (vCons (dVar 0) (vCons (dB bLen (aCons (dVar 6) aNil)) vNil)))))))
    (sRet (dCall 2 f_l_same (vCons (dCall 1 f_kin_groups (vCons (dVar 6) vNil)) (vCons (dCall 1 f_l_due (vCons (dComp [7] (diV (dVar 6)) (.nm 7) tYesB (dB bTuple (aCons (dVar 7) aNil))) vNil)) vNil)))))))))))))))
def f_l_right : DF := runB 15 b_l_right
def b_law : SD :=
    (sSeq (sSet 1 (dCall 2 f_l_folded (vCons (dVar 0) (vCons (dC (.int 4)) vNil))))
    (sRet (dB bAll (aCons (dComp [2] (diR1 (dB bMax (aCons (dC (.int 2)) (aCons (dB bLen (aCons (dVar 1) aNil)) aNil)))) (.nm 2) tYesB (dCall 1 f_l_right (vCons (dCall 2 f_l_box (vCons (dVar 1) (vCons (dVar 2) vNil))) vNil))) aNil))))
def f_law : DF := runB 3 b_law
theorem sSeq_assoc (a b c : SD) : sSeq (sSeq a b) c = sSeq a (sSeq b c) := by
  funext ρ h
  simp only [sSeq]
  cases a ρ h <;> rfl
def b_l_right_0 : SD :=
    (sSeq (sPar [1, 2] (vCons (dCall 2 f_l_names (vCons (dVar 0) (vCons (dOp fAdd (dC (.int 1)) (dCall 2 f_l_take (vCons (dVar 0) (vCons (dC (.int 6)) vNil)))) vNil))) (vCons (dCall 2 f_l_names (vCons (dVar 0) (vCons (dOp fAdd (dC (.int 1)) (dCall 2 f_l_take (vCons (dVar 0) (vCons (dC (.int 3)) vNil)))) vNil))) vNil)))
    (sSeq (sSet 3 (dOp fIx (dLst (vCons (dCall 2 f_l_take (vCons (dVar 0) (vCons (dC (.int 8)) vNil))) (vCons (dCall 2 f_l_take (vCons (dVar 0) (vCons (dC (.int 40)) vNil))) (vCons (dC (.int 39)) vNil)))) (dCall 2 f_l_take (vCons (dVar 0) (vCons (dC (.int 3)) vNil)))))
    (sSeq (sSet 4 (dCall 4 f_l_casks (vCons (dVar 0) (vCons (dOp fAdd (dVar 3) (dC (.int 1))) (vCons (dVar 1) (vCons (dVar 2) vNil))))))
    (sSeq (sSet 5 (dMt isL (onL lPop) (dVar 4) vNil))
    (sSeq (sSet 6 (dComp [7] (diV (dVar 4)) (.nm 7) tYesB (dIf (dT (dOp fEq (dCall 2 f_l_take (vCons (dVar 0) (vCons (dC (.int 3)) vNil))) (dC (.int 0)))) (dB bList (aCons (dVar 7) aNil)) (dVar 7))))
    (sPar [8, 9] (vCons (dB bRepr (aCons (dVar 6) aNil)) (vCons (dCall 1 f_l_due (vCons (dVar 4) vNil)) vNil))))))))
def b_l_right_1_it : DI :=
    (diR1 (dC (.int 2)))
def b_l_right_1_0 : SD :=
    (sSet 11 (dCall 1 f_kin_groups (vCons (dIf (dT (dOp fEq (dVar 10) (dC (.int 0)))) (dVar 6) (dB bTuple (aCons (dVar 6) aNil))) vNil)))
def b_l_right_1_1 : SD :=
    (sIf ((bOr (bNot (dT (dCall 2 f_l_same (vCons (dVar 11) (vCons (dVar 9) vNil))))) (dT (dOp fNe (dB bRepr (aCons (dVar 6) aNil)) (dVar 8))))) (sRet (dC (.bl false))) sNil)
def b_l_right_1_2 : SD :=
    (sFor (diV (dVar 11)) (.tp [12, 13]) (sExpr (dMt isL (onL lAppend) (dVar 13) (vCons (dC (.str [122, 122])) vNil))))
def b_l_right_1_3 : SD :=
    (sExpr (dMt isL (onL lReverse) (dVar 11) vNil))
def b_l_right_1 : SD :=
    (sFor b_l_right_1_it (.nm 10) (sSeq b_l_right_1_0 (sSeq b_l_right_1_1 (sSeq b_l_right_1_2 (b_l_right_1_3)))))
def b_l_right_2 : SD :=
    (sSeq (sIf ((bAnd (dT (dOp fNe (dVar 4) (dLst vNil))) (bNot (dT (dCall 2 f_l_pairs_right (vCons (dVar 0) (vCons (dVar 6) vNil))))))) (sRet (dC (.bl false))) sNil)
    (sSeq (sSet 14 (dIf (dT (dOp fNe (dVar 4) (dLst vNil))) (dCall 2 f_l_take (vCons (dVar 0) (vCons (dC (.int 3)) vNil))) (dC (.int 0))))
    (sIf (bNot (dT (dCall 2 f_l_same (vCons (dCall 1 f_kin_groups (vCons (dVar 6) vNil)) (vCons (dVar 9) vNil))))) (sRet (dC (.bl false))) sNil)))
def b_l_right_3 : SD :=
    (sSeq (sIf (dT (dOp fEq (dVar 14) (dC (.int 0)))) (sExpr (dMt isL (onL lInsert) (dVar 6) (vCons (dCall 2 f_l_take (vCons (dVar 0) (vCons (dOp fAdd (dB bLen (aCons (dVar 6) aNil)) (dC (.int 1))) vNil))) (vCons (dVar 5) vNil)))) (sIf (dT (dOp fEq (dVar 14) (dC (.int 1)))) (sExpr (dMt isL (onL lPopAt) (dVar 6) (vCons (dCall 2 f_l_take (vCons (dVar 0) (vCons (dB bLen (aCons (dVar 6) aNil)) vNil))) vNil))) (sAsg (dVar 5) (tdSub (dVar 6) (dCall 2 f_l_take (vCons (dVar 0) (vCons (dB bLen (aCons (dVar 6) aNil)) vNil)))))))
    (sRet (dCall 2 f_l_same (vCons (dCall 1 f_kin_groups (vCons (dVar 6) vNil)) (vCons (dCall 1 f_l_due (vCons (dComp [7] (diV (dVar 6)) (.nm 7) tYesB (dB bTuple (aCons (dVar 7) aNil))) vNil)) vNil)))))
theorem b_l_right_eq : b_l_right = sSeq b_l_right_0 (sSeq b_l_right_1 (sSeq b_l_right_2 (b_l_right_3))) := by simp only [b_l_right, b_l_right_0, b_l_right_1_it, b_l_right_1_0, b_l_right_1_1, b_l_right_1_2, b_l_right_1_3, b_l_right_1, b_l_right_2, b_l_right_3, sSeq_assoc]
def pb_filling_of : PSD :=
    (pSeq (pAsg (pVar 0) (pnt (.tp [1, 2, 3, 4, 5])))
    (pRet (pTup (pvCons (pVar 2) (pvCons (pVar 4) (pvCons (pVar 5) pvNil))))))
def pf_filling_of : PFn := runP [false] 6 pb_filling_of
def pb_kin_groups : PSD :=
    (pSeq (pSetA 1 (pNewT))
    (pSeq (pFor (pdiV (pVar 0)) (.nm 2) (pAsg (pOp pAdd (pGet2 true (pVar 1) (pvCons (pCall [false] pf_filling_of (pgCons false (pVar 2) pgNil)) (pvCons (pLst pvNil) pvNil))) (pLst (pvCons (pOp pIx (pVar 2) (pC (.int 0))) pvNil))) (pgSub 1 (pCall [false] pf_filling_of (pgCons false (pVar 2) pgNil)))))
    (pRet (pComp [3] (pdiV (pB qSort3K (paCons (pVar 1) paNil))) (.nm 3) pYes (pTup (pvCons (pVar 3) (pvCons (pB qSorted (paCons (pOp pIx (pVar 1) (pVar 3)) paNil)) pvNil)))))))
def pf_kin_groups : PFn := runP [false] 4 pb_kin_groups
def pb_l_same (pr_l_same : PFn) : PSD :=
    (pSeq (pIfS (pT (pU (qIsi2 .lst .tup) (pVar 1))) (pSeq (pIfS (pbOr (pT (pOp pNe (pU (qIsi .lst) (pVar 0)) (pU (qIsi .lst) (pVar 1)))) (pT (pOp pNe (pU (qIsi .tup) (pVar 0)) (pU (qIsi .tup) (pVar 1))))) (pRet (pC (.bl false))) (pNil))
    (pRet (pAnd (pOp pEq (pB qLen (paCons (pVar 0) paNil)) (pB qLen (paCons (pVar 1) paNil))) (pB qAll (paCons (pComp [2, 3] (pdiZ (pVar 0) (pVar 1)) (.tp [2, 3]) pYes (pCall [false, false] pr_l_same (pgCons false (pVar 2) (pgCons false (pVar 3) pgNil)))) paNil))))) (pNil))
    (pSeq (pIfS (pbOr (pT (pU pIsN (pVar 1))) (pT (pU pIsN (pVar 0)))) (pRet (pAnd (pU pIsN (pVar 1)) (pU pIsN (pVar 0)))) (pNil))
    (pSeq (pIfS (pT (pOp pNe (pU (qIsi .bool) (pVar 1)) (pU (qIsi .bool) (pVar 0)))) (pRet (pC (.bl false))) (pNil))
    (pRet (pAnd (pOp pEq (pU (qIsi .str) (pVar 0)) (pU (qIsi .str) (pVar 1))) (pOp pEq (pVar 0) (pVar 1)))))))
def pg_l_same : Nat → PFn
  | 0 => fun _ => .bad
  | n + 1 => runP [false, false] 4 (pb_l_same (pg_l_same n))
def pf_l_same : PFn := pg_l_same 24
def pb_l_casks : PSD :=
    (pSeq (pParG [4, 5] (pgCons false (pCall [true, false] pf_l_names (pgCons true (pVar 0) (pgCons false (pVar 1) pgNil))) (pgCons true (pLst pvNil) pgNil)))
    (pSeq (pFor (pdiV (pVar 4)) (.nm 6) (pExpr (pMt 5 qInsert (pvCons (pCall [true, false] pf_l_take (pgCons true (pVar 0) (pgCons false (pOp pAdd (pB qLen (paCons (pVar 5) paNil)) (pC (.int 1))) pgNil))) (pvCons (pCall [true, false, false, false] pf_l_cask (pgCons true (pVar 0) (pgCons false (pVar 6) (pgCons false (pVar 2) (pgCons false (pVar 3) pgNil))))) pvNil)))))
    (pRet (pVar 5))))
def pf_l_casks : PFn := runP [true, false, false, false] 7 pb_l_casks
def pb_l_due : PSD :=
    (pSeq (pSetA 1 (pLst pvNil))
    (pSeq (pFor (pdiV (pB qSortSet3 (paCons (pComp [3] (pdiV (pVar 0)) (.nm 3) pYes (pTup (pvCons (pOp pIx (pVar 3) (pC (.int 1))) (pvCons (pOp pIx (pVar 3) (pC (.int 3))) (pvCons (pOp pIx (pVar 3) (pC (.int 4))) pvNil))))) paNil))) (.nm 2) (pSeq (pSet 4 (pB qSorted (paCons (pComp [3] (pdiV (pVar 0)) (.nm 3) (pT (pOp pEq (pTup (pvCons (pOp pIx (pVar 3) (pC (.int 1))) (pvCons (pOp pIx (pVar 3) (pC (.int 3))) (pvCons (pOp pIx (pVar 3) (pC (.int 4))) pvNil)))) (pVar 2))) (pOp pIx (pVar 3) (pC (.int 0)))) paNil)))
    (pExpr (pMt 1 qAppend (pvCons (pTup (pvCons (pVar 2) (pvCons (pVar 4) pvNil))) pvNil)))))
    (pRet (pVar 1))))
def pf_l_due : PFn := runP [false] 5 pb_l_due
def pb_are_kin : PSD :=
    (pRet (pAnd (pOp pNe (pOp pIx (pVar 0) (pC (.int 0))) (pOp pIx (pVar 1) (pC (.int 0)))) (pOp pEq (pCall [false] pf_filling_of (pgCons false (pVar 0) pgNil)) (pCall [false] pf_filling_of (pgCons false (pVar 1) pgNil)))))
def pf_are_kin : PFn := runP [false, false] 2 pb_are_kin
def pb_l_pairs_right : PSD :=
    (pSeq (pFor (pdiR1 (pC (.int 8))) (.nm 2) (pSeq (pPar [3, 4] (pvCons (pOp pIx (pVar 1) (pCall [true, false] pf_l_take (pgCons true (pVar 0) (pgCons false (pB qLen (paCons (pVar 1) paNil)) pgNil)))) (pvCons (pOp pIx (pVar 1) (pCall [true, false] pf_l_take (pgCons true (pVar 0) (pgCons false (pB qLen (paCons (pVar 1) paNil)) pgNil)))) pvNil)))
    (pSeq (pSet 5 (pOp pEq (pOp pAdd (pB qList (paCons (pSl (pVar 3) (pSome (pC (.int 1))) (pSome (pC (.int 2)))) paNil)) (pB qList (paCons (pSl (pVar 3) (pSome (pC (.int 3))) pNone) paNil))) (pOp pAdd (pB qList (paCons (pSl (pVar 4) (pSome (pC (.int 1))) (pSome (pC (.int 2)))) paNil)) (pB qList (paCons (pSl (pVar 4) (pSome (pC (.int 3))) pNone) paNil)))))
    (pSeq (pSet 5 (pAnd (pVar 5) (pOp pNe (pOp pIx (pVar 3) (pC (.int 0))) (pOp pIx (pVar 4) (pC (.int 0))))))
    (pSeq (pFor (pdiV (pTup (pvCons (pCall [false, false] pf_are_kin (pgCons false (pVar 3) (pgCons false (pVar 4) pgNil))) (pvCons (pCall [false, false] pf_are_kin (pgCons false (pVar 4) (pgCons false (pVar 3) pgNil))) (pvCons (pCall [false, false] pf_are_kin (pgCons false (pB qList (paCons (pVar 3) paNil)) (pgCons false (pB qTuple (paCons (pVar 4) paNil)) pgNil))) pvNil))))) (.nm 6) (pIfS (pbOr (pbNot (pT (pU (qIsi .bool) (pVar 6)))) (pT (pOp pNe (pVar 6) (pVar 5)))) (pRet (pC (.bl false))) (pNil)))
    (pIfS (pbNot (pT (pCall [false, false] pf_l_same (pgCons false (pCall [false] pf_filling_of (pgCons false (pVar 3) pgNil)) (pgCons false (pTup (pvCons (pOp pIx (pVar 3) (pC (.int 1))) (pvCons (pOp pIx (pVar 3) (pC (.int 3))) (pvCons (pOp pIx (pVar 3) (pC (.int 4))) pvNil)))) pgNil))))) (pRet (pC (.bl false))) (pNil)))))))
    (pRet (pC (.bl true))))
def pf_l_pairs_right : PFn := runP [true, false] 7 pb_l_pairs_right
def pb_l_right_0 : PSD :=
    (pSeq (pPar [1, 2] (pvCons (pCall [true, false] pf_l_names (pgCons true (pVar 0) (pgCons false (pOp pAdd (pC (.int 1)) (pCall [true, false] pf_l_take (pgCons true (pVar 0) (pgCons false (pC (.int 6)) pgNil)))) pgNil))) (pvCons (pCall [true, false] pf_l_names (pgCons true (pVar 0) (pgCons false (pOp pAdd (pC (.int 1)) (pCall [true, false] pf_l_take (pgCons true (pVar 0) (pgCons false (pC (.int 3)) pgNil)))) pgNil))) pvNil)))
    (pSeq (pSet 3 (pOp pIx (pLst (pvCons (pCall [true, false] pf_l_take (pgCons true (pVar 0) (pgCons false (pC (.int 8)) pgNil))) (pvCons (pCall [true, false] pf_l_take (pgCons true (pVar 0) (pgCons false (pC (.int 40)) pgNil))) (pvCons (pC (.int 39)) pvNil)))) (pCall [true, false] pf_l_take (pgCons true (pVar 0) (pgCons false (pC (.int 3)) pgNil)))))
    (pSeq (pSetA 4 (pCall [true, false, false, false] pf_l_casks (pgCons true (pVar 0) (pgCons false (pOp pAdd (pVar 3) (pC (.int 1))) (pgCons false (pVar 1) (pgCons false (pVar 2) pgNil))))))
    (pSeq (pSet 5 (pMt 4 qPop pvNil))
    (pSeq ((pFrz 4 (pSet 6 (pComp [7] (pdiV (pVar 4)) (.nm 7) pYes (pIf (pT (pOp pEq (pCall [true, false] pf_l_take (pgCons true (pVar 0) (pgCons false (pC (.int 3)) pgNil))) (pC (.int 0)))) (pB qList (paCons (pVar 7) paNil)) (pVar 7))))))
    ((pFrz 4 (pPar [8, 9] (pvCons (pB qRepr (paCons (pVar 6) paNil)) (pvCons (pCall [false] pf_l_due (pgCons false (pVar 4) pgNil)) pvNil))))))))))
def pb_l_right_1_0 : PSD :=
    (pSetA 11 (pCall [false] pf_kin_groups (pgCons false (pIf (pT (pOp pEq (pVar 10) (pC (.int 0)))) (pVar 6) (pB qTuple (paCons (pVar 6) paNil))) pgNil)))
def pb_l_right_1_1 : PSD :=
    (pIfS (pbOr (pbNot (pT (pCall [false, false] pf_l_same (pgCons false (pVar 11) (pgCons false (pVar 9) pgNil))))) (pT (pOp pNe (pB qRepr (paCons (pVar 6) paNil)) (pVar 8)))) (pRet (pC (.bl false))) (pNil))
def pb_l_right_2 : PSD :=
    (pSeq (pIfS (pbAnd (pT (pOp pNe (pVar 4) (pLst pvNil))) (pbNot (pT (pCall [true, false] pf_l_pairs_right (pgCons true (pVar 0) (pgCons false (pVar 6) pgNil)))))) (pRet (pC (.bl false))) (pNil))
    (pSeq (pSet 14 (pIf (pT (pOp pNe (pVar 4) (pLst pvNil))) (pCall [true, false] pf_l_take (pgCons true (pVar 0) (pgCons false (pC (.int 3)) pgNil))) (pC (.int 0))))
    (pIfS (pbNot (pT (pCall [false, false] pf_l_same (pgCons false (pCall [false] pf_kin_groups (pgCons false (pVar 6) pgNil)) (pgCons false (pVar 9) pgNil))))) (pRet (pC (.bl false))) (pNil))))
def pb_l_right_3 : PSD :=
    (pSeq (pIfS (pT (pOp pEq (pVar 14) (pC (.int 0)))) (pExpr (pMt 6 qInsert (pvCons (pCall [true, false] pf_l_take (pgCons true (pVar 0) (pgCons false (pOp pAdd (pB qLen (paCons (pVar 6) paNil)) (pC (.int 1))) pgNil))) (pvCons (pVar 5) pvNil)))) (pIfS (pT (pOp pEq (pVar 14) (pC (.int 1)))) (pExpr (pMt 6 qPopAt (pvCons (pCall [true, false] pf_l_take (pgCons true (pVar 0) (pgCons false (pB qLen (paCons (pVar 6) paNil)) pgNil))) pvNil))) (pAsg (pVar 5) (pgSub 6 (pCall [true, false] pf_l_take (pgCons true (pVar 0) (pgCons false (pB qLen (paCons (pVar 6) paNil)) pgNil)))))))
    ((pFrz 6 (pRet (pCall [false, false] pf_l_same (pgCons false (pCall [false] pf_kin_groups (pgCons false (pVar 6) pgNil)) (pgCons false (pCall [false] pf_l_due (pgCons false (pComp [7] (pdiV (pVar 6)) (.nm 7) pYes (pB qTuple (paCons (pVar 7) paNil))) pgNil)) pgNil)))))))
end Pq.k15

namespace Mi.k15
open PySem L2 Mi
open Pq.k15
open Pq (f_l_box b_l_box f_l_take b_l_take f_l_folded b_l_folded f_l_names b_l_names f_l_ounces b_l_ounces f_l_cask b_l_cask f_l_part b_l_part f_common_divisor b_common_divisor f_is_part b_is_part f_is_name b_is_name f_is_whole b_is_whole f_is_tuple_of b_is_tuple_of f_is_cask b_is_cask f_is_of_sort b_is_of_sort f_is_deed b_is_deed f_is_page b_is_page f_l_deed b_l_deed tab_FORMS f_l_rules b_l_rules f_l_as b_l_as g_l_as f_l_messes b_l_messes f_part_of b_part_of f_due_list b_due_list f_week_needs b_week_needs)
def topS (i : Nat) : Stmt := PySem.Challenge.pw_messcasks_k15_fillings_and_kin.main.body.getD i (.Pass ⟨0, 0, 0, 0⟩)
structure Txt (w : World) (K : PySem.W.Frag) (mg : Str → Option Value) (ca : CA) : Prop where
  m_abs : mg "abs" = none
  m_all : mg "all" = none
  m_bool : mg "bool" = none
  m_divmod : mg "divmod" = none
  m_enumerate : mg "enumerate" = none
  m_int : mg "int" = none
  m_isinstance : mg "isinstance" = none
  m_len : mg "len" = none
  m_list : mg "list" = none
  m_max : mg "max" = none
  m_range : mg "range" = none
  m_repr : mg "repr" = none
  m_set : mg "set" = none
  m_sorted : mg "sorted" = none
  m_str : mg "str" = none
  m_tuple : mg "tuple" = none
  m_zip : mg "zip" = none
section
variable {P : Program} {w : World} {K : PySem.W.Frag} {mg : Str → Option Value} {base : Heap} {ca : CA}
abbrev s_l_box : Stmt := topS 5
theorem sc_l_box : FnScope ["_law_script", "_law_k", "_law_cell"] ["_law_script", "_law_k"] (defScope s_l_box) := ⟨rfl, rfl, rfl, by decide +kernel, rfl, by decide +kernel, by decide +kernel⟩
theorem ok_l_box {f : Addr} {fd : FuncData} (F : Fun K "_law_box" "_law_box" s_l_box f fd) (T : Txt w K mg ca)  : FnG P w K mg base 1 f fd ["_law_script", "_law_k"] (spE ⟨K, ca⟩ 2 f_l_box) := by
  refine fnG_of F sc_l_box fun cdv A outer s H E hg hr => ?_
  exact (ss_cons (ss_set 2 (se_if (st_cmp (op_ltAll) fLt_ok (se_var 1) (se_bi cr_len bLen_ok T.m_len (sa_cons (se_var 0) sa_nil))) (se_ix (hu_of hr) (se_var 0) (se_var 1)) (se_int)) sc_l_box.nd)
    (ss_one (ss_ret (se_lst (sv_cons (se_op op_mulAll fMul_ok (se_bi call_abs bAbs_ok T.m_abs (sa_cons (se_var 2) sa_nil)) (se_ty call_int1 bInt_ok T.m_int (sa_cons (se_cmp (op_ge) fGe_ok (se_bi call_abs bAbs_ok T.m_abs (sa_cons (se_var 2) sa_nil)) (SE.congr (se_op op_pow fPow_ok (se_int) (se_int)) (fun _ _ => by rfl))) sa_nil))) (sv_cons (se_op op_mod fMod_ok (se_op op_mulAll fMul_ok (se_op op_addAll fAdd_ok (se_op op_addAll fAdd_ok (se_op op_mod fMod_ok (se_var 2) (se_int)) (se_op op_mulAll fMul_ok (se_int) (se_var 1))) (se_int)) (se_int)) (se_int)) (sv_cons (se_int) sv_nil)))))))
abbrev s_l_folded : Stmt := topS 7
theorem sc_l_folded : FnScope ["_law_script", "_law_size", "_law_cells", "_law_k", "_law_cell"] ["_law_script", "_law_size"] (defScope s_l_folded) := ⟨rfl, rfl, rfl, by decide +kernel, rfl, by decide +kernel, by decide +kernel⟩
theorem ok_l_folded {f : Addr} {fd : FuncData} (F : Fun K "_law_folded" "_law_folded" s_l_folded f fd) (T : Txt w K mg ca)  : FnG P w K mg base 1 f fd ["_law_script", "_law_size"] (spE ⟨K, ca⟩ 2 f_l_folded) := by
  refine fnG_of F sc_l_folded fun cdv A outer s H E hg hr => ?_
  exact (ss_cons (ss_set 2 (se_ty call_list_of bList_ok T.m_list (sa_cons (se_sl (se_var 0) so_none (so_some (se_var 1))) sa_nil)) sc_l_folded.nd)
    (ss_cons (ss_for po_of rfl (si_en T.m_enumerate (se_sl (se_var 0) (so_some (se_var 1)) (so_some (se_int)))) (sn_tp rfl (sns_cons (sn_nm 3 sc_l_folded.nd) (sns_cons (sn_nm 4 sc_l_folded.nd) sns_nil))) (ss_one (ss_asg (se_op op_addAll fAdd_ok (se_ix (hu_of hr) (se_var 2) (se_op op_mod fMod_ok (se_var 3) (se_var 1))) (se_op op_mulAll fMul_ok (se_var 4) (se_op op_addAll fAdd_ok (se_var 3) (se_int)))) (sg_sub (W := W0) (hu_of hr) (se_var 2) (se_op op_mod fMod_ok (se_var 3) (se_var 1))))))
    (ss_one (ss_ret (se_var 2)))))
abbrev s_filling_of : Stmt := topS 1
theorem sc_filling_of : FnScope ["cask", "mark", "ware", "ounces", "yard", "filled"] ["cask"] (defScope s_filling_of) := ⟨rfl, rfl, rfl, by decide +kernel, rfl, by decide +kernel, by decide +kernel⟩
theorem ok_filling_of {f : Addr} {fd : FuncData} (F : Fun K "filling_of" "filling_of" s_filling_of f fd) (T : Txt w K mg ca)  : FnG P w K mg base 1 f fd ["cask"] (spE ⟨K, ca⟩ 1 f_filling_of) := by
  refine fnG_of F sc_filling_of fun cdv A outer s H E hg hr => ?_
  exact (ss_cons (ss_asg (se_var 0) (sg_n (sn_tp rfl (sns_cons (sn_nm 1 sc_filling_of.nd) (sns_cons (sn_nm 2 sc_filling_of.nd) (sns_cons (sn_nm 3 sc_filling_of.nd) (sns_cons (sn_nm 4 sc_filling_of.nd) (sns_cons (sn_nm 5 sc_filling_of.nd) sns_nil))))))))
    (ss_one (ss_ret (se_tup (sv_cons (se_var 2) (sv_cons (se_var 4) (sv_cons (se_var 5) sv_nil)))))))
abbrev s_kin_groups : Stmt := topS 3
theorem sc_kin_groups : FnScope ["casks", "groups", "cask", "filling"] ["casks"] (defScope s_kin_groups) := ⟨rfl, rfl, rfl, by decide +kernel, rfl, by decide +kernel, by decide +kernel⟩
theorem ok_kin_groups {f : Addr} {fd : FuncData} (F : Fun K "kin_groups" "kin_groups" s_kin_groups f fd) (T : Txt w K mg ca) (c_filling_of : Cal P w K mg base ca 1 "filling_of" 1 f_filling_of) : FnG P w K mg base 2 f fd ["casks"] (spE ⟨K, ca⟩ 1 f_kin_groups) := by
  refine fnG_of F sc_kin_groups fun cdv A outer s H E hg hr => ?_
  exact (ss_cons (ss_set 1 (se_newT) sc_kin_groups.nd)
    (ss_cons (ss_for po_of rfl (si_v (se_var 0)) (sn_nm 2 sc_kin_groups.nd) (ss_one (ss_asg (se_op op_addAll fAdd_ok (se_mt PySem.F.plainAttrs_dict PySem.F.slot_dict_get (mt_dget2 hr.units) isDt_ok mGet2_ok (se_var 1) (sv_cons (se_call c_filling_of hg hr tk_of (sv_cons (se_var 2) sv_nil)) (sv_cons (se_lst sv_nil) sv_nil)) (hty := PySem.F.type_dict_get)) (se_lst (sv_cons (se_ix (hu_of hr) (se_var 2) (se_int)) sv_nil))) (sg_sub (W := W0) (hu_of hr) (se_var 1) (se_call c_filling_of hg hr pas0 (sv_cons (se_var 2) sv_nil))))))
    (ss_one (ss_ret (se_comp rfl sc_kin_groups.nd (blkOk_by (own := [("filling", 3)]) (show blkC ["casks", "groups", "cask", "filling"] (defScope s_kin_groups) _ _ = true by decide +kernel)) (by decide) (si_v (se_bi (cr_sortDT hr.units rfl) bSort3K_ok T.m_sorted (sa_cons (se_var 1) sa_nil))) (fun s H C cl fp => sn_nm 3 sc_kin_groups.nd) (fun s H C cl fp => sts_nil) (fun s H C cl fp => (se_tup (sv_cons (se_var 3) (sv_cons (se_bi (cr_sortedD hr.units) bSorted_ok T.m_sorted (sa_cons (se_ix (hu_of hr) (se_var 1) (se_var 3)) sa_nil)) sv_nil)))))))))
abbrev s_l_take : Stmt := topS 6
theorem sc_l_take : FnScope ["_law_box_here", "_law_size", "_law_found", "_law_step", "_law_once", "_law_twice"] ["_law_box_here", "_law_size"] (defScope s_l_take) := ⟨rfl, rfl, rfl, by decide +kernel, rfl, by decide +kernel, by decide +kernel⟩
theorem ok_l_take {f : Addr} {fd : FuncData} (F : Fun K "_law_take" "_law_take" s_l_take f fd) (T : Txt w K mg ca)  : FnG P w K mg base 1 f fd ["_law_box_here", "_law_size"] (spE ⟨K, ca⟩ 2 f_l_take) := by
  refine fnG_of F sc_l_take fun cdv A outer s H E hg hr => ?_
  exact (ss_cons (ss_if (st_cmp (op_gt) fGt_ok (se_ix (hu_of hr) (se_var 0) (se_int)) (se_int)) (ss_cons (ss_asg (se_bi call_divmodW bDivmod_ok T.m_divmod (sa_cons (se_ix (hu_of hr) (se_var 0) (se_int)) (sa_cons (se_var 1) sa_nil))) (sg_t rfl (sgs_cons (sg_sub (W := W0) (hu_of hr) (se_var 0) (se_int)) (sgs_cons (sg_n (sn_nm 2 sc_l_take.nd)) sgs_nil))))
    (ss_one (ss_ret (se_var 2)))) ss_nil)
    (ss_cons (ss_asg (se_op op_addAll fAdd_ok (se_ix (hu_of hr) (se_var 0) (se_int)) (se_int)) (sg_sub (W := W0) (hu_of hr) (se_var 0) (se_int)))
    (ss_cons (ss_set 3 (se_op op_addAll fAdd_ok (se_int) (se_op op_mulAll fMul_ok (se_ix (hu_of hr) (se_var 0) (se_int)) (se_ix (hu_of hr) (se_var 0) (se_int)))) sc_l_take.nd)
    (ss_cons (ss_set 4 (se_op op_mod fMod_ok (se_op op_mulAll fMul_ok (se_op op_addAll fAdd_ok (se_ix (hu_of hr) (se_var 0) (se_int)) (se_op op_mulAll fMul_ok (se_int) (se_ix (hu_of hr) (se_var 0) (se_int)))) (se_var 3)) (se_int)) sc_l_take.nd)
    (ss_cons (ss_set 5 (se_op op_mod fMod_ok (se_op op_addAll fAdd_ok (se_op op_mulAll fMul_ok (se_var 4) (se_op op_addAll fAdd_ok (se_op op_mod fMod_ok (se_var 4) (se_int)) (se_int))) (se_ix (hu_of hr) (se_var 0) (se_int))) (se_int)) sc_l_take.nd)
    (ss_one (ss_ret (se_op op_mod fMod_ok (se_op op_fdivW fFdiv_ok (se_op op_mod fMod_ok (se_op op_mulAll fMul_ok (se_var 5) (se_op op_addAll fAdd_ok (se_op op_mod fMod_ok (se_var 5) (se_int)) (se_int))) (se_int)) (se_int)) (se_var 1)))))))))
abbrev s_l_names : Stmt := topS 8
theorem sc_l_names : FnScope ["_law_box_here", "_law_many", "_law_letters", "_law_found", "_law_a", "_law_b", "_law_words", "_law_k", "_law_first", "_law_name", "_law_turn", "_law_letter"] ["_law_box_here", "_law_many"] (defScope s_l_names) := ⟨rfl, rfl, rfl, by decide +kernel, rfl, by decide +kernel, by decide +kernel⟩
theorem ok_l_names {f : Addr} {fd : FuncData} (F : Fun K "_law_names" "_law_names" s_l_names f fd) (T : Txt w K mg ca) (c_l_take : Cal P w K mg base ca 1 "_law_take" 2 f_l_take) : FnG P w K mg base 2 f fd ["_law_box_here", "_law_many"] (spE ⟨K, ca⟩ 2 f_l_names) := by
  refine fnG_of F sc_l_names fun cdv A outer s H E hg hr => ?_
  exact (ss_cons (ss_parC (by decide) (ss_asg (se_tup (sv_cons (se_str [97, 98, 99, 100, 101, 102, 103, 104, 105, 106, 107, 108, 109, 110, 111, 112, 113, 114, 115, 116, 117, 118, 119, 120, 121, 122]) (sv_cons (se_lst sv_nil) sv_nil))) (sg_n (sn_tp rfl (sns_cons (sn_nm 2 sc_l_names.nd) (sns_cons (sn_nm 3 sc_l_names.nd) sns_nil))))))
    (ss_cons (ss_par (sv_cons (se_ix (hu_of hr) (se_lst (sv_cons (se_int) (sv_cons (se_int) (sv_cons (se_int) (sv_cons (se_int) (sv_cons (se_int) (sv_cons (se_int) (sv_cons (se_int) (sv_cons (se_int) sv_nil))))))))) (se_call c_l_take hg hr tk_of (sv_cons (se_var 0) (sv_cons (se_int) sv_nil)))) (sv_cons (se_call c_l_take hg hr tk_of (sv_cons (se_var 0) (sv_cons (se_int) sv_nil))) sv_nil)) rfl sc_l_names.nd)
    (ss_cons (ss_set 6 (se_lst (sv_cons (se_str [105, 110]) (sv_cons (se_str [104, 101, 97, 100, 115]) (sv_cons (se_str [97, 108, 108, 111, 119]) (sv_cons (se_str [98, 97, 100]) (sv_cons (se_str [115, 117, 114, 118, 101, 121]) (sv_cons (se_str [108, 111, 115, 116]) (sv_cons (se_str [100, 114, 97, 119]) (sv_cons (se_str [115, 101, 110, 100]) (sv_cons (se_str [101, 97, 116, 101, 110]) (sv_cons (se_str [115, 112, 111, 105, 108, 116]) (sv_cons (se_str [110, 111, 110, 101]) (sv_cons (se_str [115, 104, 105, 112]) (sv_cons (se_str [112, 97, 103, 101]) sv_nil)))))))))))))) sc_l_names.nd)
    (ss_cons (ss_for po_of rfl (si_r1 T.m_range (se_var 1)) (sn_nm 7 sc_l_names.nd) (ss_cons (ss_set 8 (se_op op_addAll fAdd_ok (se_ix (hu_of hr) (se_var 2) (se_op op_mod fMod_ok (se_op op_addAll fAdd_ok (se_op op_mulAll fMul_ok (se_var 7) (se_var 4)) (se_var 5)) (se_int))) (se_ix (hu_of hr) (se_var 2) (se_op op_mod fMod_ok (se_op op_addAll fAdd_ok (se_op op_mulAll fMul_ok (se_op op_fdivW fFdiv_ok (se_var 7) (se_int)) (se_int)) (se_var 5)) (se_int)))) sc_l_names.nd)
    (ss_cons (ss_set 9 (se_op op_addAll fAdd_ok (se_var 8) (se_mt PySem.F.plainAttrs_str PySem.F.slot_str_join mt_join isS_ok mJoin_ok (se_str []) (sv_cons (se_comp rfl sc_l_names.nd (blkOk_by (own := [("_law_turn", 10)]) (show blkC ["_law_box_here", "_law_many", "_law_letters", "_law_found", "_law_a", "_law_b", "_law_words", "_law_k", "_law_first", "_law_name", "_law_turn", "_law_letter"] (defScope s_l_names) _ _ = true by decide +kernel)) (by decide) (si_r1 T.m_range (se_call c_l_take hg hr tk_of (sv_cons (se_var 0) (sv_cons (se_int) sv_nil)))) (fun s H C cl fp => sn_nm 10 sc_l_names.nd) (fun s H C cl fp => sts_nil) (fun s H C cl fp => (se_ix (hu_of hr) (se_var 2) (se_call c_l_take hg hr pas0 (sv_cons (se_var 0) (sv_cons (se_int) sv_nil)))))) sv_nil) (hty := PySem.F.type_str_join))) sc_l_names.nd)
    (ss_cons (ss_if (SW.st (sw_and (st_cmp (op_ltAll) fLt_ok (se_var 1) (se_int)) (sw_and1 (st_cmp (op_eqAll hr.units) fEq_ok (se_call c_l_take hg hr tk_of (sv_cons (se_var 0) (sv_cons (se_int) sv_nil))) (se_int))))) (ss_one (ss_set 9 (se_ix (hu_of hr) (se_var 6) (se_var 7)) sc_l_names.nd)) ss_nil)
    (ss_cons (ss_for po_of rfl (si_v (se_var 2)) (sn_nm 11 sc_l_names.nd) (ss_one (ss_if (st_cmp (op_inAll hr.units) fIn_ok (se_var 9) (se_var 3)) (ss_one (ss_set 9 (se_op op_addAll fAdd_ok (se_var 8) (se_var 11)) sc_l_names.nd)) ss_nil)))
    (ss_one (ss_expr (se_mt PySem.F.plainAttrs_list PySem.F.slot_list_append mt_append isL_ok lAppend_ok (se_var 3) (sv_cons (se_var 9) sv_nil) (hty := PySem.F.type_list_append)))))))))
    (ss_one (ss_ret (se_var 3)))))))
abbrev s_l_same : Stmt := topS 11
theorem sc_l_same : FnScope ["_law_found", "_law_due_here", "_law_one", "_law_other"] ["_law_found", "_law_due_here"] (defScope s_l_same) := ⟨rfl, rfl, rfl, by decide +kernel, rfl, by decide +kernel, by decide +kernel⟩
theorem okr_l_same {k : Nat} {r : DF} {f : Addr} {fd : FuncData} (F : Fun K "_law_same" "_law_same" s_l_same f fd) (T : Txt w K mg ca)  (c_l_same : Cal P w K mg base ca k "_law_same" 2 r) : FnG P w K mg base (k + 1) f fd ["_law_found", "_law_due_here"] (spE ⟨K, ca⟩ 2 (runB 4 (b_l_same r))) := by
  refine fnG_of F sc_l_same fun cdv A outer s H E hg hr => ?_
  exact (ss_cons (ss_if (st_val (se_isi2 .lst .tup T.m_isinstance T.m_list T.m_tuple (se_var 1))) (ss_cons (ss_if (SW.st (sw_or (st_cmp (op_neAll hr.units) fNe_ok (se_isi .lst T.m_isinstance T.m_list (se_var 0)) (se_isi .lst T.m_isinstance T.m_list (se_var 1))) (sw_or1 (st_cmp (op_neAll hr.units) fNe_ok (se_isi .tup T.m_isinstance T.m_tuple (se_var 0)) (se_isi .tup T.m_isinstance T.m_tuple (se_var 1)))))) (ss_one (ss_ret (se_bl))) ss_nil)
    (ss_one (ss_ret ((se_and (se_cmp (op_eqAll hr.units) fEq_ok (se_bi cr_len bLen_ok T.m_len (sa_cons (se_var 0) sa_nil)) (se_bi cr_len bLen_ok T.m_len (sa_cons (se_var 1) sa_nil))) (se_one (se_bi (cr_all rfl) bAll_ok T.m_all (sa_cons (se_comp rfl sc_l_same.nd (blkOk_by (own := [("_law_one", 2), ("_law_other", 3)]) (show blkC ["_law_found", "_law_due_here", "_law_one", "_law_other"] (defScope s_l_same) _ _ = true by decide +kernel)) (by decide) (si_z T.m_zip (se_var 0) (se_var 1)) (fun s H C cl fp => sn_tp rfl (sns_cons (sn_nm 2 sc_l_same.nd) (sns_cons (sn_nm 3 sc_l_same.nd) sns_nil))) (fun s H C cl fp => sts_nil) (fun s H C cl fp => (se_call c_l_same hg hr pas0 (sv_cons (se_var 2) (sv_cons (se_var 3) sv_nil))))) sa_nil)))))))) ss_nil)
    (ss_cons (ss_if (SW.st (sw_or (st_isN (se_var 1)) (sw_or1 (st_isN (se_var 0))))) (ss_one (ss_ret ((se_and (se_isN (se_var 1)) (se_one (se_isN (se_var 0))))))) ss_nil)
    (ss_cons (ss_if (st_cmp (op_neAll hr.units) fNe_ok (se_isi .bool T.m_isinstance T.m_bool (se_var 1)) (se_isi .bool T.m_isinstance T.m_bool (se_var 0))) (ss_one (ss_ret (se_bl))) ss_nil)
    (ss_one (ss_ret ((se_and (se_cmp (op_eqAll hr.units) fEq_ok (se_isi .str T.m_isinstance T.m_str (se_var 0)) (se_isi .str T.m_isinstance T.m_str (se_var 1))) (se_one (se_cmp (op_eqAll hr.units) fEq_ok (se_var 0) (se_var 1))))))))))
theorem ok_l_same {f : Addr} {fd : FuncData} (F : Fun K "_law_same" "_law_same" s_l_same f fd) (T : Txt w K mg ca)  (hm : mg "_law_same" = some (.ref f)) (hk : PySem.W.keepIn K (.ref f) = true) (hb : Binds K fd ["_law_found", "_law_due_here"] []) : ∀ n : Nat, FnG P w K mg base (0 + n) f fd ["_law_found", "_law_due_here"] (spE ⟨K, ca⟩ 2 (g_l_same n))
  | 0 => fnG_bad
  | n + 1 => okr_l_same (k := 0 + n) F T  ⟨f, fd, ["_law_found", "_law_due_here"], ok_l_same F T  hm hk hb n, hm, hk, hb⟩
abbrev s_l_ounces : Stmt := topS 9
theorem sc_l_ounces : FnScope ["_law_box_here", "_law_wide", "_law_most"] ["_law_box_here", "_law_wide"] (defScope s_l_ounces) := ⟨rfl, rfl, rfl, by decide +kernel, rfl, by decide +kernel, by decide +kernel⟩
theorem ok_l_ounces {f : Addr} {fd : FuncData} (F : Fun K "_law_ounces" "_law_ounces" s_l_ounces f fd) (T : Txt w K mg ca) (c_l_take : Cal P w K mg base ca 1 "_law_take" 2 f_l_take) : FnG P w K mg base 2 f fd ["_law_box_here", "_law_wide"] (spE ⟨K, ca⟩ 2 f_l_ounces) := by
  refine fnG_of F sc_l_ounces fun cdv A outer s H E hg hr => ?_
  exact (ss_cons (ss_set 2 (se_ix (hu_of hr) (se_lst (sv_cons (se_int) (sv_cons (se_int) (sv_cons (se_int) (sv_cons (SE.congr (se_op op_pow fPow_ok (se_int) (se_int)) (fun _ _ => by rfl)) (sv_cons (SE.congr (se_op op_pow fPow_ok (se_int) (se_int)) (fun _ _ => by rfl)) sv_nil)))))) (se_call c_l_take hg hr tk_of (sv_cons (se_var 0) (sv_cons (se_op op_addAll fAdd_ok (se_int) (se_ty call_int1 bInt_ok T.m_int (sa_cons (se_var 1) sa_nil))) sv_nil)))) sc_l_ounces.nd)
    (ss_one (ss_ret (se_op op_addAll fAdd_ok (se_int) (se_call c_l_take hg hr tk_of (sv_cons (se_var 0) (sv_cons (se_var 2) sv_nil)))))))
abbrev s_l_cask : Stmt := topS 10
theorem sc_l_cask : FnScope ["_law_box_here", "_law_mark", "_law_wares", "_law_yards", "_law_ware", "_law_yard", "_law_filled"] ["_law_box_here", "_law_mark", "_law_wares", "_law_yards"] (defScope s_l_cask) := ⟨rfl, rfl, rfl, by decide +kernel, rfl, by decide +kernel, by decide +kernel⟩
theorem ok_l_cask {f : Addr} {fd : FuncData} (F : Fun K "_law_cask" "_law_cask" s_l_cask f fd) (T : Txt w K mg ca) (c_l_take : Cal P w K mg base ca 2 "_law_take" 2 f_l_take) (c_l_ounces : Cal P w K mg base ca 2 "_law_ounces" 2 f_l_ounces) : FnG P w K mg base 3 f fd ["_law_box_here", "_law_mark", "_law_wares", "_law_yards"] (spE ⟨K, ca⟩ 4 f_l_cask) := by
  refine fnG_of F sc_l_cask fun cdv A outer s H E hg hr => ?_
  exact (ss_cons (ss_par (sv_cons (se_ix (hu_of hr) (se_var 2) (se_call c_l_take hg hr tk_of (sv_cons (se_var 0) (sv_cons (se_bi cr_len bLen_ok T.m_len (sa_cons (se_var 2) sa_nil)) sv_nil)))) (sv_cons (se_ix (hu_of hr) (se_var 3) (se_call c_l_take hg hr tk_of (sv_cons (se_var 0) (sv_cons (se_bi cr_len bLen_ok T.m_len (sa_cons (se_var 3) sa_nil)) sv_nil)))) sv_nil)) rfl sc_l_cask.nd)
    (ss_cons (ss_set 6 (se_ix (hu_of hr) (se_lst (sv_cons (se_call c_l_take hg hr tk_of (sv_cons (se_var 0) (sv_cons (se_int) sv_nil))) (sv_cons (se_call c_l_take hg hr tk_of (sv_cons (se_var 0) (sv_cons (se_int) sv_nil))) (sv_cons (se_call c_l_take hg hr tk_of (sv_cons (se_var 0) (sv_cons (se_int) sv_nil))) sv_nil)))) (se_call c_l_take hg hr tk_of (sv_cons (se_var 0) (sv_cons (se_int) sv_nil)))) sc_l_cask.nd)
    (ss_one (ss_ret (se_tup (sv_cons (se_var 1) (sv_cons (se_var 4) (sv_cons (se_call c_l_ounces hg hr tk_of (sv_cons (se_var 0) (sv_cons (se_bl) sv_nil))) (sv_cons (se_var 5) (sv_cons (se_var 6) sv_nil))))))))))
abbrev s_l_casks : Stmt := topS 12
theorem sc_l_casks : FnScope ["_law_box_here", "_law_many", "_law_wares", "_law_yards", "_law_marks", "_law_found", "_law_mark"] ["_law_box_here", "_law_many", "_law_wares", "_law_yards"] (defScope s_l_casks) := ⟨rfl, rfl, rfl, by decide +kernel, rfl, by decide +kernel, by decide +kernel⟩
theorem ok_l_casks {f : Addr} {fd : FuncData} (F : Fun K "_law_casks" "_law_casks" s_l_casks f fd) (T : Txt w K mg ca) (c_l_take : Cal P w K mg base ca 3 "_law_take" 2 f_l_take) (c_l_names : Cal P w K mg base ca 3 "_law_names" 2 f_l_names) (c_l_cask : Cal P w K mg base ca 3 "_law_cask" 4 f_l_cask) : FnG P w K mg base 4 f fd ["_law_box_here", "_law_many", "_law_wares", "_law_yards"] (spE ⟨K, ca⟩ 4 f_l_casks) := by
  refine fnG_of F sc_l_casks fun cdv A outer s H E hg hr => ?_
  exact (ss_cons (ss_par (sv_cons (se_call c_l_names hg hr tk_of (sv_cons (se_var 0) (sv_cons (se_var 1) sv_nil))) (sv_cons (se_lst sv_nil) sv_nil)) rfl sc_l_casks.nd)
    (ss_cons (ss_for po_of rfl (si_v (se_var 4)) (sn_nm 6 sc_l_casks.nd) (ss_one (ss_expr (se_mt PySem.F.plainAttrs_list PySem.F.slot_list_insert mt_insert isL_ok lInsert_ok (se_var 5) (sv_cons (se_call c_l_take hg hr tk_of (sv_cons (se_var 0) (sv_cons (se_op op_addAll fAdd_ok (se_bi cr_len bLen_ok T.m_len (sa_cons (se_var 5) sa_nil)) (se_int)) sv_nil))) (sv_cons (se_call c_l_cask hg hr tk_of (sv_cons (se_var 0) (sv_cons (se_var 6) (sv_cons (se_var 2) (sv_cons (se_var 3) sv_nil))))) sv_nil)) (hty := PySem.F.type_list_insert)))))
    (ss_one (ss_ret (se_var 5)))))
abbrev s_l_due : Stmt := topS 13
theorem sc_l_due : FnScope ["_law_casks_here", "_law_found", "_law_filling", "_law_cask_here", "_law_marks"] ["_law_casks_here"] (defScope s_l_due) := ⟨rfl, rfl, rfl, by decide +kernel, rfl, by decide +kernel, by decide +kernel⟩
theorem ok_l_due {f : Addr} {fd : FuncData} (F : Fun K "_law_due" "_law_due" s_l_due f fd) (T : Txt w K mg ca)  : FnG P w K mg base 1 f fd ["_law_casks_here"] (spE ⟨K, ca⟩ 1 f_l_due) := by
  refine fnG_of F sc_l_due fun cdv A outer s H E hg hr => ?_
  exact (ss_cons (ss_set 1 (se_lst sv_nil) sc_l_due.nd)
    (ss_cons (ss_for po_of rfl (si_v (se_sortSet3 rfl hr.units T.m_sorted T.m_set (sa_cons (se_comp rfl sc_l_due.nd (blkOk_by (own := [("_law_cask_here", 3)]) (show blkC ["_law_casks_here", "_law_found", "_law_filling", "_law_cask_here", "_law_marks"] (defScope s_l_due) _ _ = true by decide +kernel)) (by decide) (si_v (se_var 0)) (fun s H C cl fp => sn_nm 3 sc_l_due.nd) (fun s H C cl fp => sts_nil) (fun s H C cl fp => (se_tup (sv_cons (se_ix (hu_of hr) (se_var 3) (se_int)) (sv_cons (se_ix (hu_of hr) (se_var 3) (se_int)) (sv_cons (se_ix (hu_of hr) (se_var 3) (se_int)) sv_nil)))))) sa_nil))) (sn_nm 2 sc_l_due.nd) (ss_cons (ss_set 4 (se_bi (cr_sortedD hr.units) bSorted_ok T.m_sorted (sa_cons (se_comp rfl sc_l_due.nd (blkOk_by (own := [("_law_cask_here", 3)]) (show blkC ["_law_casks_here", "_law_found", "_law_filling", "_law_cask_here", "_law_marks"] (defScope s_l_due) _ _ = true by decide +kernel)) (by decide) (si_v (se_var 0)) (fun s H C cl fp => sn_nm 3 sc_l_due.nd) (fun s H C cl fp => sts_one (st_cmp (op_eqAll hr.units) fEq_ok (se_tup (sv_cons (se_ix (hu_of hr) (se_var 3) (se_int)) (sv_cons (se_ix (hu_of hr) (se_var 3) (se_int)) (sv_cons (se_ix (hu_of hr) (se_var 3) (se_int)) sv_nil)))) (se_var 2))) (fun s H C cl fp => (se_ix (hu_of hr) (se_var 3) (se_int)))) sa_nil)) sc_l_due.nd)
    (ss_one (ss_expr (se_mt PySem.F.plainAttrs_list PySem.F.slot_list_append mt_append isL_ok lAppend_ok (se_var 1) (sv_cons (se_tup (sv_cons (se_var 2) (sv_cons (se_var 4) sv_nil))) sv_nil) (hty := PySem.F.type_list_append))))))
    (ss_one (ss_ret (se_var 1)))))
abbrev s_are_kin : Stmt := topS 2
theorem sc_are_kin : FnScope ["one", "other"] ["one", "other"] (defScope s_are_kin) := ⟨rfl, rfl, rfl, by decide +kernel, rfl, by decide +kernel, by decide +kernel⟩
theorem ok_are_kin {f : Addr} {fd : FuncData} (F : Fun K "are_kin" "are_kin" s_are_kin f fd) (T : Txt w K mg ca) (c_filling_of : Cal P w K mg base ca 1 "filling_of" 1 f_filling_of) : FnG P w K mg base 2 f fd ["one", "other"] (spE ⟨K, ca⟩ 2 f_are_kin) := by
  refine fnG_of F sc_are_kin fun cdv A outer s H E hg hr => ?_
  exact (ss_one (ss_ret ((se_and (se_cmp (op_neAll hr.units) fNe_ok (se_ix (hu_of hr) (se_var 0) (se_int)) (se_ix (hu_of hr) (se_var 1) (se_int))) (se_one (se_cmp (op_eqAll hr.units) fEq_ok (se_call c_filling_of hg hr tk_of (sv_cons (se_var 0) sv_nil)) (se_call c_filling_of hg hr tk_of (sv_cons (se_var 1) sv_nil))))))))
abbrev s_l_pairs_right : Stmt := topS 14
theorem sc_l_pairs_right : FnScope ["_law_box_here", "_law_casks_here", "_law_turn", "_law_one", "_law_other", "_law_due_here", "_law_found"] ["_law_box_here", "_law_casks_here"] (defScope s_l_pairs_right) := ⟨rfl, rfl, rfl, by decide +kernel, rfl, by decide +kernel, by decide +kernel⟩
theorem ok_l_pairs_right {f : Addr} {fd : FuncData} (F : Fun K "_law_pairs_right" "_law_pairs_right" s_l_pairs_right f fd) (T : Txt w K mg ca) (c_filling_of : Cal P w K mg base ca 24 "filling_of" 1 f_filling_of) (c_l_take : Cal P w K mg base ca 24 "_law_take" 2 f_l_take) (c_l_same : Cal P w K mg base ca 24 "_law_same" 2 f_l_same) (c_are_kin : Cal P w K mg base ca 24 "are_kin" 2 f_are_kin) : FnG P w K mg base 25 f fd ["_law_box_here", "_law_casks_here"] (spE ⟨K, ca⟩ 2 f_l_pairs_right) := by
  refine fnG_of F sc_l_pairs_right fun cdv A outer s H E hg hr => ?_
  exact (ss_cons (ss_for po_of rfl (si_r1 T.m_range (se_int)) (sn_nm 2 sc_l_pairs_right.nd) (ss_cons (ss_par (sv_cons (se_ix (hu_of hr) (se_var 1) (se_call c_l_take hg hr tk_of (sv_cons (se_var 0) (sv_cons (se_bi cr_len bLen_ok T.m_len (sa_cons (se_var 1) sa_nil)) sv_nil)))) (sv_cons (se_ix (hu_of hr) (se_var 1) (se_call c_l_take hg hr tk_of (sv_cons (se_var 0) (sv_cons (se_bi cr_len bLen_ok T.m_len (sa_cons (se_var 1) sa_nil)) sv_nil)))) sv_nil)) rfl sc_l_pairs_right.nd)
    (ss_cons (ss_set 5 (se_cmp (op_eqAll hr.units) fEq_ok (se_op op_addAll fAdd_ok (se_ty call_list_of bList_ok T.m_list (sa_cons (se_sl (se_var 3) (so_some (se_int)) (so_some (se_int))) sa_nil)) (se_ty call_list_of bList_ok T.m_list (sa_cons (se_sl (se_var 3) (so_some (se_int)) so_none) sa_nil))) (se_op op_addAll fAdd_ok (se_ty call_list_of bList_ok T.m_list (sa_cons (se_sl (se_var 4) (so_some (se_int)) (so_some (se_int))) sa_nil)) (se_ty call_list_of bList_ok T.m_list (sa_cons (se_sl (se_var 4) (so_some (se_int)) so_none) sa_nil)))) sc_l_pairs_right.nd)
    (ss_cons (ss_set 5 ((se_and (se_var 5) (se_one (se_cmp (op_neAll hr.units) fNe_ok (se_ix (hu_of hr) (se_var 3) (se_int)) (se_ix (hu_of hr) (se_var 4) (se_int)))))) sc_l_pairs_right.nd)
    (ss_cons (ss_for po_of rfl (si_v (se_tup (sv_cons (se_call c_are_kin hg hr tk_of (sv_cons (se_var 3) (sv_cons (se_var 4) sv_nil))) (sv_cons (se_call c_are_kin hg hr tk_of (sv_cons (se_var 4) (sv_cons (se_var 3) sv_nil))) (sv_cons (se_call c_are_kin hg hr tk_of (sv_cons (se_ty call_list_of bList_ok T.m_list (sa_cons (se_var 3) sa_nil)) (sv_cons (se_ty call_tuple_of bTuple_ok T.m_tuple (sa_cons (se_var 4) sa_nil)) sv_nil))) sv_nil))))) (sn_nm 6 sc_l_pairs_right.nd) (ss_one (ss_if (SW.st (sw_or (st_not (st_val (se_isi .bool T.m_isinstance T.m_bool (se_var 6)))) (sw_or1 (st_cmp (op_neAll hr.units) fNe_ok (se_var 6) (se_var 5))))) (ss_one (ss_ret (se_bl))) ss_nil)))
    (ss_one (ss_if (st_not (st_val (se_call c_l_same hg hr tk_of (sv_cons (se_call c_filling_of hg hr tk_of (sv_cons (se_var 3) sv_nil)) (sv_cons (se_tup (sv_cons (se_ix (hu_of hr) (se_var 3) (se_int)) (sv_cons (se_ix (hu_of hr) (se_var 3) (se_int)) (sv_cons (se_ix (hu_of hr) (se_var 3) (se_int)) sv_nil)))) sv_nil))))) (ss_one (ss_ret (se_bl))) ss_nil)))))))
    (ss_one (ss_ret (se_bl))))
abbrev s_l_right : Stmt := topS 15
theorem sc_l_right : FnScope ["_law_box_here", "_law_wares", "_law_yards", "_law_many", "_law_casks_here", "_law_spare", "_law_handed", "_law_cask_here", "_law_kept", "_law_due_here", "_law_turn", "_law_found", "_law_filling", "_law_marks", "_law_way"] ["_law_box_here"] (defScope s_l_right) := ⟨rfl, rfl, rfl, by decide +kernel, rfl, by decide +kernel, by decide +kernel⟩
theorem ok_l_right {f : Addr} {fd : FuncData} (F : Fun K "_law_right" "_law_right" s_l_right f fd) (T : Txt w K mg ca) (c_kin_groups : Cal P w K mg base ca 25 "kin_groups" 1 f_kin_groups) (c_l_take : Cal P w K mg base ca 25 "_law_take" 2 f_l_take) (c_l_names : Cal P w K mg base ca 25 "_law_names" 2 f_l_names) (c_l_same : Cal P w K mg base ca 25 "_law_same" 2 f_l_same) (c_l_casks : Cal P w K mg base ca 25 "_law_casks" 4 f_l_casks) (c_l_due : Cal P w K mg base ca 25 "_law_due" 1 f_l_due) (c_l_pairs_right : Cal P w K mg base ca 25 "_law_pairs_right" 2 f_l_pairs_right) : FnG P w K mg base 26 f fd ["_law_box_here"] (spE ⟨K, ca⟩ 1 f_l_right) := by
  refine fnG_of F sc_l_right fun cdv A outer s H E hg hr => ?_
  exact (ss_cons (ss_par (sv_cons (se_call c_l_names hg hr tk_of (sv_cons (se_var 0) (sv_cons (se_op op_addAll fAdd_ok (se_int) (se_call c_l_take hg hr tk_of (sv_cons (se_var 0) (sv_cons (se_int) sv_nil)))) sv_nil))) (sv_cons (se_call c_l_names hg hr tk_of (sv_cons (se_var 0) (sv_cons (se_op op_addAll fAdd_ok (se_int) (se_call c_l_take hg hr tk_of (sv_cons (se_var 0) (sv_cons (se_int) sv_nil)))) sv_nil))) sv_nil)) rfl sc_l_right.nd)
    (ss_cons (ss_set 3 (se_ix (hu_of hr) (se_lst (sv_cons (se_call c_l_take hg hr tk_of (sv_cons (se_var 0) (sv_cons (se_int) sv_nil))) (sv_cons (se_call c_l_take hg hr tk_of (sv_cons (se_var 0) (sv_cons (se_int) sv_nil))) (sv_cons (se_int) sv_nil)))) (se_call c_l_take hg hr tk_of (sv_cons (se_var 0) (sv_cons (se_int) sv_nil)))) sc_l_right.nd)
    (ss_cons (ss_set 4 (se_call c_l_casks hg hr tk_of (sv_cons (se_var 0) (sv_cons (se_op op_addAll fAdd_ok (se_var 3) (se_int)) (sv_cons (se_var 1) (sv_cons (se_var 2) sv_nil))))) sc_l_right.nd)
    (ss_cons (ss_set 5 (se_mt0 PySem.F.plainAttrs_list PySem.F.slot_list_pop mt_pop isL_ok lPop_ok (se_var 4) (hty := PySem.F.type_list_pop)) sc_l_right.nd)
    (ss_cons (ss_setComp 6 rfl sc_l_right.nd (blkOk_by (own := [("_law_cask_here", 7)]) (show blkC ["_law_box_here", "_law_wares", "_law_yards", "_law_many", "_law_casks_here", "_law_spare", "_law_handed", "_law_cask_here", "_law_kept", "_law_due_here", "_law_turn", "_law_found", "_law_filling", "_law_marks", "_law_way"] (defScope s_l_right) _ _ = true by decide +kernel)) (by decide) (si_v (se_var 4)) (fun s H C cl fp => sn_nm 7 sc_l_right.nd) (fun s H C cl fp => sts_nil) (fun s H C cl fp => (se_if (st_cmp (op_eqAll hr.units) fEq_ok (se_call c_l_take hg hr pas0 (sv_cons (se_var 0) (sv_cons (se_int) sv_nil))) (se_int)) (se_ty call_list_of bList_ok T.m_list (sa_cons (se_var 7) sa_nil)) (se_var 7))) (sw_true rfl rfl rfl (by decide +kernel)))
    (ss_cons (ss_par (sv_cons (se_bi (cr_repr hg hr.units) bRepr_ok T.m_repr (sa_cons (se_var 6) sa_nil)) (sv_cons (se_call c_l_due hg hr tk_of (sv_cons (se_var 4) sv_nil)) sv_nil)) rfl sc_l_right.nd)
    (ss_cons (ss_for po_of rfl (si_r1 T.m_range (se_int)) (sn_nm 10 sc_l_right.nd) (ss_cons (ss_set 11 (se_call c_kin_groups hg hr tk_of (sv_cons (se_if (st_cmp (op_eqAll hr.units) fEq_ok (se_var 10) (se_int)) (se_var 6) (se_ty call_tuple_of bTuple_ok T.m_tuple (sa_cons (se_var 6) sa_nil))) sv_nil)) sc_l_right.nd)
    (ss_cons (ss_if (SW.st (sw_or (st_not (st_val (se_call c_l_same hg hr tk_of (sv_cons (se_var 11) (sv_cons (se_var 9) sv_nil))))) (sw_or1 (st_cmp (op_neAll hr.units) fNe_ok (se_bi (cr_repr hg hr.units) bRepr_ok T.m_repr (sa_cons (se_var 6) sa_nil)) (se_var 8))))) (ss_one (ss_ret (se_bl))) ss_nil)
    (ss_cons (ss_for po_of rfl (si_v (se_var 11)) (sn_tp rfl (sns_cons (sn_nm 12 sc_l_right.nd) (sns_cons (sn_nm 13 sc_l_right.nd) sns_nil))) (ss_one (ss_expr (se_mt PySem.F.plainAttrs_list PySem.F.slot_list_append mt_append isL_ok lAppend_ok (se_var 13) (sv_cons (se_str [122, 122]) sv_nil) (hty := PySem.F.type_list_append)))))
    (ss_one (ss_expr (se_mt0 PySem.F.plainAttrs_list PySem.F.slot_list_reverse mt_reverse isL_ok lReverse_ok (se_var 11) (hty := PySem.F.type_list_reverse))))))))
    (ss_cons (ss_if (SW.st (sw_and (st_cmp (op_neAll hr.units) fNe_ok (se_var 4) (se_lst sv_nil)) (sw_and1 (st_not (st_val (se_call c_l_pairs_right hg hr tk_of (sv_cons (se_var 0) (sv_cons (se_var 6) sv_nil)))))))) (ss_one (ss_ret (se_bl))) ss_nil)
    (ss_cons (ss_set 14 (se_if (st_cmp (op_neAll hr.units) fNe_ok (se_var 4) (se_lst sv_nil)) (se_call c_l_take hg hr tk_of (sv_cons (se_var 0) (sv_cons (se_int) sv_nil))) (se_int)) sc_l_right.nd)
    (ss_cons (ss_if (st_not (st_val (se_call c_l_same hg hr tk_of (sv_cons (se_call c_kin_groups hg hr tk_of (sv_cons (se_var 6) sv_nil)) (sv_cons (se_var 9) sv_nil))))) (ss_one (ss_ret (se_bl))) ss_nil)
    (ss_cons (ss_if (st_cmp (op_eqAll hr.units) fEq_ok (se_var 14) (se_int)) (ss_one (ss_expr (se_mt PySem.F.plainAttrs_list PySem.F.slot_list_insert mt_insert isL_ok lInsert_ok (se_var 6) (sv_cons (se_call c_l_take hg hr tk_of (sv_cons (se_var 0) (sv_cons (se_op op_addAll fAdd_ok (se_bi cr_len bLen_ok T.m_len (sa_cons (se_var 6) sa_nil)) (se_int)) sv_nil))) (sv_cons (se_var 5) sv_nil)) (hty := PySem.F.type_list_insert)))) (ss_one (ss_if (st_cmp (op_eqAll hr.units) fEq_ok (se_var 14) (se_int)) (ss_one (ss_expr (se_mt PySem.F.plainAttrs_list PySem.F.slot_list_pop mt_popAt isL_ok lPopAt_ok (se_var 6) (sv_cons (se_call c_l_take hg hr tk_of (sv_cons (se_var 0) (sv_cons (se_bi cr_len bLen_ok T.m_len (sa_cons (se_var 6) sa_nil)) sv_nil))) sv_nil) (hty := PySem.F.type_list_pop)))) (ss_one (ss_asg (se_var 5) (sg_sub (W := W0) (hu_of hr) (se_var 6) (se_call c_l_take hg hr pas0 (sv_cons (se_var 0) (sv_cons (se_bi cr_len bLen_ok T.m_len (sa_cons (se_var 6) sa_nil)) sv_nil)))))))))
    (ss_one (ss_ret (se_call c_l_same hg hr tk_of (sv_cons (se_call c_kin_groups hg hr tk_of (sv_cons (se_var 6) sv_nil)) (sv_cons (se_call c_l_due hg hr tk_of (sv_cons (se_comp rfl sc_l_right.nd (blkOk_by (own := [("_law_cask_here", 7)]) (show blkC ["_law_box_here", "_law_wares", "_law_yards", "_law_many", "_law_casks_here", "_law_spare", "_law_handed", "_law_cask_here", "_law_kept", "_law_due_here", "_law_turn", "_law_found", "_law_filling", "_law_marks", "_law_way"] (defScope s_l_right) _ _ = true by decide +kernel)) (by decide) (si_v (se_var 6)) (fun s H C cl fp => sn_nm 7 sc_l_right.nd) (fun s H C cl fp => sts_nil) (fun s H C cl fp => (se_ty call_tuple_of bTuple_ok T.m_tuple (sa_cons (se_var 7) sa_nil)))) sv_nil)) sv_nil))))))))))))))))
abbrev s_law : Stmt := topS 16
theorem sc_law : FnScope ["_law_script", "_law_cells", "_law_k"] ["_law_script"] (defScope s_law) := ⟨rfl, rfl, rfl, by decide +kernel, rfl, by decide +kernel, by decide +kernel⟩
theorem ok_law {f : Addr} {fd : FuncData} (F : Fun K "law" "law" s_law f fd) (T : Txt w K mg ca) (c_l_box : Cal P w K mg base ca 26 "_law_box" 2 f_l_box) (c_l_folded : Cal P w K mg base ca 26 "_law_folded" 2 f_l_folded) (c_l_right : Cal P w K mg base ca 26 "_law_right" 1 f_l_right) : FnG P w K mg base 27 f fd ["_law_script"] (spE ⟨K, ca⟩ 1 f_law) := by
  refine fnG_of F sc_law fun cdv A outer s H E hg hr => ?_
  exact (ss_cons (ss_set 1 (se_call c_l_folded hg hr tk_of (sv_cons (se_var 0) (sv_cons (se_int) sv_nil))) sc_law.nd)
    (ss_one (ss_ret (se_bi (cr_all rfl) bAll_ok T.m_all (sa_cons (se_comp rfl sc_law.nd (blkOk_by (own := [("_law_k", 2)]) (show blkC ["_law_script", "_law_cells", "_law_k"] (defScope s_law) _ _ = true by decide +kernel)) (by decide) (si_r1 T.m_range (se_bi (call_max2 rfl) bMax_ok T.m_max (sa_cons (se_int) (sa_cons (se_bi cr_len bLen_ok T.m_len (sa_cons (se_var 1) sa_nil)) sa_nil)))) (fun s H C cl fp => sn_nm 2 sc_law.nd) (fun s H C cl fp => sts_nil) (fun s H C cl fp => (se_call c_l_right hg hr pas0 (sv_cons (se_call c_l_box hg hr pas0 (sv_cons (se_var 1) (sv_cons (se_var 2) sv_nil))) sv_nil)))) sa_nil)))))
end
def fa : List He.Fa := ([.glo "_law_box", .glo "_law_folded", .glo "filling_of", .glo "kin_groups", .glo "_law_take", .glo "_law_names", .glo "_law_same", .glo "_law_ounces", .glo "_law_cask", .glo "_law_casks", .glo "_law_due", .glo "are_kin", .glo "_law_pairs_right", .glo "_law_right", .glo "law", .free "abs", .free "all", .free "bool", .free "divmod", .free "enumerate", .free "int", .free "isinstance", .free "len", .free "list", .free "max", .free "range", .free "repr", .free "set", .free "sorted", .free "str"] : List He.Fa) ++ ([.free "tuple", .free "zip"] : List He.Fa)
def fn : List He.DefD := ([dfn "_law_box" s_l_box, dfn "_law_folded" s_l_folded, dfn "filling_of" s_filling_of, dfn "kin_groups" s_kin_groups, dfn "_law_take" s_l_take, dfn "_law_names" s_l_names, dfn "_law_same" s_l_same, dfn "_law_ounces" s_l_ounces, dfn "_law_cask" s_l_cask, dfn "_law_casks" s_l_casks, dfn "_law_due" s_l_due, dfn "are_kin" s_are_kin, dfn "_law_pairs_right" s_l_pairs_right, dfn "_law_right" s_l_right, dfn "law" s_law] : List He.DefD)
def tfq : Tfq := []
def cls : List Str := ["StoreError", "BadWeight", "BadPart", "Taken", "NoCask", "TooMuch", "NoShip", "NoDeed", "Full", "BadRow", "Hold", "Serving", "Replay", "Account", "Log"]
def exs : List (PySem.W.Frag → Bool) := [fun K => tabNd K tfq]
def ex (K : PySem.W.Frag) : Bool := exs.all fun f => f K
theorem facts {P : Program} {w : World} {K : PySem.W.Frag} {h : Heap} {mg : Str → Option Value} {f : Addr} (X : K.In h) (G : h.Ns mainGlobals mg) (hfa : mg ("law" : Str) = some (.ref f)) (c : He.SaysX fa fn [] (tfs tfq) ex w h K) :
    ∃ (fd : FuncData) (ca : CA) (cs : List (Addr × Addr)), TabF K mg h cs ∧ (∀ t ∈ ca.T, t.1 ∈ cs.map (·.2)) ∧ (∀ (s : Shared) (v : Value), BindsTo s fd ⟨[v], []⟩ [("_law_script", v)]) ∧ ∀ base : Heap, K.In base → base.Ns mainGlobals mg → (∀ p ∈ cs, LamX.TabB base mg p.1 p.2) → FnG P w K mg base 27 f fd ["_law_script"] (spE ⟨K, ca⟩ 1 f_law) := by
  have d := c.t.d
  have xs : exs.all (fun f => f K) = true := c.more
  have nd : tabNd K tfq = true := exs_at xs 0 rfl
  have T : Txt w K mg ⟨clsA cls K, tbs K tfq⟩ := ⟨He.free_ok X G (d.fact 15 (f := .free "abs") rfl),
    He.free_ok X G (d.fact 16 (f := .free "all") rfl),
    He.free_ok X G (d.fact 17 (f := .free "bool") rfl),
    He.free_ok X G (d.fact 18 (f := .free "divmod") rfl),
    He.free_ok X G (d.fact 19 (f := .free "enumerate") rfl),
    He.free_ok X G (d.fact 20 (f := .free "int") rfl),
    He.free_ok X G (d.fact 21 (f := .free "isinstance") rfl),
    He.free_ok X G (d.fact 22 (f := .free "len") rfl),
    He.free_ok X G (d.fact 23 (f := .free "list") rfl),
    He.free_ok X G (d.fact 24 (f := .free "max") rfl),
    He.free_ok X G (d.fact 25 (f := .free "range") rfl),
    He.free_ok X G (d.fact 26 (f := .free "repr") rfl),
    He.free_ok X G (d.fact 27 (f := .free "set") rfl),
    He.free_ok X G (d.fact 28 (f := .free "sorted") rfl),
    He.free_ok X G (d.fact 29 (f := .free "str") rfl),
    He.free_ok X G (d.fact 30 (f := .free "tuple") rfl),
    He.free_ok X G (d.fact 31 (f := .free "zip") rfl)⟩
  obtain ⟨fd0, F0, h0⟩ := fun_at d 0 ("_law_box", none) (st := s_l_box) rfl
  have g0 := He.glo_ok X G (d.fact 0 (f := .glo "_law_box") rfl)
  have b0 := F0.binds (ps := ["_law_script", "_law_k"]) fun _ _ _ _ _ _ us hl => match us, hl with | [_, _], _ => rfl
  obtain ⟨fd1, F1, h1⟩ := fun_at d 1 ("_law_folded", none) (st := s_l_folded) rfl
  have g1 := He.glo_ok X G (d.fact 1 (f := .glo "_law_folded") rfl)
  have b1 := F1.binds (ps := ["_law_script", "_law_size"]) fun _ _ _ _ _ _ us hl => match us, hl with | [_, _], _ => rfl
  obtain ⟨fd2, F2, h2⟩ := fun_at d 2 ("filling_of", none) (st := s_filling_of) rfl
  have g2 := He.glo_ok X G (d.fact 2 (f := .glo "filling_of") rfl)
  have b2 := F2.binds (ps := ["cask"]) fun _ _ _ _ _ _ us hl => match us, hl with | [_], _ => rfl
  obtain ⟨fd3, F3, h3⟩ := fun_at d 3 ("kin_groups", none) (st := s_kin_groups) rfl
  have g3 := He.glo_ok X G (d.fact 3 (f := .glo "kin_groups") rfl)
  have b3 := F3.binds (ps := ["casks"]) fun _ _ _ _ _ _ us hl => match us, hl with | [_], _ => rfl
  obtain ⟨fd4, F4, h4⟩ := fun_at d 4 ("_law_take", none) (st := s_l_take) rfl
  have g4 := He.glo_ok X G (d.fact 4 (f := .glo "_law_take") rfl)
  have b4 := F4.binds (ps := ["_law_box_here", "_law_size"]) fun _ _ _ _ _ _ us hl => match us, hl with | [_, _], _ => rfl
  obtain ⟨fd5, F5, h5⟩ := fun_at d 5 ("_law_names", none) (st := s_l_names) rfl
  have g5 := He.glo_ok X G (d.fact 5 (f := .glo "_law_names") rfl)
  have b5 := F5.binds (ps := ["_law_box_here", "_law_many"]) fun _ _ _ _ _ _ us hl => match us, hl with | [_, _], _ => rfl
  obtain ⟨fd6, F6, h6⟩ := fun_at d 6 ("_law_same", none) (st := s_l_same) rfl
  have g6 := He.glo_ok X G (d.fact 6 (f := .glo "_law_same") rfl)
  have b6 := F6.binds (ps := ["_law_found", "_law_due_here"]) fun _ _ _ _ _ _ us hl => match us, hl with | [_, _], _ => rfl
  obtain ⟨fd7, F7, h7⟩ := fun_at d 7 ("_law_ounces", none) (st := s_l_ounces) rfl
  have g7 := He.glo_ok X G (d.fact 7 (f := .glo "_law_ounces") rfl)
  have b7 := F7.binds (ps := ["_law_box_here", "_law_wide"]) fun _ _ _ _ _ _ us hl => match us, hl with | [_, _], _ => rfl
  obtain ⟨fd8, F8, h8⟩ := fun_at d 8 ("_law_cask", none) (st := s_l_cask) rfl
  have g8 := He.glo_ok X G (d.fact 8 (f := .glo "_law_cask") rfl)
  have b8 := F8.binds (ps := ["_law_box_here", "_law_mark", "_law_wares", "_law_yards"]) fun _ _ _ _ _ _ us hl => match us, hl with | [_, _, _, _], _ => rfl
  obtain ⟨fd9, F9, h9⟩ := fun_at d 9 ("_law_casks", none) (st := s_l_casks) rfl
  have g9 := He.glo_ok X G (d.fact 9 (f := .glo "_law_casks") rfl)
  have b9 := F9.binds (ps := ["_law_box_here", "_law_many", "_law_wares", "_law_yards"]) fun _ _ _ _ _ _ us hl => match us, hl with | [_, _, _, _], _ => rfl
  obtain ⟨fd10, F10, h10⟩ := fun_at d 10 ("_law_due", none) (st := s_l_due) rfl
  have g10 := He.glo_ok X G (d.fact 10 (f := .glo "_law_due") rfl)
  have b10 := F10.binds (ps := ["_law_casks_here"]) fun _ _ _ _ _ _ us hl => match us, hl with | [_], _ => rfl
  obtain ⟨fd11, F11, h11⟩ := fun_at d 11 ("are_kin", none) (st := s_are_kin) rfl
  have g11 := He.glo_ok X G (d.fact 11 (f := .glo "are_kin") rfl)
  have b11 := F11.binds (ps := ["one", "other"]) fun _ _ _ _ _ _ us hl => match us, hl with | [_, _], _ => rfl
  obtain ⟨fd12, F12, h12⟩ := fun_at d 12 ("_law_pairs_right", none) (st := s_l_pairs_right) rfl
  have g12 := He.glo_ok X G (d.fact 12 (f := .glo "_law_pairs_right") rfl)
  have b12 := F12.binds (ps := ["_law_box_here", "_law_casks_here"]) fun _ _ _ _ _ _ us hl => match us, hl with | [_, _], _ => rfl
  obtain ⟨fd13, F13, h13⟩ := fun_at d 13 ("_law_right", none) (st := s_l_right) rfl
  have g13 := He.glo_ok X G (d.fact 13 (f := .glo "_law_right") rfl)
  have b13 := F13.binds (ps := ["_law_box_here"]) fun _ _ _ _ _ _ us hl => match us, hl with | [_], _ => rfl
  obtain ⟨fd14, F14, h14⟩ := fun_at d 14 ("law", none) (st := s_law) rfl
  have g14 := He.glo_ok X G (d.fact 14 (f := .glo "law") rfl)
  have b14 := F14.binds (ps := ["_law_script"]) fun _ _ _ _ _ _ us hl => match us, hl with | [_], _ => rfl
  have e := hfa.symm.trans g14
  cases e
  refine ⟨fd14, ⟨clsA cls K, tbs K tfq⟩, (tfs tfq).map (He.cT K), tab_facts X c, tab_in, law_binds F14 fun _ _ _ _ _ _ _ => rfl, fun base _ _ tb => ?_⟩
  have C0 : Cal P w K mg base ⟨clsA cls K, tbs K tfq⟩ 1 "_law_box" 2 f_l_box := ⟨_, _, _, ok_l_box F0 T , g0, F0.kp, b0⟩
  have C1 : Cal P w K mg base ⟨clsA cls K, tbs K tfq⟩ 1 "_law_folded" 2 f_l_folded := ⟨_, _, _, ok_l_folded F1 T , g1, F1.kp, b1⟩
  have C2 : Cal P w K mg base ⟨clsA cls K, tbs K tfq⟩ 1 "filling_of" 1 f_filling_of := ⟨_, _, _, ok_filling_of F2 T , g2, F2.kp, b2⟩
  have C3 : Cal P w K mg base ⟨clsA cls K, tbs K tfq⟩ 2 "kin_groups" 1 f_kin_groups := ⟨_, _, _, ok_kin_groups F3 T (C2.mono (by decide)), g3, F3.kp, b3⟩
  have C4 : Cal P w K mg base ⟨clsA cls K, tbs K tfq⟩ 1 "_law_take" 2 f_l_take := ⟨_, _, _, ok_l_take F4 T , g4, F4.kp, b4⟩
  have C5 : Cal P w K mg base ⟨clsA cls K, tbs K tfq⟩ 2 "_law_names" 2 f_l_names := ⟨_, _, _, ok_l_names F5 T (C4.mono (by decide)), g5, F5.kp, b5⟩
  have C6 : Cal P w K mg base ⟨clsA cls K, tbs K tfq⟩ 24 "_law_same" 2 f_l_same := ⟨_, _, _, ok_l_same F6 T  g6 F6.kp b6 24, g6, F6.kp, b6⟩
  have C7 : Cal P w K mg base ⟨clsA cls K, tbs K tfq⟩ 2 "_law_ounces" 2 f_l_ounces := ⟨_, _, _, ok_l_ounces F7 T (C4.mono (by decide)), g7, F7.kp, b7⟩
  have C8 : Cal P w K mg base ⟨clsA cls K, tbs K tfq⟩ 3 "_law_cask" 4 f_l_cask := ⟨_, _, _, ok_l_cask F8 T (C4.mono (by decide)) (C7.mono (by decide)), g8, F8.kp, b8⟩
  have C9 : Cal P w K mg base ⟨clsA cls K, tbs K tfq⟩ 4 "_law_casks" 4 f_l_casks := ⟨_, _, _, ok_l_casks F9 T (C4.mono (by decide)) (C5.mono (by decide)) (C8.mono (by decide)), g9, F9.kp, b9⟩
  have C10 : Cal P w K mg base ⟨clsA cls K, tbs K tfq⟩ 1 "_law_due" 1 f_l_due := ⟨_, _, _, ok_l_due F10 T , g10, F10.kp, b10⟩
  have C11 : Cal P w K mg base ⟨clsA cls K, tbs K tfq⟩ 2 "are_kin" 2 f_are_kin := ⟨_, _, _, ok_are_kin F11 T (C2.mono (by decide)), g11, F11.kp, b11⟩
  have C12 : Cal P w K mg base ⟨clsA cls K, tbs K tfq⟩ 25 "_law_pairs_right" 2 f_l_pairs_right := ⟨_, _, _, ok_l_pairs_right F12 T (C2.mono (by decide)) (C4.mono (by decide)) (C6.mono (by decide)) (C11.mono (by decide)), g12, F12.kp, b12⟩
  have C13 : Cal P w K mg base ⟨clsA cls K, tbs K tfq⟩ 26 "_law_right" 1 f_l_right := ⟨_, _, _, ok_l_right F13 T (C3.mono (by decide)) (C4.mono (by decide)) (C5.mono (by decide)) (C6.mono (by decide)) (C9.mono (by decide)) (C10.mono (by decide)) (C12.mono (by decide)), g13, F13.kp, b13⟩
  exact ok_law F14 T (C0.mono (by decide)) (C1.mono (by decide)) (C13.mono (by decide))
end Mi.k15

namespace Pq.k15
open PySem L2 Mi
theorem pu_filling_of : PuF f_filling_of [false] pf_filling_of := pu_f 6 [false] (pu_seq (pu_asg (pu_var 0) (pu_gN (.tp [1, 2, 3, 4, 5])))
    (pu_ret (pu_tup (pu_vCons (pu_var 2) (pu_vCons (pu_var 4) (pu_vCons (pu_var 5) pu_vNil))))))
theorem pu_kin_groups : PuF f_kin_groups [false] pf_kin_groups := pu_f 4 [false] (pu_seq (pu_setA 1 (pu_newT))
    (pu_seq (pu_for (.nm 2) (pu_iV (pu_var 0)) (pu_asg (pu_op f2_add (pu_get2T (pu_var 1) (pu_vCons (pu_call 1 @pu_filling_of (pu_gCons (pu_var 2) pu_gNil)) (pu_vCons (pu_lst pu_vNil) pu_vNil))) (pu_lst (pu_vCons (pu_op f2_ix (pu_var 2) (pu_ci)) pu_vNil))) (pu_gSub 1 (pu_call 1 @pu_filling_of (pu_gCons (pu_var 2) pu_gNil)))))
    (pu_ret (pu_comp (.nm 3) [3] (pu_iV (pu_b fa_sort3K (pu_aCons (pu_var 1) pu_aNil))) pu_yes (pu_tup (pu_vCons (pu_var 3) (pu_vCons (pu_b fa_sorted (pu_aCons (pu_op f2_ix (pu_var 1) (pu_var 3)) pu_aNil)) pu_vNil)))))))
theorem pug_l_same : ∀ n : Nat, PuF (g_l_same n) [false, false] (pg_l_same n)
  | 0 => pu_bad _
  | n + 1 => by
    have hr_l_same := pug_l_same n
    exact pu_f 4 [false, false] (pu_seq (pu_ifS (pu_T (pu_u (f1_isi2 .lst .tup) (pu_var 1))) (pu_seq (pu_ifS (pu_bOr (pu_T (pu_op f2_ne (pu_u (f1_isi .lst) (pu_var 0)) (pu_u (f1_isi .lst) (pu_var 1)))) (pu_T (pu_op f2_ne (pu_u (f1_isi .tup) (pu_var 0)) (pu_u (f1_isi .tup) (pu_var 1))))) (pu_ret (pu_cb)) (pu_nil))
    (pu_ret (pu_and (pu_op f2_eq (pu_b fa_len (pu_aCons (pu_var 0) pu_aNil)) (pu_b fa_len (pu_aCons (pu_var 1) pu_aNil))) (pu_b fa_all (pu_aCons (pu_comp (.tp [2, 3]) [2, 3] (pu_iZ (pu_var 0) (pu_var 1)) pu_yes (pu_call 2 @hr_l_same (pu_gCons (pu_var 2) (pu_gCons (pu_var 3) pu_gNil)))) pu_aNil))))) (pu_nil))
    (pu_seq (pu_ifS (pu_bOr (pu_T (pu_u f1_isN (pu_var 1))) (pu_T (pu_u f1_isN (pu_var 0)))) (pu_ret (pu_and (pu_u f1_isN (pu_var 1)) (pu_u f1_isN (pu_var 0)))) (pu_nil))
    (pu_seq (pu_ifS (pu_T (pu_op f2_ne (pu_u (f1_isi .bool) (pu_var 1)) (pu_u (f1_isi .bool) (pu_var 0)))) (pu_ret (pu_cb)) (pu_nil))
    (pu_ret (pu_and (pu_op f2_eq (pu_u (f1_isi .str) (pu_var 0)) (pu_u (f1_isi .str) (pu_var 1))) (pu_op f2_eq (pu_var 0) (pu_var 1)))))))
theorem pu_l_same : PuF f_l_same [false, false] pf_l_same := pug_l_same 24
theorem pu_l_casks : PuF f_l_casks [true, false, false, false] pf_l_casks := pu_f 7 [true, false, false, false] (pu_seq (pu_parG [4, 5] (pu_gCons (pu_call 2 @pu_l_names (pu_gCons (pu_var 0) (pu_gCons (pu_var 1) pu_gNil))) (pu_gCons (pu_lst pu_vNil) pu_gNil)))
    (pu_seq (pu_for (.nm 6) (pu_iV (pu_var 4)) (pu_expr (pu_mt 5 fl_insert (pu_vCons (pu_call 2 @pu_l_take (pu_gCons (pu_var 0) (pu_gCons (pu_op f2_add (pu_b fa_len (pu_aCons (pu_var 5) pu_aNil)) (pu_ci)) pu_gNil))) (pu_vCons (pu_call 4 @pu_l_cask (pu_gCons (pu_var 0) (pu_gCons (pu_var 6) (pu_gCons (pu_var 2) (pu_gCons (pu_var 3) pu_gNil))))) pu_vNil)))))
    (pu_ret (pu_var 5))))
theorem pu_l_due : PuF f_l_due [false] pf_l_due := pu_f 5 [false] (pu_seq (pu_setA 1 (pu_lst pu_vNil))
    (pu_seq (pu_for (.nm 2) (pu_iV (pu_b fa_sortSet3 (pu_aCons (pu_comp (.nm 3) [3] (pu_iV (pu_var 0)) pu_yes (pu_tup (pu_vCons (pu_op f2_ix (pu_var 3) (pu_ci)) (pu_vCons (pu_op f2_ix (pu_var 3) (pu_ci)) (pu_vCons (pu_op f2_ix (pu_var 3) (pu_ci)) pu_vNil))))) pu_aNil))) (pu_seq (pu_set 4 (pu_b fa_sorted (pu_aCons (pu_comp (.nm 3) [3] (pu_iV (pu_var 0)) (pu_T (pu_op f2_eq (pu_tup (pu_vCons (pu_op f2_ix (pu_var 3) (pu_ci)) (pu_vCons (pu_op f2_ix (pu_var 3) (pu_ci)) (pu_vCons (pu_op f2_ix (pu_var 3) (pu_ci)) pu_vNil)))) (pu_var 2))) (pu_op f2_ix (pu_var 3) (pu_ci))) pu_aNil)))
    (pu_expr (pu_mt 1 fl_append (pu_vCons (pu_tup (pu_vCons (pu_var 2) (pu_vCons (pu_var 4) pu_vNil))) pu_vNil)))))
    (pu_ret (pu_var 1))))
theorem pu_are_kin : PuF f_are_kin [false, false] pf_are_kin := pu_f 2 [false, false] (pu_ret (pu_and (pu_op f2_ne (pu_op f2_ix (pu_var 0) (pu_ci)) (pu_op f2_ix (pu_var 1) (pu_ci))) (pu_op f2_eq (pu_call 1 @pu_filling_of (pu_gCons (pu_var 0) pu_gNil)) (pu_call 1 @pu_filling_of (pu_gCons (pu_var 1) pu_gNil)))))
theorem pu_l_pairs_right : PuF f_l_pairs_right [true, false] pf_l_pairs_right := pu_f 7 [true, false] (pu_seq (pu_for (.nm 2) (pu_iR1 (pu_ci)) (pu_seq (pu_par [3, 4] (pu_vCons (pu_op f2_ix (pu_var 1) (pu_call 2 @pu_l_take (pu_gCons (pu_var 0) (pu_gCons (pu_b fa_len (pu_aCons (pu_var 1) pu_aNil)) pu_gNil)))) (pu_vCons (pu_op f2_ix (pu_var 1) (pu_call 2 @pu_l_take (pu_gCons (pu_var 0) (pu_gCons (pu_b fa_len (pu_aCons (pu_var 1) pu_aNil)) pu_gNil)))) pu_vNil)))
    (pu_seq (pu_set 5 (pu_op f2_eq (pu_op f2_add (pu_b fa_list (pu_aCons (pu_sl (pu_var 3) (pu_oSome (pu_ci)) (pu_oSome (pu_ci))) pu_aNil)) (pu_b fa_list (pu_aCons (pu_sl (pu_var 3) (pu_oSome (pu_ci)) pu_oNone) pu_aNil))) (pu_op f2_add (pu_b fa_list (pu_aCons (pu_sl (pu_var 4) (pu_oSome (pu_ci)) (pu_oSome (pu_ci))) pu_aNil)) (pu_b fa_list (pu_aCons (pu_sl (pu_var 4) (pu_oSome (pu_ci)) pu_oNone) pu_aNil)))))
    (pu_seq (pu_set 5 (pu_and (pu_var 5) (pu_op f2_ne (pu_op f2_ix (pu_var 3) (pu_ci)) (pu_op f2_ix (pu_var 4) (pu_ci)))))
    (pu_seq (pu_for (.nm 6) (pu_iV (pu_tup (pu_vCons (pu_call 2 @pu_are_kin (pu_gCons (pu_var 3) (pu_gCons (pu_var 4) pu_gNil))) (pu_vCons (pu_call 2 @pu_are_kin (pu_gCons (pu_var 4) (pu_gCons (pu_var 3) pu_gNil))) (pu_vCons (pu_call 2 @pu_are_kin (pu_gCons (pu_b fa_list (pu_aCons (pu_var 3) pu_aNil)) (pu_gCons (pu_b fa_tuple (pu_aCons (pu_var 4) pu_aNil)) pu_gNil))) pu_vNil))))) (pu_ifS (pu_bOr (pu_bNot (pu_T (pu_u (f1_isi .bool) (pu_var 6)))) (pu_T (pu_op f2_ne (pu_var 6) (pu_var 5)))) (pu_ret (pu_cb)) (pu_nil)))
    (pu_ifS (pu_bNot (pu_T (pu_call 2 @pu_l_same (pu_gCons (pu_call 1 @pu_filling_of (pu_gCons (pu_var 3) pu_gNil)) (pu_gCons (pu_tup (pu_vCons (pu_op f2_ix (pu_var 3) (pu_ci)) (pu_vCons (pu_op f2_ix (pu_var 3) (pu_ci)) (pu_vCons (pu_op f2_ix (pu_var 3) (pu_ci)) pu_vNil)))) pu_gNil))))) (pu_ret (pu_cb)) (pu_nil)))))))
    (pu_ret (pu_cb)))
theorem pus_l_right_0 : PuS b_l_right_0 pb_l_right_0 := (pu_seq (pu_par [1, 2] (pu_vCons (pu_call 2 @pu_l_names (pu_gCons (pu_var 0) (pu_gCons (pu_op f2_add (pu_ci) (pu_call 2 @pu_l_take (pu_gCons (pu_var 0) (pu_gCons (pu_ci) pu_gNil)))) pu_gNil))) (pu_vCons (pu_call 2 @pu_l_names (pu_gCons (pu_var 0) (pu_gCons (pu_op f2_add (pu_ci) (pu_call 2 @pu_l_take (pu_gCons (pu_var 0) (pu_gCons (pu_ci) pu_gNil)))) pu_gNil))) pu_vNil)))
    (pu_seq (pu_set 3 (pu_op f2_ix (pu_lst (pu_vCons (pu_call 2 @pu_l_take (pu_gCons (pu_var 0) (pu_gCons (pu_ci) pu_gNil))) (pu_vCons (pu_call 2 @pu_l_take (pu_gCons (pu_var 0) (pu_gCons (pu_ci) pu_gNil))) (pu_vCons (pu_ci) pu_vNil)))) (pu_call 2 @pu_l_take (pu_gCons (pu_var 0) (pu_gCons (pu_ci) pu_gNil)))))
    (pu_seq (pu_setA 4 (pu_call 4 @pu_l_casks (pu_gCons (pu_var 0) (pu_gCons (pu_op f2_add (pu_var 3) (pu_ci)) (pu_gCons (pu_var 1) (pu_gCons (pu_var 2) pu_gNil))))))
    (pu_seq (pu_set 5 (pu_mt 4 fl_pop pu_vNil))
    (pu_seq ((pu_frz 4 (pu_set 6 (pu_comp (.nm 7) [7] (pu_iV (pu_var 4)) pu_yes (pu_if (pu_T (pu_op f2_eq (pu_call 2 @pu_l_take (pu_gCons (pu_var 0) (pu_gCons (pu_ci) pu_gNil))) (pu_ci))) (pu_b fa_list (pu_aCons (pu_var 7) pu_aNil)) (pu_var 7))))))
    ((pu_frz 4 (pu_par [8, 9] (pu_vCons (pu_b fa_repr (pu_aCons (pu_var 6) pu_aNil)) (pu_vCons (pu_call 1 @pu_l_due (pu_gCons (pu_var 4) pu_gNil)) pu_vNil))))))))))
theorem pus_l_right_1_0 : PuS b_l_right_1_0 pb_l_right_1_0 := (pu_setA 11 (pu_call 1 @pu_kin_groups (pu_gCons (pu_if (pu_T (pu_op f2_eq (pu_var 10) (pu_ci))) (pu_var 6) (pu_b fa_tuple (pu_aCons (pu_var 6) pu_aNil))) pu_gNil)))
theorem pus_l_right_1_1 : PuS b_l_right_1_1 pb_l_right_1_1 := (pu_ifS (pu_bOr (pu_bNot (pu_T (pu_call 2 @pu_l_same (pu_gCons (pu_var 11) (pu_gCons (pu_var 9) pu_gNil))))) (pu_T (pu_op f2_ne (pu_b fa_repr (pu_aCons (pu_var 6) pu_aNil)) (pu_var 8)))) (pu_ret (pu_cb)) (pu_nil))
theorem pus_l_right_2 : PuS b_l_right_2 pb_l_right_2 := (pu_seq (pu_ifS (pu_bAnd (pu_T (pu_op f2_ne (pu_var 4) (pu_lst pu_vNil))) (pu_bNot (pu_T (pu_call 2 @pu_l_pairs_right (pu_gCons (pu_var 0) (pu_gCons (pu_var 6) pu_gNil)))))) (pu_ret (pu_cb)) (pu_nil))
    (pu_seq (pu_set 14 (pu_if (pu_T (pu_op f2_ne (pu_var 4) (pu_lst pu_vNil))) (pu_call 2 @pu_l_take (pu_gCons (pu_var 0) (pu_gCons (pu_ci) pu_gNil))) (pu_ci)))
    (pu_ifS (pu_bNot (pu_T (pu_call 2 @pu_l_same (pu_gCons (pu_call 1 @pu_kin_groups (pu_gCons (pu_var 6) pu_gNil)) (pu_gCons (pu_var 9) pu_gNil))))) (pu_ret (pu_cb)) (pu_nil))))
theorem pus_l_right_3 : PuS b_l_right_3 pb_l_right_3 := (pu_seq (pu_ifS (pu_T (pu_op f2_eq (pu_var 14) (pu_ci))) (pu_expr (pu_mt 6 fl_insert (pu_vCons (pu_call 2 @pu_l_take (pu_gCons (pu_var 0) (pu_gCons (pu_op f2_add (pu_b fa_len (pu_aCons (pu_var 6) pu_aNil)) (pu_ci)) pu_gNil))) (pu_vCons (pu_var 5) pu_vNil)))) (pu_ifS (pu_T (pu_op f2_eq (pu_var 14) (pu_ci))) (pu_expr (pu_mt 6 fl_popAt (pu_vCons (pu_call 2 @pu_l_take (pu_gCons (pu_var 0) (pu_gCons (pu_b fa_len (pu_aCons (pu_var 6) pu_aNil)) pu_gNil))) pu_vNil))) (pu_asg (pu_var 5) (pu_gSub 6 (pu_call 2 @pu_l_take (pu_gCons (pu_var 0) (pu_gCons (pu_b fa_len (pu_aCons (pu_var 6) pu_aNil)) pu_gNil)))))))
    ((pu_frz 6 (pu_ret (pu_call 2 @pu_l_same (pu_gCons (pu_call 1 @pu_kin_groups (pu_gCons (pu_var 6) pu_gNil)) (pu_gCons (pu_call 1 @pu_l_due (pu_gCons (pu_comp (.nm 7) [7] (pu_iV (pu_var 6)) pu_yes (pu_b fa_tuple (pu_aCons (pu_var 7) pu_aNil))) pu_gNil)) pu_gNil)))))))
end Pq.k15

section
local macro_rules | `(tactic| walk_at "pwp") => `(tactic| simp -implicitDefEqProofs only [Pq.pSortC_ap, Pq.sortCO_s, Pq.pdiC_ap, Pq.qRevA_s, Pq.qRevA_t, Pq.qRevA_l, Pq.pMsN_ap, Pq.msN_s, Pq.msNO_s, Pq.pMi_ap, Pq.miA_b, Pq.miA_i, Pq.miB_s, Pq.miR_s, Pq.qExtend_l, Pq.pBn_ap, Pq.newK_s, Pq.newO_s, Pq.pNewK_ap, Pq.pNewT_ap, Pq.getA_K, Pq.getA_T, Pq.getA_Ki, Pq.getA_Ti, Pq.getB_s, Pq.getR_s, Pq.getR_n, Pq.dgetP_s, Pq.dgetP_i, Pq.dgetP_ss, Pq.dgetP_si, Pq.dgetP_ssi, Pq.ixR_s, Pq.pIx_ds, Pq.pIx_di, Pq.pIx_dt, Pq.pIn_ds, Pq.pIn_dt, Pq.pNotIn_ds, Pq.pNotIn_dt, Pq.inR_s, Pq.inO_f, Pq.inO_t, Pq.setIx_dK, Pq.setIx_dT_ss, Pq.setIx_dT_si, Pq.setIx_dT_ssi, Pq.qSortedK_d, Pq.skK_s, Option.isSome_some, Option.isSome_none, Pq.qListS_s, Pq.qListS_t, Pq.pDispC_ap, Pq.pGet2_ap, Pq.pntL_l, Pq.qIsNo_b, Pq.tyP_k, Pq.pdiZK_ap, Pq.zkK_t, Pq.qLenK_k, Pq.pIsN_k, Pq.flatC_n1, Pq.flatC_n2, Pq.flatC_n3, Pq.flatO_b, Pq.flatO_i, Pq.flatO_s, Pq.pIsN_b, Pq.pIsN_i, Pq.pIsN_s, Pq.pIsN_t, Pq.pIsN_l, Pq.pNotN_b, Pq.pNotN_i, Pq.pNotN_s, Pq.pNotN_t, Pq.pNotN_l, Pq.pdiZ_ap, Pq.zK_l, Pq.zK_t, Pq.pLtT_is, Pq.qIs_b, Pq.qInR_i, Pq.pSortK_ap, Pq.isIo_fw, Pq.pIn_t2, Pq.pNotIn_t2, Pq.pRev_t, Pq.pRev_l, Pq.pIn_sc, Pq.pIn_strs, Pq.qsJoin_l, Pq.pMs_ap, Pq.msK_s, Pq.ms2_s, Pq.wq_ms2i, Pq.wf_run, Pq.wf_ok, Pq.wf_ex, Pq.ws_nil, Pq.ws_seq, Pq.ws_ret, Pq.ws_retN, Pq.ws_raise, Pq.ws_expr, Pq.ws_set, Pq.ws_setA, Pq.wsetA_im, Pq.wsetA_ow, Pq.ws_if, Pq.ws_brk, Pq.ws_cnt, Pq.ws_aug, Pq.ws_par, Pq.ws_parG, Pq.ws_asg, Pq.ws_frz, Pq.ws_for, Pq.frz_0, Pq.frz_0i, Pq.frz_0n, Pq.frz_0o, Pq.frz_s, Pq.wg_go, Pq.wi_t, Pq.wi_f, Pq.wn_t, Pq.wq_ok, Pq.wq_ex, Pq.wq_bind, Pq.wq_optS, Pq.wq_gd, Pq.wq_szs, Pq.wq_optI, Pq.wq_ite, Pq.wq_br, Pq.bq_ok, Pq.brq_t, Pq.brq_f, Pq.wo_s, Pq.wo_n, Pq.wo_ite, Pq.wo_some_ite, Pq.wo_sub, Pq.pVar_s, Pq.pVar_im, Pq.pVar_ow, Pq.pVar_io, Pq.ps_0, Pq.ps_s, Pq.pC_ap, Pq.pOp_ap, Pq.pU_ap, Pq.pT_ap, Pq.pbAnd_ap, Pq.pbOr_ap, Pq.pbNot_ap, Pq.pAnd_ap, Pq.pOr_ap, Pq.pNot_ap, Pq.pIf_ap, Pq.pCh_ap, Pq.pCh3_ap, Pq.pasB_b, Pq.see2_e, Pq.see1_e, Pq.seeA_e, Pq.opt2_s, Pq.opt1_s, Pq.optA_s, Pq.pv_im, Pq.pv_ow, Pq.pv_br, Pq.ownK_ow, Pq.ownK_io, Pq.pvAll_n, Pq.pvAll_c, Pq.pvC_s, Pq.paNil_ap, Pq.paCons_ap, Pq.pB_ap, Pq.poI_im, Pq.poI_ow, Pq.pvNil_ap, Pq.pvCons_ap, Pq.pTup_ap, Pq.pLst_ap, Pq.pgNil_ap, Pq.pgCons_ap, Pq.argO_1, Pq.argO_2, Pq.argO_3, Pq.argO_4, Pq.argO_5, Pq.pNone_ap, Pq.asIq_i, Pq.pSome_ap, Pq.pSl_ap, Pq.pCall_ap, Pq.wq_call, Pq.callOk_e, Pq.brs_n, Pq.brs_br, Pq.brs_im, Pq.brs_ow, Pq.owc_n, Pq.owc_br, Pq.owc_im, Pq.owc_ow, Pq.nodB_n, Pq.nodB_1, Pq.nodB_2, Pq.nodB_3, Pq.imb_n, Pq.imb_f, Pq.imb_t, Pq.imb_fi, Pq.imb_fo, Pq.callFl_e, Pq.isE_n, Pq.isE_c, Pq.putO_n, Pq.putO_b, Pq.putO_f, Pq.putO_im, Pq.putO_ow, Pq.upd_0, Pq.upd_s, Pq.PS_put_im, Pq.PS_put_ow, Pq.PS_put_io, Pq.pAdd_ii, Pq.pAdd_ss, Pq.pAdd_ll, Pq.pAdd_tt, Pq.pSub_ii, Pq.pMul_ii, Pq.pMul_si, Pq.pMul_li, Pq.pMod_ii, Pq.pFdiv_ii, Pq.pPow_ii, Pq.pNeg_i, Pq.pLt_ii, Pq.pLe_ii, Pq.pGt_ii, Pq.pGe_ii, Pq.pLt_ss, Pq.pLe_ss, Pq.pAddI_ii, Pq.pAddI_ss, Pq.ixK_s, Pq.pIx_l, Pq.pIx_t, Pq.pIx_f, Pq.pSlF_l, Pq.pSlF_t, Pq.pSlF_f, Pq.pSlF_s, Pq.pEq_ii, Pq.pNe_ii, Pq.pEq_ss, Pq.pNe_ss, Pq.pEq_bb, Pq.pNe_bb, Pq.pIsN_n, Pq.pNotN_n, Pq.qLen_l, Pq.qLen_t, Pq.qLen_f, Pq.qLen_d, Pq.qLen_s, Pq.qAbs_i, Pq.qInt_i, Pq.qInt_b, Pq.qMax_ii, Pq.qMin_ii, Pq.qDivmod_ii, Pq.qList_l, Pq.qList_t, Pq.qList_f, Pq.qTuple_l, Pq.qTuple_t, Pq.qTuple_f, Pq.qStr_s, Pq.qStr_i, Pq.qStr_b, Pq.qStr_n, Pq.qIsi_e, Pq.qIsi2_e, Pq.tyP_1, Pq.tyP_2, Pq.tyP_3, Pq.tyP_4, Pq.tyP_5, Pq.tyP_6, Pq.tyP_7, Pq.tyP_8, Pq.sb_00, Pq.sb_01, Pq.sb_02, Pq.sb_03, Pq.sb_04, Pq.sb_05, Pq.sb_06, Pq.sb_10, Pq.sb_11, Pq.sb_12, Pq.sb_13, Pq.sb_14, Pq.sb_15, Pq.sb_16, Pq.sb_20, Pq.sb_21, Pq.sb_22, Pq.sb_23, Pq.sb_24, Pq.sb_25, Pq.sb_26, Pq.sb_30, Pq.sb_31, Pq.sb_32, Pq.sb_33, Pq.sb_34, Pq.sb_35, Pq.sb_36, Pq.sb_40, Pq.sb_41, Pq.sb_42, Pq.sb_43, Pq.sb_44, Pq.sb_45, Pq.sb_46, Pq.sb_50, Pq.sb_51, Pq.sb_52, Pq.sb_53, Pq.sb_54, Pq.sb_55, Pq.sb_56, Pq.sb_60, Pq.sb_61, Pq.sb_62, Pq.sb_63, Pq.sb_64, Pq.sb_65, Pq.sb_66, Pq.retO_im, Pq.retO_ow, Pq.retO_br, Pq.retK_s, Pq.isIo_fv, Pq.notOwn_fv, Pq.frz_fv, Pq.isIo_im, Pq.isIo_ow, Pq.isIo_io, Pq.isIo_n, Pq.isIo_s, Pq.pset_n, Pq.pset_c, Pq.psetG_n, Pq.psetG_i, Pq.psetG_o, Pq.pnt_nm, Pq.pnt_tp, Pq.pnt_tpl, Pq.ex_im, Pq.setIx_li, Pq.setK_s, Pq.prunT_n, Pq.prunT_c, Pq.pgT_t, Pq.wq_mt, Pq.isLK_s, Pq.mtK_s, Pq.qAppend_1, Pq.qReverse_0, Pq.qClear_0, Pq.qInsert_2, Pq.okw_n, Pq.all_n, Pq.pdiV_ap, Pq.pitV_e, Pq.pitK_l, Pq.pitK_lo, Pq.pitK_lb, Pq.pitK_t, Pq.pitK_f, Pq.pitK_s, Pq.pdiR1_ap, Pq.pdiR2_ap, Pq.pdiR1_e, Pq.pdiR2_e, Pq.pdiE_ap, Pq.penO_ol, Pq.penO_il, Pq.wq_comp, Pq.pYes_ap, Pq.wipeP_n, Pq.wipeP_c, Pq.restP_n, Pq.restP_c, Pq.notOwn_0, Pq.notOwn_1, Pq.notOwn_2, Pq.notOwn_3, Pq.notOwn_s, Pq.all_c, Pq.all_e, Pq.Kf_nx, Pq.Kf_rt, Pq.Kf_ex, Pq.wout_e, Pq.outK_n, Pq.outK_f, Pq.outK_t, Pq.contK_s, Pq.start_n, Pq.start_t, Pq.start_f, Pq.Kin_nx, Pq.Kin_ct, Pq.Kin_bk, Pq.Kin_rt, Pq.Kin_ex, Pq.atI_0, Pq.atI_1, Pq.atI_2, Pq.atI_3, Pq.atI_4, List.set_cons_succ, List.set_cons_zero, List.map_cons, List.map_nil, List.cons_append, List.nil_append, List.length_cons, List.length_nil, List.replicate_succ, List.replicate_zero, List.append_nil, Nat.reduceSub, Nat.reduceAdd, Nat.reduceMul, Int.reduceAdd, Int.reduceSub, Int.reduceMul, Int.reduceNeg, Int.reduceLT, Int.reduceLE, Nat.reduceLeDiff, Nat.reduceLT, decide_true, decide_false, Int.reduceToNat, Bool.not_true, Bool.not_false, and_true, true_and, and_self, true_or, or_true, List.set_nil, Int.reduceMod, Int.reduceDiv, Int.reducePow, Int.cast_ofNat_Int, Int.reduceEq, Int.reduceNe, Nat.reduceEqDiff, eq_self, false_and, and_false, Nat.zero_add, Int.zero_add, Int.add_zero, or_false, false_or, Option.getD_some, Option.getD_none, List.getElem?_cons_zero, List.getElem?_cons_succ, reduceIte, Bool.and_self, Bool.or_self, Bool.and_true, Bool.true_and, Bool.and_false, Bool.false_and, Bool.or_true, Bool.or_false, Bool.true_or, Bool.false_or, Bool.false_eq_true, Bool.true_eq_false, not_true_eq_false, not_false_eq_true])
namespace Pq.k15
open PySem L2 Mi PyProof.Rows
structure Ck where
  s : List Nat
  w : List Nat
  o : Int
  y : List Nat
  f : Int
def Ck.xs (c : Ck) : List PV := [.str c.s, .str c.w, .int c.o, .str c.y, .int c.f]
def Ck.v (c : Ck) : PV := .tup c.xs
def cv (p : Bool × Ck) : PV := if p.1 then .lst p.2.xs else .tup p.2.xs
theorem cv_seq (p : Bool × Ck) : seqP (cv p) = some p.2.xs := by
  unfold cv; cases p.1 <;> rfl
theorem qTuple_cv (p : Bool × Ck) : qTuple [cv p] = some (.im p.2.v) := by
  simp only [qTuple, cv_seq, Option.map_some]; rfl
theorem pIx_cv (p : Bool × Ck) (i : Int) : pIx (cv p) (.int i) = ixK (atI p.2.xs i) := by
  unfold cv; cases p.1 <;> simp only [Bool.false_eq_true, if_false, if_true, pIx_l, pIx_t]
theorem xs4 (c : Ck) : atI c.xs 4 = some (.int c.f) := rfl
theorem xs0 (c : Ck) : atI c.xs 0 = some (.str c.s) := rfl
inductive Pl : Nat → PV → Prop
  | non (n : Nat) : Pl n .non
  | bl (n : Nat) (b : Bool) : Pl n (.bl b)
  | int (n : Nat) (i : Int) : Pl n (.int i)
  | str (n : Nat) (s : List Nat) : Pl n (.str s)
  | tup (n : Nat) (xs : List PV) : xs.length ≤ 1000 → (∀ x ∈ xs, Pl n x) → Pl (n + 1) (.tup xs)
  | lst (n : Nat) (xs : List PV) : xs.length ≤ 1000 → (∀ x ∈ xs, Pl n x) → Pl (n + 1) (.lst xs)
theorem same_ok : ∀ (n : Nat) (x : PV) {P : PO → List PV → Prop} {X : XF}, Pl n x → P (.im (.bl true)) [.non, .non] → @wf (pg_l_same (n + 1) [x, x]) ⟨P⟩ ⟨X⟩
  | n, x, P, X, h, k => by
    unfold pg_l_same pb_l_same
    cases h with
    | non =>
      (repeat (first | walk_at "pwp" | refine wn_i (by omega) ?_))
      exact k
    | bl b =>
      (repeat (first | walk_at "pwp" | refine wn_i (by omega) ?_))
      exact k
    | int i =>
      (repeat (first | walk_at "pwp" | refine wn_i (by omega) ?_))
      exact k
    | str s =>
      (repeat (first | walk_at "pwp" | refine wn_i (by omega) ?_))
      exact k
    | tup n xs hl hx =>
      (repeat (first | walk_at "pwp" | refine wn_i (by omega) ?_))
      refine wn_i (by rw [zipP_self]; simp; omega) ?_
      simp only [zipP_self]
      refine wq_map (fun _ => .bl true) _ (fun y hy => ?_) ?_
      · obtain ⟨x, hm, rfl⟩ := List.mem_map.mp hy
        (repeat (first | walk_at "pwp" | refine wn_i (by omega) ?_))
        refine same_ok n x (hx x hm) ?_
        (repeat (first | walk_at "pwp" | refine wn_i (by omega) ?_))
      · have q : qAll [.lst ((xs.map fun x => PV.tup [x, x]).map fun _ => PV.bl true)] = some (.im (.bl true)) := qAll_t (by simp)
        (repeat (first | walk_at "pwp" | refine wn_i (by omega) ?_ | simp only [q]))
        exact k
    | lst n xs hl hx =>
      (repeat (first | walk_at "pwp" | refine wn_i (by omega) ?_))
      refine wn_i (by rw [zipP_self]; simp; omega) ?_
      simp only [zipP_self]
      refine wq_map (fun _ => .bl true) _ (fun y hy => ?_) ?_
      · obtain ⟨x, hm, rfl⟩ := List.mem_map.mp hy
        (repeat (first | walk_at "pwp" | refine wn_i (by omega) ?_))
        refine same_ok n x (hx x hm) ?_
        (repeat (first | walk_at "pwp" | refine wn_i (by omega) ?_))
      · have q : qAll [.lst ((xs.map fun x => PV.tup [x, x]).map fun _ => PV.bl true)] = some (.im (.bl true)) := qAll_t (by simp)
        (repeat (first | walk_at "pwp" | refine wn_i (by omega) ?_ | simp only [q]))
        exact k
structure COk (c : Ck) : Prop where
  s : Nm c.s
  w : Nm c.w
  y : Nm c.y
  o : c.o.natAbs ≤ 1000000000
  f : c.f.natAbs ≤ 10000
theorem nm_sm {n : Nat} {s : List Nat} (h : Nm s) : Sm n 120 (.str s) := sm_str (fun c hc => by
    have := h.2.2 c hc
    simp only [abc, List.mem_cons, List.not_mem_nil, or_false] at this
    omega) (by have := h.2.1; omega)
theorem xs_sm {n : Nat} {c : Ck} (h : COk c) : Sms n 700 c.xs := by
  have ho := h.o; have hf := h.f
  exact sms_cons (a := 120) (b := 484) (nm_sm h.s) (sms_cons (a := 120) (b := 363) (nm_sm h.w) (sms_cons (a := 120) (b := 242) (sm_int (by omega)) (sms_cons (a := 120) (b := 121) (nm_sm h.y) (sms_cons (a := 120) (b := 0) (sm_int (by omega)) sms_nil))))
theorem cv_sm {p : Bool × Ck} (h : COk p.2) : Sm 2 700 (cv p) := by
  unfold cv
  cases p.1
  · exact (sm_tup (n := 1) (xs_sm h))
  · exact (sm_lst (n := 1) (xs_sm h))
theorem handed_tok {ps : List (Bool × Ck)} (h : ∀ p ∈ ps, COk p.2) (l : ps.length ≤ 50) : (PV.lst (ps.map cv)).tok = true := by
  have : Sms 2 (701 * (ps.map cv).length) (ps.map cv) := sms_all fun x hx => by
    obtain ⟨p, hp, rfl⟩ := List.mem_map.mp hx
    exact cv_sm (h p hp)
  exact (sm_lst this).tok (by decide) (by simp; omega)
theorem casks_ok {b : PV} {k m : Nat} {us ys : List (List Nat)} {P : PO → List PV → Prop} {X : XF} (B : Bx k b) (hk : 20 * m + 10 ≤ k) (hm : m ≤ 50) (w0 : us ≠ []) (y0 : ys ≠ []) (wl : us.length ≤ 100) (yl : ys.length ≤ 100) (nu : ∀ u ∈ us, Nm u) (ny : ∀ u ∈ ys, Nm u)
    (g : ∀ (cs : List Ck) b', cs.length = m → (∀ c ∈ cs, COk c) → (cs.map (·.s)).Nodup → Bx (k - (20 * m + 10)) b' → P (.ow (.lst (cs.map Ck.v))) [b', .non, .non, .non]) : @wf (pf_l_casks [b, .int m, .lst (us.map PV.str), .lst (ys.map PV.str)]) ⟨P⟩ ⟨X⟩ := by
  unfold pf_l_casks pb_l_casks
  (repeat (first | walk_at "pwp" | refine wn_i (by omega) ?_))
  refine names_ok B (by omega) (by omega) fun zs b1 zl hz nd B1 => ?_
  (repeat (first | walk_at "pwp" | refine wn_i (by omega) ?_))
  refine ws_forM PV.str (fun don xs π => ∃ (b : PV) (cs : List Ck) (u : Option PV), Bx (k - (20 * m + 10) + 10 * xs.length) b ∧ cs.length = don.length ∧ (∀ c ∈ cs, COk c) ∧ (cs.map (·.s)).Perm don ∧
    π = [some (.io b), some (.im (.int m)), some (.im (.lst (us.map PV.str))), some (.im (.lst (ys.map PV.str))), some (.im (.lst (zs.map PV.str))), some (.ow (.lst (cs.map Ck.v))), fv u]) zs [] zs _ rfl ⟨b1, [], none, B1.mono (by omega), rfl, by simp, by simp, rfl⟩ ?_ ?_
  · rintro don z xs π hall ⟨b, cs, u, B, cl, hc, hp, rfl⟩
    have hl := congrArg List.length hall
    simp only [List.length_append, List.length_cons] at hl B
    (repeat (first | walk_at "pwp" | refine wn_i (by omega) ?_))
    refine take_ok B (by omega) (by omega) (by simp; omega) fun t b2 t0 t1 B2 => ?_
    (repeat (first | walk_at "pwp" | refine wn_i (by omega) ?_))
    refine mk_ok B2 (by omega) w0 y0 wl yl fun w y o f b3 hw hy o0 o1 f0 f1 B3 => ?_
    (repeat (first | walk_at "pwp" | refine wn_i (by omega) ?_))
    refine wn_i ⟨by simp; omega, t0, by simp at t1; omega⟩ ?_
    (repeat (first | walk_at "pwp" | refine wn_i (by omega) ?_))
    refine ⟨b3, cs.take t.toNat ++ [⟨z, w, o, y, f⟩] ++ cs.drop t.toNat, some (.str z), B3.mono (by omega), ?_, ?_, ?_, ?_⟩
    · simp only [List.length_append, List.length_take, List.length_drop, List.length_cons, List.length_nil]; omega
    · intro c hcm
      have nz : Nm z := hz z (by rw [← hall]; simp)
      simp only [List.mem_append, List.mem_singleton] at hcm
      rcases hcm with (h | rfl) | h
      · exact hc c (List.mem_of_mem_take h)
      · exact ⟨nz, nu _ hw, ny _ hy, show o.natAbs ≤ _ by omega, show f.natAbs ≤ _ by omega⟩
      · exact hc c (List.mem_of_mem_drop h)
    · have e : (cs.take t.toNat ++ [(⟨z, w, o, y, f⟩ : Ck)] ++ cs.drop t.toNat).Perm (⟨z, w, o, y, f⟩ :: cs) := by
        simp only [List.append_assoc, List.singleton_append]
        have := List.perm_middle (a := (⟨z, w, o, y, f⟩ : Ck)) (l₁ := cs.take t.toNat) (l₂ := cs.drop t.toNat)
        rwa [List.take_append_drop] at this
      refine (e.map (·.s)).trans ?_
      simp only [List.map_cons]
      exact (hp.cons z).trans (List.perm_append_singleton z don).symm
    · simp [fv, Ck.v, Ck.xs, List.map_take, List.map_drop]
  · rintro π ⟨b, cs, u, B, cl, hc, hp, rfl⟩
    (repeat (first | walk_at "pwp" | refine wn_i (by omega) ?_))
    exact g cs b (by omega) hc (hp.nodup_iff.mpr nd) (B.mono (by simp))
theorem eq_nil (cs : List Ck) : pEq (.lst (cs.map Ck.v)) (.lst []) = some (.im (.bl (decide (cs = [])))) := by
  have o : PV.okds 15 (cs.map Ck.v) = true := by
    induction cs with
    | nil => simp [PV.okds]
    | cons c cs ih => simp [PV.okds, Ck.v, Ck.xs, PV.okd, ih]
  cases cs with
  | nil => simp [pEq, pEqB, PV.okd, PV.okds, PV.eqv, PV.eqvs]
  | cons c cs => simp [pEq, pEqB, PV.okd, PV.okds, PV.eqv, PV.eqvs] at o ⊢; exact o
end Pq.k15

end
section
local macro_rules | `(tactic| walk_at "pwp") => `(tactic| simp -implicitDefEqProofs only [Pq.pSortC_ap, Pq.sortCO_s, Pq.pdiC_ap, Pq.qRevA_s, Pq.qRevA_t, Pq.qRevA_l, Pq.pMsN_ap, Pq.msN_s, Pq.msNO_s, Pq.pMi_ap, Pq.miA_b, Pq.miA_i, Pq.miB_s, Pq.miR_s, Pq.qExtend_l, Pq.pBn_ap, Pq.newK_s, Pq.newO_s, Pq.pNewK_ap, Pq.pNewT_ap, Pq.getA_K, Pq.getA_T, Pq.getA_Ki, Pq.getA_Ti, Pq.getB_s, Pq.getR_s, Pq.getR_n, Pq.dgetP_s, Pq.dgetP_i, Pq.dgetP_ss, Pq.dgetP_si, Pq.dgetP_ssi, Pq.ixR_s, Pq.pIx_ds, Pq.pIx_di, Pq.pIx_dt, Pq.pIn_ds, Pq.pIn_dt, Pq.pNotIn_ds, Pq.pNotIn_dt, Pq.inR_s, Pq.inO_f, Pq.inO_t, Pq.setIx_dK, Pq.setIx_dT_ss, Pq.setIx_dT_si, Pq.setIx_dT_ssi, Pq.qSortedK_d, Pq.skK_s, Option.isSome_some, Option.isSome_none, Pq.qListS_s, Pq.qListS_t, Pq.pDispC_ap, Pq.pGet2_ap, Pq.pntL_l, Pq.qIsNo_b, Pq.tyP_k, Pq.pdiZK_ap, Pq.zkK_t, Pq.qLenK_k, Pq.pIsN_k, Pq.flatC_n1, Pq.flatC_n2, Pq.flatC_n3, Pq.flatO_b, Pq.flatO_i, Pq.flatO_s, Pq.pIsN_b, Pq.pIsN_i, Pq.pIsN_s, Pq.pIsN_t, Pq.pIsN_l, Pq.pNotN_b, Pq.pNotN_i, Pq.pNotN_s, Pq.pNotN_t, Pq.pNotN_l, Pq.pdiZ_ap, Pq.zK_l, Pq.zK_t, Pq.pLtT_is, Pq.qIs_b, Pq.qInR_i, Pq.pSortK_ap, Pq.isIo_fw, Pq.pIn_t2, Pq.pNotIn_t2, Pq.pRev_t, Pq.pRev_l, Pq.pIn_sc, Pq.pIn_strs, Pq.qsJoin_l, Pq.pMs_ap, Pq.msK_s, Pq.ms2_s, Pq.wq_ms2i, Pq.wf_run, Pq.wf_ok, Pq.wf_ex, Pq.ws_nil, Pq.ws_seq, Pq.ws_ret, Pq.ws_retN, Pq.ws_raise, Pq.ws_expr, Pq.ws_set, Pq.ws_setA, Pq.wsetA_im, Pq.wsetA_ow, Pq.ws_if, Pq.ws_brk, Pq.ws_cnt, Pq.ws_aug, Pq.ws_par, Pq.ws_parG, Pq.ws_asg, Pq.ws_frz, Pq.ws_for, Pq.frz_0, Pq.frz_0i, Pq.frz_0n, Pq.frz_0o, Pq.frz_s, Pq.wg_go, Pq.wi_t, Pq.wi_f, Pq.wn_t, Pq.wq_ok, Pq.wq_ex, Pq.wq_bind, Pq.wq_optS, Pq.wq_gd, Pq.wq_szs, Pq.wq_optI, Pq.wq_ite, Pq.wq_br, Pq.bq_ok, Pq.brq_t, Pq.brq_f, Pq.wo_s, Pq.wo_n, Pq.wo_ite, Pq.wo_some_ite, Pq.wo_sub, Pq.pVar_s, Pq.pVar_im, Pq.pVar_ow, Pq.pVar_io, Pq.ps_0, Pq.ps_s, Pq.pC_ap, Pq.pOp_ap, Pq.pU_ap, Pq.pT_ap, Pq.pbAnd_ap, Pq.pbOr_ap, Pq.pbNot_ap, Pq.pAnd_ap, Pq.pOr_ap, Pq.pNot_ap, Pq.pIf_ap, Pq.pCh_ap, Pq.pCh3_ap, Pq.pasB_b, Pq.see2_e, Pq.see1_e, Pq.seeA_e, Pq.opt2_s, Pq.opt1_s, Pq.optA_s, Pq.pv_im, Pq.pv_ow, Pq.pv_br, Pq.ownK_ow, Pq.ownK_io, Pq.pvAll_n, Pq.pvAll_c, Pq.pvC_s, Pq.paNil_ap, Pq.paCons_ap, Pq.pB_ap, Pq.poI_im, Pq.poI_ow, Pq.pvNil_ap, Pq.pvCons_ap, Pq.pTup_ap, Pq.pLst_ap, Pq.pgNil_ap, Pq.pgCons_ap, Pq.argO_1, Pq.argO_2, Pq.argO_3, Pq.argO_4, Pq.argO_5, Pq.pNone_ap, Pq.asIq_i, Pq.pSome_ap, Pq.pSl_ap, Pq.pCall_ap, Pq.wq_call, Pq.callOk_e, Pq.brs_n, Pq.brs_br, Pq.brs_im, Pq.brs_ow, Pq.owc_n, Pq.owc_br, Pq.owc_im, Pq.owc_ow, Pq.nodB_n, Pq.nodB_1, Pq.nodB_2, Pq.nodB_3, Pq.imb_n, Pq.imb_f, Pq.imb_t, Pq.imb_fi, Pq.imb_fo, Pq.callFl_e, Pq.isE_n, Pq.isE_c, Pq.putO_n, Pq.putO_b, Pq.putO_f, Pq.putO_im, Pq.putO_ow, Pq.upd_0, Pq.upd_s, Pq.PS_put_im, Pq.PS_put_ow, Pq.PS_put_io, Pq.pAdd_ii, Pq.pAdd_ss, Pq.pAdd_ll, Pq.pAdd_tt, Pq.pSub_ii, Pq.pMul_ii, Pq.pMul_si, Pq.pMul_li, Pq.pMod_ii, Pq.pFdiv_ii, Pq.pPow_ii, Pq.pNeg_i, Pq.pLt_ii, Pq.pLe_ii, Pq.pGt_ii, Pq.pGe_ii, Pq.pLt_ss, Pq.pLe_ss, Pq.pAddI_ii, Pq.pAddI_ss, Pq.ixK_s, Pq.pIx_l, Pq.pIx_t, Pq.pIx_f, Pq.pSlF_l, Pq.pSlF_t, Pq.pSlF_f, Pq.pSlF_s, Pq.pEq_ii, Pq.pNe_ii, Pq.pEq_ss, Pq.pNe_ss, Pq.pEq_bb, Pq.pNe_bb, Pq.pIsN_n, Pq.pNotN_n, Pq.qLen_l, Pq.qLen_t, Pq.qLen_f, Pq.qLen_d, Pq.qLen_s, Pq.qAbs_i, Pq.qInt_i, Pq.qInt_b, Pq.qMax_ii, Pq.qMin_ii, Pq.qDivmod_ii, Pq.qList_l, Pq.qList_t, Pq.qList_f, Pq.qTuple_l, Pq.qTuple_t, Pq.qTuple_f, Pq.qStr_s, Pq.qStr_i, Pq.qStr_b, Pq.qStr_n, Pq.qIsi_e, Pq.qIsi2_e, Pq.tyP_1, Pq.tyP_2, Pq.tyP_3, Pq.tyP_4, Pq.tyP_5, Pq.tyP_6, Pq.tyP_7, Pq.tyP_8, Pq.sb_00, Pq.sb_01, Pq.sb_02, Pq.sb_03, Pq.sb_04, Pq.sb_05, Pq.sb_06, Pq.sb_10, Pq.sb_11, Pq.sb_12, Pq.sb_13, Pq.sb_14, Pq.sb_15, Pq.sb_16, Pq.sb_20, Pq.sb_21, Pq.sb_22, Pq.sb_23, Pq.sb_24, Pq.sb_25, Pq.sb_26, Pq.sb_30, Pq.sb_31, Pq.sb_32, Pq.sb_33, Pq.sb_34, Pq.sb_35, Pq.sb_36, Pq.sb_40, Pq.sb_41, Pq.sb_42, Pq.sb_43, Pq.sb_44, Pq.sb_45, Pq.sb_46, Pq.sb_50, Pq.sb_51, Pq.sb_52, Pq.sb_53, Pq.sb_54, Pq.sb_55, Pq.sb_56, Pq.sb_60, Pq.sb_61, Pq.sb_62, Pq.sb_63, Pq.sb_64, Pq.sb_65, Pq.sb_66, Pq.retO_im, Pq.retO_ow, Pq.retO_br, Pq.retK_s, Pq.isIo_fv, Pq.notOwn_fv, Pq.frz_fv, Pq.isIo_im, Pq.isIo_ow, Pq.isIo_io, Pq.isIo_n, Pq.isIo_s, Pq.pset_n, Pq.pset_c, Pq.psetG_n, Pq.psetG_i, Pq.psetG_o, Pq.pnt_nm, Pq.pnt_tp, Pq.pnt_tpl, Pq.ex_im, Pq.setIx_li, Pq.setK_s, Pq.prunT_n, Pq.prunT_c, Pq.pgT_t, Pq.wq_mt, Pq.isLK_s, Pq.mtK_s, Pq.qAppend_1, Pq.qReverse_0, Pq.qClear_0, Pq.qInsert_2, Pq.okw_n, Pq.all_n, Pq.pdiV_ap, Pq.pitV_e, Pq.pitK_l, Pq.pitK_lo, Pq.pitK_lb, Pq.pitK_t, Pq.pitK_f, Pq.pitK_s, Pq.pdiR1_ap, Pq.pdiR2_ap, Pq.pdiR1_e, Pq.pdiR2_e, Pq.pdiE_ap, Pq.penO_ol, Pq.penO_il, Pq.wq_comp, Pq.pYes_ap, Pq.wipeP_n, Pq.wipeP_c, Pq.restP_n, Pq.restP_c, Pq.notOwn_0, Pq.notOwn_1, Pq.notOwn_2, Pq.notOwn_3, Pq.notOwn_s, Pq.all_c, Pq.all_e, Pq.Kf_nx, Pq.Kf_rt, Pq.Kf_ex, Pq.wout_e, Pq.outK_n, Pq.outK_f, Pq.outK_t, Pq.contK_s, Pq.start_n, Pq.start_t, Pq.start_f, Pq.Kin_nx, Pq.Kin_ct, Pq.Kin_bk, Pq.Kin_rt, Pq.Kin_ex, Pq.atI_0, Pq.atI_1, Pq.atI_2, Pq.atI_3, Pq.atI_4, List.set_cons_succ, List.set_cons_zero, List.map_cons, List.map_nil, List.cons_append, List.nil_append, List.length_cons, List.length_nil, List.replicate_succ, List.replicate_zero, List.append_nil, Nat.reduceSub, Nat.reduceAdd, Nat.reduceMul, Int.reduceAdd, Int.reduceSub, Int.reduceMul, Int.reduceNeg, Int.reduceLT, Int.reduceLE, Nat.reduceLeDiff, Nat.reduceLT, decide_true, decide_false, Int.reduceToNat, Bool.not_true, Bool.not_false, and_true, true_and, and_self, true_or, or_true, List.set_nil, Int.reduceMod, Int.reduceDiv, Int.reducePow, Int.cast_ofNat_Int, Int.reduceEq, Int.reduceNe, Nat.reduceEqDiff, eq_self, false_and, and_false, Nat.zero_add, Int.zero_add, Int.add_zero, or_false, false_or, Option.getD_some, Option.getD_none, List.getElem?_cons_zero, List.getElem?_cons_succ, reduceIte, Bool.and_self, Bool.or_self, Bool.and_true, Bool.true_and, Bool.and_false, Bool.false_and, Bool.or_true, Bool.or_false, Bool.true_or, Bool.false_or, Bool.false_eq_true, Bool.true_eq_false, not_true_eq_false, not_false_eq_true])
namespace Pq.k15
open PySem L2 Mi PyProof.Rows
def fil (c : Ck) : F3 := (c.w, c.y, c.f)
def mks (cs : List Ck) (f : F3) : List (List Nat) := (cs.filter fun c => decide (fil c = f)).map (·.s)
def grp (cs : List Ck) : List (F3 × List (List Nat)) := (sort3 (uniq (cs.map fil))).map fun f => (f, ssort (mks cs f))
def gV (g : F3 × List (List Nat)) : PV := .tup [w3 g.1, .lst (g.2.map PV.str)]
def firsts (fs : List F3) : List F3 := fs.foldl (fun a x => if x ∈ a then a else a ++ [x]) []
theorem firsts_snoc (fs : List F3) (x : F3) : firsts (fs ++ [x]) = if x ∈ firsts fs then firsts fs else firsts fs ++ [x] := by
  unfold firsts
  rw [List.foldl_append]
  rfl
theorem firsts_rev : ∀ l : List F3, (firsts l.reverse).Nodup ∧ ∀ x, x ∈ firsts l.reverse ↔ x ∈ l.reverse
  | [] => ⟨.nil, fun x => Iff.rfl⟩
  | y :: l => by
    obtain ⟨nd, m⟩ := firsts_rev l
    rw [List.reverse_cons, firsts_snoc]
    by_cases h : y ∈ firsts l.reverse
    · rw [if_pos h]
      refine ⟨nd, fun x => ?_⟩
      rw [m, List.mem_append, List.mem_singleton]
      exact ⟨.inl, fun z => z.elim id fun e => by rw [e]; exact (m y).mp h⟩
    · rw [if_neg h]
      refine ⟨List.nodup_append.mpr ⟨nd, by simp, fun a ha b hb e => ?_⟩, fun x => ?_⟩
      · cases List.mem_singleton.mp hb
        subst e
        exact h ha
      · rw [List.mem_append, List.mem_append, m]
theorem firsts_ok (fs : List F3) : (firsts fs).Nodup ∧ ∀ x, x ∈ firsts fs ↔ x ∈ fs := by
  have := firsts_rev fs.reverse
  rwa [List.reverse_reverse] at this
theorem firsts_sort (fs : List F3) : sort3 (firsts fs) = sort3 (uniq fs) :=
  sort3_like ((List.perm_ext_iff_of_nodup (firsts_ok fs).1 (uniq_nd fs)).mpr fun x => by rw [(firsts_ok fs).2, uniq_mem])
theorem w3_inj {a b : F3} (h : w3 a = w3 b) : a = b := by
  simp only [w3, PV.tup.injEq, List.cons.injEq, PV.str.injEq, PV.int.injEq, and_true] at h
  exact Prod.ext h.1 (Prod.ext h.2.1 h.2.2)
theorem w3_mem {K : List F3} {f : F3} : w3 f ∈ K.map w3 ↔ f ∈ K :=
  ⟨fun h => by obtain ⟨g, hg, e⟩ := List.mem_map.mp h; rw [← w3_inj e]; exact hg, fun h => List.mem_map.mpr ⟨f, h, rfl⟩⟩
theorem find3 (v : F3 → PV) (f : F3) : ∀ K : List F3, dfind (K.map w3) (K.map v) (w3 f) = if f ∈ K then some (v f) else none
  | [] => rfl
  | g :: K => by
    simp only [List.map_cons, dfind]
    by_cases e : g = f
    · subst e
      rw [if_pos rfl, if_pos (List.mem_cons_self ..)]
    · rw [if_neg (fun z => e (w3_inj z)), find3 v f K]
      have : f ∈ g :: K ↔ f ∈ K := by
        rw [List.mem_cons]
        exact ⟨fun z => z.resolve_left fun q => e q.symm, .inr⟩
      by_cases h : f ∈ K
      · rw [if_pos h, if_pos (this.mpr h)]
      · rw [if_neg h, if_neg fun z => h (this.mp z)]
theorem repl3 (v u : F3 → PV) (f : F3) (z : PV) (hz : u f = z) (hu : ∀ g, g ≠ f → u g = v g) : ∀ K : List F3, drepl (K.map w3) (K.map v) (w3 f) z = K.map u
  | [] => rfl
  | g :: K => by
    simp only [List.map_cons, drepl, repl3 v u f z hz hu K]
    by_cases e : g = f
    · subst e
      rw [if_pos rfl, hz]
    · rw [if_neg (fun q => e (w3_inj q)), hu g e]
def mV (cs : List Ck) (f : F3) : PV := .lst ((mks cs f).map PV.str)
theorem mks_snoc (cs : List Ck) (c : Ck) (f : F3) : mks (cs ++ [c]) f = if fil c = f then mks cs f ++ [c.s] else mks cs f := by
  unfold mks
  rw [List.filter_append, List.map_append]
  by_cases h : fil c = f
  · rw [if_pos h]; simp [h]
  · rw [if_neg h]; simp [h]
theorem mks_none {cs : List Ck} {f : F3} (h : f ∉ cs.map fil) : mks cs f = [] := by
  unfold mks
  rw [List.filter_eq_nil_iff.mpr fun c hc => by simpa using fun e => h (List.mem_map.mpr ⟨c, hc, e⟩)]
  rfl
abbrev K3 (cs : List Ck) : List F3 := firsts (cs.map fil)
abbrev dct3 (cs : List Ck) : PV := .dct (.kt [] :: (K3 cs).map w3) ((K3 cs).map (mV cs))
theorem K3_snoc (cs : List Ck) (c : Ck) : K3 (cs ++ [c]) = if fil c ∈ K3 cs then K3 cs else K3 cs ++ [fil c] := by
  unfold K3
  rw [List.map_append, List.map_cons, List.map_nil, firsts_snoc]
theorem putK3 (cs : List Ck) (c : Ck) : dputK ((K3 cs).map w3) (w3 (fil c)) = (K3 (cs ++ [c])).map w3 := by
  unfold dputK
  rw [K3_snoc]
  by_cases h : fil c ∈ K3 cs
  · rw [if_pos (w3_mem.mpr h), if_pos h]
  · rw [if_neg (fun z => h (w3_mem.mp z)), if_neg h, List.map_append]; rfl
theorem putV3 (cs : List Ck) (c : Ck) : dputV ((K3 cs).map w3) ((K3 cs).map (mV cs)) (w3 (fil c)) (.lst ((mks cs (fil c) ++ [c.s]).map PV.str)) = (K3 (cs ++ [c])).map (mV (cs ++ [c])) := by
  unfold dputV
  rw [K3_snoc]
  have hu : ∀ g, g ≠ fil c → mV (cs ++ [c]) g = mV cs g := fun g hg => by
    unfold mV
    rw [mks_snoc, if_neg fun e => hg e.symm]
  have hz : mV (cs ++ [c]) (fil c) = .lst ((mks cs (fil c) ++ [c.s]).map PV.str) := by
    unfold mV
    rw [mks_snoc, if_pos rfl]
  by_cases h : fil c ∈ K3 cs
  · rw [if_pos (w3_mem.mpr h), if_pos h, repl3 _ _ _ _ hz hu]
  · rw [if_neg (fun z => h (w3_mem.mp z)), if_neg h]
    have : (K3 cs).map (mV (cs ++ [c])) = (K3 cs).map (mV cs) := List.map_congr_left fun g hg => hu g fun e => h (e ▸ hg)
    rw [show (K3 cs ++ [fil c]).map (mV (cs ++ [c])) = (K3 cs).map (mV (cs ++ [c])) ++ [mV (cs ++ [c]) (fil c)] by rw [List.map_append]; rfl, this, hz]
theorem get3 (cs : List Ck) (c : Ck) (π : PEn) : getR (.lst []) (some (dfind ((K3 cs).map w3) ((K3 cs).map (mV cs)) (w3 (fil c)))) π = .ok (.im (mV cs (fil c))) π := by
  rw [find3]
  by_cases h : fil c ∈ K3 cs
  · rw [if_pos h]; rfl
  · rw [if_neg h]
    have : mks cs (fil c) = [] := mks_none fun z => h (((firsts_ok _).2 _).mpr z)
    unfold mV
    rw [this]
    rfl
theorem fill_ok {p : Bool × Ck} {P : PO → List PV → Prop} {X : XF} (k : P (.im (w3 (fil p.2))) [.non]) : @wf (pf_filling_of [cv p]) ⟨P⟩ ⟨X⟩ := by
  unfold pf_filling_of pb_filling_of cv
  cases p.1
  · (repeat (first | walk_at "pwp" | refine wn_i (by omega) ?_ | simp only [Ck.xs]))
    exact k
  · (repeat (first | walk_at "pwp" | refine wn_i (by omega) ?_ | simp only [Ck.xs]))
    exact k
theorem sorted_s (us : List (List Nat)) : qSorted [.lst (us.map PV.str)] = some (.ow (.lst ((ssort us).map PV.str))) := sorted_strs us
theorem getG (cs : List Ck) (c : Ck) (π : PEn) : getR (.lst []) (dgetP (dct3 cs) (w3 (fil c))) π = .ok (.im (mV cs (fil c))) π := get3 cs c π
theorem mks_len (cs : List Ck) (f : F3) : (mks cs f).length ≤ cs.length := by
  unfold mks
  rw [List.length_map]
  exact List.length_filter_le ..
theorem K3_len (cs : List Ck) : (K3 cs).length ≤ cs.length := by
  have h : ∀ l : List F3, (firsts l.reverse).length ≤ l.length := by
    intro l
    induction l with
    | nil => exact Nat.le_refl _
    | cons x l ih =>
      rw [List.reverse_cons, firsts_snoc]
      split
      · simp only [List.length_cons]; omega
      · simp only [List.length_append, List.length_cons, List.length_nil]; omega
  have := h (cs.map fil).reverse
  rw [List.reverse_reverse, List.length_reverse, List.length_map] at this
  exact this
theorem setG {cs : List Ck} (c : Ck) (l : cs.length ≤ 1000) : setIxP (dct3 cs) (w3 (fil c)) (.lst ((mks cs (fil c)).map PV.str ++ [.str c.s])) = some (dct3 (cs ++ [c])) := by
  have h := setIx_dT_ssi ((K3 cs).map w3) ((K3 cs).map (mV cs)) c.w c.y c.f (.lst ((mks cs (fil c)).map PV.str ++ [.str c.s]))
  have l2 := K3_len cs
  rw [if_pos (by rw [List.length_map]; omega)] at h
  refine h.trans ?_
  have e1 := putK3 cs c
  have e2 := putV3 cs c
  rw [List.map_append] at e2
  show some (PV.dct (.kt [] :: dputK ((K3 cs).map w3) (w3 (fil c))) (dputV ((K3 cs).map w3) ((K3 cs).map (mV cs)) (w3 (fil c)) (.lst ((mks cs (fil c)).map PV.str ++ [PV.str c.s])))) = _
  rw [e1]
  exact congrArg (fun z => some (PV.dct (.kt [] :: (K3 (cs ++ [c])).map w3) z)) e2
theorem sortG (cs : List Ck) : qSort3K [dct3 cs] = some (.ow (.lst ((sort3 (uniq (cs.map fil))).map w3))) := by
  rw [← firsts_sort]
  exact qSort3K_d _ _
theorem ixG {cs : List Ck} {f : F3} (h : f ∈ cs.map fil) : pIx (dct3 cs) (w3 f) = some (.im (mV cs f)) := by
  show ixR (some (dfind ((K3 cs).map w3) ((K3 cs).map (mV cs)) (w3 f))) = _
  rw [find3, if_pos (((firsts_ok _).2 _).mpr h)]
  rfl
def gG (cs : List Ck) : PV → PV
  | .tup [.str a, .str b, .int i] => gV ((a, b, i), ssort (mks cs (a, b, i)))
  | x => x
theorem gG_all (cs : List Ck) : ((sort3 (uniq (cs.map fil))).map w3).map (gG cs) = (grp cs).map gV := by
  unfold grp
  rw [List.map_map, List.map_map]
  rfl
theorem groups_ok {ps : List (Bool × Ck)} {x : PV} {P : PO → List PV → Prop} {X : XF} (hx : x = .lst (ps.map cv) ∨ x = .tup (ps.map cv)) (hl : ps.length ≤ 50)
    (g : P (.ow (.lst ((grp (ps.map (·.2))).map gV))) [.non]) : @wf (pf_kin_groups [x]) ⟨P⟩ ⟨X⟩ := by
  unfold pf_kin_groups pb_kin_groups
  rcases hx with rfl | rfl
  · (repeat (first | walk_at "pwp" | refine wn_i (by omega) ?_))
    refine ws_forM cv (fun don xs π => ∃ u : Option PV, π = [some (.im (.lst (ps.map cv))), some (.ow (dct3 (don.map (·.2)))), fv u, none]) ps [] ps _ rfl ⟨none, rfl⟩ ?_ ?_
    · rintro don p xs π hall ⟨u, rfl⟩
      have hl2 := congrArg List.length hall
      simp only [List.length_append, List.length_cons] at hl2
      have ml := mks_len (don.map (·.2)) (fil p.2)
      have gt := getG (don.map (·.2)) p.2
      have st := setG (cs := don.map (·.2)) p.2 (by rw [List.length_map]; omega)
      rw [List.length_map] at ml
      (repeat (first | walk_at "pwp" | refine wn_i (by omega) ?_))
      refine fill_ok ?_
      (repeat (first | walk_at "pwp" | refine wn_i (by omega) ?_ | simp only [gt]))
      unfold mV
      (repeat (first | walk_at "pwp" | refine wn_i (by omega) ?_ | simp only [pIx_cv, xs0]))
      refine wn_i (by rw [List.length_map]; omega) ?_
      (repeat (first | walk_at "pwp" | refine wn_i (by omega) ?_))
      refine fill_ok ?_
      (repeat (first | walk_at "pwp" | refine wn_i (by omega) ?_ | simp only [st]))
      exact ⟨some (cv p), by rw [List.map_append]; rfl⟩
    · rintro π ⟨u, rfl⟩
      have so := sortG (ps.map (·.2))
      have hl3 : (sort3 (uniq ((ps.map (·.2)).map fil))).length ≤ ps.length := by
        rw [← firsts_sort, (sort3_perm _).length_eq]
        have := K3_len (ps.map (·.2))
        rw [List.length_map] at this
        exact this
      (repeat (first | walk_at "pwp" | refine wn_i (by omega) ?_ | simp only [so]))
      refine wn_i (by rw [List.length_map]; omega) ?_
      (repeat (first | walk_at "pwp" | refine wn_i (by omega) ?_))
      refine wq_map (gG (ps.map (·.2))) _ (fun y hy => ?_) ?_
      · obtain ⟨f, hf, rfl⟩ := List.mem_map.mp hy
        have hm : f ∈ (ps.map (·.2)).map fil := uniq_mem.mp ((sort3_perm _).mem_iff.mp hf)
        have ix := ixG hm
        (repeat (first | walk_at "pwp" | refine wn_i (by omega) ?_ | simp only [ix]))
        unfold mV
        (repeat (first | walk_at "pwp" | refine wn_i (by omega) ?_ | simp only [sorted_s]))
        rfl
      · rw [gG_all]
        (repeat (first | walk_at "pwp" | refine wn_i (by omega) ?_))
        exact g
  · (repeat (first | walk_at "pwp" | refine wn_i (by omega) ?_))
    refine ws_forM cv (fun don xs π => ∃ u : Option PV, π = [some (.im (.tup (ps.map cv))), some (.ow (dct3 (don.map (·.2)))), fv u, none]) ps [] ps _ rfl ⟨none, rfl⟩ ?_ ?_
    · rintro don p xs π hall ⟨u, rfl⟩
      have hl2 := congrArg List.length hall
      simp only [List.length_append, List.length_cons] at hl2
      have ml := mks_len (don.map (·.2)) (fil p.2)
      have gt := getG (don.map (·.2)) p.2
      have st := setG (cs := don.map (·.2)) p.2 (by rw [List.length_map]; omega)
      rw [List.length_map] at ml
      (repeat (first | walk_at "pwp" | refine wn_i (by omega) ?_))
      refine fill_ok ?_
      (repeat (first | walk_at "pwp" | refine wn_i (by omega) ?_ | simp only [gt]))
      unfold mV
      (repeat (first | walk_at "pwp" | refine wn_i (by omega) ?_ | simp only [pIx_cv, xs0]))
      refine wn_i (by rw [List.length_map]; omega) ?_
      (repeat (first | walk_at "pwp" | refine wn_i (by omega) ?_))
      refine fill_ok ?_
      (repeat (first | walk_at "pwp" | refine wn_i (by omega) ?_ | simp only [st]))
      exact ⟨some (cv p), by rw [List.map_append]; rfl⟩
    · rintro π ⟨u, rfl⟩
      have so := sortG (ps.map (·.2))
      have hl3 : (sort3 (uniq ((ps.map (·.2)).map fil))).length ≤ ps.length := by
        rw [← firsts_sort, (sort3_perm _).length_eq]
        have := K3_len (ps.map (·.2))
        rw [List.length_map] at this
        exact this
      (repeat (first | walk_at "pwp" | refine wn_i (by omega) ?_ | simp only [so]))
      refine wn_i (by rw [List.length_map]; omega) ?_
      (repeat (first | walk_at "pwp" | refine wn_i (by omega) ?_))
      refine wq_map (gG (ps.map (·.2))) _ (fun y hy => ?_) ?_
      · obtain ⟨f, hf, rfl⟩ := List.mem_map.mp hy
        have hm : f ∈ (ps.map (·.2)).map fil := uniq_mem.mp ((sort3_perm _).mem_iff.mp hf)
        have ix := ixG hm
        (repeat (first | walk_at "pwp" | refine wn_i (by omega) ?_ | simp only [ix]))
        unfold mV
        (repeat (first | walk_at "pwp" | refine wn_i (by omega) ?_ | simp only [sorted_s]))
        rfl
      · rw [gG_all]
        (repeat (first | walk_at "pwp" | refine wn_i (by omega) ?_))
        exact g
theorem eq3 (a b : F3) : pEq (w3 a) (w3 b) = some (.im (.bl (decide (a = b)))) := by
  have o : ∀ f : F3, PV.okd 16 (w3 f) = true := fun f => by simp [w3, PV.okd, PV.okds]
  have e : PV.eqv (w3 a) (w3 b) = decide (a = b) := by
    rw [Bool.eq_iff_iff, decide_eq_true_eq]
    simp only [w3, PV.eqv, PV.eqvs, Bool.and_true, Bool.and_eq_true, decide_eq_true_eq, beq_iff_eq]
    exact ⟨fun h => Prod.ext h.1 (Prod.ext h.2.1 h.2.2), fun h => by subst h; exact ⟨rfl, rfl, rfl⟩⟩
  simp [pEq, pEqB, o, e]
def fV : PV → PV
  | .tup [_, w, _, y, f] => .tup [w, y, f]
  | x => x
theorem fV_all (cs : List Ck) : (cs.map Ck.v).map fV = (cs.map fil).map w3 := by
  rw [List.map_map, List.map_map]; rfl
def tF (f : F3) : PV → Bool
  | .tup [_, .str w, _, .str y, .int d] => decide (((w, y, d) : F3) = f)
  | _ => false
def sF : PV → PV
  | .tup (s :: _) => s
  | x => x
theorem tF_all (f : F3) : ∀ cs : List Ck, ((cs.map Ck.v).filter (tF f)).map sF = (mks cs f).map PV.str
  | [] => rfl
  | c :: cs => by
    have ih := tF_all f cs
    have t : tF f c.v = decide (fil c = f) := rfl
    unfold mks at ih ⊢
    rw [List.map_cons, List.filter_cons, List.filter_cons, t]
    by_cases h : fil c = f
    · rw [decide_eq_true h, if_pos rfl, if_pos rfl, List.map_cons, ih]; rfl
    · rw [decide_eq_false h, if_neg (by simp), if_neg (by simp), ih]
theorem due_ok {cs : List Ck} {P : PO → List PV → Prop} {X : XF} (hl : cs.length ≤ 50) (g : P (.ow (.lst ((grp cs).map gV))) [.non]) : @wf (pf_l_due [.lst (cs.map Ck.v)]) ⟨P⟩ ⟨X⟩ := by
  unfold pf_l_due pb_l_due
  (repeat (first | walk_at "pwp" | refine wn_i (by omega) ?_))
  refine wn_i (by rw [List.length_map]; omega) ?_
  (repeat (first | walk_at "pwp" | refine wn_i (by omega) ?_))
  refine wq_map fV _ (fun y hy => ?_) ?_
  · obtain ⟨c, hc, rfl⟩ := List.mem_map.mp hy
    (repeat (first | walk_at "pwp" | refine wn_i (by omega) ?_ | simp only [Ck.v, Ck.xs]))
    rfl
  rw [fV_all]
  have sS := qSortSet3_l (cs.map fil) (by rw [List.length_map]; omega)
  (repeat (first | walk_at "pwp" | refine wn_i (by omega) ?_ | simp only [sS]))
  obtain ⟨K, hK⟩ : ∃ K, sort3 (uniq (cs.map fil)) = K := ⟨_, rfl⟩
  rw [hK]
  have lK : K.length ≤ cs.length := by
    rw [← hK, ← firsts_sort, (sort3_perm _).length_eq]
    exact K3_len cs
  refine ws_forM w3 (fun don xs π => ∃ u2 u4 : Option PV, π = [some (.im (.lst (cs.map Ck.v))), some (.ow (.lst (don.map fun f => gV (f, ssort (mks cs f))))), fv u2, none, fv u4]) K [] K _ rfl ⟨none, none, rfl⟩ ?_ ?_
  · rintro don f xs π hall ⟨u2, u4, rfl⟩
    have hl2 := congrArg List.length hall
    simp only [List.length_append, List.length_cons] at hl2
    (repeat (first | walk_at "pwp" | refine wn_i (by omega) ?_))
    refine wn_i (by rw [List.length_map]; omega) ?_
    (repeat (first | walk_at "pwp" | refine wn_i (by omega) ?_))
    refine wq_cmap (tF f) sF _ (fun y hy => ?_) ?_
    · obtain ⟨c, hc, rfl⟩ := List.mem_map.mp hy
      have e3 := eq3 (fil c) f
      unfold w3 fil at e3
      have tv : tF f c.v = decide (fil c = f) := rfl
      rw [tv]
      unfold Ck.v Ck.xs w3
      (repeat (first | walk_at "pwp" | refine wn_i (by omega) ?_ | simp only [e3]))
      refine ⟨rfl, ?_⟩
      by_cases h : (c.w, c.y, c.f) = f
      · rw [decide_eq_true h]
        (repeat (first | walk_at "pwp" | refine wn_i (by omega) ?_))
        rfl
      · rw [decide_eq_false h]
        (repeat (first | walk_at "pwp" | refine wn_i (by omega) ?_))
    · rw [tF_all]
      (repeat (first | walk_at "pwp" | refine wn_i (by omega) ?_ | simp only [sorted_s]))
      refine wn_i (by rw [List.length_map]; omega) ?_
      (repeat (first | walk_at "pwp" | refine wn_i (by omega) ?_))
      exact ⟨some (w3 f), some _, by rw [List.map_append]; rfl⟩
  · rintro π ⟨u2, u4, rfl⟩
    (repeat (first | walk_at "pwp" | refine wn_i (by omega) ?_))
    have e : (K.map fun f => gV (f, ssort (mks cs f))) = (grp cs).map gV := by
      unfold grp
      rw [hK, List.map_map]
      rfl
    rw [e]
    exact g
end Pq.k15

end
section
local macro_rules | `(tactic| walk_at "pwp") => `(tactic| simp -implicitDefEqProofs only [Pq.pSortC_ap, Pq.sortCO_s, Pq.pdiC_ap, Pq.qRevA_s, Pq.qRevA_t, Pq.qRevA_l, Pq.pMsN_ap, Pq.msN_s, Pq.msNO_s, Pq.pMi_ap, Pq.miA_b, Pq.miA_i, Pq.miB_s, Pq.miR_s, Pq.qExtend_l, Pq.pBn_ap, Pq.newK_s, Pq.newO_s, Pq.pNewK_ap, Pq.pNewT_ap, Pq.getA_K, Pq.getA_T, Pq.getA_Ki, Pq.getA_Ti, Pq.getB_s, Pq.getR_s, Pq.getR_n, Pq.dgetP_s, Pq.dgetP_i, Pq.dgetP_ss, Pq.dgetP_si, Pq.dgetP_ssi, Pq.ixR_s, Pq.pIx_ds, Pq.pIx_di, Pq.pIx_dt, Pq.pIn_ds, Pq.pIn_dt, Pq.pNotIn_ds, Pq.pNotIn_dt, Pq.inR_s, Pq.inO_f, Pq.inO_t, Pq.setIx_dK, Pq.setIx_dT_ss, Pq.setIx_dT_si, Pq.setIx_dT_ssi, Pq.qSortedK_d, Pq.skK_s, Option.isSome_some, Option.isSome_none, Pq.qListS_s, Pq.qListS_t, Pq.pDispC_ap, Pq.pGet2_ap, Pq.pntL_l, Pq.qIsNo_b, Pq.tyP_k, Pq.pdiZK_ap, Pq.zkK_t, Pq.qLenK_k, Pq.pIsN_k, Pq.flatC_n1, Pq.flatC_n2, Pq.flatC_n3, Pq.flatO_b, Pq.flatO_i, Pq.flatO_s, Pq.pIsN_b, Pq.pIsN_i, Pq.pIsN_s, Pq.pIsN_t, Pq.pIsN_l, Pq.pNotN_b, Pq.pNotN_i, Pq.pNotN_s, Pq.pNotN_t, Pq.pNotN_l, Pq.pdiZ_ap, Pq.zK_l, Pq.zK_t, Pq.pLtT_is, Pq.qIs_b, Pq.qInR_i, Pq.pSortK_ap, Pq.isIo_fw, Pq.pIn_t2, Pq.pNotIn_t2, Pq.pRev_t, Pq.pRev_l, Pq.pIn_sc, Pq.pIn_strs, Pq.qsJoin_l, Pq.pMs_ap, Pq.msK_s, Pq.ms2_s, Pq.wq_ms2i, Pq.wf_run, Pq.wf_ok, Pq.wf_ex, Pq.ws_nil, Pq.ws_seq, Pq.ws_ret, Pq.ws_retN, Pq.ws_raise, Pq.ws_expr, Pq.ws_set, Pq.ws_setA, Pq.wsetA_im, Pq.wsetA_ow, Pq.ws_if, Pq.ws_brk, Pq.ws_cnt, Pq.ws_aug, Pq.ws_par, Pq.ws_parG, Pq.ws_asg, Pq.ws_frz, Pq.ws_for, Pq.frz_0, Pq.frz_0i, Pq.frz_0n, Pq.frz_0o, Pq.frz_s, Pq.wg_go, Pq.wi_t, Pq.wi_f, Pq.wn_t, Pq.wq_ok, Pq.wq_ex, Pq.wq_bind, Pq.wq_optS, Pq.wq_gd, Pq.wq_szs, Pq.wq_optI, Pq.wq_ite, Pq.wq_br, Pq.bq_ok, Pq.brq_t, Pq.brq_f, Pq.wo_s, Pq.wo_n, Pq.wo_ite, Pq.wo_some_ite, Pq.wo_sub, Pq.pVar_s, Pq.pVar_im, Pq.pVar_ow, Pq.pVar_io, Pq.ps_0, Pq.ps_s, Pq.pC_ap, Pq.pOp_ap, Pq.pU_ap, Pq.pT_ap, Pq.pbAnd_ap, Pq.pbOr_ap, Pq.pbNot_ap, Pq.pAnd_ap, Pq.pOr_ap, Pq.pNot_ap, Pq.pIf_ap, Pq.pCh_ap, Pq.pCh3_ap, Pq.pasB_b, Pq.see2_e, Pq.see1_e, Pq.seeA_e, Pq.opt2_s, Pq.opt1_s, Pq.optA_s, Pq.pv_im, Pq.pv_ow, Pq.pv_br, Pq.ownK_ow, Pq.ownK_io, Pq.pvAll_n, Pq.pvAll_c, Pq.pvC_s, Pq.paNil_ap, Pq.paCons_ap, Pq.pB_ap, Pq.poI_im, Pq.poI_ow, Pq.pvNil_ap, Pq.pvCons_ap, Pq.pTup_ap, Pq.pLst_ap, Pq.pgNil_ap, Pq.pgCons_ap, Pq.argO_1, Pq.argO_2, Pq.argO_3, Pq.argO_4, Pq.argO_5, Pq.pNone_ap, Pq.asIq_i, Pq.pSome_ap, Pq.pSl_ap, Pq.pCall_ap, Pq.wq_call, Pq.callOk_e, Pq.brs_n, Pq.brs_br, Pq.brs_im, Pq.brs_ow, Pq.owc_n, Pq.owc_br, Pq.owc_im, Pq.owc_ow, Pq.nodB_n, Pq.nodB_1, Pq.nodB_2, Pq.nodB_3, Pq.imb_n, Pq.imb_f, Pq.imb_t, Pq.imb_fi, Pq.imb_fo, Pq.callFl_e, Pq.isE_n, Pq.isE_c, Pq.putO_n, Pq.putO_b, Pq.putO_f, Pq.putO_im, Pq.putO_ow, Pq.upd_0, Pq.upd_s, Pq.PS_put_im, Pq.PS_put_ow, Pq.PS_put_io, Pq.pAdd_ii, Pq.pAdd_ss, Pq.pAdd_ll, Pq.pAdd_tt, Pq.pSub_ii, Pq.pMul_ii, Pq.pMul_si, Pq.pMul_li, Pq.pMod_ii, Pq.pFdiv_ii, Pq.pPow_ii, Pq.pNeg_i, Pq.pLt_ii, Pq.pLe_ii, Pq.pGt_ii, Pq.pGe_ii, Pq.pLt_ss, Pq.pLe_ss, Pq.pAddI_ii, Pq.pAddI_ss, Pq.ixK_s, Pq.pIx_l, Pq.pIx_t, Pq.pIx_f, Pq.pSlF_l, Pq.pSlF_t, Pq.pSlF_f, Pq.pSlF_s, Pq.pEq_ii, Pq.pNe_ii, Pq.pEq_ss, Pq.pNe_ss, Pq.pEq_bb, Pq.pNe_bb, Pq.pIsN_n, Pq.pNotN_n, Pq.qLen_l, Pq.qLen_t, Pq.qLen_f, Pq.qLen_d, Pq.qLen_s, Pq.qAbs_i, Pq.qInt_i, Pq.qInt_b, Pq.qMax_ii, Pq.qMin_ii, Pq.qDivmod_ii, Pq.qList_l, Pq.qList_t, Pq.qList_f, Pq.qTuple_l, Pq.qTuple_t, Pq.qTuple_f, Pq.qStr_s, Pq.qStr_i, Pq.qStr_b, Pq.qStr_n, Pq.qIsi_e, Pq.qIsi2_e, Pq.tyP_1, Pq.tyP_2, Pq.tyP_3, Pq.tyP_4, Pq.tyP_5, Pq.tyP_6, Pq.tyP_7, Pq.tyP_8, Pq.sb_00, Pq.sb_01, Pq.sb_02, Pq.sb_03, Pq.sb_04, Pq.sb_05, Pq.sb_06, Pq.sb_10, Pq.sb_11, Pq.sb_12, Pq.sb_13, Pq.sb_14, Pq.sb_15, Pq.sb_16, Pq.sb_20, Pq.sb_21, Pq.sb_22, Pq.sb_23, Pq.sb_24, Pq.sb_25, Pq.sb_26, Pq.sb_30, Pq.sb_31, Pq.sb_32, Pq.sb_33, Pq.sb_34, Pq.sb_35, Pq.sb_36, Pq.sb_40, Pq.sb_41, Pq.sb_42, Pq.sb_43, Pq.sb_44, Pq.sb_45, Pq.sb_46, Pq.sb_50, Pq.sb_51, Pq.sb_52, Pq.sb_53, Pq.sb_54, Pq.sb_55, Pq.sb_56, Pq.sb_60, Pq.sb_61, Pq.sb_62, Pq.sb_63, Pq.sb_64, Pq.sb_65, Pq.sb_66, Pq.retO_im, Pq.retO_ow, Pq.retO_br, Pq.retK_s, Pq.isIo_fv, Pq.notOwn_fv, Pq.frz_fv, Pq.isIo_im, Pq.isIo_ow, Pq.isIo_io, Pq.isIo_n, Pq.isIo_s, Pq.pset_n, Pq.pset_c, Pq.psetG_n, Pq.psetG_i, Pq.psetG_o, Pq.pnt_nm, Pq.pnt_tp, Pq.pnt_tpl, Pq.ex_im, Pq.setIx_li, Pq.setK_s, Pq.prunT_n, Pq.prunT_c, Pq.pgT_t, Pq.wq_mt, Pq.isLK_s, Pq.mtK_s, Pq.qAppend_1, Pq.qReverse_0, Pq.qClear_0, Pq.qInsert_2, Pq.okw_n, Pq.all_n, Pq.pdiV_ap, Pq.pitV_e, Pq.pitK_l, Pq.pitK_lo, Pq.pitK_lb, Pq.pitK_t, Pq.pitK_f, Pq.pitK_s, Pq.pdiR1_ap, Pq.pdiR2_ap, Pq.pdiR1_e, Pq.pdiR2_e, Pq.pdiE_ap, Pq.penO_ol, Pq.penO_il, Pq.wq_comp, Pq.pYes_ap, Pq.wipeP_n, Pq.wipeP_c, Pq.restP_n, Pq.restP_c, Pq.notOwn_0, Pq.notOwn_1, Pq.notOwn_2, Pq.notOwn_3, Pq.notOwn_s, Pq.all_c, Pq.all_e, Pq.Kf_nx, Pq.Kf_rt, Pq.Kf_ex, Pq.wout_e, Pq.outK_n, Pq.outK_f, Pq.outK_t, Pq.contK_s, Pq.start_n, Pq.start_t, Pq.start_f, Pq.Kin_nx, Pq.Kin_ct, Pq.Kin_bk, Pq.Kin_rt, Pq.Kin_ex, Pq.atI_0, Pq.atI_1, Pq.atI_2, Pq.atI_3, Pq.atI_4, List.set_cons_succ, List.set_cons_zero, List.map_cons, List.map_nil, List.cons_append, List.nil_append, List.length_cons, List.length_nil, List.replicate_succ, List.replicate_zero, List.append_nil, Nat.reduceSub, Nat.reduceAdd, Nat.reduceMul, Int.reduceAdd, Int.reduceSub, Int.reduceMul, Int.reduceNeg, Int.reduceLT, Int.reduceLE, Nat.reduceLeDiff, Nat.reduceLT, decide_true, decide_false, Int.reduceToNat, Bool.not_true, Bool.not_false, and_true, true_and, and_self, true_or, or_true, List.set_nil, Int.reduceMod, Int.reduceDiv, Int.reducePow, Int.cast_ofNat_Int, Int.reduceEq, Int.reduceNe, Nat.reduceEqDiff, eq_self, false_and, and_false, Nat.zero_add, Int.zero_add, Int.add_zero, or_false, false_or, Option.getD_some, Option.getD_none, List.getElem?_cons_zero, List.getElem?_cons_succ, reduceIte, Bool.and_self, Bool.or_self, Bool.and_true, Bool.true_and, Bool.and_false, Bool.false_and, Bool.or_true, Bool.or_false, Bool.true_or, Bool.false_or, Bool.false_eq_true, Bool.true_eq_false, not_true_eq_false, not_false_eq_true])
namespace Pq.k15
open PySem L2 Mi PyProof.Rows
theorem pl_gs (cs : List Ck) (l : cs.length ≤ 100) : Pl 23 (.lst ((grp cs).map gV)) := by
  have lg : (grp cs).length ≤ cs.length := by
    unfold grp
    rw [List.length_map, ← firsts_sort, (sort3_perm _).length_eq]
    exact K3_len cs
  refine .lst _ _ (by rw [List.length_map]; omega) fun x hx => ?_
  obtain ⟨g, hg, rfl⟩ := List.mem_map.mp hx
  have mg : g.2.length ≤ cs.length := by
    unfold grp at hg
    obtain ⟨f, _, rfl⟩ := List.mem_map.mp hg
    show (ssort _).length ≤ _
    rw [ssort_len]
    exact mks_len cs f
  refine .tup _ _ (by simp) fun y hy => ?_
  simp only [List.mem_cons, List.not_mem_nil, or_false] at hy
  rcases hy with rfl | rfl
  · refine .tup _ _ (by simp) fun z hz => ?_
    simp only [List.mem_cons, List.not_mem_nil, or_false] at hz
    rcases hz with rfl | rfl | rfl
    · exact .str _ _
    · exact .str _ _
    · exact .int _ _
  · refine .lst _ _ (by rw [List.length_map]; omega) fun z hz => ?_
    obtain ⟨s, _, rfl⟩ := List.mem_map.mp hz
    exact .str _ _
theorem same_gs {cs : List Ck} (l : cs.length ≤ 100) {P : PO → List PV → Prop} {X : XF} (k : P (.im (.bl true)) [.non, .non]) : @wf (pf_l_same [.lst ((grp cs).map gV), .lst ((grp cs).map gV)]) ⟨P⟩ ⟨X⟩ := same_ok 23 _ (pl_gs cs l) k
theorem same_w3 (f : F3) {P : PO → List PV → Prop} {X : XF} (k : P (.im (.bl true)) [.non, .non]) : @wf (pf_l_same [w3 f, w3 f]) ⟨P⟩ ⟨X⟩ := same_ok 23 _ (.tup _ _ (by simp) fun z hz => by
    simp only [List.mem_cons, List.not_mem_nil, or_false] at hz
    rcases hz with rfl | rfl | rfl
    · exact .str _ _
    · exact .str _ _
    · exact .int _ _) k
def kin (a b : Ck) : Bool := !decide (a.s = b.s) && decide (fil a = fil b)
theorem kin_comm (a b : Ck) : kin a b = kin b a := by
  unfold kin
  congr 1
  · rw [decide_eq_decide.mpr (show a.s = b.s ↔ b.s = a.s from ⟨Eq.symm, Eq.symm⟩)]
  · rw [decide_eq_decide.mpr (show fil a = fil b ↔ fil b = fil a from ⟨Eq.symm, Eq.symm⟩)]
theorem kin_ok {p q : Bool × Ck} {P : PO → List PV → Prop} {X : XF} (k : P (.im (.bl (kin p.2 q.2))) [.non, .non]) : @wf (pf_are_kin [cv p, cv q]) ⟨P⟩ ⟨X⟩ := by
  unfold pf_are_kin pb_are_kin
  unfold kin at k
  (repeat (first | walk_at "pwp" | refine wn_i (by omega) ?_ | simp only [pIx_cv, xs0]))
  refine wi_b (fun z => ?_) fun z => ?_
  · rw [z] at k
    (repeat (first | walk_at "pwp" | refine wn_i (by omega) ?_))
    refine fill_ok ?_
    (repeat (first | walk_at "pwp" | refine wn_i (by omega) ?_))
    refine fill_ok ?_
    (repeat (first | walk_at "pwp" | refine wn_i (by omega) ?_ | simp only [eq3]))
    simpa using k
  · rw [z] at k
    (repeat (first | walk_at "pwp" | refine wn_i (by omega) ?_))
    simpa using k
theorem at_cv {ps : List (Bool × Ck)} {i : Int} (i0 : 0 ≤ i) (i1 : i < ps.length) : ∃ p ∈ ps, atI (ps.map cv) i = some (cv p) := by
  obtain ⟨x, e, _, m⟩ := atI_lt (xs := ps.map cv) i0 (by rw [List.length_map]; exact i1)
  obtain ⟨p, hp, rfl⟩ := List.mem_map.mp m
  exact ⟨p, hp, e⟩
theorem eqL3 (a b : F3) : pEq (.lst [.str a.1, .str a.2.1, .int a.2.2]) (.lst [.str b.1, .str b.2.1, .int b.2.2]) = some (.im (.bl (decide (a = b)))) := by
  have o : ∀ f : F3, PV.okd 16 (.lst [.str f.1, .str f.2.1, .int f.2.2]) = true := fun f => by simp [PV.okd, PV.okds]
  have e : PV.eqv (.lst [.str a.1, .str a.2.1, .int a.2.2]) (.lst [.str b.1, .str b.2.1, .int b.2.2]) = decide (a = b) := by
    rw [Bool.eq_iff_iff, decide_eq_true_eq]
    simp only [PV.eqv, PV.eqvs, Bool.and_true, Bool.and_eq_true, decide_eq_true_eq, beq_iff_eq]
    exact ⟨fun h => Prod.ext h.1 (Prod.ext h.2.1 h.2.2), fun h => by subst h; exact ⟨rfl, rfl, rfl⟩⟩
  simp [pEq, pEqB, o, e]
theorem cut12 (c : Ck) : cutL c.xs (some 1) (some 2) = [.str c.w] := rfl
theorem cut3' (c : Ck) : cutL c.xs (some 3) none = [.str c.y, .int c.f] := rfl
theorem cvT (c : Ck) : cv (true, c) = .lst c.xs := rfl
theorem cvF (c : Ck) : cv (false, c) = .tup c.xs := rfl
theorem xs1 (c : Ck) : atI c.xs 1 = some (.str c.w) := rfl
theorem xs3 (c : Ck) : atI c.xs 3 = some (.str c.y) := rfl
theorem ne_bb (c : Bool) : pNe (.bl c) (.bl c) = some (.im (.bl false)) := by cases c <;> rfl
theorem pairs_ok {b : PV} {k : Nat} {ps : List (Bool × Ck)} {P : PO → List PV → Prop} {X : XF} (B : Bx k b) (hk : 16 ≤ k) (p0 : ps ≠ []) (pl : ps.length ≤ 50)
    (g : ∀ b', Bx (k - 16) b' → P (.im (.bl true)) [b', .non]) : @wf (pf_l_pairs_right [b, .lst (ps.map cv)]) ⟨P⟩ ⟨X⟩ := by
  unfold pf_l_pairs_right pb_l_pairs_right
  have p1 := List.length_pos_iff.mpr p0
  (repeat (first | walk_at "pwp" | refine wn_i (by omega) ?_))
  refine ws_forI (fun ys π => ∃ (b : PV) (u2 u3 u4 u5 u6 : Option PV), Bx (k - 16 + 2 * ys.length) b ∧ π = [some (.io b), some (.im (.lst (ps.map cv))), fv u2, fv u3, fv u4, fv u5, fv u6]) _ _ ⟨b, none, none, none, none, none, B.mono (by show k - 16 + 2 * 8 ≤ _; omega), rfl⟩ ?_ ?_
  · rintro y ys π ⟨b, u2, u3, u4, u5, u6, B, rfl⟩
    simp only [List.length_cons] at B
    (repeat (first | walk_at "pwp" | refine wn_i (by omega) ?_))
    refine take_ok B (by omega) (by rw [List.length_map]; omega) (by rw [List.length_map]; omega) fun i b1 i0 i1 B1 => ?_
    obtain ⟨p, hp, ep⟩ := at_cv i0 (by simpa using i1)
    (repeat (first | walk_at "pwp" | refine wn_i (by omega) ?_ | simp only [ep]))
    refine take_ok B1 (by omega) (by rw [List.length_map]; omega) (by rw [List.length_map]; omega) fun j b2 j0 j1 B2 => ?_
    obtain ⟨q, hq, eq⟩ := at_cv j0 (by simpa using j1)
    have B2 : Bx (k - 16 + 2 * ys.length) b2 := B2.mono (by omega)
    obtain ⟨bp, a⟩ := p
    obtain ⟨bq, c⟩ := q
    have e3 := eqL3 (fil a) (fil c)
    unfold fil at e3
    cases bp with
    | true =>
      cases bq with
      | true =>
        (repeat (first | walk_at "pwp" | refine wn_i (by omega) ?_ | simp only [eq, cvT, cvF, cut12, cut3', e3]))
        refine wi_d (fun z => ?_) fun z => ?_
        · have ek : (!decide (a.s = c.s)) = kin a c := by simp [kin, fil, z]
          (repeat (first | walk_at "pwp" | refine wn_i (by omega) ?_ | simp only [xs0]))
          rw [ek]
          (repeat (first | walk_at "pwp" | refine wn_i (by omega) ?_))
          refine kin_ok (p := (true, a)) (q := (true, c)) ?_
          (repeat (first | walk_at "pwp" | refine wn_i (by omega) ?_))
          refine kin_ok (p := (true, c)) (q := (true, a)) ?_
          rw [kin_comm c a]
          (repeat (first | walk_at "pwp" | refine wn_i (by omega) ?_))
          refine kin_ok (p := (true, a)) (q := (false, c)) ?_
          (repeat (first | walk_at "pwp" | refine wn_i (by omega) ?_))
          refine ws_forI (fun zs π => ∃ (u6 : Option PV), (∀ z ∈ zs, z = .bl (kin a c)) ∧ π = [some (.io b2), some (.im (.lst (ps.map cv))), some (.im y), some (.im (cv (true, a))), some (.im (cv (true, c))), some (.im (.bl (kin a c))), fv u6]) _ _ ⟨u6, by simp, rfl⟩ ?_ ?_
          · rintro z zs π ⟨u6, hz, rfl⟩
            cases hz z (List.mem_cons_self ..)
            have hz' : ∀ z ∈ zs, z = .bl (kin a c) := fun x h => hz x (List.mem_cons_of_mem _ h)
            (repeat (first | walk_at "pwp" | refine wn_i (by omega) ?_ | simp only [ne_bb]))
            exact ⟨some _, hz', rfl⟩
          · rintro π ⟨u6, _, rfl⟩
            (repeat (first | walk_at "pwp" | refine wn_i (by omega) ?_))
            refine fill_ok (p := (true, a)) ?_
            (repeat (first | walk_at "pwp" | refine wn_i (by omega) ?_ | simp only [cvT, cvF, xs1, xs3, xs4]))
            refine same_w3 (fil a) ?_
            (repeat (first | walk_at "pwp" | refine wn_i (by omega) ?_))
            exact ⟨b2, some _, some _, some _, some _, u6, B2, rfl⟩
        · have ek : kin a c = false := by simp [kin, fil, z]
          (repeat (first | walk_at "pwp" | refine wn_i (by omega) ?_))
          refine kin_ok (p := (true, a)) (q := (true, c)) ?_
          rw [ek]
          (repeat (first | walk_at "pwp" | refine wn_i (by omega) ?_))
          refine kin_ok (p := (true, c)) (q := (true, a)) ?_
          rw [kin_comm c a]
          rw [ek]
          (repeat (first | walk_at "pwp" | refine wn_i (by omega) ?_))
          refine kin_ok (p := (true, a)) (q := (false, c)) ?_
          rw [ek]
          (repeat (first | walk_at "pwp" | refine wn_i (by omega) ?_))
          refine ws_forI (fun zs π => ∃ (u6 : Option PV), (∀ z ∈ zs, z = .bl false) ∧ π = [some (.io b2), some (.im (.lst (ps.map cv))), some (.im y), some (.im (cv (true, a))), some (.im (cv (true, c))), some (.im (.bl false)), fv u6]) _ _ ⟨u6, by simp, rfl⟩ ?_ ?_
          · rintro z zs π ⟨u6, hz, rfl⟩
            cases hz z (List.mem_cons_self ..)
            have hz' : ∀ z ∈ zs, z = .bl false := fun x h => hz x (List.mem_cons_of_mem _ h)
            (repeat (first | walk_at "pwp" | refine wn_i (by omega) ?_ | simp only [ne_bb]))
            exact ⟨some _, hz', rfl⟩
          · rintro π ⟨u6, _, rfl⟩
            (repeat (first | walk_at "pwp" | refine wn_i (by omega) ?_))
            refine fill_ok (p := (true, a)) ?_
            (repeat (first | walk_at "pwp" | refine wn_i (by omega) ?_ | simp only [cvT, cvF, xs1, xs3, xs4]))
            refine same_w3 (fil a) ?_
            (repeat (first | walk_at "pwp" | refine wn_i (by omega) ?_))
            exact ⟨b2, some _, some _, some _, some _, u6, B2, rfl⟩
      | false =>
        (repeat (first | walk_at "pwp" | refine wn_i (by omega) ?_ | simp only [eq, cvT, cvF, cut12, cut3', e3]))
        refine wi_d (fun z => ?_) fun z => ?_
        · have ek : (!decide (a.s = c.s)) = kin a c := by simp [kin, fil, z]
          (repeat (first | walk_at "pwp" | refine wn_i (by omega) ?_ | simp only [xs0]))
          rw [ek]
          (repeat (first | walk_at "pwp" | refine wn_i (by omega) ?_))
          refine kin_ok (p := (true, a)) (q := (false, c)) ?_
          (repeat (first | walk_at "pwp" | refine wn_i (by omega) ?_))
          refine kin_ok (p := (false, c)) (q := (true, a)) ?_
          rw [kin_comm c a]
          (repeat (first | walk_at "pwp" | refine wn_i (by omega) ?_))
          refine kin_ok (p := (true, a)) (q := (false, c)) ?_
          (repeat (first | walk_at "pwp" | refine wn_i (by omega) ?_))
          refine ws_forI (fun zs π => ∃ (u6 : Option PV), (∀ z ∈ zs, z = .bl (kin a c)) ∧ π = [some (.io b2), some (.im (.lst (ps.map cv))), some (.im y), some (.im (cv (true, a))), some (.im (cv (false, c))), some (.im (.bl (kin a c))), fv u6]) _ _ ⟨u6, by simp, rfl⟩ ?_ ?_
          · rintro z zs π ⟨u6, hz, rfl⟩
            cases hz z (List.mem_cons_self ..)
            have hz' : ∀ z ∈ zs, z = .bl (kin a c) := fun x h => hz x (List.mem_cons_of_mem _ h)
            (repeat (first | walk_at "pwp" | refine wn_i (by omega) ?_ | simp only [ne_bb]))
            exact ⟨some _, hz', rfl⟩
          · rintro π ⟨u6, _, rfl⟩
            (repeat (first | walk_at "pwp" | refine wn_i (by omega) ?_))
            refine fill_ok (p := (true, a)) ?_
            (repeat (first | walk_at "pwp" | refine wn_i (by omega) ?_ | simp only [cvT, cvF, xs1, xs3, xs4]))
            refine same_w3 (fil a) ?_
            (repeat (first | walk_at "pwp" | refine wn_i (by omega) ?_))
            exact ⟨b2, some _, some _, some _, some _, u6, B2, rfl⟩
        · have ek : kin a c = false := by simp [kin, fil, z]
          (repeat (first | walk_at "pwp" | refine wn_i (by omega) ?_))
          refine kin_ok (p := (true, a)) (q := (false, c)) ?_
          rw [ek]
          (repeat (first | walk_at "pwp" | refine wn_i (by omega) ?_))
          refine kin_ok (p := (false, c)) (q := (true, a)) ?_
          rw [kin_comm c a]
          rw [ek]
          (repeat (first | walk_at "pwp" | refine wn_i (by omega) ?_))
          refine kin_ok (p := (true, a)) (q := (false, c)) ?_
          rw [ek]
          (repeat (first | walk_at "pwp" | refine wn_i (by omega) ?_))
          refine ws_forI (fun zs π => ∃ (u6 : Option PV), (∀ z ∈ zs, z = .bl false) ∧ π = [some (.io b2), some (.im (.lst (ps.map cv))), some (.im y), some (.im (cv (true, a))), some (.im (cv (false, c))), some (.im (.bl false)), fv u6]) _ _ ⟨u6, by simp, rfl⟩ ?_ ?_
          · rintro z zs π ⟨u6, hz, rfl⟩
            cases hz z (List.mem_cons_self ..)
            have hz' : ∀ z ∈ zs, z = .bl false := fun x h => hz x (List.mem_cons_of_mem _ h)
            (repeat (first | walk_at "pwp" | refine wn_i (by omega) ?_ | simp only [ne_bb]))
            exact ⟨some _, hz', rfl⟩
          · rintro π ⟨u6, _, rfl⟩
            (repeat (first | walk_at "pwp" | refine wn_i (by omega) ?_))
            refine fill_ok (p := (true, a)) ?_
            (repeat (first | walk_at "pwp" | refine wn_i (by omega) ?_ | simp only [cvT, cvF, xs1, xs3, xs4]))
            refine same_w3 (fil a) ?_
            (repeat (first | walk_at "pwp" | refine wn_i (by omega) ?_))
            exact ⟨b2, some _, some _, some _, some _, u6, B2, rfl⟩
    | false =>
      cases bq with
      | true =>
        (repeat (first | walk_at "pwp" | refine wn_i (by omega) ?_ | simp only [eq, cvT, cvF, cut12, cut3', e3]))
        refine wi_d (fun z => ?_) fun z => ?_
        · have ek : (!decide (a.s = c.s)) = kin a c := by simp [kin, fil, z]
          (repeat (first | walk_at "pwp" | refine wn_i (by omega) ?_ | simp only [xs0]))
          rw [ek]
          (repeat (first | walk_at "pwp" | refine wn_i (by omega) ?_))
          refine kin_ok (p := (false, a)) (q := (true, c)) ?_
          (repeat (first | walk_at "pwp" | refine wn_i (by omega) ?_))
          refine kin_ok (p := (true, c)) (q := (false, a)) ?_
          rw [kin_comm c a]
          (repeat (first | walk_at "pwp" | refine wn_i (by omega) ?_))
          refine kin_ok (p := (true, a)) (q := (false, c)) ?_
          (repeat (first | walk_at "pwp" | refine wn_i (by omega) ?_))
          refine ws_forI (fun zs π => ∃ (u6 : Option PV), (∀ z ∈ zs, z = .bl (kin a c)) ∧ π = [some (.io b2), some (.im (.lst (ps.map cv))), some (.im y), some (.im (cv (false, a))), some (.im (cv (true, c))), some (.im (.bl (kin a c))), fv u6]) _ _ ⟨u6, by simp, rfl⟩ ?_ ?_
          · rintro z zs π ⟨u6, hz, rfl⟩
            cases hz z (List.mem_cons_self ..)
            have hz' : ∀ z ∈ zs, z = .bl (kin a c) := fun x h => hz x (List.mem_cons_of_mem _ h)
            (repeat (first | walk_at "pwp" | refine wn_i (by omega) ?_ | simp only [ne_bb]))
            exact ⟨some _, hz', rfl⟩
          · rintro π ⟨u6, _, rfl⟩
            (repeat (first | walk_at "pwp" | refine wn_i (by omega) ?_))
            refine fill_ok (p := (false, a)) ?_
            (repeat (first | walk_at "pwp" | refine wn_i (by omega) ?_ | simp only [cvT, cvF, xs1, xs3, xs4]))
            refine same_w3 (fil a) ?_
            (repeat (first | walk_at "pwp" | refine wn_i (by omega) ?_))
            exact ⟨b2, some _, some _, some _, some _, u6, B2, rfl⟩
        · have ek : kin a c = false := by simp [kin, fil, z]
          (repeat (first | walk_at "pwp" | refine wn_i (by omega) ?_))
          refine kin_ok (p := (false, a)) (q := (true, c)) ?_
          rw [ek]
          (repeat (first | walk_at "pwp" | refine wn_i (by omega) ?_))
          refine kin_ok (p := (true, c)) (q := (false, a)) ?_
          rw [kin_comm c a]
          rw [ek]
          (repeat (first | walk_at "pwp" | refine wn_i (by omega) ?_))
          refine kin_ok (p := (true, a)) (q := (false, c)) ?_
          rw [ek]
          (repeat (first | walk_at "pwp" | refine wn_i (by omega) ?_))
          refine ws_forI (fun zs π => ∃ (u6 : Option PV), (∀ z ∈ zs, z = .bl false) ∧ π = [some (.io b2), some (.im (.lst (ps.map cv))), some (.im y), some (.im (cv (false, a))), some (.im (cv (true, c))), some (.im (.bl false)), fv u6]) _ _ ⟨u6, by simp, rfl⟩ ?_ ?_
          · rintro z zs π ⟨u6, hz, rfl⟩
            cases hz z (List.mem_cons_self ..)
            have hz' : ∀ z ∈ zs, z = .bl false := fun x h => hz x (List.mem_cons_of_mem _ h)
            (repeat (first | walk_at "pwp" | refine wn_i (by omega) ?_ | simp only [ne_bb]))
            exact ⟨some _, hz', rfl⟩
          · rintro π ⟨u6, _, rfl⟩
            (repeat (first | walk_at "pwp" | refine wn_i (by omega) ?_))
            refine fill_ok (p := (false, a)) ?_
            (repeat (first | walk_at "pwp" | refine wn_i (by omega) ?_ | simp only [cvT, cvF, xs1, xs3, xs4]))
            refine same_w3 (fil a) ?_
            (repeat (first | walk_at "pwp" | refine wn_i (by omega) ?_))
            exact ⟨b2, some _, some _, some _, some _, u6, B2, rfl⟩
      | false =>
        (repeat (first | walk_at "pwp" | refine wn_i (by omega) ?_ | simp only [eq, cvT, cvF, cut12, cut3', e3]))
        refine wi_d (fun z => ?_) fun z => ?_
        · have ek : (!decide (a.s = c.s)) = kin a c := by simp [kin, fil, z]
          (repeat (first | walk_at "pwp" | refine wn_i (by omega) ?_ | simp only [xs0]))
          rw [ek]
          (repeat (first | walk_at "pwp" | refine wn_i (by omega) ?_))
          refine kin_ok (p := (false, a)) (q := (false, c)) ?_
          (repeat (first | walk_at "pwp" | refine wn_i (by omega) ?_))
          refine kin_ok (p := (false, c)) (q := (false, a)) ?_
          rw [kin_comm c a]
          (repeat (first | walk_at "pwp" | refine wn_i (by omega) ?_))
          refine kin_ok (p := (true, a)) (q := (false, c)) ?_
          (repeat (first | walk_at "pwp" | refine wn_i (by omega) ?_))
          refine ws_forI (fun zs π => ∃ (u6 : Option PV), (∀ z ∈ zs, z = .bl (kin a c)) ∧ π = [some (.io b2), some (.im (.lst (ps.map cv))), some (.im y), some (.im (cv (false, a))), some (.im (cv (false, c))), some (.im (.bl (kin a c))), fv u6]) _ _ ⟨u6, by simp, rfl⟩ ?_ ?_
          · rintro z zs π ⟨u6, hz, rfl⟩
            cases hz z (List.mem_cons_self ..)
            have hz' : ∀ z ∈ zs, z = .bl (kin a c) := fun x h => hz x (List.mem_cons_of_mem _ h)
            (repeat (first | walk_at "pwp" | refine wn_i (by omega) ?_ | simp only [ne_bb]))
            exact ⟨some _, hz', rfl⟩
          · rintro π ⟨u6, _, rfl⟩
            (repeat (first | walk_at "pwp" | refine wn_i (by omega) ?_))
            refine fill_ok (p := (false, a)) ?_
            (repeat (first | walk_at "pwp" | refine wn_i (by omega) ?_ | simp only [cvT, cvF, xs1, xs3, xs4]))
            refine same_w3 (fil a) ?_
            (repeat (first | walk_at "pwp" | refine wn_i (by omega) ?_))
            exact ⟨b2, some _, some _, some _, some _, u6, B2, rfl⟩
        · have ek : kin a c = false := by simp [kin, fil, z]
          (repeat (first | walk_at "pwp" | refine wn_i (by omega) ?_))
          refine kin_ok (p := (false, a)) (q := (false, c)) ?_
          rw [ek]
          (repeat (first | walk_at "pwp" | refine wn_i (by omega) ?_))
          refine kin_ok (p := (false, c)) (q := (false, a)) ?_
          rw [kin_comm c a]
          rw [ek]
          (repeat (first | walk_at "pwp" | refine wn_i (by omega) ?_))
          refine kin_ok (p := (true, a)) (q := (false, c)) ?_
          rw [ek]
          (repeat (first | walk_at "pwp" | refine wn_i (by omega) ?_))
          refine ws_forI (fun zs π => ∃ (u6 : Option PV), (∀ z ∈ zs, z = .bl false) ∧ π = [some (.io b2), some (.im (.lst (ps.map cv))), some (.im y), some (.im (cv (false, a))), some (.im (cv (false, c))), some (.im (.bl false)), fv u6]) _ _ ⟨u6, by simp, rfl⟩ ?_ ?_
          · rintro z zs π ⟨u6, hz, rfl⟩
            cases hz z (List.mem_cons_self ..)
            have hz' : ∀ z ∈ zs, z = .bl false := fun x h => hz x (List.mem_cons_of_mem _ h)
            (repeat (first | walk_at "pwp" | refine wn_i (by omega) ?_ | simp only [ne_bb]))
            exact ⟨some _, hz', rfl⟩
          · rintro π ⟨u6, _, rfl⟩
            (repeat (first | walk_at "pwp" | refine wn_i (by omega) ?_))
            refine fill_ok (p := (false, a)) ?_
            (repeat (first | walk_at "pwp" | refine wn_i (by omega) ?_ | simp only [cvT, cvF, xs1, xs3, xs4]))
            refine same_w3 (fil a) ?_
            (repeat (first | walk_at "pwp" | refine wn_i (by omega) ?_))
            exact ⟨b2, some _, some _, some _, some _, u6, B2, rfl⟩
  · rintro π ⟨b, u2, u3, u4, u5, u6, B, rfl⟩
    (repeat (first | walk_at "pwp" | refine wn_i (by omega) ?_))
    exact g b (B.mono (by simp))
end Pq.k15

end
section
local macro_rules | `(tactic| walk_at "pwp") => `(tactic| simp -implicitDefEqProofs only [Pq.pSortC_ap, Pq.sortCO_s, Pq.pdiC_ap, Pq.qRevA_s, Pq.qRevA_t, Pq.qRevA_l, Pq.pMsN_ap, Pq.msN_s, Pq.msNO_s, Pq.pMi_ap, Pq.miA_b, Pq.miA_i, Pq.miB_s, Pq.miR_s, Pq.qExtend_l, Pq.pBn_ap, Pq.newK_s, Pq.newO_s, Pq.pNewK_ap, Pq.pNewT_ap, Pq.getA_K, Pq.getA_T, Pq.getA_Ki, Pq.getA_Ti, Pq.getB_s, Pq.getR_s, Pq.getR_n, Pq.dgetP_s, Pq.dgetP_i, Pq.dgetP_ss, Pq.dgetP_si, Pq.dgetP_ssi, Pq.ixR_s, Pq.pIx_ds, Pq.pIx_di, Pq.pIx_dt, Pq.pIn_ds, Pq.pIn_dt, Pq.pNotIn_ds, Pq.pNotIn_dt, Pq.inR_s, Pq.inO_f, Pq.inO_t, Pq.setIx_dK, Pq.setIx_dT_ss, Pq.setIx_dT_si, Pq.setIx_dT_ssi, Pq.qSortedK_d, Pq.skK_s, Option.isSome_some, Option.isSome_none, Pq.qListS_s, Pq.qListS_t, Pq.pDispC_ap, Pq.pGet2_ap, Pq.pntL_l, Pq.qIsNo_b, Pq.tyP_k, Pq.pdiZK_ap, Pq.zkK_t, Pq.qLenK_k, Pq.pIsN_k, Pq.flatC_n1, Pq.flatC_n2, Pq.flatC_n3, Pq.flatO_b, Pq.flatO_i, Pq.flatO_s, Pq.pIsN_b, Pq.pIsN_i, Pq.pIsN_s, Pq.pIsN_t, Pq.pIsN_l, Pq.pNotN_b, Pq.pNotN_i, Pq.pNotN_s, Pq.pNotN_t, Pq.pNotN_l, Pq.pdiZ_ap, Pq.zK_l, Pq.zK_t, Pq.pLtT_is, Pq.qIs_b, Pq.qInR_i, Pq.pSortK_ap, Pq.isIo_fw, Pq.pIn_t2, Pq.pNotIn_t2, Pq.pRev_t, Pq.pRev_l, Pq.pIn_sc, Pq.pIn_strs, Pq.qsJoin_l, Pq.pMs_ap, Pq.msK_s, Pq.ms2_s, Pq.wq_ms2i, Pq.wf_run, Pq.wf_ok, Pq.wf_ex, Pq.ws_nil, Pq.ws_seq, Pq.ws_ret, Pq.ws_retN, Pq.ws_raise, Pq.ws_expr, Pq.ws_set, Pq.ws_setA, Pq.wsetA_im, Pq.wsetA_ow, Pq.ws_if, Pq.ws_brk, Pq.ws_cnt, Pq.ws_aug, Pq.ws_par, Pq.ws_parG, Pq.ws_asg, Pq.ws_frz, Pq.ws_for, Pq.frz_0, Pq.frz_0i, Pq.frz_0n, Pq.frz_0o, Pq.frz_s, Pq.wg_go, Pq.wi_t, Pq.wi_f, Pq.wn_t, Pq.wq_ok, Pq.wq_ex, Pq.wq_bind, Pq.wq_optS, Pq.wq_gd, Pq.wq_szs, Pq.wq_optI, Pq.wq_ite, Pq.wq_br, Pq.bq_ok, Pq.brq_t, Pq.brq_f, Pq.wo_s, Pq.wo_n, Pq.wo_ite, Pq.wo_some_ite, Pq.wo_sub, Pq.pVar_s, Pq.pVar_im, Pq.pVar_ow, Pq.pVar_io, Pq.ps_0, Pq.ps_s, Pq.pC_ap, Pq.pOp_ap, Pq.pU_ap, Pq.pT_ap, Pq.pbAnd_ap, Pq.pbOr_ap, Pq.pbNot_ap, Pq.pAnd_ap, Pq.pOr_ap, Pq.pNot_ap, Pq.pIf_ap, Pq.pCh_ap, Pq.pCh3_ap, Pq.pasB_b, Pq.see2_e, Pq.see1_e, Pq.seeA_e, Pq.opt2_s, Pq.opt1_s, Pq.optA_s, Pq.pv_im, Pq.pv_ow, Pq.pv_br, Pq.ownK_ow, Pq.ownK_io, Pq.pvAll_n, Pq.pvAll_c, Pq.pvC_s, Pq.paNil_ap, Pq.paCons_ap, Pq.pB_ap, Pq.poI_im, Pq.poI_ow, Pq.pvNil_ap, Pq.pvCons_ap, Pq.pTup_ap, Pq.pLst_ap, Pq.pgNil_ap, Pq.pgCons_ap, Pq.argO_1, Pq.argO_2, Pq.argO_3, Pq.argO_4, Pq.argO_5, Pq.pNone_ap, Pq.asIq_i, Pq.pSome_ap, Pq.pSl_ap, Pq.pCall_ap, Pq.wq_call, Pq.callOk_e, Pq.brs_n, Pq.brs_br, Pq.brs_im, Pq.brs_ow, Pq.owc_n, Pq.owc_br, Pq.owc_im, Pq.owc_ow, Pq.nodB_n, Pq.nodB_1, Pq.nodB_2, Pq.nodB_3, Pq.imb_n, Pq.imb_f, Pq.imb_t, Pq.imb_fi, Pq.imb_fo, Pq.callFl_e, Pq.isE_n, Pq.isE_c, Pq.putO_n, Pq.putO_b, Pq.putO_f, Pq.putO_im, Pq.putO_ow, Pq.upd_0, Pq.upd_s, Pq.PS_put_im, Pq.PS_put_ow, Pq.PS_put_io, Pq.pAdd_ii, Pq.pAdd_ss, Pq.pAdd_ll, Pq.pAdd_tt, Pq.pSub_ii, Pq.pMul_ii, Pq.pMul_si, Pq.pMul_li, Pq.pMod_ii, Pq.pFdiv_ii, Pq.pPow_ii, Pq.pNeg_i, Pq.pLt_ii, Pq.pLe_ii, Pq.pGt_ii, Pq.pGe_ii, Pq.pLt_ss, Pq.pLe_ss, Pq.pAddI_ii, Pq.pAddI_ss, Pq.ixK_s, Pq.pIx_l, Pq.pIx_t, Pq.pIx_f, Pq.pSlF_l, Pq.pSlF_t, Pq.pSlF_f, Pq.pSlF_s, Pq.pEq_ii, Pq.pNe_ii, Pq.pEq_ss, Pq.pNe_ss, Pq.pEq_bb, Pq.pNe_bb, Pq.pIsN_n, Pq.pNotN_n, Pq.qLen_l, Pq.qLen_t, Pq.qLen_f, Pq.qLen_d, Pq.qLen_s, Pq.qAbs_i, Pq.qInt_i, Pq.qInt_b, Pq.qMax_ii, Pq.qMin_ii, Pq.qDivmod_ii, Pq.qList_l, Pq.qList_t, Pq.qList_f, Pq.qTuple_l, Pq.qTuple_t, Pq.qTuple_f, Pq.qStr_s, Pq.qStr_i, Pq.qStr_b, Pq.qStr_n, Pq.qIsi_e, Pq.qIsi2_e, Pq.tyP_1, Pq.tyP_2, Pq.tyP_3, Pq.tyP_4, Pq.tyP_5, Pq.tyP_6, Pq.tyP_7, Pq.tyP_8, Pq.sb_00, Pq.sb_01, Pq.sb_02, Pq.sb_03, Pq.sb_04, Pq.sb_05, Pq.sb_06, Pq.sb_10, Pq.sb_11, Pq.sb_12, Pq.sb_13, Pq.sb_14, Pq.sb_15, Pq.sb_16, Pq.sb_20, Pq.sb_21, Pq.sb_22, Pq.sb_23, Pq.sb_24, Pq.sb_25, Pq.sb_26, Pq.sb_30, Pq.sb_31, Pq.sb_32, Pq.sb_33, Pq.sb_34, Pq.sb_35, Pq.sb_36, Pq.sb_40, Pq.sb_41, Pq.sb_42, Pq.sb_43, Pq.sb_44, Pq.sb_45, Pq.sb_46, Pq.sb_50, Pq.sb_51, Pq.sb_52, Pq.sb_53, Pq.sb_54, Pq.sb_55, Pq.sb_56, Pq.sb_60, Pq.sb_61, Pq.sb_62, Pq.sb_63, Pq.sb_64, Pq.sb_65, Pq.sb_66, Pq.retO_im, Pq.retO_ow, Pq.retO_br, Pq.retK_s, Pq.isIo_fv, Pq.notOwn_fv, Pq.frz_fv, Pq.isIo_im, Pq.isIo_ow, Pq.isIo_io, Pq.isIo_n, Pq.isIo_s, Pq.pset_n, Pq.pset_c, Pq.psetG_n, Pq.psetG_i, Pq.psetG_o, Pq.pnt_nm, Pq.pnt_tp, Pq.pnt_tpl, Pq.ex_im, Pq.setIx_li, Pq.setK_s, Pq.prunT_n, Pq.prunT_c, Pq.pgT_t, Pq.wq_mt, Pq.isLK_s, Pq.mtK_s, Pq.qAppend_1, Pq.qReverse_0, Pq.qClear_0, Pq.qInsert_2, Pq.okw_n, Pq.all_n, Pq.pdiV_ap, Pq.pitV_e, Pq.pitK_l, Pq.pitK_lo, Pq.pitK_lb, Pq.pitK_t, Pq.pitK_f, Pq.pitK_s, Pq.pdiR1_ap, Pq.pdiR2_ap, Pq.pdiR1_e, Pq.pdiR2_e, Pq.pdiE_ap, Pq.penO_ol, Pq.penO_il, Pq.wq_comp, Pq.pYes_ap, Pq.wipeP_n, Pq.wipeP_c, Pq.restP_n, Pq.restP_c, Pq.notOwn_0, Pq.notOwn_1, Pq.notOwn_2, Pq.notOwn_3, Pq.notOwn_s, Pq.all_c, Pq.all_e, Pq.Kf_nx, Pq.Kf_rt, Pq.Kf_ex, Pq.wout_e, Pq.outK_n, Pq.outK_f, Pq.outK_t, Pq.contK_s, Pq.start_n, Pq.start_t, Pq.start_f, Pq.Kin_nx, Pq.Kin_ct, Pq.Kin_bk, Pq.Kin_rt, Pq.Kin_ex, Pq.atI_0, Pq.atI_1, Pq.atI_2, Pq.atI_3, Pq.atI_4, List.set_cons_succ, List.set_cons_zero, List.map_cons, List.map_nil, List.cons_append, List.nil_append, List.length_cons, List.length_nil, List.replicate_succ, List.replicate_zero, List.append_nil, Nat.reduceSub, Nat.reduceAdd, Nat.reduceMul, Int.reduceAdd, Int.reduceSub, Int.reduceMul, Int.reduceNeg, Int.reduceLT, Int.reduceLE, Nat.reduceLeDiff, Nat.reduceLT, decide_true, decide_false, Int.reduceToNat, Bool.not_true, Bool.not_false, and_true, true_and, and_self, true_or, or_true, List.set_nil, Int.reduceMod, Int.reduceDiv, Int.reducePow, Int.cast_ofNat_Int, Int.reduceEq, Int.reduceNe, Nat.reduceEqDiff, eq_self, false_and, and_false, Nat.zero_add, Int.zero_add, Int.add_zero, or_false, false_or, Option.getD_some, Option.getD_none, List.getElem?_cons_zero, List.getElem?_cons_succ, reduceIte, Bool.and_self, Bool.or_self, Bool.and_true, Bool.true_and, Bool.and_false, Bool.false_and, Bool.or_true, Bool.or_false, Bool.true_or, Bool.false_or, Bool.false_eq_true, Bool.true_eq_false, not_true_eq_false, not_false_eq_true])
namespace Pq.k15
open PySem L2 Mi PyProof.Rows
theorem first_ok {b : PV} {N : PEn → Prop} (B : Bx 1000000000 b)
    (g : ∀ (us ys : List (List Nat)) (n : Int) (ps : List (Bool × Ck)) (sp : Ck) (b' : PV), ps.length ≤ 39 → (∀ p ∈ ps, COk p.2) → COk sp → Bx 900000000 b' →
      N [some (.io b'), some (.im (.lst (us.map PV.str))), some (.im (.lst (ys.map PV.str))), some (.im (.int n)), some (.im (.lst ((ps.map (·.2)).map Ck.v))), some (.im sp.v), some (.im (.lst (ps.map cv))), none, some (.im (.str (PV.lst (ps.map cv)).rx)), some (.im (.lst ((grp (ps.map (·.2))).map gV))), none, none, none, none, none]) :
    @ws (pb_l_right_0 [some (.io b), none, none, none, none, none, none, none, none, none, none, none, none, none, none]) ⟨(KN N)⟩ := by
  unfold pb_l_right_0
  (repeat (first | walk_at "pwp" | refine wn_i (by omega) ?_))
  refine take_ok B (by omega) (by decide) (by decide) fun t1 b1 t10 t11 B1 => ?_
  obtain ⟨m, hm⟩ : ∃ m : Nat, 1 + t1 = m := ⟨(1 + t1).toNat, by omega⟩
  (repeat (first | walk_at "pwp" | refine wn_i (by omega) ?_ | simp only [hm]))
  refine names_ok B1 (by omega) (by omega) fun us b2 ul hu _ B2 => ?_
  have B2 : Bx 999000000 b2 := B2.mono (by omega)
  (repeat (first | walk_at "pwp" | refine wn_i (by omega) ?_))
  refine take_ok B2 (by omega) (by decide) (by decide) fun t2 b3 t20 t21 B3 => ?_
  obtain ⟨m2, hm2⟩ : ∃ m : Nat, 1 + t2 = m := ⟨(1 + t2).toNat, by omega⟩
  (repeat (first | walk_at "pwp" | refine wn_i (by omega) ?_ | simp only [hm2]))
  refine names_ok B3 (by omega) (by omega) fun ys b4 yl hy _ B4 => ?_
  have B4 : Bx 998000000 b4 := B4.mono (by omega)
  (repeat (first | walk_at "pwp" | refine wn_i (by omega) ?_))
  refine take_ok B4 (by omega) (by decide) (by decide) fun n1 b5 n10 n11 B5 => ?_
  (repeat (first | walk_at "pwp" | refine wn_i (by omega) ?_))
  refine take_ok B5 (by omega) (by decide) (by decide) fun n2 b6 n20 n21 B6 => ?_
  (repeat (first | walk_at "pwp" | refine wn_i (by omega) ?_))
  refine take_ok B6 (by omega) (by decide) (by decide) fun n3 b7 r0 r1 B7 => ?_
  obtain ⟨nx, e4, _, hn⟩ := atI_lt r0 (by simpa using r1) (xs := [PV.int n1, .int n2, .int 39])
  obtain ⟨n, rfl, hn⟩ : ∃ n : Nat, nx = .int n ∧ n ≤ 39 := by
    simp only [List.mem_cons, List.not_mem_nil, or_false] at hn
    rcases hn with rfl | rfl | rfl
    · exact ⟨n1.toNat, by rw [Int.toNat_of_nonneg (by omega)], by omega⟩
    · exact ⟨n2.toNat, by rw [Int.toNat_of_nonneg (by omega)], by omega⟩
    · exact ⟨39, rfl, by omega⟩
  have B7 : Bx 997000000 b7 := B7.mono (by omega)
  have e5 : (n : Int) + 1 = ((n + 1 : Nat) : Int) := rfl
  (repeat (first | walk_at "pwp" | refine wn_i (by omega) ?_ | simp only [e4, e5]))
  refine casks_ok (m := n + 1) B7 (by omega) (by omega) (by intro e; simp [e] at ul; omega) (by intro e; simp [e] at yl; omega) (by omega) (by omega) hu hy fun cs b8 cl hc nd B8 => ?_
  have B8 : Bx 996000000 b8 := B8.mono (by omega)
  obtain ⟨ds, sp, rfl⟩ : ∃ ds sp, cs = ds ++ [sp] := by
    have : cs ≠ [] := by intro e; simp [e] at cl
    exact ⟨cs.dropLast, cs.getLast this, (List.dropLast_concat_getLast this).symm⟩
  have hpop : qPop ((ds ++ [sp]).map Ck.v) [] = some (sp.v, ds.map Ck.v) := by simp [qPop]
  have dl : ds.length = n := by simpa using cl
  (repeat (first | walk_at "pwp" | refine wn_i (by omega) ?_ | simp only [hpop]))
  refine wn_i (by rw [List.length_map]; omega) ?_
  (repeat (first | walk_at "pwp" | refine wn_i (by omega) ?_))
  have dc : ∀ c ∈ ds, COk c := fun c h => hc c (List.mem_append_left _ h)
  have sc : COk sp := hc sp (by simp)
  refine wq_compI (fun xs don π => ∃ (b : PV) (qs : List (Bool × Ck)) (rs : List Ck), Bx (980000000 + xs.length) b ∧ xs = rs.map Ck.v ∧ don = qs.map cv ∧ qs.map (·.2) ++ rs = ds ∧
    π = [some (.io b), some (.im (.lst (us.map PV.str))), some (.im (.lst (ys.map PV.str))), some (.im (.int n)), some (.im (.lst (ds.map Ck.v))), some (.im sp.v), none, none, none, none, none, none, none, none, none]) _ _ ⟨b8, [], ds, B8.mono (by rw [List.length_map]; omega), rfl, rfl, rfl, rfl⟩ ?_ ?_
  · rintro x xs don π ⟨b, qs, rs, B, ex, rfl, e, rfl⟩
    obtain ⟨c, rs, rfl⟩ : ∃ c rs', rs = c :: rs' := by
      cases rs with
      | nil => simp at ex
      | cons c rs => exact ⟨c, rs, rfl⟩
    simp only [List.map_cons, List.cons.injEq] at ex
    obtain ⟨rfl, rfl⟩ := ex
    walk_at "pwp"
    refine take_ok B (by simp; omega) (by decide) (by decide) fun t b' t0 t1 B' => ?_
    have B' : Bx (980000000 + (rs.map Ck.v).length) b' := B'.mono (by simp)
    (repeat (first | walk_at "pwp" | refine wn_i (by omega) ?_))
    refine wi_d (fun _ => ?_) fun _ => ?_
    · (repeat (first | walk_at "pwp" | refine wn_i (by omega) ?_ | simp only [show qList [c.v] = some (.ow (.lst c.xs)) from rfl]))
      exact ⟨b', qs ++ [(true, c)], rs, B', rfl, by simp [cv], by simpa using e, rfl⟩
    · (repeat (first | walk_at "pwp" | refine wn_i (by omega) ?_))
      exact ⟨b', qs ++ [(false, c)], rs, B', rfl, by simp [cv, Ck.v], by simpa using e, rfl⟩
  · rintro xs π ⟨b, qs, rs, B, ex, rfl, e, rfl⟩
    have : rs = [] := by simpa using ex
    subst this
    simp only [List.append_nil] at e
    subst e
    have ql : qs.length = n := by simpa using dl
    have qc : ∀ p ∈ qs, COk p.2 := fun p hp => dc _ (List.mem_map.mpr ⟨p, hp, rfl⟩)
    have tk := handed_tok qc (by omega)
    (repeat (first | walk_at "pwp" | refine wn_i (by omega) ?_ | simp only [qRepr_of tk]))
    refine due_ok (by rw [List.length_map]; omega) ?_
    (repeat (first | walk_at "pwp" | refine wn_i (by omega) ?_))
    exact g us ys n qs sp b (by omega) qc sc (B.mono (by omega))
theorem found_ok {ps : List (Bool × Ck)} {t : Int} {N : PEn → Prop} (pl : ps.length ≤ 39)
    (g : N [none, none, none, none, none, none, some (.im (.lst (ps.map cv))), none, none, none, some (.im (.int t)), some (.ow (.lst ((grp (ps.map (·.2))).map gV))), none, none, none]) :
    @ws (pb_l_right_1_0 [none, none, none, none, none, none, some (.im (.lst (ps.map cv))), none, none, none, some (.im (.int t)), none, none, none, none]) ⟨(KN N)⟩ := by
  unfold pb_l_right_1_0
  (repeat (first | walk_at "pwp" | refine wn_i (by omega) ?_))
  refine wi_d (fun _ => ?_) fun _ => ?_
  · (repeat (first | walk_at "pwp" | refine wn_i (by omega) ?_))
    refine groups_ok (.inl rfl) (by omega) ?_
    (repeat (first | walk_at "pwp" | refine wn_i (by omega) ?_))
    exact g
  · (repeat (first | walk_at "pwp" | refine wn_i (by omega) ?_))
    refine groups_ok (.inr rfl) (by omega) ?_
    (repeat (first | walk_at "pwp" | refine wn_i (by omega) ?_))
    exact g
theorem check_ok {ps : List (Bool × Ck)} (pl : ps.length ≤ 39) (hc : ∀ p ∈ ps, COk p.2) :
    @ws (pb_l_right_1_1 [none, none, none, none, none, none, some (.im (.lst (ps.map cv))), none, some (.im (.str (PV.lst (ps.map cv)).rx)), some (.im (.lst ((grp (ps.map (·.2))).map gV))), none, some (.im (.lst ((grp (ps.map (·.2))).map gV))), none, none, none]) ⟨(KN fun _ => True)⟩ := by
  unfold pb_l_right_1_1
  have tk := handed_tok hc (by omega)
  (repeat (first | walk_at "pwp" | refine wn_i (by omega) ?_))
  refine same_gs (by rw [List.length_map]; omega) ?_
  (repeat (first | walk_at "pwp" | refine wn_i (by omega) ?_ | simp only [qRepr_of tk]))
theorem way_ok {b : PV} {ps : List (Bool × Ck)} {N : PEn → Prop} (B : Bx 900000000 b) (pl : ps.length ≤ 39)
    (g : ∀ (b' : PV) (w : Int), Bx 800000000 b' → 0 ≤ w → w < 3 → (ps = [] → w = 0) → N [some (.ow b'), none, none, none, some (.im (.lst ((ps.map (·.2)).map Ck.v))), none, some (.im (.lst (ps.map cv))), none, none, some (.im (.lst ((grp (ps.map (·.2))).map gV))), none, none, none, none, some (.im (.int w))]) :
    @ws (pb_l_right_2 [some (.ow b), none, none, none, some (.im (.lst ((ps.map (·.2)).map Ck.v))), none, some (.im (.lst (ps.map cv))), none, none, some (.im (.lst ((grp (ps.map (·.2))).map gV))), none, none, none, none, none]) ⟨(KN N)⟩ := by
  unfold pb_l_right_2
  have ne : pNe (.lst ((ps.map (·.2)).map Ck.v)) (.lst []) = some (.im (.bl (!decide (ps.map (·.2) = [])))) := by
    have e := eq_nil (ps.map (·.2))
    simp only [pEq, Option.map_eq_some_iff] at e
    obtain ⟨k, e1, e2⟩ := e
    simp only [PO.im.injEq, PV.bl.injEq] at e2
    simp only [pNe, e1, Option.map_some, e2]
  (repeat (first | walk_at "pwp" | refine wn_i (by omega) ?_ | simp only [ne]))
  refine wi_b (fun z => ?_) fun z => ?_
  · have z0 : ¬ ps.map (·.2) = [] := by simpa using z
    have p0 : ps ≠ [] := fun e => z0 (by rw [e]; rfl)
    (repeat (first | walk_at "pwp" | refine wn_i (by omega) ?_ | simp only [ne]))
    refine pairs_ok B (by omega) p0 (by omega) fun b1 B1 => ?_
    have B1 : Bx 890000000 b1 := B1.mono (by omega)
    (repeat (first | walk_at "pwp" | refine wn_i (by omega) ?_ | simp only [ne]))
    rw [z]
    (repeat (first | walk_at "pwp" | refine wn_i (by omega) ?_))
    refine take_ok B1 (by omega) (by decide) (by decide) fun w b2 w0 w1 B2 => ?_
    (repeat (first | walk_at "pwp" | refine wn_i (by omega) ?_))
    refine groups_ok (.inl rfl) (by omega) ?_
    (repeat (first | walk_at "pwp" | refine wn_i (by omega) ?_))
    refine same_gs (by rw [List.length_map]; omega) ?_
    (repeat (first | walk_at "pwp" | refine wn_i (by omega) ?_))
    exact g b2 w (B2.mono (by omega)) w0 w1 (fun e => absurd e p0)
  · have z0 : ps.map (·.2) = [] := by simpa using z
    (repeat (first | walk_at "pwp" | refine wn_i (by omega) ?_ | simp only [ne]))
    rw [z]
    (repeat (first | walk_at "pwp" | refine wn_i (by omega) ?_))
    refine groups_ok (.inl rfl) (by omega) ?_
    (repeat (first | walk_at "pwp" | refine wn_i (by omega) ?_))
    refine same_gs (by rw [List.length_map]; omega) ?_
    (repeat (first | walk_at "pwp" | refine wn_i (by omega) ?_))
    exact g b 0 (B.mono (by omega)) (by omega) (by omega) (fun _ => rfl)
theorem erase_map {α β : Type} (f : α → β) : ∀ (l : List α) (i : Nat), (l.map f).eraseIdx i = (l.eraseIdx i).map f
  | [], _ => rfl
  | x :: l, 0 => rfl
  | x :: l, i + 1 => by simp [erase_map f l i]
theorem last_ok {b : PV} {ps : List (Bool × Ck)} {sp : Ck} {w : Int} (B : Bx 800000000 b) (pl : ps.length ≤ 39) (w0 : 0 ≤ w) (w1 : w < 3) (wz : ps = [] → w = 0) :
    @ws (pb_l_right_3 [some (.ow b), none, none, none, none, some (.im sp.v), some (.ow (.lst (ps.map cv))), none, none, none, none, none, none, none, some (.im (.int w))]) ⟨(KR fun o _ => o = .im (.bl true))⟩ := by
  unfold pb_l_right_3
  (repeat (first | walk_at "pwp" | refine wn_i (by omega) ?_))
  refine wi_join (fun π => ∃ (b' : PV) (ps' : List (Bool × Ck)), ps'.length ≤ 40 ∧ π = [some (.ow b'), none, none, none, none, some (.im sp.v), some (.ow (.lst (ps'.map cv))), none, none, none, none, none, none, none, some (.im (.int w))]) ?_ ?_
  · refine wi_d (fun z0 => ?_) fun z0 => ?_
    · (repeat (first | walk_at "pwp" | refine wn_i (by omega) ?_))
      refine take_ok B (by omega) (by omega) (by rw [List.length_map]; omega) fun t b1 t0 t1 B1 => ?_
      (repeat (first | walk_at "pwp" | refine wn_i (by omega) ?_))
      refine wn_i ⟨by rw [List.length_map]; omega, t0, by rw [List.length_map] at t1; omega⟩ ?_
      (repeat (first | walk_at "pwp" | refine wn_i (by omega) ?_))
      refine ⟨b1, ps.take t.toNat ++ [(false, sp)] ++ ps.drop t.toNat, ?_, ?_⟩
      · simp only [List.length_append, List.length_take, List.length_drop, List.length_cons, List.length_nil]; omega
      · simp [cv, Ck.v, List.map_take, List.map_drop]
    · (repeat (first | walk_at "pwp" | refine wn_i (by omega) ?_))
      refine wi_d (fun z1 => ?_) fun z1 => ?_
      · have p0 : 0 < ps.length := List.length_pos_iff.mpr fun e => z0 (wz e)
        (repeat (first | walk_at "pwp" | refine wn_i (by omega) ?_))
        refine take_ok B (by omega) (by rw [List.length_map]; omega) (by rw [List.length_map]; omega) fun t b1 t0 t1 B1 => ?_
        have e9 : ixN (ps.map cv).length t = some t.toNat := ixN_ok t0 t1
        obtain ⟨p, hp, ep⟩ := at_cv t0 (by rw [List.length_map] at t1; exact t1)
        have ea : (ps.map cv)[t.toNat]? = some (cv p) := by
          obtain ⟨x, e1, e2, _⟩ := atI_lt (xs := ps.map cv) t0 t1
          rw [ep] at e1
          cases e1
          exact e2
        have hpop : qPopAt (ps.map cv) [.int t] = some (cv p, (ps.map cv).eraseIdx t.toNat) := by
          rw [List.length_map] at t1
          simp only [qPopAt, e9, ea]
          rw [if_pos ⟨by omega, by omega⟩]
        (repeat (first | walk_at "pwp" | refine wn_i (by omega) ?_ | simp only [hpop]))
        rw [erase_map]
        exact ⟨b1, ps.eraseIdx t.toNat, by rw [List.length_eraseIdx]; split <;> omega, rfl⟩
      · have p0 : 0 < ps.length := List.length_pos_iff.mpr fun e => z0 (wz e)
        (repeat (first | walk_at "pwp" | refine wn_i (by omega) ?_))
        refine take_ok B (by omega) (by rw [List.length_map]; omega) (by rw [List.length_map]; omega) fun t b1 t0 t1 B1 => ?_
        have e8 : ixN (ps.map cv).length t = some t.toNat := ixN_ok t0 t1
        (repeat (first | walk_at "pwp" | refine wn_i (by omega) ?_ | simp only [setIx_li, setK_s, e8]))
        have q0 : (ps.map cv).set t.toNat sp.v = (ps.set t.toNat (false, sp)).map cv := by
          rw [List.map_set]; rfl
        rw [q0]
        exact ⟨b1, ps.set t.toNat (false, sp), by rw [List.length_set]; omega, rfl⟩
  · rintro π ⟨b', ps', pl', rfl⟩
    (repeat (first | walk_at "pwp" | refine wn_i (by omega) ?_))
    refine groups_ok (.inl rfl) (by omega) ?_
    (repeat (first | walk_at "pwp" | refine wn_i (by omega) ?_))
    refine wn_i (by rw [List.length_map]; omega) ?_
    (repeat (first | walk_at "pwp" | refine wn_i (by omega) ?_))
    refine wq_map (fun x => match qTuple [x] with | some (.im y) => y | _ => .non) _ (fun x hx => ?_) ?_
    · obtain ⟨p, _, rfl⟩ := List.mem_map.mp hx
      (repeat (first | walk_at "pwp" | refine wn_i (by omega) ?_ | simp only [qTuple_cv]))
    have tail : (ps'.map cv).map (fun x => match qTuple [x] with | some (.im y) => y | _ => .non) = (ps'.map (·.2)).map Ck.v := by
      rw [List.map_map, List.map_map]
      refine List.map_congr_left fun p _ => ?_
      simp only [Function.comp, qTuple_cv]
    rw [tail]
    (repeat (first | walk_at "pwp" | refine wn_i (by omega) ?_))
    refine due_ok (by rw [List.length_map]; omega) ?_
    (repeat (first | walk_at "pwp" | refine wn_i (by omega) ?_))
    refine same_gs (by rw [List.length_map]; omega) ?_
    (repeat (first | walk_at "pwp" | refine wn_i (by omega) ?_))
end Pq.k15

end
namespace Pq.k15
open PySem L2 Mi
theorem rnT {T : Nat → Prop} {h : MH} {ρ : En} {π : PEn} {js : Js} (z : ZR h (Sj T js) ρ π js) (inj : ∀ (i j n : Nat), js[i]? = some (some n) → js[j]? = some (some n) → i = j)
    (tl : ∀ n, T n → n < h.length) (ta : ∀ (i n : Nat), js[i]? = some (some n) → ¬ T n) : Rn T (jA js) h ρ π := by
  refine ⟨z.len, fun i d e => ?_, fun i s d e q => ?_, fun i m e => ?_, fun i k m e1 e2 => inj i k m (jA_s.1 e1) (jA_s.1 e2), tl, fun i m e => ta i m (jA_s.1 e)⟩
  · rcases z.at_ i _ e with ⟨d', v, e1, e2, r⟩ | ⟨d', n', o, e1, _⟩
    · cases e1
      exact ⟨v, e2, r.weak fun m z => (jA_av m).1 z⟩
    · cases e1
  · rcases z.at_ i _ e with ⟨d', v, e1, e2, r⟩ | ⟨d', n', o, e1, e2, e3, e4, e5⟩
    · subst e1; cases q
    · subst e1; cases q
      exact ⟨n', o, jA_s.2 e5, e2, e3, e4.mono (sub_mk fun m z => (jA_av m).1 z)⟩
  · obtain ⟨d, e2⟩ := z.js i m (jA_s.1 e)
    exact ⟨_, d, e2, rfl⟩
theorem part_nxT {T : Nat → Prop} {s : SD} {p : PSD} (hp : PuS s p) {h : MH} {ρ : En} {π : PEn} {A : Aa} (rn : Rn T A h ρ π) {N : PEn → Prop} (w : @ws (p π) ⟨(KN N)⟩) : ∃ ρ' h' π', s ρ h = .nx ρ' h' ∧ Nx T A h π π' ρ' h' ∧ N π' := by
  obtain ⟨π', e, n⟩ := ws_nx w
  have g := hp T A h ρ π rn
  rw [e] at g
  obtain ⟨ρ', h', e2, nx⟩ := g
  exact ⟨ρ', h', π', e2, nx, n⟩
theorem set_nx {i : Nat} {d : D} {ρ ρ' : En} {h h' : MH} (e : sSet i d ρ h = .nx ρ' h') : ∃ v, ρ' = ρ.set i (some v) := by
  unfold sSet R.out at e
  cases q : d ρ h with
  | ok o h1 =>
    rw [q] at e
    simp only [Out.nx.injEq] at e
    exact ⟨_, e.1.symm⟩
  | ex c h1 => rw [q] at e; cases e
  | bad => rw [q] at e; cases e
abbrev GP := (F3 × List (List Nat)) × Nat
def gVal (p : GP) : Val := .tup [v3 p.1.1, .ref p.2]
def stL' (ms : List (List Nat)) : List Val := ms.map Val.str
section
variable {h : MH} {S S' : Nat → Prop}
theorem strs_inv : ∀ {ms : List (List Nat)} {xs : List Val}, Ims h S xs (ms.map PV.str) → xs = stL' ms
  | [], _, .nil => rfl
  | m :: ms, _, .cons a b => by
    cases a
    rw [strs_inv b]; rfl
theorem w3_inv {f : F3} {x : Val} (i : Im h S x (w3 f)) : x = v3 f := by
  unfold w3 at i
  cases i with
  | tup i =>
    cases i with
    | cons a i =>
      cases i with
      | cons b i =>
        cases i with
        | cons c i =>
          cases i; cases a; cases b; cases c
          rfl
theorem gs_inv : ∀ {G : List (F3 × List (List Nat))} {xs : List Val}, Ims h S xs (G.map gV) → ∃ ps : List GP, xs = ps.map gVal ∧ ps.map (·.1) = G ∧ ∀ p ∈ ps, ¬ S p.2 ∧ h[p.2]? = some (.lst (stL' p.1.2))
  | [], _, .nil => ⟨[], rfl, rfl, fun p hp => nomatch hp⟩
  | g :: G, _, .cons a b => by
    obtain ⟨ps, e1, e2, e3⟩ := gs_inv b
    unfold gV at a
    cases a with
    | tup a =>
      cases a with
      | cons a1 a2 =>
        cases a2 with
        | cons a2 a3 =>
          cases a3
          cases a2 with
          | ref ns e i =>
            rename_i m ys
            cases w3_inv a1
            rw [strs_inv i] at e
            refine ⟨(g, m) :: ps, by rw [e1]; rfl, by rw [List.map_cons, e2], fun p hp => ?_⟩
            rcases List.mem_cons.mp hp with rfl | hp
            · exact ⟨ns, e⟩
            · exact e3 p hp
theorem gs_im {ps : List GP} (k : ∀ p ∈ ps, ¬ S p.2 ∧ h[p.2]? = some (.lst (stL' p.1.2))) : Ims h S (ps.map gVal) ((ps.map (·.1)).map gV) := by
  induction ps with
  | nil => exact .nil
  | cons p ps ih =>
    obtain ⟨a, b⟩ := k p (List.mem_cons_self ..)
    refine .cons (.tup (.cons (.tup (.cons (.str _) (.cons (.str _) (.cons (.int _) .nil)))) (.cons (.ref a b ?_) .nil))) (ih fun q hq => k q (List.mem_cons_of_mem _ hq))
    have : ∀ ms : List (List Nat), Ims h S (stL' ms) (ms.map PV.str) := fun ms => by
      induction ms with
      | nil => exact .nil
      | cons m ms ih => exact .cons (.str _) ih
    exact this _
def ckL (c : Ck) : List Val := [.str c.s, .str c.w, .int c.o, .str c.y, .int c.f]
theorem xs_inv {c : Ck} {xs : List Val} (i : Ims h S xs c.xs) : xs = ckL c := by
  unfold Ck.xs at i
  cases i with
  | cons a i => cases i with
    | cons b i => cases i with
      | cons c i => cases i with
        | cons d i => cases i with
          | cons e i => cases i; cases a; cases b; cases c; cases d; cases e; rfl
theorem xs_im (c : Ck) : Ims h S (ckL c) c.xs := .cons (.str _) (.cons (.str _) (.cons (.int _) (.cons (.str _) (.cons (.int _) .nil))))
theorem cv_mv {h' : MH} (k : ∀ n c, ¬ S n → h[n]? = some (.lst (ckL c)) → h'[n]? = some (.lst (ckL c)) ∧ ¬ S' n) : ∀ {ps : List (Bool × Ck)} {xs : List Val}, Ims h S xs (ps.map cv) → Ims h' S' xs (ps.map cv)
  | [], _, .nil => .nil
  | (true, c) :: ps, _, .cons a b => by
    refine .cons ?_ (cv_mv k b)
    cases a with
    | ref ns e i =>
      cases xs_inv i
      obtain ⟨e', ns'⟩ := k _ c ns e
      exact .ref ns' e' (xs_im c)
  | (false, c) :: ps, _, .cons a b => by
    refine .cons ?_ (cv_mv k b)
    cases a with
    | tup i =>
      cases xs_inv i
      exact .tup (xs_im c)
theorem cv_head {p : Bool × Ck} {ps : List (Bool × Ck)} {xs : List Val} (i : Ims h S xs ((p :: ps).map cv)) : ∃ x ys, xs = x :: ys ∧ ∀ b, x ≠ .str b := by
  cases i with
  | cons a b =>
    refine ⟨_, _, rfl, fun s e => ?_⟩
    subst e
    obtain ⟨q, c⟩ := p
    cases q
    · cases a
    · cases a
end
abbrev TS (h : MH) : Nat → Prop := fun n => ∃ b bs, h[n]? = some (.lst (Val.str b :: stL' bs))
theorem ck_ts {h : MH} {n : Nat} {c : Ck} (e : h[n]? = some (.lst (ckL c))) : ¬ TS h n := by
  rintro ⟨b, bs, e2⟩
  rw [e] at e2
  simp only [Option.some.injEq, Ob.lst.injEq, ckL, List.cons.injEq] at e2
  obtain ⟨_, e3⟩ := e2
  cases bs with
  | nil => cases e3
  | cons b2 bs =>
    simp only [stL', List.map_cons, List.cons.injEq] at e3
    cases bs with
    | nil => cases e3.2
    | cons b3 bs => simp at e3
theorem hand_ts {h : MH} {S : Nat → Prop} {n : Nat} {ps : List (Bool × Ck)} {xs : List Val} (e : h[n]? = some (.lst xs)) (i : Ims h S xs (ps.map cv)) : ¬ TS h n := by
  rintro ⟨b, bs, e2⟩
  rw [e] at e2
  simp only [Option.some.injEq, Ob.lst.injEq] at e2
  subst e2
  cases ps with
  | nil => cases i
  | cons p ps =>
    obtain ⟨x, ys, ex, nx⟩ := cv_head i
    cases ex
    exact nx b rfl
theorem app_loop {n L : Nat} {ys : List Val} {x0 x1 x2 x3 x4 x5 x6 x7 x8 x9 x10 x14 : Option Val} : ∀ (ps : List GP) (h : MH) (x12 x13 : Option Val), (∀ p ∈ ps, L ≤ p.2 ∧ p.2 ≠ n ∧ ∃ zs, h[p.2]? = some (.lst zs) ∧ zs.length + ps.length ≤ 2000) → h[n]? = some (.lst ys) →
    ∃ y12 y13 h', forL (.tp [12, 13]) (sExpr (dMt isL (onL lAppend) (dVar 13) (vCons (dC (.str [122, 122])) vNil))) (live (.v (.ref n)) ys) (ps.map gVal) [x0, x1, x2, x3, x4, x5, x6, x7, x8, x9, x10, some (.ref n), x12, x13, x14] h = .nx [x0, x1, x2, x3, x4, x5, x6, x7, x8, x9, x10, some (.ref n), y12, y13, x14] h' ∧
      h'.length = h.length ∧ (∀ j, j < L → j ≠ n → h'[j]? = h[j]?) ∧ h'[n]? = some (.lst ys)
  | [], h, x12, x13, k, e => ⟨x12, x13, h, by simp [forL, live, e], rfl, fun _ _ _ => rfl, e⟩
  | p :: ps, h, x12, x13, k, e => by
    obtain ⟨l, ne, zs, ez, lz⟩ := k p (List.mem_cons_self ..)
    have lp := lt_of_get ez
    simp only [List.length_cons] at lz
    obtain ⟨y12, y13, h', q, l', k', e'⟩ := app_loop (x0 := x0) (x1 := x1) (x2 := x2) (x3 := x3) (x4 := x4) (x5 := x5) (x6 := x6) (x7 := x7) (x8 := x8) (x9 := x9) (x10 := x10) (x14 := x14) (L := L) ps (h.set p.2 (.lst (zs ++ [.str [122, 122]]))) (some (v3 p.1.1)) (some (.ref p.2)) (fun r hr => by
      obtain ⟨l2, ne2, zs2, ez2, lz2⟩ := k r (List.mem_cons_of_mem _ hr)
      simp only [List.length_cons] at lz2
      refine ⟨l2, ne2, ?_⟩
      by_cases s : r.2 = p.2
      · rw [s, List.getElem?_set_self lp]
        exact ⟨_, rfl, by simp only [List.length_append, List.length_cons, List.length_nil]; omega⟩
      · rw [List.getElem?_set_ne (fun z => s z.symm)]
        exact ⟨zs2, ez2, by omega⟩) (by rw [List.getElem?_set_ne ne]; exact e)
    refine ⟨y12, y13, h', ?_, by rw [l', List.length_set], fun j hj hn => by rw [k' j hj hn, List.getElem?_set_ne (by omega)], e'⟩
    have st : (sExpr (dMt isL (onL lAppend) (dVar 13) (vCons (dC (.str [122, 122])) vNil))) [x0, x1, x2, x3, x4, x5, x6, x7, x8, x9, x10, some (.ref n), some (v3 p.1.1), some (.ref p.2), x14] h = .nx [x0, x1, x2, x3, x4, x5, x6, x7, x8, x9, x10, some (.ref n), some (v3 p.1.1), some (.ref p.2), x14] (h.set p.2 (.lst (zs ++ [.str [122, 122]]))) := by
      have la : lAppend zs [.str [122, 122]] = some (.non, zs ++ [.str [122, 122]]) := by
        unfold lAppend
        simp only
        rw [if_pos (by omega)]
      simp only [sExpr, dMt, dVar, List.getElem?_cons_succ, List.getElem?_cons_zero, R.bind, num, isL, ez, if_true, vCons, vNil, dC, onL, la, R.out]
    rw [List.map_cons]
    simp only [forL, live, e, decide_true, if_true, gVal, NT.run, setN, List.set_cons_succ, List.set_cons_zero, st]
    exact q
theorem no_js {n : Nat} : ¬ some n ∈ ([none, none, none, none, none, none, none, none, none, none, none, none, none, none, none] : Js) := by simp
theorem not_js {i n : Nat} : jA [none, none, none, none, none, none, none, none, none, none, none, none, none, none, none] i ≠ some n := fun e => by
  rw [jA_s] at e
  exact no_js (List.mem_of_getElem? e)
theorem one_inj {js : Js} {k : Nat} (e : ∀ i n, js[i]? = some (some n) → i = k) : ∀ (i j n : Nat), js[i]? = some (some n) → js[j]? = some (some n) → i = j := fun i j n a b => by rw [e i n a, e j n b]
theorem fls_sj {n : Nat} : ¬ Sj NoT [none, none, none, none, none, none, none, none, none, none, none, none, none, none, none] n := fun z => z.elim id fun z => no_js z
theorem grp_ne {cs : List Ck} : ∀ g ∈ grp cs, g.2 ≠ [] := fun g hg e => by
  unfold grp at hg
  obtain ⟨f, hf, rfl⟩ := List.mem_map.mp hg
  have hm : f ∈ cs.map fil := uniq_mem.mp ((sort3_perm _).mem_iff.mp hf)
  obtain ⟨c, hc, ec⟩ := List.mem_map.mp hm
  have : c.s ∈ mks cs f := List.mem_map.mpr ⟨c, List.mem_filter.mpr ⟨hc, by simpa using ec⟩, rfl⟩
  have l := (ssort_perm (mks cs f)).mem_iff.mpr this
  simp only at e
  rw [e] at l
  cases l
theorem grp_len (cs : List Ck) : (grp cs).length ≤ cs.length ∧ ∀ g ∈ grp cs, g.2.length ≤ cs.length := by
  refine ⟨?_, fun g hg => ?_⟩
  · unfold grp
    rw [List.length_map, ← firsts_sort, (sort3_perm _).length_eq]
    exact K3_len cs
  · unfold grp at hg
    obtain ⟨f, _, rfl⟩ := List.mem_map.mp hg
    show (ssort _).length ≤ _
    rw [ssort_len]
    exact mks_len cs f
theorem turn {h : MH} {ps : List (Bool × Ck)} {nh : Nat} {xs : List Val} {v9 : Val} {t : Int} {x0 x1 x2 x3 x4 x5 x7 x11 x12 x13 x14 : Option Val} (pl : ps.length ≤ 39) (hc : ∀ p ∈ ps, COk p.2) (eh : h[nh]? = some (.lst xs)) (ih : Ims h (fun _ => False) xs (ps.map cv))
    (i9 : Im h (fun _ => False) v9 (.lst ((grp (ps.map (·.2))).map gV))) :
    ∃ y11 y12 y13 h', (sSeq b_l_right_1_0 (sSeq b_l_right_1_1 (sSeq b_l_right_1_2 b_l_right_1_3))) [x0, x1, x2, x3, x4, x5, some (.ref nh), x7, some (.str (PV.lst (ps.map cv)).rx), some v9, some (.int t), x11, x12, x13, x14] h =
      .nx [x0, x1, x2, x3, x4, x5, some (.ref nh), x7, some (.str (PV.lst (ps.map cv)).rx), some v9, some (.int t), y11, y12, y13, x14] h' ∧ h.length ≤ h'.length ∧ ∀ j, j < h.length → h'[j]? = h[j]? := by
  have rn0 : Rn (TS h) (jA [none, none, none, none, none, none, none, none, none, none, none, none, none, none, none]) h [x0, x1, x2, x3, x4, x5, some (.ref nh), x7, some (.str (PV.lst (ps.map cv)).rx), some v9, some (.int t), x11, x12, x13, x14]
      [none, none, none, none, none, none, some (.im (.lst (ps.map cv))), none, none, none, some (.im (.int t)), none, none, none, none] :=
    rnT (.no (.no (.no (.no (.no (.no (.im (.ref (fun z => z.elim (fun z => hand_ts eh ih z) fun z => no_js z) eh (cv_mv (fun n c _ e => ⟨e, fun z => z.elim (fun z => ck_ts e z) fun z => no_js z⟩) ih)) (.no (.no (.no (.im (.int t) (.no (.no (.no (.no .nil)))))))))))))))
      (one_inj (k := 0) fun i n e => absurd (List.mem_of_getElem? e) no_js) (fun n z => by obtain ⟨b, bs, e⟩ := z; exact lt_of_get e) fun i n e => absurd (List.mem_of_getElem? e) no_js
  obtain ⟨ρ1, h1, π1, q1, ⟨A1, fx1, rn1⟩, hπ⟩ := part_nxT pus_l_right_1_0 rn0 (found_ok (N := fun π => π = _) pl rfl)
  subst hπ
  obtain ⟨v, hρ⟩ := set_nx q1
  subst hρ
  obtain ⟨n, o, a11, s11, e11, oc⟩ := rn1.ow 11 _ _ rfl rfl
  simp only [List.set_cons_succ, List.set_cons_zero, List.getElem?_cons_zero, List.getElem?_cons_succ, Option.some.injEq] at s11
  subst s11
  obtain ⟨ys, rfl, ims⟩ := oc.lst
  obtain ⟨gp, rfl, eg, hg⟩ := gs_inv ims
  have k1 : ∀ j, j < h.length → h1[j]? = h[j]? := fun j l => fx1.keep j l fun i e => not_js e
  have nl : h.length ≤ n := (fx1.new 11 n a11).elim (fun ⟨j, e⟩ => absurd e not_js) id
  have fresh : ∀ p ∈ gp, h.length ≤ p.2 := fun p hp => by
    obtain ⟨ns, e⟩ := hg p hp
    refine Nat.not_lt.mp fun l => ns (.inr ?_)
    have ne := grp_ne p.1 (by rw [← eg]; exact List.mem_map.mpr ⟨p, hp, rfl⟩)
    rw [k1 _ l] at e
    cases q : p.1.2 with
    | nil => exact absurd q ne
    | cons b bs =>
      rw [q] at e
      exact ⟨b, bs, e⟩
  have pn : ∀ p ∈ gp, p.2 ≠ n := fun p hp z => by
    obtain ⟨ns, e⟩ := hg p hp
    have ne := grp_ne p.1 (by rw [← eg]; exact List.mem_map.mpr ⟨p, hp, rfl⟩)
    rw [z, e11] at e
    simp only [Option.some.injEq, Ob.lst.injEq] at e
    cases gp with
    | nil => cases hp
    | cons q gp =>
      cases w : p.1.2 with
      | nil => exact ne w
      | cons b bs =>
        rw [w] at e
        simp only [List.map_cons, gVal, stL', List.cons.injEq] at e
        cases e.1
  have l1 := fx1.le
  have toN : ∀ {v : Val} {d : PV}, Im h (fun _ => False) v d → Im h1 (Sj NoT [none, none, none, none, none, none, none, none, none, none, none, none, none, none, none]) v d := fun i => i.mono fun m ob _ e => ⟨by rw [k1 m (lt_of_get e)]; exact e, fls_sj⟩
  have rn2 : Rn NoT (jA [none, none, none, none, none, none, none, none, none, none, none, none, none, none, none]) h1 [x0, x1, x2, x3, x4, x5, some (.ref nh), x7, some (.str (PV.lst (ps.map cv)).rx), some v9, some (.int t), some (.ref n), x12, x13, x14]
      [none, none, none, none, none, none, some (.im (.lst (ps.map cv))), none, some (.im (.str (PV.lst (ps.map cv)).rx)), some (.im (.lst ((grp (ps.map (·.2))).map gV))), none, some (.im (.lst ((grp (ps.map (·.2))).map gV))), none, none, none] :=
    ZR.rn (.no (.no (.no (.no (.no (.no (.im (toN (.ref id eh ih)) (.no (.im (.str _) (.im (toN i9) (.no (.im (.ref fls_sj e11 (by rw [← eg]; exact gs_im fun p hp => ⟨fls_sj, (hg p hp).2⟩)) (.no (.no (.no .nil))))))))))))))) (one_inj (k := 0) fun i n e => absurd (List.mem_of_getElem? e) no_js)
  obtain ⟨ρ2, h2, π2, q2, ⟨A2, fx2, rn2'⟩, _⟩ := part_nx pus_l_right_1_1 rn2 (check_ok pl hc)
  have r2 := (keeps_if (keeps_ret _) keeps_nil : Keeps b_l_right_1_1).nx q2
  subst r2
  have k2 : ∀ j, j < h1.length → h2[j]? = h1[j]? := fun j l => fx2.keep j l fun i e => not_js e
  have l2 := fx2.le
  have e2 : h2[n]? = some (.lst (gp.map gVal)) := by rw [k2 n (lt_of_get e11)]; exact e11
  obtain ⟨gl, gm⟩ := grp_len (ps.map (·.2))
  rw [List.length_map] at gl gm
  have lgp : gp.length = (grp (ps.map (·.2))).length := by rw [← eg, List.length_map]
  obtain ⟨y12, y13, h3, q3, l3, k3, e3⟩ := app_loop (L := h.length) (x0 := x0) (x1 := x1) (x2 := x2) (x3 := x3) (x4 := x4) (x5 := x5) (x6 := some (.ref nh)) (x7 := x7) (x8 := some (.str (PV.lst (ps.map cv)).rx)) (x9 := some v9) (x10 := some (.int t)) (x14 := x14) gp h2 x12 x13 (fun p hp => ⟨fresh p hp, pn p hp, stL' p.1.2, by rw [k2 _ (lt_of_get (hg p hp).2)]; exact (hg p hp).2, by
    have := gm p.1 (by rw [← eg]; exact List.mem_map.mpr ⟨p, hp, rfl⟩)
    unfold stL'
    rw [List.length_map]; omega⟩) e2
  have n3 := lt_of_get e3
  refine ⟨some (.ref n), y12, y13, h3.set n (.lst (gp.map gVal).reverse), ?_, by rw [List.length_set, l3]; omega, fun j hj => ?_⟩
  · have d2 : b_l_right_1_2 [x0, x1, x2, x3, x4, x5, some (.ref nh), x7, some (.str (PV.lst (ps.map cv)).rx), some v9, some (.int t), some (.ref n), x12, x13, x14] h2 = .nx [x0, x1, x2, x3, x4, x5, some (.ref nh), x7, some (.str (PV.lst (ps.map cv)).rx), some v9, some (.int t), some (.ref n), y12, y13, x14] h3 := by
      have dv : diV (dVar 11) [x0, x1, x2, x3, x4, x5, some (.ref nh), x7, some (.str (PV.lst (ps.map cv)).rx), some v9, some (.int t), some (.ref n), x12, x13, x14] h2 = .ok (gp.map gVal, live (.v (.ref n)) (gp.map gVal)) h2 := by
        simp only [diV, dVar, List.getElem?_cons_zero, List.getElem?_cons_succ, R.bind, itV, seqO, e2]
      unfold b_l_right_1_2
      simp only [sFor, dv, R.out]
      exact q3
    have d3 : b_l_right_1_3 [x0, x1, x2, x3, x4, x5, some (.ref nh), x7, some (.str (PV.lst (ps.map cv)).rx), some v9, some (.int t), some (.ref n), y12, y13, x14] h3 = .nx [x0, x1, x2, x3, x4, x5, some (.ref nh), x7, some (.str (PV.lst (ps.map cv)).rx), some v9, some (.int t), some (.ref n), y12, y13, x14] (h3.set n (.lst (gp.map gVal).reverse)) := by
      unfold b_l_right_1_3
      simp only [sExpr, dMt, dVar, List.getElem?_cons_succ, List.getElem?_cons_zero, R.bind, num, isL, e3, if_true, vNil, onL, lReverse, R.out]
    have q1' : b_l_right_1_0 [x0, x1, x2, x3, x4, x5, some (.ref nh), x7, some (.str (PV.lst (ps.map cv)).rx), some v9, some (.int t), x11, x12, x13, x14] h = .nx [x0, x1, x2, x3, x4, x5, some (.ref nh), x7, some (.str (PV.lst (ps.map cv)).rx), some v9, some (.int t), some (.ref n), x12, x13, x14] h1 := q1
    simp only [sSeq, q1', q2, d2, d3]
  · rw [List.getElem?_set_ne (by omega), k3 j hj (by omega), k2 j (by omega), k1 j hj]
theorem len15 {α : Type} {l : List α} (h : l.length = 15) : ∃ a0 a1 a2 a3 a4 a5 a6 a7 a8 a9 a10 a11 a12 a13 a14, l = [a0, a1, a2, a3, a4, a5, a6, a7, a8, a9, a10, a11, a12, a13, a14] := by
  match l, h with
  | [a0, a1, a2, a3, a4, a5, a6, a7, a8, a9, a10, a11, a12, a13, a14], _ => exact ⟨a0, a1, a2, a3, a4, a5, a6, a7, a8, a9, a10, a11, a12, a13, a14, rfl⟩
theorem seq_nx {a b : SD} {ρ ρ' : En} {h h' : MH} (e : sSeq a b ρ h = .nx ρ' h') : ∃ ρ1 h1, a ρ h = .nx ρ1 h1 ∧ b ρ1 h1 = .nx ρ' h' := by
  unfold sSeq at e
  cases q : a ρ h with
  | nx ρ1 h1 => rw [q] at e; exact ⟨ρ1, h1, rfl, e⟩
  | _ => rw [q] at e; cases e
theorem two_nx {ρ ρ' : En} {h h' : MH} (e : b_l_right_2 ρ h = .nx ρ' h') : ∃ v, ρ' = ρ.set 14 (some v) := by
  unfold b_l_right_2 at e
  obtain ⟨ρ1, h1, e1, e2⟩ := seq_nx e
  obtain ⟨ρ2, h2, e3, e4⟩ := seq_nx e2
  have r1 := (keeps_if (keeps_ret _) keeps_nil).nx e1
  have r2 := (keeps_if (keeps_ret _) keeps_nil).nx e4
  obtain ⟨v, r3⟩ := set_nx e3
  exact ⟨v, by rw [r2, r3, r1]⟩
theorem loop2 {h : MH} {ps : List (Bool × Ck)} {nh : Nat} {xs : List Val} {v9 : Val} {x0 x1 x2 x3 x4 x5 x7 x10 x11 x12 x13 x14 : Option Val} (pl : ps.length ≤ 39) (hc : ∀ p ∈ ps, COk p.2) (eh : h[nh]? = some (.lst xs)) (ih : Ims h (fun _ => False) xs (ps.map cv))
    (i9 : Im h (fun _ => False) v9 (.lst ((grp (ps.map (·.2))).map gV))) :
    ∃ y10 y11 y12 y13 h', b_l_right_1 [x0, x1, x2, x3, x4, x5, some (.ref nh), x7, some (.str (PV.lst (ps.map cv)).rx), some v9, x10, x11, x12, x13, x14] h =
      .nx [x0, x1, x2, x3, x4, x5, some (.ref nh), x7, some (.str (PV.lst (ps.map cv)).rx), some v9, y10, y11, y12, y13, x14] h' ∧ h.length ≤ h'.length ∧ ∀ j, j < h.length → h'[j]? = h[j]? := by
  obtain ⟨y11, y12, y13, h1, q1, l1, k1⟩ := turn (t := 0) (x0 := x0) (x1 := x1) (x2 := x2) (x3 := x3) (x4 := x4) (x5 := x5) (x7 := x7) (x11 := x11) (x12 := x12) (x13 := x13) (x14 := x14) pl hc eh ih i9
  have mv : ∀ {v : Val} {d : PV}, Im h (fun _ => False) v d → Im h1 (fun _ => False) v d := fun i => i.mono fun m ob _ e => ⟨by rw [k1 m (lt_of_get e)]; exact e, id⟩
  have mvs : ∀ {v : List Val} {d : List PV}, Ims h (fun _ => False) v d → Ims h1 (fun _ => False) v d := fun i => i.mono fun m ob _ e => ⟨by rw [k1 m (lt_of_get e)]; exact e, id⟩
  obtain ⟨z11, z12, z13, h2, q2, l2, k2⟩ := turn (t := 1) (x0 := x0) (x1 := x1) (x2 := x2) (x3 := x3) (x4 := x4) (x5 := x5) (x7 := x7) (x11 := y11) (x12 := y12) (x13 := y13) (x14 := x14) pl hc (by rw [k1 nh (lt_of_get eh)]; exact eh) (mvs ih) (mv i9)
  refine ⟨some (.int 1), z11, z12, z13, h2, ?_, by omega, fun j hj => by rw [k2 j (by omega), k1 j hj]⟩
  have it : b_l_right_1_it [x0, x1, x2, x3, x4, x5, some (.ref nh), x7, some (.str (PV.lst (ps.map cv)).rx), some v9, x10, x11, x12, x13, x14] h = .ok ([.int 0, .int 1], fun _ => true) h := rfl
  unfold b_l_right_1
  simp only [sFor, it, R.out, forL, if_true, NT.run, List.set_cons_succ, List.set_cons_zero, q1, q2]
theorem right_call {h : MH} {n : Nat} (a : At h 1000000000 n) : ∃ h', f_l_right [.ref n] h = .ok (.bl true) h' ∧ h.length ≤ h'.length ∧ (∀ m, m < h.length → m ≠ n → h'[m]? = h[m]?) := by
  obtain ⟨b, o, B, e1, oc⟩ := id a
  have nl := a.lt
  have rn0 := start_rn (T := fun m => m < h.length ∧ m ≠ n) (ios := [true]) (vs := [.ref n]) (ds := [b]) (js := [some n]) (h := h) ⟨fun _ z => z.1, fun m z q => q.2 (by simpa using z), fun i j m z1 z2 => by
    rcases i with _ | i
    · rcases j with _ | j
      · rfl
      · simp at z2
    · simp at z1, rfl⟩ (.io e1 (oc _ _) .nil) 15
  obtain ⟨ρ1, h1, π1, q1, ⟨A1, fx1, rn1⟩, us, ys, wn, ps, sp, b1, pl, hc, hs, B1, hπ⟩ := part_nxT (N := fun π => ∃ (us ys : List (List Nat)) (n : Int) (ps : List (Bool × Ck)) (sp : Ck) (b' : PV), ps.length ≤ 39 ∧ (∀ p ∈ ps, COk p.2) ∧ COk sp ∧ Bx 900000000 b' ∧
    π = [some (.io b'), some (.im (.lst (us.map PV.str))), some (.im (.lst (ys.map PV.str))), some (.im (.int n)), some (.im (.lst ((ps.map (·.2)).map Ck.v))), some (.im sp.v), some (.im (.lst (ps.map cv))), none, some (.im (.str (PV.lst (ps.map cv)).rx)), some (.im (.lst ((grp (ps.map (·.2))).map gV))), none, none, none, none, none]) pus_l_right_0 rn0
    (first_ok B fun us ys n ps sp b' pl hc hs B' => ⟨us, ys, n, ps, sp, b', pl, hc, hs, B', rfl⟩)
  subst hπ
  obtain ⟨m, o1, m1, m2, m3, m4⟩ := rn1.ow 0 _ b1 rfl rfl
  have mn : m = n := by
    have := (fx1.io 0 b rfl).1
    rw [m1] at this
    have : jA [some n] 0 = some m := this.symm
    rw [jA_s] at this
    simpa using this.symm
  subst mn
  obtain ⟨v4, s4, i4⟩ := rn1.im 4 _ rfl
  obtain ⟨v5, s5, i5⟩ := rn1.im 5 _ rfl
  obtain ⟨v6, s6, i6⟩ := rn1.im 6 _ rfl
  obtain ⟨v8, s8, i8⟩ := rn1.im 8 _ rfl
  obtain ⟨v9, s9, i9⟩ := rn1.im 9 _ rfl
  obtain ⟨x0, x1, x2, x3, x4, x5, x6, x7, x8, x9, x10, x11, x12, x13, x14, hρ⟩ := len15 rn1.len
  subst hρ
  simp only [List.getElem?_cons_zero, List.getElem?_cons_succ, Option.some.injEq] at m2 s4 s5 s6 s8 s9
  subst m2 s4 s5 s6 s8 s9
  cases i8
  have k1 : ∀ j, j < h.length → j ≠ m → h1[j]? = h[j]? := fun j l q => fx1.keep j l fun i e => by
    rw [jA_s] at e
    rcases i with _ | i
    · simp at e; exact q e.symm
    · simp at e
  have l1 := fx1.le
  have m3' := lt_of_get m3
  have avn : ∀ {j : Nat}, ¬ Av A1 (fun j => j < h.length ∧ j ≠ m) j → j ≠ m := fun {j} q z => q (.inl ⟨0, by rw [z]; exact m1⟩)
  obtain ⟨nh, xs, rfl, av, eh, ih⟩ : ∃ nh xs, v6 = .ref nh ∧ ¬ Av A1 (fun j => j < h.length ∧ j ≠ m) nh ∧ h1[nh]? = some (.lst xs) ∧ Ims h1 (Av A1 fun j => j < h.length ∧ j ≠ m) xs (ps.map cv) := by
    cases i6 with
    | ref a e r => exact ⟨_, _, rfl, a, e, r⟩
  have nhm : nh ≠ m := avn av
  have nhl : h.length ≤ nh := Nat.not_lt.mp fun z => av (.inr ⟨z, nhm⟩)
  obtain ⟨y10, y11, y12, y13, h2, q2, l2, k2⟩ := loop2 (x0 := some (.ref m)) (x1 := x1) (x2 := x2) (x3 := x3) (x4 := some v4) (x5 := some v5) (x7 := x7) (x10 := x10) (x11 := x11) (x12 := x12) (x13 := x13) (x14 := x14) pl hc eh (ih.weak fun _ z => z.elim) (i9.weak fun _ z => z.elim)
  have sj2 : ∀ {j : Nat}, j ≠ m → ¬ Sj NoT [some m, none, none, none, none, none, none, none, none, none, none, none, none, none, none] j := fun {j} q z => z.elim id fun z => q (by simpa using z)
  have mv2 : ∀ {v : Val} {d : PV}, Im h1 (Av A1 fun j => j < h.length ∧ j ≠ m) v d → Im h2 (Sj NoT [some m, none, none, none, none, none, none, none, none, none, none, none, none, none, none]) v d := fun i => i.mono fun j ob q e => ⟨by rw [k2 j (lt_of_get e)]; exact e, sj2 (avn q)⟩
  have inj2 : ∀ (i j k : Nat), ([some m, none, none, none, none, none, none, none, none, none, none, none, none, none, none] : Js)[i]? = some (some k) → ([some m, none, none, none, none, none, none, none, none, none, none, none, none, none, none] : Js)[j]? = some (some k) → i = j := one_inj (k := 0) fun i k e => by
    rcases i with _ | i
    · rfl
    · have := List.mem_of_getElem? e
      exact absurd (List.mem_of_getElem? (by simpa using e) : some k ∈ ([none, none, none, none, none, none, none, none, none, none, none, none, none, none] : Js)) (by simp)
  have rn3 : Rn NoT (jA [some m, none, none, none, none, none, none, none, none, none, none, none, none, none, none]) h2 [some (.ref m), x1, x2, x3, some v4, some v5, some (.ref nh), x7, some (.str (PV.lst (ps.map cv)).rx), some v9, y10, y11, y12, y13, x14]
      [some (.ow b1), none, none, none, some (.im (.lst ((ps.map (·.2)).map Ck.v))), none, some (.im (.lst (ps.map cv))), none, none, some (.im (.lst ((grp (ps.map (·.2))).map gV))), none, none, none, none, none] :=
    ZR.rn (.ow (by rw [k2 m m3']; exact m3) (oc_flat B1 m4 _ _) (.no (.no (.no (.im (mv2 i4) (.no (.im (mv2 (.ref av eh ih)) (.no (.no (.im (mv2 i9) (.no (.no (.no (.no (.no .nil))))))))))))))) inj2
  obtain ⟨ρ4, h4, π4, q4, ⟨A4, fx4, rn4⟩, b2, w, B2, w0, w1, wz, hπ⟩ := part_nx (N := fun π => ∃ (b' : PV) (w : Int), Bx 800000000 b' ∧ 0 ≤ w ∧ w < 3 ∧ (ps = [] → w = 0) ∧ π = [some (.ow b'), none, none, none, some (.im (.lst ((ps.map (·.2)).map Ck.v))), none, some (.im (.lst (ps.map cv))), none, none, some (.im (.lst ((grp (ps.map (·.2))).map gV))), none, none, none, none, some (.im (.int w))]) pus_l_right_2 rn3
    (way_ok B1 pl fun b' w B' w0 w1 wz => ⟨b', w, B', w0, w1, wz, rfl⟩)
  subst hπ
  obtain ⟨vw, hρ⟩ := two_nx q4
  subst hρ
  obtain ⟨m', o4, a4, s40, e4, oc4⟩ := rn4.ow 0 _ b2 rfl rfl
  obtain ⟨vw', s14, iw⟩ := rn4.im 14 _ rfl
  simp only [List.set_cons_succ, List.set_cons_zero, List.getElem?_cons_zero, List.getElem?_cons_succ, Option.some.injEq, Val.ref.injEq] at s40 s14
  subst s40 s14
  cases iw
  have k4 : ∀ j, j < h2.length → j ≠ m → h4[j]? = h2[j]? := fun j l q => fx4.keep j l fun i e => by
    rw [jA_s] at e
    have := List.mem_of_getElem? e
    exact q (by simpa using this)
  have l4 := fx4.le
  have nhl1 := lt_of_get eh
  have KK : ∀ j, j < h1.length → j ≠ m → h4[j]? = h1[j]? := fun j l q => by rw [k4 j (by omega) q, k2 j l]
  have sj3 : ∀ {j : Nat}, j ≠ m → j ≠ nh → ¬ Sj NoT [some m, none, none, none, none, none, some nh, none, none, none, none, none, none, none, none] j := fun {j} q q2 z => z.elim id fun z => by
    simp only [List.mem_cons, Option.some.injEq, reduceCtorEq, List.not_mem_nil, or_false, false_or] at z
    rcases z with z | z
    · exact q z
    · exact q2 z
  have nock : ∀ c, h1[nh]? ≠ some (.lst (ckL c)) := fun c e => by
    rw [eh] at e
    simp only [Option.some.injEq, Ob.lst.injEq] at e
    subst e
    cases ps with
    | nil => cases ih
    | cons p ps =>
      obtain ⟨x, zs, ex, nx⟩ := cv_head ih
      unfold ckL at ex
      cases ex
      exact nx _ rfl
  have ih4 : Ims h4 (Sj NoT [some m, none, none, none, none, none, some nh, none, none, none, none, none, none, none, none]) xs (ps.map cv) :=
    cv_mv (fun j c q e => ⟨by rw [KK j (lt_of_get e) (avn q)]; exact e, sj3 (avn q) fun z => nock c (by rw [← z]; exact e)⟩) ih
  have i5' : Im h4 (Sj NoT [some m, none, none, none, none, none, some nh, none, none, none, none, none, none, none, none]) v5 sp.v := i5.flat (by simp [Ck.v, Ck.xs, PV.flat, PV.flats])
  have rn5 : Rn NoT (jA [some m, none, none, none, none, none, some nh, none, none, none, none, none, none, none, none]) h4 [some (.ref m), x1, x2, x3, some v4, some v5, some (.ref nh), x7, some (.str (PV.lst (ps.map cv)).rx), some v9, y10, y11, y12, y13, some (.int w)]
      [some (.ow b2), none, none, none, none, some (.im sp.v), some (.ow (.lst (ps.map cv))), none, none, none, none, none, none, none, some (.im (.int w))] :=
    ZR.rn (.ow e4 (oc_flat B2 oc4 _ _) (.no (.no (.no (.no (.im i5' (.ow (o := .lst xs) (by rw [KK nh nhl1 nhm]; exact eh) (show OC _ _ (.lst xs) (.lst _) from ih4) (.no (.no (.no (.no (.no (.no (.no (.im (.int w) .nil))))))))))))))) (fun i j k a c => by
        rcases i with _ | _ | _ | _ | _ | _ | _ | i <;> simp at a
        · rcases j with _ | _ | _ | _ | _ | _ | _ | j <;> simp at c
          · rfl
          · exact absurd (a.trans c.symm) fun z => nhm z.symm
          · have := List.mem_of_getElem? c; simp at this
        · rcases j with _ | _ | _ | _ | _ | _ | _ | j <;> simp at c
          · exact absurd (c.trans a.symm) fun z => nhm z.symm
          · rfl
          · have := List.mem_of_getElem? c; simp at this
        · have := List.mem_of_getElem? a; simp at this)
  obtain ⟨vr, h7, ρ7, A7, T7, o7, π7, q7, fx7, _, rt7, ho7⟩ := part_rt (N := fun o _ => o = .im (.bl true)) pus_l_right_3 rn5 (last_ok B2 pl w0 w1 wz)
  subst ho7
  have hv : vr = .bl true := by cases rt7; rfl
  subst hv
  have k7 : ∀ j, j < h4.length → j ≠ m → j ≠ nh → h7[j]? = h4[j]? := fun j l q q2 => fx7.keep j l fun i e => by
    rw [jA_s] at e
    exact sj3 q q2 (.inr (List.mem_of_getElem? e))
  refine ⟨h7, ?_, ?_, ?_⟩
  · unfold f_l_right runB
    rw [b_l_right_eq]
    simp only [List.set_cons_succ, List.set_cons_zero] at q4
    simp only [sSeq, q1, q2, q4, q7]
  · have := fx7.le
    omega
  · intro j l q
    rw [k7 j (by omega) q (by omega), KK j (by omega) q, k1 j l q]
theorem compB {x0 : Option Val} {n1 : Nat} {cs : List Int} {f : DF} (hf : ∀ h n, At h 1000000000 n → ∃ h', f [.ref n] h = .ok (.bl true) h' ∧ h.length ≤ h'.length ∧ (∀ m, m < h.length → m ≠ n → h'[m]? = h[m]?)) : ∀ (m : Nat) (lo : Int) (h : MH), 0 ≤ lo → h[n1]? = some (.lst (cs.map Val.int)) →
    ∃ h', compL (.nm 2) tYesB (dCall 1 f (vCons (dCall 2 f_l_box (vCons (dVar 1) (vCons (dVar 2) vNil))) vNil)) (fun _ => true) (rngF lo m) [x0, some (.ref n1), none] h = .ok ((List.range m).map fun _ => Val.bl true) h'
  | 0, lo, h, _, _ => ⟨h, by simp [rngF, compL]⟩
  | m + 1, lo, h, l0, e1 => by
    obtain ⟨n, h1, e2, ln, a, k⟩ := box_call e1 l0
    obtain ⟨h2, e3, l2, k2⟩ := hf h1 n a
    have n1l := lt_of_get e1
    obtain ⟨h3, e4⟩ := compB hf m (lo + 1) h2 (by omega) (by rw [k2 n1 (lt_of_get (k _ _ e1)) (by omega)]; exact k _ _ e1)
    refine ⟨h3, ?_⟩
    simp only [rngF, compL, if_true, NT.run, tYesB, R.get, dCall, vCons, vNil, dVar, List.set_cons_succ, List.set_cons_zero, List.getElem?_cons_succ, List.getElem?_cons_zero, R.bind, num, List.length_cons, List.length_nil, e2, liftV, e3, Nat.reduceAdd]
    rw [e4, List.range_succ_eq_map]
    simp
theorem bls_true {α : Type} : ∀ bs : List α, blsOf (bs.map fun _ => Val.bl true) = some (bs.map fun _ => true)
  | [] => rfl
  | b :: bs => by simp [blsOf, bls_true bs]
theorem rngF_len : ∀ (m : Nat) (lo : Int), (rngF lo m).length = m
  | 0, _ => rfl
  | m + 1, lo => by simp [rngF, rngF_len m (lo + 1)]
theorem folded4 {ns : List Int} (hl : ns.length ≤ 63) : ∃ cs : List Int, cs.length ≤ 4 ∧ pf_l_folded [.frz (ns.map PV.int), .int 4] = .ok (.ow (.lst (cs.map PV.int))) [.non, .non] := by
  have h : @wf (pf_l_folded [.frz (ns.map PV.int), .int 4]) ⟨fun o outs => ∃ cs : List Int, cs.length ≤ 4 ∧ o = .ow (.lst (cs.map PV.int)) ∧ outs = [.non, .non]⟩ ⟨NoF⟩ := folded_ok (k := 4) hl (by decide) (by decide) fun cs cl => ⟨cs, cl, rfl, rfl⟩
  obtain ⟨o, outs, e, cs, cl, rfl, rfl⟩ := wf_get h
  exact ⟨cs, cl, e⟩
theorem law_true (ns : List Int) (hl : ns.length ≤ 63) : ∃ h', f_law [.fl (ns.map Val.int)] [] = .ok (.bl true) h' := by
  obtain ⟨cs, cl, e⟩ := folded4 hl
  have f := pu_l_folded (fun _ => False) [] [.fl (ns.map Val.int), .int 4] [.frz (ns.map PV.int), .int 4] [none, none] ⟨fun _ z => z.elim, fun n z => by simp at z, fun i j n z => by
    rcases i with _ | _ | i <;> simp at z, rfl⟩ (.im (.fl (ims_int ns)) (.im (.int 4) .nil))
  rw [e] at f
  obtain ⟨v, h1, T2, e2, ch, _, _, _, _, n1, o, rfl, t2, ln, e3, oc⟩ := f
  obtain ⟨xs, rfl, ims⟩ := oc.lst
  cases ints_val ims
  obtain ⟨m, hm⟩ : ∃ m : Nat, (if ((cs.map Val.int).length : Int) > 2 then ((cs.map Val.int).length : Int) else 2) = m ∧ m ≤ 63 := by
    refine ⟨(if ((cs.map Val.int).length : Int) > 2 then ((cs.map Val.int).length : Int) else 2).toNat, ?_, ?_⟩
    · split <;> simp <;> omega
    · rw [List.length_map]; split <;> omega
  obtain ⟨h2, e4⟩ := compB (x0 := some (.fl (ns.map Val.int))) (fun h n a => right_call a) m 0 h1 (by decide) e3
  refine ⟨h2, ?_⟩
  have q1 : bLen [.v (.ref n1)] h1 = .ok (.v (.int (cs.map Val.int).length)) h1 := by simp only [bLen, seqO, e3]
  have q2 : bMax [.v (.int 2), .v (.int (cs.map Val.int).length)] h1 = .ok (.v (.int m)) h1 := by simp only [bMax, hm.1]
  have q3 : diR1 (dB bMax (aCons (dC (.int 2)) (aCons (dB bLen (aCons (dVar 1) aNil)) aNil))) [some (.fl (ns.map Val.int)), some (.ref n1), none] h1 = .ok (rngF 0 m, fun _ => true) h1 := by
    simp only [diR1, dB, aCons, aNil, dC, dVar, List.getElem?_cons_succ, List.getElem?_cons_zero, R.bind, q1, q2]
    rw [if_pos ⟨by omega, by omega⟩]
    rfl
  have w0 : (List.map some [Val.fl (ns.map Val.int)] ++ List.replicate (3 - [Val.fl (ns.map Val.int)].length) none) = [some (.fl (ns.map Val.int)), none, none] := rfl
  have a1 : dCall 2 f_l_folded (vCons (dVar 0) (vCons (dC (.int 4)) vNil)) [some (.fl (ns.map Val.int)), none, none] [] = .ok (.v (.ref n1)) h1 := by
    simp only [dCall, vCons, vNil, dVar, dC, List.getElem?_cons_succ, List.getElem?_cons_zero, R.bind, num, List.length_cons, List.length_nil, e2, liftV, if_true]
  have q4 : dComp [2] (diR1 (dB bMax (aCons (dC (.int 2)) (aCons (dB bLen (aCons (dVar 1) aNil)) aNil)))) (.nm 2) tYesB (dCall 1 f_l_right (vCons (dCall 2 f_l_box (vCons (dVar 1) (vCons (dVar 2) vNil))) vNil)) [some (.fl (ns.map Val.int)), some (.ref n1), none] h1 = .ok (.n ((List.range m).map fun _ => Val.bl true)) h2 := by
    have w : wipeE [some (.fl (ns.map Val.int)), some (.ref n1), none] [2] = [some (.fl (ns.map Val.int)), some (.ref n1), none] := rfl
    simp only [dComp, q3, R.bind, rngF_len]
    rw [if_pos (by have := hm.2; omega), w, e4]
    rfl
  have al : ((List.range m).map fun _ => true).all id = true := by simp
  unfold f_law runB b_law
  simp only [w0, sSeq, sSet, sRet, a1, R.out, num, List.set_cons_succ, List.set_cons_zero, dB, aCons, aNil, R.bind] at q4 ⊢
  simp only [q4, bAll, lstO, seqO, Option.bind_some, bls_true, al]
end Pq.k15

namespace Mi.k15
open Pq.k15
theorem law_true (ns : List Int) (hl : ns.length ≤ 63) : ∃ h', f_law [.fl (ns.map Val.int)] [] = .ok (.bl true) h' := Pq.k15.law_true ns hl
end Mi.k15
namespace Mi.k15
open PySem PySem.Spec PyProof.Rows L2
abbrev R : PySem.W.OpenRow := PySem.W.OpenLaw.row PySem.Challenge.rw_messcasks_k15_fillings_and_kin
abbrev hk : PySem.W.Hook := He.hookX 5 fa fn [] (tfs tfq) ex
def ob (s : PySem.W.SharedT) : He.AlX := He.obsX 5 fa fn [] (tfs tfq) ex (HandSHeadRun.getT s)
theorem ob_eq (s : PySem.W.SharedT) : ob s = hk.obs s.abs := He.obsX_eq (HandSHeadRun.getT_eq s)
def names : List PySem.Str := (["filling_of", "are_kin", "kin_groups", "_law_box", "_law_take", "_law_folded", "_law_names", "_law_ounces", "_law_cask", "_law_same", "_law_casks", "_law_due", "_law_pairs_right", "_law_right"] : List PySem.Str)
set_option maxHeartbeats 0 in
theorem run (w : World) : HandSHeadRun.RunEq R (PySem.W.view R.prog [16]) hk ob 20000 names w := by
  intro os
  kernel_rfl
end Mi.k15
open PySem PySem.W PySem.Calls PyProof.Rows
set_option maxHeartbeats 0 in
theorem PySem.Challenge.cw_messcasks_k15_fillings_and_kin_holds : PySem.Challenge.rw_messcasks_k15_fillings_and_kin.Holds := by
  w_on; o_law
  refine HandSHeadRun.head_any (r := Mi.k15.R) (q := view Mi.k15.R.prog [16]) (H := Mi.k15.hk) (ob := Mi.k15.ob) (M := 20000) (loose := Mi.k15.names) (d := HandSHeadRun.topDef Mi.k15.R.prog 16) (kwd := []) Mi.k15.ob_eq
    (by kernel_rfl) (fun s => by kernel_rfl) Mi.k15.run (by kernel_rfl) (by kernel_rfl) (by kernel_rfl) (by rfl) (by first | assumption | decide +kernel) (by decide +kernel) ⟨rfl, rfl, rfl, rfl, rfl, by decide +kernel⟩ ?hw ?hc
  case hw => w_witness2
  case hc =>
    refine Mi.walkG (l := PySem.Challenge.rw_messcasks_k15_fillings_and_kin) (n := 63) (k := 27) (x := "_law_script") (fn := Pq.k15.f_law) rfl (by decide) (by kernel_rfl) ⟨rfl, by decide, by decide⟩ ?F (fun ns hl => Mi.k15.law_true ns hl)
    intro w mg fa h Y G hmg0
    obtain ⟨K, KX, c⟩ := Y
    have hmg : mg ("law" : PySem.Str) = some (.ref fa) := by
      have e : (HandSHeadRun.topDef Mi.k15.R.prog 16).name = ("law" : PySem.Str) := by kernel_rfl
      rw [← e]
      exact hmg0
    obtain ⟨fd, ca, cs, t1, t2, hb, hF⟩ := Mi.k15.facts (P := (PySem.Challenge.rw_messcasks_k15_fillings_and_kin).prog) (w := w) KX G hmg c
    exact ⟨K, fd, ca, cs, KX, t1, t2, hb, hF⟩

