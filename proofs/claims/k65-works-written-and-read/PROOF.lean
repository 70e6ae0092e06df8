import PyProof.Rows.All
import Wide.All
import OpenK.AllK
import Wide.FinOn
import HandS.ForMost
import HandS.ForExc
import HandS.Wide
import HandS.Deep
import HandS.IsInst
import HandS.StrSplit
import HandS.FStr
import HandS.Flow
import HandS.Steps
import HandS.CallSlots
import HandS.More
import HandS.TupLen
import PyProof.DictMoreH
import PyProof.MeetsDict
import KE.KeyNested
import HandS.TupAny
import HandS.TupLe
import HandS.WideBits
import HandS.Text
import HandS.Conv
import HandS.Style
import KE.KEqDict
import HandS.SortInts
import KE.GoesMore
import PyProof.TwoTypesSub
import PyProof.AutoIntG9
import KE.DataMinMax
import PyProof.NeKinds
import HandS.Iter
import HandS.ExcInit
import HandS.ExcOwn
import HandS.ExcField
import HandS.TryOnly
import KE.KExcIs
import HandS.Ends
import PyProof.ReprRoads
import HandS.RaiseMore
import KE.KStateDown
import HandS.Base
import HandS.Call
import HandS.Head0
import HandS.Head1
import HandS.Head2
import HandS.HeadEnd
import HandS.HeadHook1
import HandS.HeadHook2
import KE.BitLaws
import PySem.Challenge.RW_lampforge_k65_works_written_and_read
set_option Elab.async false
set_option linter.all false
set_option maxRecDepth 100000
set_option autoImplicit false
set_option maxHeartbeats 0
/-! ML1: the mirror's values, stores, outcomes; how they lie in the model's heap. -/
namespace ML
open PySem PySem.Spec PyProof.Rows L2

inductive DV where
  | non | bl (b : Bool) | int (i : Int) | str (x : Str) | tup (xs : List DV) | fzl (xs : List DV) | ktp (xs : List DV) | ref (k : Nat) | ty (n : String)
  | exn (a : Addr) (d : Option Addr) (ns : List Str) (xs : List DV)
instance : Inhabited DV := ⟨.non⟩

/-- a dict's key -/
inductive HK where
  | non | int (i : Int) | str (x : Str) | tup (ks : List HK)
mutual
def HK.eqb : HK → HK → Bool
  | .non, .non => true
  | .int i, .int j => decide (i = j)
  | .str x, .str y => decide (x = y)
  | .tup xs, .tup ys => HK.eqbs xs ys
  | _, _ => false
def HK.eqbs : List HK → List HK → Bool
  | [], [] => true
  | x :: xs, y :: ys => HK.eqb x y && HK.eqbs xs ys
  | _, _ => false
end
mutual
theorem HK.eqb_iff : ∀ {a b : HK}, HK.eqb a b = true ↔ a = b
  | .non, b => by cases b <;> simp [HK.eqb]
  | .int i, b => by cases b <;> simp [HK.eqb]
  | .str i, b => by cases b <;> simp [HK.eqb]
  | .tup xs, b => by
    cases b with
    | tup ys => simp only [HK.eqb, HK.eqbs_iff, HK.tup.injEq]
    | _ => simp [HK.eqb]
theorem HK.eqbs_iff : ∀ {a b : List HK}, HK.eqbs a b = true ↔ a = b
  | [], b => by cases b <;> simp [HK.eqbs]
  | x :: xs, b => by
    cases b with
    | nil => simp [HK.eqbs]
    | cons y ys => simp only [HK.eqbs, Bool.and_eq_true, HK.eqb_iff, HK.eqbs_iff, List.cons.injEq]
end
instance : DecidableEq HK := fun a b => decidable_of_iff _ HK.eqb_iff
mutual
def dOf : HK → DV
  | .non => .non
  | .int i => .int i
  | .str x => .str x
  | .tup ks => .tup (dOfs ks)
def dOfs : List HK → List DV
  | [] => []
  | k :: ks => dOf k :: dOfs ks
end
mutual
def kOf : DV → Option HK
  | .non => some .non
  | .int i => some (.int i)
  | .str x => some (.str x)
  | .tup ks => (kOfs ks).map HK.tup
  | _ => none
def kOfs : List DV → Option (List HK)
  | [] => some []
  | k :: ks => (kOf k).bind fun h => (kOfs ks).map (h :: ·)
end
inductive DO where
  | lst (xs : List DV)
  | dic (kvs : List (HK × DV))
  | ins (c : Str) (lay : List Str) (vs : List DV)
  | iset (xs : List Int)
  | dcn (kvs : List (HK × DV))
  | fdc (kvs : List (HK × DV))
abbrev Sto := List DO
structure DX where
  c : Str
  fs : List (Str × DV)
inductive Out (A : Type) where
  | ok (a : A) (st : Sto)
  | exc (e : DX) (st : Sto)
  | bad
abbrev M (A : Type) := Sto → Out A
abbrev Sl := List (Option DV)
abbrev Ex := Sl → M DV
/-- how a statement ends -/
inductive Fl where
  | nx (ss : Sl) | bk (ss : Sl) | ct (ss : Sl) | rt (v : DV) | rs (e : DX) (ss : Sl)
abbrev Stt := Sl → M Fl

def pur {A : Type} (a : A) : M A := fun st => .ok a st
def bnd {A B : Type} (m : M A) (f : A → M B) : M B := fun st => match m st with
  | .ok a st' => f a st'
  | .exc e st' => .exc e st'
  | .bad => .bad
def stuck {A : Type} : M A := fun _ => .bad
/-- what is wanted of an outcome -/
def Ev {A : Type} (o : Out A) (Q : A → Sto → Prop) (E : DX → Sto → Prop) : Prop := match o with
  | .ok a st => Q a st
  | .exc e st => E e st
  | .bad => False

/-! ### values in the model's heap -/
def FzL (K : PySem.W.Frag) (H : Hp) (a : Addr) (vs : List V) : Prop :=
  (∃ o, H a = some (.frz o (.lst vs))) ∨
    ∃ (o : Obj) (its : Array Value) (n : Nat), K.lookup a = some o ∧ o.cls = .type "list" ∧ o.dict = none ∧ o.data = .seq its n ∧ its.size ≤ sizeLine ∧ Vals vs its.toList
theorem FzL.sq {K : PySem.W.Frag} {H : Hp} {a : Addr} {vs : List V} (h : FzL K H a vs) : SqL K H a vs := by
  rcases h with ⟨o, h⟩ | h
  · exact .inl (.inr ⟨o, h⟩)
  · exact .inr h
section
variable (K : PySem.W.Frag) (ads : List Addr) (H : Hp)
mutual
inductive RV : DV → V → Prop
  | non : RV .non .non
  | bl (b : Bool) : RV (.bl b) (.bl b)
  | int (i : Int) : RV (.int i) (.int i)
  | str (x : Str) : RV (.str x) (.str x)
  | ref {k : Nat} {a : Addr} : ads[k]? = some a → RV (.ref k) (.ref a)
  | tup {a : Addr} {xs : List DV} {vs : List V} : H a = some (.tup vs) → RVs xs vs → RV (.tup xs) (.ref a)
  | ktp {a : Addr} {xs : List DV} {vs : List V} : SqT K H a vs → RVs xs vs → RV (.ktp xs) (.ref a)
  | fzl {a : Addr} {xs : List DV} {vs : List V} : FzL K H a vs → RVs xs vs → RV (.fzl xs) (.ref a)
  | ty (n : String) : RV (.ty n) (.ty n)
  | exn0 (a : Addr) : RV (.exn a none [] []) (.ref a)
  | exn1 {a dx : Addr} {ns : List Str} {xs : List DV} {vs : List V} : H dx = some (.xd (ns.zip vs)) → ns.length = vs.length → RVs xs vs → RV (.exn a (some dx) ns xs) (.ref a)
inductive RVs : List DV → List V → Prop
  | nil : RVs [] []
  | cons {x : DV} {v : V} {xs : List DV} {vs : List V} : RV x v → RVs xs vs → RVs (x :: xs) (v :: vs)
end
end
/-- whether a locked thing is kept for good: no dict -/
def kU : HO → Bool
  | .dK _ => false
  | .dT _ => false
  | _ => true
/-- what a step keeps: tuples, locked things -/
structure Kp (H H' : Hp) : Prop where
  tup : ∀ a xs, H a = some (.tup xs) → H' a = some (.tup xs)
  frz : ∀ a o u, kU u = true → H a = some (.frz o u) → H' a = some (.frz o u)
  xd : ∀ a fs, H a = some (.xd fs) → H' a = some (.xd fs)
theorem Kp.refl {H : Hp} : Kp H H := ⟨fun _ _ h => h, fun _ _ _ _ h => h, fun _ _ h => h⟩
theorem Kp.trans {H H' H'' : Hp} (a : Kp H H') (b : Kp H' H'') : Kp H H'' := ⟨fun x xs h => b.tup x xs (a.tup x xs h), fun x o u k h => b.frz x o u k (a.frz x o u k h), fun x fs h => b.xd x fs (a.xd x fs h)⟩
theorem Kp.new {H : Hp} {p : Addr} {o : HO} (h : H p = none) : Kp H (upd H p o) :=
  ⟨fun a xs e => by rw [upd_ne (ne_of_none e h)]; exact e, fun a o' u _ e => by rw [upd_ne (ne_of_none e h)]; exact e, fun a fs e => by rw [upd_ne (ne_of_none e h)]; exact e⟩
theorem Kp.writeU {H : Hp} {p : Addr} {o u : HO} (h : H p = some u) (h1 : ∀ xs, u ≠ .tup xs) (h2 : ∀ o' z, kU z = true → u ≠ .frz o' z) (h3 : ∀ fs, u ≠ .xd fs := by intro _ z; cases z) : Kp H (upd H p o) :=
  ⟨fun a xs e => by
    have : a ≠ p := fun z => by subst z; rw [e] at h; exact h1 xs (Option.some.inj h).symm
    rw [upd_ne this]; exact e,
   fun a o' z k e => by
    have : a ≠ p := fun q => by subst q; rw [e] at h; exact h2 o' z k (Option.some.inj h).symm
    rw [upd_ne this]; exact e,
   fun a fs e => by
    have : a ≠ p := fun q => by subst q; rw [e] at h; exact h3 fs (Option.some.inj h).symm
    rw [upd_ne this]; exact e⟩
theorem Kp.write {H : Hp} {p : Addr} {o u : HO} (h : H p = some u) (h1 : ∀ xs, u ≠ .tup xs) (h2 : ∀ o' z, u ≠ .frz o' z) (h3 : ∀ fs, u ≠ .xd fs := by intro _ z; cases z) : Kp H (upd H p o) := .writeU h h1 (fun o' z _ => h2 o' z) h3
theorem Kp.sqT {K : PySem.W.Frag} {H H' : Hp} {a : Addr} {vs : List V} (k : Kp H H') (h : SqT K H a vs) : SqT K H' a vs := by
  rcases h with (h | ⟨o, h⟩) | h
  · exact .inl (.inl (k.tup _ _ h))
  · exact .inl (.inr ⟨o, k.frz _ _ _ rfl h⟩)
  · exact .inr h
theorem Kp.fzL {K : PySem.W.Frag} {H H' : Hp} {a : Addr} {vs : List V} (k : Kp H H') (h : FzL K H a vs) : FzL K H' a vs := by
  rcases h with ⟨o, h⟩ | h
  · exact .inl ⟨o, k.frz _ _ _ rfl h⟩
  · exact .inr h
/-- the handles grow, the kept stays, what has no handle stays -/
structure Fut (ads : List Addr) (H : Hp) (ads' : List Addr) (H' : Hp) : Prop where
  pre : ∃ r, ads' = ads ++ r
  kp : Kp H H'
  oth : ∀ a o, a ∉ ads → H a = some o → a ∉ ads' ∧ H' a = some o
  fz : ∀ a o u, H a = some (.frz o u) → H' a = some (.frz o u)
theorem Fut.refl {ads : List Addr} {H : Hp} : Fut ads H ads H := ⟨⟨[], by simp⟩, .refl, fun _ _ h e => ⟨h, e⟩, fun _ _ _ e => e⟩
theorem Fut.trans {ads ads' ads'' : List Addr} {H H' H'' : Hp} (a : Fut ads H ads' H') (b : Fut ads' H' ads'' H'') : Fut ads H ads'' H'' := by
  obtain ⟨r, e⟩ := a.pre
  obtain ⟨r', e'⟩ := b.pre
  exact ⟨⟨r ++ r', by rw [e', e, List.append_assoc]⟩, a.kp.trans b.kp, fun x o h1 h2 => let ⟨h3, h4⟩ := a.oth x o h1 h2; b.oth x o h3 h4, fun x o u e => b.fz x o u (a.fz x o u e)⟩
def Ext (ads ads' : List Addr) : Prop := ∃ r, ads' = ads ++ r
theorem Ext.refl (ads : List Addr) : Ext ads ads := ⟨[], by simp⟩
theorem Ext.get {ads ads' : List Addr} {k : Nat} {a : Addr} (f : Ext ads ads') (h : ads[k]? = some a) : ads'[k]? = some a := by
  obtain ⟨r, e⟩ := f
  rw [e, List.getElem?_append_left (List.getElem?_eq_some_iff.mp h).1]
  exact h
section
variable {K : PySem.W.Frag} {ads ads' : List Addr} {H H' : Hp}
mutual
theorem RV.mono2 (f : Ext ads ads') (k : Kp H H') : ∀ {d : DV} {v : V}, RV K ads H d v → RV K ads' H' d v
  | _, _, .non => .non
  | _, _, .bl b => .bl b
  | _, _, .int i => .int i
  | _, _, .str x => .str x
  | _, _, .ref h => .ref (f.get h)
  | _, _, .tup h r => .tup (k.tup _ _ h) (RVs.mono2 f k r)
  | _, _, .ktp h r => .ktp (k.sqT h) (RVs.mono2 f k r)
  | _, _, .fzl h r => .fzl (k.fzL h) (RVs.mono2 f k r)
  | _, _, .ty n => .ty n
  | _, _, .exn0 a => .exn0 a
  | _, _, .exn1 h l r => .exn1 (k.xd _ _ h) l (RVs.mono2 f k r)
theorem RVs.mono2 (f : Ext ads ads') (k : Kp H H') : ∀ {d : List DV} {v : List V}, RVs K ads H d v → RVs K ads' H' d v
  | _, _, .nil => .nil
  | _, _, .cons h r => .cons (RV.mono2 f k h) (RVs.mono2 f k r)
end
theorem RV.mono (f : Fut ads H ads' H') {d : DV} {v : V} (r : RV K ads H d v) : RV K ads' H' d v := r.mono2 f.pre f.kp
theorem RVs.mono (f : Fut ads H ads' H') {d : List DV} {v : List V} (r : RVs K ads H d v) : RVs K ads' H' d v := r.mono2 f.pre f.kp
theorem RVs.length : ∀ {d : List DV} {v : List V}, RVs K ads H d v → d.length = v.length
  | _, _, .nil => rfl
  | _, _, .cons _ r => by rw [List.length_cons, List.length_cons, RVs.length r]
theorem RVs.get : ∀ {ds : List DV} {vs : List V} {i : Nat} {d : DV}, RVs K ads H ds vs → ds[i]? = some d → ∃ v, vs[i]? = some v ∧ RV K ads H d v
  | _, _, _, _, .nil, e => by simp at e
  | _, _, 0, _, .cons h _, e => by simp at e; subst e; exact ⟨_, rfl, h⟩
  | _, _, i + 1, d, .cons _ r, e => by
    obtain ⟨v, h1, h2⟩ := RVs.get (i := i) r (by simpa using e)
    exact ⟨v, by simpa using h1, h2⟩
theorem RVs.get' : ∀ {ds : List DV} {vs : List V} {i : Nat} {v : V}, RVs K ads H ds vs → vs[i]? = some v → ∃ d, ds[i]? = some d ∧ RV K ads H d v
  | _, _, _, _, .nil, e => by simp at e
  | _, _, 0, _, .cons h _, e => by simp at e; subst e; exact ⟨_, rfl, h⟩
  | _, _, i + 1, d, .cons _ r, e => by
    obtain ⟨v, h1, h2⟩ := RVs.get' (i := i) r (by simpa using e)
    exact ⟨v, by simpa using h1, h2⟩
theorem RVs.append : ∀ {xs ys : List DV} {us vs : List V}, RVs K ads H xs us → RVs K ads H ys vs → RVs K ads H (xs ++ ys) (us ++ vs)
  | _, _, _, _, .nil, s => s
  | _, _, _, _, .cons h r, s => .cons h (RVs.append r s)
theorem RVs.take : ∀ {xs : List DV} {us : List V} (n : Nat), RVs K ads H xs us → RVs K ads H (xs.take n) (us.take n)
  | _, _, 0, _ => .nil
  | _, _, _ + 1, .nil => .nil
  | _, _, n + 1, .cons h r => .cons h (RVs.take n r)
theorem RVs.drop : ∀ {xs : List DV} {us : List V} (n : Nat), RVs K ads H xs us → RVs K ads H (xs.drop n) (us.drop n)
  | _, _, 0, r => r
  | _, _, _ + 1, .nil => .nil
  | _, _, n + 1, .cons _ r => RVs.drop n r
theorem RVs.set {d : DV} {v : V} (h : RV K ads H d v) : ∀ {xs : List DV} {us : List V} (n : Nat), RVs K ads H xs us → RVs K ads H (xs.set n d) (us.set n v)
  | _, _, _, .nil => .nil
  | _, _, 0, .cons _ r => .cons h r
  | _, _, n + 1, .cons q r => .cons q (RVs.set h n r)
theorem RVs.eraseIdx : ∀ {xs : List DV} {us : List V} (n : Nat), RVs K ads H xs us → RVs K ads H (xs.eraseIdx n) (us.eraseIdx n)
  | _, _, _, .nil => .nil
  | _, _, 0, .cons _ r => r
  | _, _, n + 1, .cons q r => .cons q (RVs.eraseIdx n r)
theorem RVs.reverse {xs : List DV} {us : List V} (h : RVs K ads H xs us) : RVs K ads H xs.reverse us.reverse := by
  induction xs generalizing us with
  | nil => cases h; exact .nil
  | cons x xs ih =>
    cases h with
    | cons a b =>
      rw [List.reverse_cons, List.reverse_cons]
      exact (ih b).append (.cons a .nil)
theorem RVs.dropLast {xs : List DV} {us : List V} (h : RVs K ads H xs us) : RVs K ads H xs.dropLast us.dropLast := by
  rw [List.dropLast_eq_take, List.dropLast_eq_take, h.length]
  exact h.take _
theorem RVs.one {v : DV} {us : List V} (h : RVs K ads H [v] us) : ∃ u, us = [u] ∧ RV K ads H v u := by
  cases h with
  | cons a b => cases b; exact ⟨_, rfl, a⟩
theorem RVs.two {v v' : DV} {us : List V} (h : RVs K ads H [v, v'] us) : ∃ u u', us = [u, u'] ∧ RV K ads H v u ∧ RV K ads H v' u' := by
  cases h with
  | cons a b =>
    obtain ⟨u', rfl, b1⟩ := RVs.one b
    exact ⟨_, _, rfl, a, b1⟩
theorem RVs.three {v v' w : DV} {us : List V} (h : RVs K ads H [v, v', w] us) : ∃ u u' z, us = [u, u', z] ∧ RV K ads H v u ∧ RV K ads H v' u' ∧ RV K ads H w z := by
  cases h with
  | cons a b =>
    obtain ⟨u', z, rfl, b1, c⟩ := RVs.two b
    exact ⟨_, _, _, rfl, a, b1, c⟩
theorem RVs.insertIdx {d : DV} {v : V} (h : RV K ads H d v) : ∀ {xs : List DV} {us : List V} (n : Nat), RVs K ads H xs us → RVs K ads H (xs.insertIdx n d) (us.insertIdx n v)
  | _, _, 0, r => .cons h r
  | _, _, n + 1, .nil => .nil
  | _, _, n + 1, .cons q r => by
    rw [List.insertIdx_succ_cons, List.insertIdx_succ_cons]
    exact .cons q (RVs.insertIdx h n r)
theorem RVs.replicate {d : DV} {v : V} (h : RV K ads H d v) : ∀ n : Nat, RVs K ads H (List.replicate n d) (List.replicate n v)
  | 0 => .nil
  | n + 1 => .cons h (RVs.replicate h n)
end

/-! ### objects -/
def RFs (K : PySem.W.Frag) (ads : List Addr) (H : Hp) : List (Str × DV) → List (Str × V) → Prop := Paired fun (p : Str × DV) (q : Str × V) => p.1 = q.1 ∧ RV K ads H p.2 q.2
theorem RFs.mono2 {K : PySem.W.Frag} {ads ads' : List Addr} {H H' : Hp} (f : Ext ads ads') (k : Kp H H') {ds : List (Str × DV)} {vs : List (Str × V)} (h : RFs K ads H ds vs) : RFs K ads' H' ds vs :=
  Paired.mapP h fun _ _ q => ⟨q.1, q.2.mono2 f k⟩
theorem RFs.mono {K : PySem.W.Frag} {ads ads' : List Addr} {H H' : Hp} (f : Fut ads H ads' H') {ds : List (Str × DV)} {vs : List (Str × V)} (h : RFs K ads H ds vs) : RFs K ads' H' ds vs := h.mono2 f.pre f.kp
theorem RFs.lookup {K : PySem.W.Frag} {ads : List Addr} {H : Hp} {f : Str} {d : DV} : ∀ {ds : List (Str × DV)} {vs : List (Str × V)}, RFs K ads H ds vs → ds.lookup f = some d → ∃ v, vs.lookup f = some v ∧ RV K ads H d v
  | _, _, .nil, e => by cases e
  | (g, x) :: ds, (g', v) :: vs, .cons h r, e => by
    obtain ⟨h1, h2⟩ := h
    have h1 : g = g' := h1
    subst h1
    rw [List.lookup_cons] at e ⊢
    cases q : f == g with
    | true =>
      rw [q] at e
      cases e
      exact ⟨v, rfl, h2⟩
    | false =>
      rw [q] at e
      exact RFs.lookup r e
theorem RFs.lookup_none {K : PySem.W.Frag} {ads : List Addr} {H : Hp} {f : Str} : ∀ {ds : List (Str × DV)} {vs : List (Str × V)}, RFs K ads H ds vs → ds.lookup f = none → vs.lookup f = none
  | _, _, .nil, e => rfl
  | (g, x) :: ds, (g', v) :: vs, .cons h r, e => by
    obtain ⟨h1, h2⟩ := h
    have h1 : g = g' := h1
    subst h1
    rw [List.lookup_cons] at e ⊢
    cases q : f == g with
    | true =>
      rw [q] at e
      cases e
    | false =>
      rw [q] at e
      exact RFs.lookup_none r e
theorem RFs.length {K : PySem.W.Frag} {ads : List Addr} {H : Hp} {ds : List (Str × DV)} {vs : List (Str × V)} (h : RFs K ads H ds vs) : ds.length = vs.length := Paired.length h
def putD (f : Str) (v : DV) : List (Str × DV) → List (Str × DV)
  | [] => [(f, v)]
  | (g, x) :: r => if g = f then (g, v) :: r else (g, x) :: putD f v r
theorem RFs.put {K : PySem.W.Frag} {ads : List Addr} {H : Hp} {f : Str} {d : DV} {v : V} (h : RV K ads H d v) : ∀ {ds : List (Str × DV)} {vs : List (Str × V)}, RFs K ads H ds vs → RFs K ads H (putD f d ds) (putF f v vs)
  | _, _, .nil => .cons ⟨rfl, h⟩ .nil
  | (g, x) :: ds, (g', w) :: vs, .cons q r => by
    obtain ⟨h1, h2⟩ := q
    have h1 : g = g' := h1
    subst h1
    show RFs K ads H (if g = f then (g, d) :: ds else (g, x) :: putD f d ds) (if g = f then (g, v) :: vs else (g, w) :: putF f v vs)
    split
    · exact .cons ⟨rfl, h⟩ r
    · exact .cons ⟨rfl, h2⟩ (RFs.put h r)

/-! ### the store -/
/-- dicts: keys by value (ints, texts; or tuples of such) -/
def hK : Key → HK
  | .inl i => .int i
  | .inr x => .str x
def RKs (K : PySem.W.Frag) (ads : List Addr) (H : Hp) : List (HK × DV) → List (Key × V) → Prop := Paired fun (p : HK × DV) (q : Key × V) => p.1 = hK q.1 ∧ RV K ads H p.2 q.2
def RTs (K : PySem.W.Frag) (ads : List Addr) (H : Hp) : List (HK × DV) → List (List Key × V) → Prop := Paired fun (p : HK × DV) (q : List Key × V) => p.1 = .tup (q.1.map hK) ∧ RV K ads H p.2 q.2
theorem RKs.mono2 {K : PySem.W.Frag} {ads ads' : List Addr} {H H' : Hp} (f : Ext ads ads') (k : Kp H H') {ds : List (HK × DV)} {vs : List (Key × V)} (h : RKs K ads H ds vs) : RKs K ads' H' ds vs :=
  Paired.mapP h fun _ _ q => ⟨q.1, q.2.mono2 f k⟩
theorem RTs.mono2 {K : PySem.W.Frag} {ads ads' : List Addr} {H H' : Hp} (f : Ext ads ads') (k : Kp H H') {ds : List (HK × DV)} {vs : List (List Key × V)} (h : RTs K ads H ds vs) : RTs K ads' H' ds vs :=
  Paired.mapP h fun _ _ q => ⟨q.1, q.2.mono2 f k⟩
/-! dicts whose keys are tuples of whole numbers, None and such tuples -/
mutual
def nk : HK → NestedKey
  | .non => .none
  | .int i => .num i
  | .str x => .text x
  | .tup ks => .tup (nks ks)
def nks : List HK → List NestedKey
  | [] => []
  | k :: ks => nk k :: nks ks
end
mutual
def numT : HK → Bool
  | .non => true
  | .int _ => true
  | .str _ => false
  | .tup ks => numTs ks
def numTs : List HK → Bool
  | [] => true
  | k :: ks => numT k && numTs ks
end
/-- a key of such a dict -/
def keyN : HK → Bool
  | .tup ks => numTs ks && decide ((nk (.tup ks)).depth ≤ 8)
  | _ => false
/-- the dict at a, by its keys, where these stand, and its values -/
def DN (w : World) (a : Addr) (vs : List (NestedKey × Addr × V)) : HO := .ext fun h => vs.length ≤ sizeLine ∧ (a == sysModules) = false ∧ ∃ xs : List (NestedKey × Addr × Value),
  Paired (fun (p : NestedKey × Addr × V) (q : NestedKey × Addr × Value) => p.1 = q.1 ∧ p.2.1 = q.2.1 ∧ RelV p.2.2 q.2.2) vs xs ∧
  ∃ o es ep, h.get? a = some o ∧ o.ExactDict ∧ o.data = .dict es ep ∧ es.toList = xs.map (fun x => (⟨x.1.hash w, .ref x.2.1, x.2.2⟩ : DictEntry)) ∧ (xs.map (·.1)).Nodup
theorem DN.ntup {w : World} {a : Addr} {vs : List (NestedKey × Addr × V)} : (∀ xs, DN w a vs ≠ .tup xs) ∧ ∀ o z, DN w a vs ≠ .frz o z := by
  refine ⟨fun xs z => ?_, fun o u z => ?_⟩
  · have z' : HO.ext _ = HO.tup xs := z
    cases z'
  · have z' : HO.ext _ = HO.frz o u := z
    cases z'
def RNs (K : PySem.W.Frag) (ads : List Addr) (H : Hp) : List (HK × DV) → List (NestedKey × Addr × V) → Prop := Paired fun (p : HK × DV) (q : NestedKey × Addr × V) => keyN p.1 = true ∧ q.1 = nk p.1 ∧ RV K ads H (dOf p.1) (.ref q.2.1) ∧ RV K ads H p.2 q.2.2
theorem RNs.mono2 {K : PySem.W.Frag} {ads ads' : List Addr} {H H' : Hp} (f : Ext ads ads') (k : Kp H H') {ds : List (HK × DV)} {vs : List (NestedKey × Addr × V)} (h : RNs K ads H ds vs) : RNs K ads' H' ds vs :=
  Paired.mapP h fun _ _ q => ⟨q.1, q.2.1, q.2.2.1.mono2 f k, q.2.2.2.mono2 f k⟩
def RO (K : PySem.W.Frag) (mg : Str → Option Value) (ads : List Addr) (H : Hp) (a : Addr) : DO → Prop
  | .lst xs => ∃ vs, H a = some (.lst vs) ∧ RVs K ads H xs vs
  | .dic kvs => (∃ vs, H a = some (.dK vs) ∧ RKs K ads H kvs vs) ∨ (∃ vs, H a = some (.dT vs) ∧ RTs K ads H kvs vs)
  | .ins c lay xs => ∃ C dx vs, mg c = some (.ref C) ∧ H a = some (.ins C dx vs) ∧ xs.length ≤ lay.length ∧ RFs K ads H (lay.zip xs) vs
  | .iset xs => ∃ S n, H a = some (.set S n) ∧ xs.Nodup ∧ n = xs.length ∧ ∀ i, S i = decide (i ∈ xs)
  | .dcn kvs => ∃ w vs, H a = some (DN w a vs) ∧ RNs K ads H kvs vs
  | .fdc kvs => ∃ o, (∃ vs, H a = some (.frz o (.dK vs)) ∧ RKs K ads H kvs vs) ∨ (∃ vs, H a = some (.frz o (.dT vs)) ∧ RTs K ads H kvs vs)
theorem RO.there {K : PySem.W.Frag} {mg : Str → Option Value} {ads : List Addr} {H : Hp} {a : Addr} {o : DO} (h : RO K mg ads H a o) : ∃ u, H a = some u ∧ (∀ xs, u ≠ .tup xs) ∧ ∀ o' z, kU z = true → u ≠ .frz o' z := by
  cases o with
  | lst xs => obtain ⟨_, e, _⟩ := h; exact ⟨_, e, (fun _ z => by cases z), (fun _ _ _ z => by cases z)⟩
  | dic kvs => rcases h with ⟨_, e, _⟩ | ⟨_, e, _⟩ <;> exact ⟨_, e, (fun _ z => by cases z), (fun _ _ _ z => by cases z)⟩
  | ins c lay xs => obtain ⟨_, _, _, _, e, _⟩ := h; exact ⟨_, e, (fun _ z => by cases z), (fun _ _ _ z => by cases z)⟩
  | iset xs => obtain ⟨_, _, e, _⟩ := h; exact ⟨_, e, (fun _ z => by cases z), (fun _ _ _ z => by cases z)⟩
  | dcn kvs => obtain ⟨_, _, e, _⟩ := h; exact ⟨_, e, DN.ntup.1, fun o z _ => DN.ntup.2 o z⟩
  | fdc kvs =>
    obtain ⟨o, ⟨_, e, _⟩ | ⟨_, e, _⟩⟩ := h
    · exact ⟨_, e, (fun _ z => by cases z), (fun o' z k q => by cases q; cases k)⟩
    · exact ⟨_, e, (fun _ z => by cases z), (fun o' z k q => by cases q; cases k)⟩
theorem RO.noxd {K : PySem.W.Frag} {mg : Str → Option Value} {ads : List Addr} {H : Hp} {a : Addr} {o : DO} (h : RO K mg ads H a o) (fs : List (Str × V)) : H a ≠ some (.xd fs) := fun q => by
  cases o with
  | lst xs => obtain ⟨_, e, _⟩ := h; rw [e] at q; cases q
  | dic kvs => rcases h with ⟨_, e, _⟩ | ⟨_, e, _⟩ <;> rw [e] at q <;> cases q
  | ins c lay xs => obtain ⟨_, _, _, _, e, _⟩ := h; rw [e] at q; cases q
  | iset xs => obtain ⟨_, _, e, _⟩ := h; rw [e] at q; cases q
  | dcn kvs =>
    obtain ⟨_, _, e, _⟩ := h
    rw [e] at q
    have z' : HO.ext _ = HO.xd fs := Option.some.inj q
    cases z'
  | fdc kvs => obtain ⟨o, ⟨_, e, _⟩ | ⟨_, e, _⟩⟩ := h <;> rw [e] at q <;> cases q
def DO.isF : DO → Bool
  | .fdc _ => true
  | _ => false
theorem RO.thereS {K : PySem.W.Frag} {mg : Str → Option Value} {ads : List Addr} {H : Hp} {a : Addr} {o : DO} (h : RO K mg ads H a o) (hf : o.isF = false) : ∃ u, H a = some u ∧ (∀ xs, u ≠ .tup xs) ∧ ∀ o' z, u ≠ .frz o' z := by
  cases o with
  | lst xs => obtain ⟨_, e, _⟩ := h; exact ⟨_, e, (fun _ z => by cases z), (fun _ _ z => by cases z)⟩
  | dic kvs => rcases h with ⟨_, e, _⟩ | ⟨_, e, _⟩ <;> exact ⟨_, e, (fun _ z => by cases z), (fun _ _ z => by cases z)⟩
  | ins c lay xs => obtain ⟨_, _, _, _, e, _⟩ := h; exact ⟨_, e, (fun _ z => by cases z), (fun _ _ z => by cases z)⟩
  | iset xs => obtain ⟨_, _, e, _⟩ := h; exact ⟨_, e, (fun _ z => by cases z), (fun _ _ z => by cases z)⟩
  | dcn kvs => obtain ⟨_, _, e, _⟩ := h; exact ⟨_, e, DN.ntup.1, DN.ntup.2⟩
  | fdc kvs => cases hf
theorem nfd {st : Sto} {k : Nat} {o : DO} (h : st[k]? = some o) (hf : o.isF = false) : ∀ kvs, st[k]? ≠ some (.fdc kvs) := fun kvs q => by
  rw [h] at q
  cases q
  cases hf
theorem RO.nofrz {K : PySem.W.Frag} {mg : Str → Option Value} {ads : List Addr} {H : Hp} {a : Addr} {kvs : List (HK × DV)} {o' : Obj} {z : HO} (h : RO K mg ads H a (.dic kvs)) : H a ≠ some (.frz o' z) := fun q => by
  rcases h with ⟨_, e, _⟩ | ⟨_, e, _⟩ <;> rw [e] at q <;> cases q
theorem RO.mono2 {K : PySem.W.Frag} {mg : Str → Option Value} {ads ads' : List Addr} {H H' : Hp} {a : Addr} {o : DO} (f : Ext ads ads') (k : Kp H H') (e : H' a = H a) (h : RO K mg ads H a o) : RO K mg ads' H' a o := by
  cases o with
  | lst xs => obtain ⟨vs, h1, h2⟩ := h; exact ⟨vs, e.trans h1, h2.mono2 f k⟩
  | dic kvs =>
    rcases h with ⟨vs, h1, h2⟩ | ⟨vs, h1, h2⟩
    · exact .inl ⟨vs, e.trans h1, h2.mono2 f k⟩
    · exact .inr ⟨vs, e.trans h1, h2.mono2 f k⟩
  | ins c lay xs => obtain ⟨C, dx, vs, h0, h1, hl, h2⟩ := h; exact ⟨C, dx, vs, h0, e.trans h1, hl, h2.mono2 f k⟩
  | iset xs => obtain ⟨S, n, h1, h2⟩ := h; exact ⟨S, n, e.trans h1, h2⟩
  | dcn kvs => obtain ⟨w, vs, h1, h2⟩ := h; exact ⟨w, vs, e.trans h1, h2.mono2 f k⟩
  | fdc kvs =>
    obtain ⟨o, ⟨vs, h1, h2⟩ | ⟨vs, h1, h2⟩⟩ := h
    · exact ⟨o, .inl ⟨vs, e.trans h1, h2.mono2 f k⟩⟩
    · exact ⟨o, .inr ⟨vs, e.trans h1, h2.mono2 f k⟩⟩
theorem RO.mono {K : PySem.W.Frag} {mg : Str → Option Value} {ads ads' : List Addr} {H H' : Hp} {a : Addr} {o : DO} (f : Fut ads H ads' H') (e : H' a = H a) (h : RO K mg ads H a o) : RO K mg ads' H' a o := h.mono2 f.pre f.kp e
structure RSt (K : PySem.W.Frag) (mg : Str → Option Value) (ads : List Addr) (H : Hp) (st : Sto) : Prop where
  len : ads.length = st.length
  nd : ads.Nodup
  ob : ∀ (k : Nat) (a : Addr) (o : DO), ads[k]? = some a → st[k]? = some o → RO K mg ads H a o
section
variable {K : PySem.W.Frag} {mg : Str → Option Value} {ads : List Addr} {H : Hp} {st : Sto}
theorem RSt.nil : RSt K mg [] H [] := ⟨rfl, List.nodup_nil, fun k a o h => by simp at h⟩
theorem RSt.at (R : RSt K mg ads H st) {k : Nat} {a : Addr} (h : ads[k]? = some a) : ∃ o, st[k]? = some o ∧ RO K mg ads H a o := by
  have hk : k < st.length := by rw [← R.len]; exact (List.getElem?_eq_some_iff.mp h).1
  exact ⟨_, List.getElem?_eq_getElem hk, R.ob _ _ _ h (List.getElem?_eq_getElem hk)⟩
theorem RSt.obj (R : RSt K mg ads H st) {k : Nat} {a : Addr} {o : DO} (h : ads[k]? = some a) (ho : st[k]? = some o) : RO K mg ads H a o := R.ob _ _ _ h ho
theorem RSt.fresh (R : RSt K mg ads H st) {p : Addr} (h : H p = none) : p ∉ ads := fun hm => by
  obtain ⟨k, e⟩ := List.getElem?_of_mem hm
  obtain ⟨o, _, ro⟩ := R.at e
  obtain ⟨u, e', _⟩ := ro.there
  rw [h] at e'; cases e'
/-- anything untracked is new -/
theorem RSt.keep (R : RSt K mg ads H st) {H' : Hp} (k : Kp H H') (h : ∀ a ∈ ads, H' a = H a) : RSt K mg ads H' st :=
  ⟨R.len, R.nd, fun j a o e1 e2 => (R.ob j a o e1 e2).mono2 (.refl _) k (h a (List.mem_of_getElem? e1))⟩
theorem RSt.newU (R : RSt K mg ads H st) {p : Addr} {u : HO} (h : H p = none) : RSt K mg ads (upd H p u) st :=
  R.keep (.new h) fun a ha => upd_ne fun e => R.fresh h (e ▸ ha)
theorem Fut.newU {p : Addr} {u : HO} (h : H p = none) : Fut ads H ads (upd H p u) := ⟨⟨[], by simp⟩, .new h, fun a o h1 h2 => ⟨h1, by rw [upd_ne (ne_of_none h2 h)]; exact h2⟩, fun a o u e => by rw [upd_ne (ne_of_none e h)]; exact e⟩
theorem Fut.alloc {p : Addr} {u : HO} (h : H p = none) : Fut ads H (ads ++ [p]) (upd H p u) := ⟨⟨[p], rfl⟩, .new h, fun a o h1 h2 => by
  have n := ne_of_none h2 h
  refine ⟨fun z => ?_, by rw [upd_ne n]; exact h2⟩
  rcases List.mem_append.mp z with z | z
  · exact h1 z
  · exact n (by simpa using z), fun a o u e => by rw [upd_ne (ne_of_none e h)]; exact e⟩
/-- an object without a handle gets one -/
theorem RSt.adopt (R : RSt K mg ads H st) {p : Addr} {o : DO} (h : p ∉ ads) (ro : RO K mg (ads ++ [p]) H p o) : RSt K mg (ads ++ [p]) H (st ++ [o]) := by
  refine ⟨by simp [R.len], ?_, fun j a o' e1 e2 => ?_⟩
  · rw [List.nodup_append]
    refine ⟨R.nd, by simp, fun a ha b hb => ?_⟩
    have e : b = p := by simpa using hb
    subst e
    rintro rfl
    exact h ha
  · by_cases hj : j < ads.length
    · rw [List.getElem?_append_left hj] at e1
      rw [List.getElem?_append_left (by rw [← R.len]; exact hj)] at e2
      exact (R.ob j a o' e1 e2).mono2 ⟨[p], rfl⟩ .refl rfl
    · have hl : j < (ads ++ [p]).length := (List.getElem?_eq_some_iff.mp e1).1
      have e : j = ads.length := by rw [List.length_append, List.length_singleton] at hl; omega
      subst e
      rw [List.getElem?_concat_length] at e1
      rw [R.len, List.getElem?_concat_length] at e2
      cases e1; cases e2
      exact ro
theorem RSt.alloc (R : RSt K mg ads H st) {p : Addr} {u : HO} {o : DO} (h : H p = none) (ro : RO K mg (ads ++ [p]) (upd H p u) p o) : RSt K mg (ads ++ [p]) (upd H p u) (st ++ [o]) :=
  (R.newU h).adopt (R.fresh h) ro
theorem alloc_at {p : Addr} (R : RSt K mg ads H st) : (ads ++ [p])[st.length]? = some p := by rw [← R.len, List.getElem?_concat_length]
theorem RSt.write (R : RSt K mg ads H st) {k : Nat} {p : Addr} {o : HO} (hk : ads[k]? = some p) (hn : ∀ kvs, st[k]? ≠ some (.fdc kvs) := by refine nfd (by assumption) ?_; rfl) : Fut ads H ads (upd H p o) := by
  obtain ⟨u, hu, r⟩ := R.at hk
  obtain ⟨z, e, h1, h2⟩ := r.thereS (by cases u <;> first | rfl | exact absurd hu (hn _))
  have n : ∀ {a : Addr} {o' : HO}, a ∉ ads → H a = some o' → a ≠ p := fun h3 _ q => h3 (by rw [q]; exact List.mem_of_getElem? hk)
  refine ⟨⟨[], by simp⟩, .write e h1 h2 (fun fs q => r.noxd fs (by rw [e, q])), fun a o' h3 h4 => ⟨h3, ?_⟩, fun a o' u' e' => ?_⟩
  · rw [upd_ne (n h3 h4)]
    exact h4
  · have : a ≠ p := fun q => by subst q; rw [e'] at e; exact h2 o' u' (Option.some.inj e).symm
    rw [upd_ne this]
    exact e'
theorem RSt.set (R : RSt K mg ads H st) {k : Nat} {p : Addr} {u : HO} {o' : DO} (hk : ads[k]? = some p) (ro : RO K mg ads (upd H p u) p o') : RSt K mg ads (upd H p u) (st.set k o') := by
  obtain ⟨o, ho, r⟩ := R.at hk
  obtain ⟨z, e, h1, h2⟩ := r.there
  refine ⟨by simp [R.len], R.nd, fun j a o2 e1 e2 => ?_⟩
  by_cases hj : k = j
  · subst hj
    rw [hk] at e1; cases e1
    have hl : k < st.length := (List.getElem?_eq_some_iff.mp ho).1
    rw [List.getElem?_set_self hl] at e2
    cases e2
    exact ro
  · rw [List.getElem?_set_ne hj] at e2
    refine (R.ob j a o2 e1 e2).mono2 (.refl _) (.writeU e h1 h2 (fun fs q => r.noxd fs (by rw [e, q]))) (upd_ne fun q => hj ?_)
    subst q
    exact (List.getElem?_inj (List.getElem?_eq_some_iff.mp hk).1 R.nd).mp (hk.trans e1.symm)
end

/-! ### the names -/
def RSl (K : PySem.W.Frag) (ads : List Addr) (H : Hp) (ss : Sl) (σ : L2.St) : Prop := ss.length = σ.length ∧ ∀ (i : Nat) (d : DV), ss[i]? = some (some d) → ∃ v, σ[i]? = some (some v) ∧ RV K ads H d v
theorem RSl.mono {K : PySem.W.Frag} {ads ads' : List Addr} {H H' : Hp} {ss : Sl} {σ : L2.St} (f : Fut ads H ads' H') (h : RSl K ads H ss σ) : RSl K ads' H' ss σ :=
  ⟨h.1, fun i d e => let ⟨v, h1, h2⟩ := h.2 i d e; ⟨v, h1, h2.mono f⟩⟩
theorem RSl.set {K : PySem.W.Frag} {ads : List Addr} {H : Hp} {ss : Sl} {σ : L2.St} {d : DV} {v : V} (h : RSl K ads H ss σ) (i : Nat) (r : RV K ads H d v) : RSl K ads H (ss.set i (some d)) (σ.set i (some v)) := by
  refine ⟨by simp [h.1], fun j e hj => ?_⟩
  by_cases hi : i = j
  · subst hi
    by_cases hl : i < ss.length
    · rw [List.getElem?_set_self hl] at hj
      cases hj
      exact ⟨v, by rw [List.getElem?_set_self (by rw [← h.1]; exact hl)], r⟩
    · rw [List.getElem?_eq_none (by simpa using hl)] at hj; cases hj
  · rw [List.getElem?_set_ne hi] at hj
    obtain ⟨u, h1, h2⟩ := h.2 j e hj
    exact ⟨u, by rw [List.getElem?_set_ne hi]; exact h1, h2⟩
theorem RSl.forget {K : PySem.W.Frag} {ads : List Addr} {H : Hp} {ss : Sl} {σ : L2.St} (h : RSl K ads H ss σ) (i : Nat) : RSl K ads H (ss.set i none) σ := by
  refine ⟨by simp [h.1], fun j e hj => ?_⟩
  by_cases hi : i = j
  · subst hi
    by_cases hl : i < ss.length
    · rw [List.getElem?_set_self hl] at hj; cases hj
    · rw [List.getElem?_eq_none (by simpa using hl)] at hj; cases hj
  · rw [List.getElem?_set_ne hi] at hj
    exact h.2 j e hj
theorem RSl.forget2 {K : PySem.W.Frag} {ads : List Addr} {H : Hp} {ss : Sl} {σ : L2.St} (h : RSl K ads H ss σ) (i : Nat) : RSl K ads H (ss.set i none) (σ.set i none) := by
  refine ⟨by simp [h.1], fun j e hj => ?_⟩
  by_cases hi : i = j
  · subst hi
    by_cases hl : i < ss.length
    · rw [List.getElem?_set_self hl] at hj; cases hj
    · rw [List.getElem?_eq_none (by simpa using hl)] at hj; cases hj
  · rw [List.getElem?_set_ne hi] at hj ⊢
    exact h.2 j e hj
/-- exceptions: the class by its name, the own dict's fields -/
def RX (K : PySem.W.Frag) (mg : Str → Option Value) (ads : List Addr) (H : Hp) (e : DX) (cls : Value) (d : Option Addr) : Prop :=
  ∃ C, mg e.c = some (.ref C) ∧ cls = .ref C ∧ ((e.fs = [] ∧ d = none) ∨ ∃ dx vs, d = some dx ∧ H dx = some (.xd vs) ∧ RFs K ads H e.fs vs)

/-! ### outcomes against the readings -/
def post {A B : Type} (K : PySem.W.Frag) (mg : Str → Option Value) (W : WX) (R : List Addr → Hp → A → B → Prop) (σ : L2.St) (ads : List Addr) (H : Hp) (o : Out A) (Q : B → Hp → Prop) : Prop :=
  match o with
  | .ok a st' => ∀ ads' H' b, Fut ads H ads' H' → RSt K mg ads' H' st' → R ads' H' a b → Q b H'
  | .exc e st' => ∀ ads' H' cls d, Fut ads H ads' H' → RSt K mg ads' H' st' → RX K mg ads' H' e cls d → W cls d σ H'
  | .bad => False
def tM {A B : Type} (K : PySem.W.Frag) (mg : Str → Option Value) (W : WX) (R : List Addr → Hp → A → B → Prop) (m : Sl → M A) : L2.St → Hp → (B → Hp → Prop) → Prop := fun σ H Q =>
  ∃ ads ss st, RSt K mg ads H st ∧ RSl K ads H ss σ ∧ post K mg W R σ ads H (m ss st) Q
/-- a step and then another one -/
theorem post.bind {A B A' B' : Type} {K : PySem.W.Frag} {mg : Str → Option Value} {W : WX} {R : List Addr → Hp → A → B → Prop} {R' : List Addr → Hp → A' → B' → Prop} {σ : L2.St} {ads : List Addr} {H : Hp} {st : Sto} {m : M A} {f : A → M A'} {Q : B' → Hp → Prop}
    (h : post K mg W R' σ ads H (bnd m f st) Q) : post K mg W R σ ads H (m st) fun b H' => ∃ ads' a st', Fut ads H ads' H' ∧ RSt K mg ads' H' st' ∧ R ads' H' a b ∧ post K mg W R' σ ads' H' (f a st') Q := by
  unfold bnd at h
  cases e : m st with
  | ok a st' =>
    rw [e] at h
    intro ads' H' b fu rs r
    refine ⟨ads', a, st', fu, rs, r, ?_⟩
    have h : post K mg W R' σ ads H (f a st') Q := h
    revert h
    cases f a st' with
    | ok a2 st2 => exact fun h ads2 H2 b2 fu2 rs2 r2 => h ads2 H2 b2 (fu.trans fu2) rs2 r2
    | exc e2 st2 => exact fun h ads2 H2 c d fu2 rs2 r2 => h ads2 H2 c d (fu.trans fu2) rs2 r2
    | bad => exact fun h => h
  | exc x st' => rw [e] at h; exact h
  | bad => rw [e] at h; exact h
theorem post.mono {A B : Type} {K : PySem.W.Frag} {mg : Str → Option Value} {W : WX} {R : List Addr → Hp → A → B → Prop} {σ : L2.St} {ads : List Addr} {H : Hp} {o : Out A} {Q Q' : B → Hp → Prop}
    (h : post K mg W R σ ads H o Q) (hq : ∀ b H', Q b H' → Q' b H') : post K mg W R σ ads H o Q' := by
  cases o with
  | ok a st' => exact fun ads' H' b fu rs r => hq _ _ (h ads' H' b fu rs r)
  | exc e st' => exact h
  | bad => exact h
theorem post.ok {A B : Type} {K : PySem.W.Frag} {mg : Str → Option Value} {W : WX} {R : List Addr → Hp → A → B → Prop} {σ : L2.St} {ads : List Addr} {H : Hp} {st : Sto} {a : A} {b : B} {Q : B → Hp → Prop}
    (h : post K mg W R σ ads H (.ok a st) Q) (rs : RSt K mg ads H st) (r : R ads H a b) : Q b H := h ads H b .refl rs r
end ML

/-! ML2: operators and subscripts by values. -/
namespace ML
open PySem PySem.Spec PyProof.Rows L2
/-- one value's relation, as post takes it -/
abbrev rV (K : PySem.W.Frag) : List Addr → Hp → DV → V → Prop := fun ads H d v => RV K ads H d v
abbrev rVs (K : PySem.W.Frag) : List Addr → Hp → List DV → List V → Prop := fun ads H d v => RVs K ads H d v
abbrev rB : List Addr → Hp → Bool → Bool → Prop := fun _ _ b c => b = c

def OpM (X : Cx) (f : Value → Value → Sem Value) (g : DV → DV → M DV) : Prop :=
  ∀ (pins : List (Addr × Obj)) (s : Shared) (σ : L2.St) (H : Hp) (x y : V) (v u : Value) (Q : VK) (ads : List Addr) (dx dy : DV) (st : Sto) (W : WX), Inv X pins σ H s → RSt X.K X.mg ads H st → RV X.K ads H dx x → RV X.K ads H dy y → RelV x v → RelV y u →
    post X.K X.mg W (rV X.K) σ ads H (g dx dy st) Q → wpAny (model X.prog X.w) X.A (f v u) (EP X pins σ Q) X.xe s
def UnM (X : Cx) (f : Value → Sem Value) (g : DV → M DV) : Prop :=
  ∀ (pins : List (Addr × Obj)) (s : Shared) (σ : L2.St) (H : Hp) (x : V) (v : Value) (Q : VK) (ads : List Addr) (dx : DV) (st : Sto) (W : WX), Inv X pins σ H s → RSt X.K X.mg ads H st → RV X.K ads H dx x → RelV x v →
    post X.K X.mg W (rV X.K) σ ads H (g dx st) Q → wpAny (model X.prog X.w) X.A (f v) (EP X pins σ Q) X.xe s
section
variable {K : PySem.W.Frag} {mg : Str → Option Value} {W : WX} {σ : L2.St} {ads : List Addr} {H : Hp} {st : Sto} {Q : VK}
/-- a new list -/
def alloc (o : DO) : M DV := fun st => .ok (.ref st.length) (st ++ [o])
theorem post.newL (R : RSt K mg ads H st) {xs : List DV} {vs : List V} (r : RVs K ads H xs vs) (h : post K mg W (rV K) σ ads H (alloc (.lst xs) st) Q) {p : Addr} (hp : H p = none) : Q (.ref p) (upd H p (.lst vs)) :=
  h _ _ _ (Fut.alloc hp) (R.alloc hp ⟨vs, upd_same, r.mono (.alloc hp)⟩) (.ref (alloc_at R))
theorem post.newT (R : RSt K mg ads H st) {xs : List DV} {vs : List V} (r : RVs K ads H xs vs) (h : post K mg W (rV K) σ ads H (.ok (.tup xs) st) Q) {p : Addr} (hp : H p = none) : Q (.ref p) (upd H p (.tup vs)) :=
  h _ _ _ (Fut.newU hp) (R.newU hp) (.tup upd_same (r.mono (.newU hp)))
theorem RSt.list (R : RSt K mg ads H st) {k : Nat} {a : Addr} {xs : List DV} (h : ads[k]? = some a) (e : st[k]? = some (.lst xs)) : ∃ vs, H a = some (.lst vs) ∧ RVs K ads H xs vs := R.ob k a _ h e
theorem Vals.small {X : Cx} {pins : List (Addr × Obj)} {s : Shared} (I : Inv X pins σ H s) {a : Addr} {vs : List V} (h : SqL X.K H a vs) : vs.length ≤ sizeLine := by
  obtain ⟨_, _, _, z⟩ := I.list h
  exact z
theorem Vals.smallT {X : Cx} {pins : List (Addr × Obj)} {s : Shared} (I : Inv X pins σ H s) {a : Addr} {vs : List V} (h : SqT X.K H a vs) : vs.length ≤ sizeLine := by
  obtain ⟨_, _, _, z⟩ := I.tuple h
  exact z
end

/-! ### arithmetic -/
def mulOk (i j : Int) : Prop := (-(2 ^ 64) < i ∧ i < 2 ^ 64) ∨ (-(2 ^ 64) < j ∧ j < 2 ^ 64) ∨ i.natAbs.log2 + j.natAbs.log2 < 1000000
@[irreducible] instance (i j : Int) : Decidable (mulOk i j) := by unfold mulOk; exact inferInstance
def divOk (j : Int) : Prop := 0 < j ∧ j.natAbs.log2 < 9000
@[irreducible] instance (j : Int) : Decidable (divOk j) := by unfold divOk; exact inferInstance
def powOk (i j : Int) : Prop := 0 ≤ j ∧ j ≤ 1000000 ∧ i.natAbs < 2 ^ 64
@[irreducible] instance (i j : Int) : Decidable (powOk i j) := by unfold powOk; exact inferInstance
def addM : DV → DV → M DV
  | .int i, .int j => pur (.int (i + j))
  | .str a, .str b => fun st => if a.length + b.length ≤ sizeLine then .ok (.str (a ++ b)) st else .bad
  | .tup a, .tup b => fun st => if a.length + b.length ≤ sizeLine then .ok (.tup (a ++ b)) st else .bad
  | .ref k, .ref l => fun st => match st[k]?, st[l]? with
    | some (.lst a), some (.lst b) => if a.length + b.length ≤ sizeLine then alloc (.lst (a ++ b)) st else .bad
    | _, _ => .bad
  | .int i, .bl b => pur (.int (i + b2i b))
  | _, _ => stuck
def subM : DV → DV → M DV
  | .int i, .int j => pur (.int (i - j))
  | _, _ => stuck
def mulM : DV → DV → M DV
  | .int i, .int j => fun st => if mulOk i j then .ok (.int (i * j)) st else .bad
  | .ref k, .int n => fun st => match st[k]? with
    | some (.lst a) => if -(2 ^ 63) ≤ n ∧ n < 2 ^ 63 ∧ a.length * n.toNat ≤ sizeLine then alloc (.lst (List.replicate n.toNat a).flatten) st else .bad
    | _ => .bad
  | _, _ => stuck
def fdivM : DV → DV → M DV
  | .int i, .int j => fun st => if divOk j then .ok (.int (i / j)) st else .bad
  | _, _ => stuck
def modM : DV → DV → M DV
  | .int i, .int j => fun st => if 0 < j then .ok (.int (i % j)) st else .bad
  | _, _ => stuck
def powM : DV → DV → M DV
  | .int i, .int j => fun st => if powOk i j then .ok (.int (i ^ j.toNat)) st else .bad
  | _, _ => stuck
def shlM : DV → DV → M DV
  | .int i, .int j => fun st => if powOk i j then .ok (.int (i * 2 ^ j.toNat)) st else .bad
  | _, _ => stuck
def shrM : DV → DV → M DV
  | .int i, .int j => fun st => if 0 ≤ j then .ok (.int (i / 2 ^ j.toNat)) st else .bad
  | _, _ => stuck
def andM : DV → DV → M DV
  | .int i, .int j => pur (.int (Builtin.bitAnd i j))
  | _, _ => stuck
def orM : DV → DV → M DV
  | .int i, .int j => pur (.int (Builtin.bitOr i j))
  | _, _ => stuck
def xorM : DV → DV → M DV
  | .int i, .int j => pur (.int (Builtin.bitXor i j))
  | _, _ => stuck
def negM : DV → M DV
  | .int i => pur (.int (-i))
  | _ => stuck
section
variable {X : Cx}
theorem opm_add : OpM X (binaryOp .Add) addM := by
  intro pins s σ H x y v u Q ads dx dy st W I R hx hy rx ry h
  cases hx with
  | int i =>
    cases hy with
    | int j => exact op_add pins s σ H _ _ v u Q I rx ry ⟨i, j, rfl, rfl, h.ok R (.int _)⟩
    | bl b => exact op_add_ib pins s σ H _ _ v u Q I rx ry ⟨i, b, rfl, rfl, h.ok R (.int _)⟩
    | _ => exact (h : False).elim
  | str a =>
    cases hy with
    | str b =>
      simp only [addM] at h
      split at h
      · exact op_add_str pins s σ H _ _ v u Q I rx ry ⟨a, b, rfl, rfl, by assumption, h.ok R (.str _)⟩
      · exact h.elim
    | _ => exact (h : False).elim
  | @tup a xs vs hs rs =>
    cases hy with
    | @tup b ys ws ht rt =>
      simp only [addM] at h
      split at h
      · rename_i hl
        have e1 := rs.length
        have e2 := rt.length
        refine op_catA pins s σ H _ _ v u Q I rx ry ⟨a, b, vs, ws, rfl, rfl, .of hs, .of ht, by omega, fun e => ?_, fun _ e => ?_, fun _ _ p hp => ?_⟩
        · subst e
          cases rs
          exact h.ok R (.tup ht rt)
        · subst e
          cases rt
          rw [List.append_nil] at h
          exact h.ok R (.tup hs rs)
        · exact h.newT R (rs.append rt) hp
      · exact h.elim
    | _ => exact (h : False).elim
  | @ref k a hk =>
    cases hy with
    | @ref l b hl =>
      simp only [addM] at h
      split at h
      · rename_i xs ys e1 e2
        split at h
        · rename_i hz
          obtain ⟨vs, h1, r1⟩ := R.list hk e1
          obtain ⟨ws, h2, r2⟩ := R.list hl e2
          have n1 := r1.length
          have n2 := r2.length
          exact op_cat pins s σ H _ _ v u Q I rx ry ⟨a, b, vs, ws, rfl, rfl, h1, h2, by omega, fun p hp => h.newL R (r1.append r2) hp⟩
        · exact h.elim
      · exact h.elim
    | _ => exact (h : False).elim
  | _ => cases hy <;> exact (h : False).elim
theorem opm_sub : OpM X (binaryOp .Sub) subM := by
  intro pins s σ H x y v u Q ads dx dy st W I R hx hy rx ry h
  cases hx with
  | int i =>
    cases hy with
    | int j => exact op_sub pins s σ H _ _ v u Q I rx ry ⟨i, j, rfl, rfl, h.ok R (.int _)⟩
    | _ => exact (h : False).elim
  | _ => cases hy <;> exact (h : False).elim
theorem opm_mul : OpM X (binaryOp .Mult) mulM := by
  intro pins s σ H x y v u Q ads dx dy st W I R hx hy rx ry h
  cases hx with
  | int i =>
    cases hy with
    | int j =>
      simp only [mulM] at h
      split at h
      · rename_i hc
        rcases hc with hc | hc | hc
        · exact op_mul pins s σ H _ _ v u Q I rx ry ⟨i, j, rfl, rfl, .inl hc, h.ok R (.int _)⟩
        · exact op_mul pins s σ H _ _ v u Q I rx ry ⟨i, j, rfl, rfl, .inr hc, h.ok R (.int _)⟩
        · exact op_mulW pins s σ H _ _ v u Q I rx ry ⟨i, j, rfl, rfl, hc, h.ok R (.int _)⟩
      · exact h.elim
    | _ => exact (h : False).elim
  | @ref k a hk =>
    cases hy with
    | int n =>
      simp only [mulM] at h
      split at h
      · rename_i xs e1
        split at h
        · rename_i hz
          obtain ⟨vs, h1, r1⟩ := R.list hk e1
          have n1 := r1.length
          refine op_rep pins s σ H _ _ v u Q I rx ry ⟨a, n, vs, rfl, rfl, h1, hz.1, hz.2.1, by rw [← n1]; exact hz.2.2, fun p hp => ?_⟩
          refine h.newL R ?_ hp
          generalize n.toNat = m
          induction m with
          | zero => exact .nil
          | succ m ih =>
            rw [List.replicate_succ, List.replicate_succ, List.flatten_cons, List.flatten_cons]
            exact r1.append ih
        · exact h.elim
      · exact h.elim
    | _ => exact (h : False).elim
  | _ => cases hy <;> exact (h : False).elim
theorem opm_fdiv : OpM X (binaryOp .FloorDiv) fdivM := by
  intro pins s σ H x y v u Q ads dx dy st W I R hx hy rx ry h
  cases hx with
  | int i =>
    cases hy with
    | int j =>
      simp only [fdivM] at h
      split at h
      · rename_i hc
        exact op_fdivW pins s σ H _ _ v u Q I rx ry ⟨i, j, rfl, rfl, hc, h.ok R (.int _)⟩
      · exact h.elim
    | _ => exact (h : False).elim
  | _ => cases hy <;> exact (h : False).elim
theorem opm_mod : OpM X (binaryOp .Mod) modM := by
  intro pins s σ H x y v u Q ads dx dy st W I R hx hy rx ry h
  cases hx with
  | int i =>
    cases hy with
    | int j =>
      simp only [modM] at h
      split at h
      · rename_i hc
        exact op_mod pins s σ H _ _ v u Q I rx ry ⟨i, j, rfl, rfl, hc, h.ok R (.int _)⟩
      · exact h.elim
    | _ => exact (h : False).elim
  | _ => cases hy <;> exact (h : False).elim
theorem opm_pow : OpM X (binaryOp .Pow) powM := by
  intro pins s σ H x y v u Q ads dx dy st W I R hx hy rx ry h
  cases hx with
  | int i =>
    cases hy with
    | int j =>
      simp only [powM] at h
      split at h
      · rename_i hc
        exact op_pow pins s σ H _ _ v u Q I rx ry ⟨i, j, rfl, rfl, hc, h.ok R (.int _)⟩
      · exact h.elim
    | _ => exact (h : False).elim
  | _ => cases hy <;> exact (h : False).elim
theorem opm_shl : OpM X (binaryOp .LShift) shlM := by
  intro pins s σ H x y v u Q ads dx dy st W I R hx hy rx ry h
  cases hx with
  | int i =>
    cases hy with
    | int j =>
      simp only [shlM] at h
      split at h
      · rename_i hc
        exact op_shl pins s σ H _ _ v u Q I rx ry ⟨i, j, rfl, rfl, hc, h.ok R (.int _)⟩
      · exact h.elim
    | _ => exact (h : False).elim
  | _ => cases hy <;> exact (h : False).elim
theorem opm_shr : OpM X (binaryOp .RShift) shrM := by
  intro pins s σ H x y v u Q ads dx dy st W I R hx hy rx ry h
  cases hx with
  | int i =>
    cases hy with
    | int j =>
      simp only [shrM] at h
      split at h
      · rename_i hc
        exact op_shr pins s σ H _ _ v u Q I rx ry ⟨i, j, rfl, rfl, hc, h.ok R (.int _)⟩
      · exact h.elim
    | _ => exact (h : False).elim
  | _ => cases hy <;> exact (h : False).elim
theorem opm_and : OpM X (binaryOp .BitAnd) andM := by
  intro pins s σ H x y v u Q ads dx dy st W I R hx hy rx ry h
  cases hx with
  | int i =>
    cases hy with
    | int j => exact op_and pins s σ H _ _ v u Q I rx ry ⟨i, j, rfl, rfl, h.ok R (.int _)⟩
    | _ => exact (h : False).elim
  | _ => cases hy <;> exact (h : False).elim
theorem opm_or : OpM X (binaryOp .BitOr) orM := by
  intro pins s σ H x y v u Q ads dx dy st W I R hx hy rx ry h
  cases hx with
  | int i =>
    cases hy with
    | int j => exact op_or pins s σ H _ _ v u Q I rx ry ⟨i, j, rfl, rfl, h.ok R (.int _)⟩
    | _ => exact (h : False).elim
  | _ => cases hy <;> exact (h : False).elim
theorem opm_xor : OpM X (binaryOp .BitXor) xorM := by
  intro pins s σ H x y v u Q ads dx dy st W I R hx hy rx ry h
  cases hx with
  | int i =>
    cases hy with
    | int j => exact op_xor pins s σ H _ _ v u Q I rx ry ⟨i, j, rfl, rfl, h.ok R (.int _)⟩
    | _ => exact (h : False).elim
  | _ => cases hy <;> exact (h : False).elim
theorem unm_neg : UnM X (unaryOp .USub) negM := by
  intro pins s σ H x v Q ads dx st W I R hx rx h
  cases hx with
  | int i => exact un_neg pins s σ H _ v Q I rx ⟨i, rfl, h.ok R (.int _)⟩
  | _ => exact (h : False).elim
end

/-! ### comparisons -/
mutual
/-- what a value reads as -/
inductive Rd (st : Sto) : DV → PyData → Prop
  | non : Rd st .non .none
  | bl (b : Bool) : Rd st (.bl b) (.bool b)
  | int (i : Int) : Rd st (.int i) (.int i)
  | str (x : Str) : Rd st (.str x) (.str x)
  | tup {xs : List DV} {ds : List PyData} : RdAll st xs ds → Rd st (.tup xs) (.tuple ds)
  | ktp {xs : List DV} {ds : List PyData} : RdAll st xs ds → Rd st (.ktp xs) (.tuple ds)
  | fzl {xs : List DV} {ds : List PyData} : RdAll st xs ds → Rd st (.fzl xs) (.list ds)
  | ref {k : Nat} {xs : List DV} {ds : List PyData} : st[k]? = some (.lst xs) → RdAll st xs ds → Rd st (.ref k) (.list ds)
inductive RdAll (st : Sto) : List DV → List PyData → Prop
  | nil : RdAll st [] []
  | cons {x : DV} {xs : List DV} {d : PyData} {ds : List PyData} : Rd st x d → RdAll st xs ds → RdAll st (x :: xs) (d :: ds)
end
section
variable {K : PySem.W.Frag} {mg : Str → Option Value} {ads : List Addr} {H : Hp} {st : Sto}
mutual
theorem Rd.dp (R : RSt K mg ads H st) : ∀ {x : DV} {d : PyData} {v : V}, Rd st x d → RV K ads H x v → Dp K H v d
  | _, _, _, .non, .non => .non
  | _, _, _, .bl b, .bl _ => .bl b
  | _, _, _, .int i, .int _ => .int i
  | _, _, _, .str x, .str _ => .str x
  | _, _, _, .tup h, .tup hs r => .tup (.of hs) (RdAll.dp R h r)
  | _, _, _, .ktp h, .ktp hs r => .tup hs (RdAll.dp R h r)
  | _, _, _, .fzl h, .fzl hs r => .lst hs.sq (RdAll.dp R h r)
  | _, _, _, .ref e h, .ref hk => by
    obtain ⟨vs, h1, r1⟩ := R.list hk e
    exact .lst (.inl (.inl h1)) (RdAll.dp R h r1)
theorem RdAll.dp (R : RSt K mg ads H st) : ∀ {x : List DV} {d : List PyData} {v : List V}, RdAll st x d → RVs K ads H x v → DpAll K H v d
  | _, _, _, .nil, .nil => .nil
  | _, _, _, .cons h hr, .cons r rr => .cons (Rd.dp R h r) (RdAll.dp R hr rr)
end
mutual
theorem Rd.inj : ∀ {x : DV} {d e : PyData}, Rd st x d → Rd st x e → d = e
  | _, _, _, .non, .non => rfl
  | _, _, _, .bl b, .bl _ => rfl
  | _, _, _, .int i, .int _ => rfl
  | _, _, _, .str x, .str _ => rfl
  | _, _, _, .tup h, .tup h' => by rw [RdAll.inj h h']
  | _, _, _, .ktp h, .ktp h' => by rw [RdAll.inj h h']
  | _, _, _, .fzl h, .fzl h' => by rw [RdAll.inj h h']
  | _, _, _, .ref e h, .ref e' h' => by
    rw [e] at e'
    cases e'
    rw [RdAll.inj h h']
theorem RdAll.inj : ∀ {x : List DV} {d e : List PyData}, RdAll st x d → RdAll st x e → d = e
  | _, _, _, .nil, .nil => rfl
  | _, _, _, .cons h r, .cons h' r' => by rw [Rd.inj h h', RdAll.inj r r']
end
end
/-- == at any depth -/
noncomputable def deepEq (st : Sto) (x y : DV) : Option Bool := by
  classical
  exact if h : ∃ d e, Rd st x d ∧ Rd st y e ∧ SeqAt.shaped d = true ∧ SeqAt.shaped e = true then some (PyData.eqv h.choose h.choose_spec.choose) else none
theorem deepEq_some {st : Sto} {x y : DV} {b : Bool} (h : deepEq st x y = some b) : ∃ d e, Rd st x d ∧ Rd st y e ∧ SeqAt.shaped d = true ∧ SeqAt.shaped e = true ∧ PyData.eqv d e = b := by
  unfold deepEq at h
  split at h
  · rename_i q
    cases h
    have z := q.choose_spec.choose_spec
    exact ⟨_, _, z.1, z.2.1, z.2.2.1, z.2.2.2, rfl⟩
  · cases h
theorem deepEq_of {st : Sto} {x y : DV} {d e : PyData} (h1 : Rd st x d) (h2 : Rd st y e) (h3 : SeqAt.shaped d = true) (h4 : SeqAt.shaped e = true) : deepEq st x y = some (PyData.eqv d e) := by
  have q : ∃ d e, Rd st x d ∧ Rd st y e ∧ SeqAt.shaped d = true ∧ SeqAt.shaped e = true := ⟨d, e, h1, h2, h3, h4⟩
  have z : ∃ b, deepEq st x y = some b := by
    unfold deepEq
    rw [dif_pos q]
    exact ⟨_, rfl⟩
  obtain ⟨b, hb⟩ := z
  obtain ⟨d', e', g1, g2, _, _, g3⟩ := deepEq_some hb
  rw [hb, ← g3, g1.inj h1, g2.inj h2]
noncomputable def deepIn (st : Sto) (x y : DV) : Option Bool := by
  classical
  exact if h : ∃ d ds, Rd st x d ∧ Rd st y (.list ds) ∧ SeqAt.shaped d = true ∧ SeqAt.shaped (.list ds) = true then some (h.choose_spec.choose.any fun z => PyData.eqv z h.choose) else none
theorem deepIn_some {st : Sto} {x y : DV} {b : Bool} (h : deepIn st x y = some b) : ∃ d ds, Rd st x d ∧ Rd st y (.list ds) ∧ SeqAt.shaped d = true ∧ SeqAt.shaped (.list ds) = true ∧ (ds.any fun z => PyData.eqv z d) = b := by
  unfold deepIn at h
  split at h
  · rename_i q
    cases h
    have z := q.choose_spec.choose_spec
    exact ⟨_, _, z.1, z.2.1, z.2.2.1, z.2.2.2, rfl⟩
  · cases h
theorem deepIn_of {st : Sto} {x y : DV} {d : PyData} {ds : List PyData} (h1 : Rd st x d) (h2 : Rd st y (.list ds)) (h3 : SeqAt.shaped d = true) (h4 : SeqAt.shaped (.list ds) = true) : deepIn st x y = some (ds.any fun z => PyData.eqv z d) := by
  have q : ∃ d ds, Rd st x d ∧ Rd st y (.list ds) ∧ SeqAt.shaped d = true ∧ SeqAt.shaped (.list ds) = true := ⟨d, ds, h1, h2, h3, h4⟩
  have z : ∃ b, deepIn st x y = some b := by
    unfold deepIn
    rw [dif_pos q]
    exact ⟨_, rfl⟩
  obtain ⟨b, hb⟩ := z
  obtain ⟨d', e', g1, g2, _, _, g3⟩ := deepIn_some hb
  have e2 := g2.inj h2
  injection e2 with e2
  rw [hb, ← g3, g1.inj h1, e2]
def flatD : DV → Bool
  | .non => true
  | .bl _ => true
  | .int _ => true
  | .str _ => true
  | _ => false
def eqF : DV → DV → Bool
  | .non, .non => true
  | .bl a, .bl b => a == b
  | .bl a, .int b => (if a then 1 else 0) == b
  | .int a, .bl b => a == (if b then 1 else 0)
  | .int a, .int b => a == b
  | .str a, .str b => a == b
  | _, _ => false
def optM (o : Option Bool) : M DV := fun st => match o with
  | some b => .ok (.bl b) st
  | none => .bad
noncomputable def eqM : DV → DV → M DV
  | .int i, .int j => pur (.bl (decide (i = j)))
  | .str i, .str j => pur (.bl (decide (i = j)))
  | .bl i, .bl j => pur (.bl (decide (i = j)))
  | x, y => fun st => optM (deepEq st x y) st
noncomputable def neM : DV → DV → M DV
  | .int i, .int j => pur (.bl (!decide (i = j)))
  | .str i, .str j => pur (.bl (!decide (i = j)))
  | .bl i, .bl j => pur (.bl (!decide (i = j)))
  | x, y => fun st => optM ((deepEq st x y).map (!·)) st
def ltM : DV → DV → M DV
  | .int i, .int j => pur (.bl (decide (i < j)))
  | .str i, .str j => pur (.bl (decide (i.cps.toList < j.cps.toList)))
  | _, _ => stuck
def gtM : DV → DV → M DV
  | .int i, .int j => pur (.bl (decide (j < i)))
  | .str i, .str j => pur (.bl (decide (j.cps.toList < i.cps.toList)))
  | _, _ => stuck
def leM : DV → DV → M DV
  | .int i, .int j => pur (.bl (decide (i ≤ j)))
  | .str i, .str j => pur (.bl (!decide (j.cps.toList < i.cps.toList)))
  | _, _ => stuck
def geM : DV → DV → M DV
  | .int i, .int j => pur (.bl (decide (j ≤ i)))
  | .str i, .str j => pur (.bl (!decide (i.cps.toList < j.cps.toList)))
  | _, _ => stuck
def isM : DV → DV → M DV
  | .bl a, .bl b => pur (.bl (decide (a = b)))
  | .non, .non => pur (.bl true)
  | _, .non => pur (.bl false)
  | _, _ => stuck
def isnM : DV → DV → M DV
  | .bl a, .bl b => pur (.bl (!decide (a = b)))
  | .non, .non => pur (.bl false)
  | _, .non => pur (.bl true)
  | _, _ => stuck
section
variable {X : Cx}
theorem opm_eq (hu : X.A.units + 64 < cLine) : OpM X (compareOp .Eq) eqM := by
  intro pins s σ H x y v u Q ads dx dy st W I R hx hy rx ry h
  have deep : post X.K X.mg W (rV X.K) σ ads H (optM (deepEq st dx dy) st) Q → wpAny (model X.prog X.w) X.A (compareOp .Eq v u) (EP X pins σ Q) X.xe s := fun h => by
    cases e : deepEq st dx dy with
    | none => rw [e] at h; exact h.elim
    | some b =>
      rw [e] at h
      obtain ⟨d, e', h1, h2, h3, h4, h5⟩ := deepEq_some e
      exact op_eqD hu pins s σ H x y v u Q I rx ry ⟨d, e', h1.dp R hx, h2.dp R hy, h3, h4, by rw [h5]; exact h.ok R (.bl _)⟩
  have hx0 := hx
  have hy0 := hy
  cases hx with
  | int i =>
    cases hy with
    | int j => exact op_eq pins s σ H _ _ v u Q I rx ry ⟨rfl, by rw [dec_int]; have h := h.ok R (.bl _); rwa [← Bool.beq_eq_decide_eq] at h⟩
    | _ => exact deep h
  | str i =>
    cases hy with
    | str j => exact op_eq pins s σ H _ _ v u Q I rx ry ⟨rfl, by rw [dec_str]; have h := h.ok R (.bl _); rwa [← Bool.beq_eq_decide_eq] at h⟩
    | _ => exact deep h
  | bl i =>
    cases hy with
    | bl j => exact op_eq pins s σ H _ _ v u Q I rx ry ⟨rfl, by rw [dec_bl]; have h := h.ok R (.bl _); rwa [← Bool.beq_eq_decide_eq] at h⟩
    | _ => exact deep h
  | _ => cases hy <;> exact deep h
theorem opm_ne (hu : X.A.units + 64 < cLine) : OpM X (compareOp .NotEq) neM := by
  intro pins s σ H x y v u Q ads dx dy st W I R hx hy rx ry h
  have deep : post X.K X.mg W (rV X.K) σ ads H (optM ((deepEq st dx dy).map (!·)) st) Q → wpAny (model X.prog X.w) X.A (compareOp .NotEq v u) (EP X pins σ Q) X.xe s := fun h => by
    cases e : deepEq st dx dy with
    | none => rw [e] at h; exact h.elim
    | some b =>
      rw [e] at h
      obtain ⟨d, e', h1, h2, h3, h4, h5⟩ := deepEq_some e
      exact op_neD hu pins s σ H x y v u Q I rx ry ⟨d, e', h1.dp R hx, h2.dp R hy, h3, h4, by rw [h5]; exact h.ok R (.bl _)⟩
  cases hx with
  | int i =>
    cases hy with
    | int j => exact op_ne pins s σ H _ _ v u Q I rx ry ⟨rfl, by rw [dec_int]; have h := h.ok R (.bl _); rwa [← Bool.beq_eq_decide_eq] at h⟩
    | _ => exact deep h
  | str i =>
    cases hy with
    | str j => exact op_ne pins s σ H _ _ v u Q I rx ry ⟨rfl, by rw [dec_str]; have h := h.ok R (.bl _); rwa [← Bool.beq_eq_decide_eq] at h⟩
    | _ => exact deep h
  | bl i =>
    cases hy with
    | bl j => exact op_ne pins s σ H _ _ v u Q I rx ry ⟨rfl, by rw [dec_bl]; have h := h.ok R (.bl _); rwa [← Bool.beq_eq_decide_eq] at h⟩
    | _ => exact deep h
  | _ => cases hy <;> exact deep h
theorem opm_lt : OpM X (compareOp .Lt) ltM := by
  intro pins s σ H x y v u Q ads dx dy st W I R hx hy rx ry h
  cases hx with
  | int i =>
    cases hy with
    | int j => exact op_lt pins s σ H _ _ v u Q I rx ry ⟨i, j, rfl, rfl, h.ok R (.bl _)⟩
    | _ => exact (h : False).elim
  | str i =>
    cases hy with
    | str j => exact op_lt_str pins s σ H _ _ v u Q I rx ry ⟨i, j, rfl, rfl, h.ok R (.bl _)⟩
    | _ => exact (h : False).elim
  | _ => cases hy <;> exact (h : False).elim
theorem opm_gt : OpM X (compareOp .Gt) gtM := by
  intro pins s σ H x y v u Q ads dx dy st W I R hx hy rx ry h
  cases hx with
  | int i =>
    cases hy with
    | int j => exact op_gt pins s σ H _ _ v u Q I rx ry ⟨i, j, rfl, rfl, h.ok R (.bl _)⟩
    | _ => exact (h : False).elim
  | str i =>
    cases hy with
    | str j => exact op_gt_str pins s σ H _ _ v u Q I rx ry ⟨i, j, rfl, rfl, h.ok R (.bl _)⟩
    | _ => exact (h : False).elim
  | _ => cases hy <;> exact (h : False).elim
theorem opm_le : OpM X (compareOp .LtE) leM := by
  intro pins s σ H x y v u Q ads dx dy st W I R hx hy rx ry h
  cases hx with
  | int i =>
    cases hy with
    | int j => exact op_le pins s σ H _ _ v u Q I rx ry ⟨i, j, rfl, rfl, h.ok R (.bl _)⟩
    | _ => exact (h : False).elim
  | str i =>
    cases hy with
    | str j => exact op_le_str pins s σ H _ _ v u Q I rx ry ⟨i, j, rfl, rfl, h.ok R (.bl _)⟩
    | _ => exact (h : False).elim
  | _ => cases hy <;> exact (h : False).elim
theorem opm_ge : OpM X (compareOp .GtE) geM := by
  intro pins s σ H x y v u Q ads dx dy st W I R hx hy rx ry h
  cases hx with
  | int i =>
    cases hy with
    | int j => exact op_ge pins s σ H _ _ v u Q I rx ry ⟨i, j, rfl, rfl, h.ok R (.bl _)⟩
    | _ => exact (h : False).elim
  | str i =>
    cases hy with
    | str j => exact op_ge_str pins s σ H _ _ v u Q I rx ry ⟨i, j, rfl, rfl, h.ok R (.bl _)⟩
    | _ => exact (h : False).elim
  | _ => cases hy <;> exact (h : False).elim
theorem opm_is : OpM X (compareOp .Is) isM := by
  intro pins s σ H x y v u Q ads dx dy st W I R hx hy rx ry h
  cases hy with
  | bl j =>
    cases hx with
    | bl i => exact op_is_bl pins s σ H _ _ v u Q I rx ry ⟨i, j, rfl, rfl, h.ok R (.bl _)⟩
    | _ => exact (h : False).elim
  | non =>
    refine op_isN pins s σ H _ _ v u Q I rx ry ⟨rfl, ?_⟩
    cases hx <;> exact post.ok h R (.bl _)
  | _ => cases hx <;> exact (h : False).elim
theorem opm_isn : OpM X (compareOp .IsNot) isnM := by
  intro pins s σ H x y v u Q ads dx dy st W I R hx hy rx ry h
  cases hy with
  | bl j =>
    cases hx with
    | bl i => exact op_isnot_bl pins s σ H _ _ v u Q I rx ry ⟨i, j, rfl, rfl, h.ok R (.bl _)⟩
    | _ => exact (h : False).elim
  | non =>
    refine op_notN pins s σ H _ _ v u Q I rx ry ⟨rfl, ?_⟩
    cases hx <;> exact post.ok h R (.bl _)
  | _ => cases hx <;> exact (h : False).elim
end

/-! ### in -/
def strIn (a z : Str) : Bool := !(Builtin.Str.occurrences z a 0 z.length 1).isEmpty
theorem strIn_sign (c : Nat) (z : Str) : strIn ⟨#[c]⟩ z = decide (c ∈ z.cps.toList) := PySem.StrLaws.found_one z c
def inF (x : DV) (xs : List DV) : Bool := xs.any fun y => eqF y x
noncomputable def inB (x y : DV) (st : Sto) : Option Bool := match y with
  | .str z => match x with
    | .str a => some (strIn a z)
    | _ => none
  | .tup ys => if flatD x && ys.all flatD then some (inF x ys) else none
  | .ref k => match st[k]? with
    | some (.lst ys) => if flatD x && ys.all flatD then some (inF x ys) else deepIn st x (.ref k)
    | _ => none
  | .fzl ys => if flatD x && ys.all flatD then some (inF x ys) else none
  | .ktp ys => if flatD x && ys.all flatD then some (inF x ys) else none
  | _ => none
noncomputable def inM (x y : DV) : M DV := fun st => optM (inB x y st) st
noncomputable def ninM (x y : DV) : M DV := fun st => optM ((inB x y st).map (!·)) st
section
variable {K : PySem.W.Frag} {ads : List Addr} {H : Hp}
theorem RV.flat {d : DV} {v : V} (r : RV K ads H d v) : flatD d = true → flatV v = true := by
  cases r <;> intro h <;> first | rfl | cases h
theorem RVs.flat : ∀ {d : List DV} {v : List V}, RVs K ads H d v → d.all flatD = true → v.all flatV = true
  | _, _, .nil, _ => rfl
  | _, _, .cons h r, e => by
    rw [List.all_cons, Bool.and_eq_true] at e ⊢
    exact ⟨h.flat e.1, RVs.flat r e.2⟩
theorem eqF_eqV {x y : DV} {u v : V} (r : RV K ads H x u) (q : RV K ads H y v) (f : flatD x = true) (g : flatD y = true) : eqF x y = eqV u v := by
  cases r <;> cases q <;> first | rfl | cases f | cases g
theorem inF_inV {x : DV} {u : V} (r : RV K ads H x u) (f : flatD x = true) : ∀ {ys : List DV} {vs : List V}, RVs K ads H ys vs → ys.all flatD = true → inF x ys = inV u vs
  | _, _, .nil, _ => rfl
  | _, _, .cons h q, e => by
    rw [List.all_cons, Bool.and_eq_true] at e
    show (eqF _ x || inF x _) = (eqV _ u || inV u _)
    rw [eqF_eqV h r e.1 f, inF_inV r f q e.2]
end
section
variable {X : Cx}
/-- both ways at once -/
theorem in_both (hu : X.A.units + 65 < cLine) {pins : List (Addr × Obj)} {s : Shared} {σ : L2.St} {H : Hp} {x y : V} {v u : Value} {Q : VK} {ads : List Addr} {dx dy : DV} {st : Sto} {b : Bool} (I : Inv X pins σ H s) (R : RSt X.K X.mg ads H st) (hx : RV X.K ads H dx x) (hy : RV X.K ads H dy y) (rx : RelV x v) (ry : RelV y u)
    (e : inB dx dy st = some b) : (Q (.bl b) H → wpAny (model X.prog X.w) X.A (compareOp .In v u) (EP X pins σ Q) X.xe s) ∧ (Q (.bl (!b)) H → wpAny (model X.prog X.w) X.A (compareOp .NotIn v u) (EP X pins σ Q) X.xe s) := by
  cases hy with
  | str z =>
    cases hx with
    | str a =>
      cases e
      exact ⟨fun h => op_in_str pins s σ H _ _ v u Q I rx ry ⟨a, z, rfl, rfl, h⟩, fun h => op_notIn_str pins s σ H _ _ v u Q I rx ry ⟨a, z, rfl, rfl, h⟩⟩
    | _ => cases e
  | @tup a ys vs hs rs =>
    simp only [inB] at e
    split at e
    · rename_i f
      rw [Bool.and_eq_true] at f
      cases e
      rw [inF_inV hx f.1 rs f.2]
      exact ⟨fun h => op_in_seq pins s σ H _ _ v u Q I rx ry ⟨a, vs, rfl, .inr (.of hs), hx.flat f.1, rs.flat f.2, h⟩, fun h => op_notIn_seq pins s σ H _ _ v u Q I rx ry ⟨a, vs, rfl, .inr (.of hs), hx.flat f.1, rs.flat f.2, h⟩⟩
    · cases e
  | @ktp a ys vs hs rs =>
    simp only [inB] at e
    split at e
    · rename_i f
      rw [Bool.and_eq_true] at f
      cases e
      rw [inF_inV hx f.1 rs f.2]
      exact ⟨fun h => op_in_seq pins s σ H _ _ v u Q I rx ry ⟨a, vs, rfl, .inr hs, hx.flat f.1, rs.flat f.2, h⟩, fun h => op_notIn_seq pins s σ H _ _ v u Q I rx ry ⟨a, vs, rfl, .inr hs, hx.flat f.1, rs.flat f.2, h⟩⟩
    · cases e
  | @fzl a ys vs hs rs =>
    simp only [inB] at e
    split at e
    · rename_i f
      rw [Bool.and_eq_true] at f
      cases e
      rw [inF_inV hx f.1 rs f.2]
      exact ⟨fun h => op_in_seq pins s σ H _ _ v u Q I rx ry ⟨a, vs, rfl, .inl hs.sq, hx.flat f.1, rs.flat f.2, h⟩, fun h => op_notIn_seq pins s σ H _ _ v u Q I rx ry ⟨a, vs, rfl, .inl hs.sq, hx.flat f.1, rs.flat f.2, h⟩⟩
    · cases e
  | @ref k a hk =>
    simp only [inB] at e
    split at e
    · rename_i ys e1
      obtain ⟨vs, hv, rs⟩ := R.list hk e1
      split at e
      · rename_i f
        rw [Bool.and_eq_true] at f
        cases e
        rw [inF_inV hx f.1 rs f.2]
        exact ⟨fun h => op_in_seq pins s σ H _ _ v u Q I rx ry ⟨a, vs, rfl, .inl (.of hv), hx.flat f.1, rs.flat f.2, h⟩, fun h => op_notIn_seq pins s σ H _ _ v u Q I rx ry ⟨a, vs, rfl, .inl (.of hv), hx.flat f.1, rs.flat f.2, h⟩⟩
      · obtain ⟨d, ds, h1, h2, h3, h4, h5⟩ := deepIn_some e
        rw [← h5]
        exact ⟨fun h => op_inD hu pins s σ H _ _ v u Q I rx ry ⟨d, ds, h1.dp R hx, h2.dp R (.ref hk), h3, h4, h⟩, fun h => op_notInD hu pins s σ H _ _ v u Q I rx ry ⟨d, ds, h1.dp R hx, h2.dp R (.ref hk), h3, h4, h⟩⟩
    · cases e
  | _ => cases e
theorem opm_in (hu : X.A.units + 65 < cLine) : OpM X (compareOp .In) inM := by
  intro pins s σ H x y v u Q ads dx dy st W I R hx hy rx ry h
  unfold inM at h
  cases e : inB dx dy st with
  | none => rw [e] at h; exact h.elim
  | some b =>
    rw [e] at h
    exact (in_both hu I R hx hy rx ry e).1 (h.ok R (.bl _))
theorem opm_nin (hu : X.A.units + 65 < cLine) : OpM X (compareOp .NotIn) ninM := by
  intro pins s σ H x y v u Q ads dx dy st W I R hx hy rx ry h
  unfold ninM at h
  cases e : inB dx dy st with
  | none => rw [e] at h; exact h.elim
  | some b =>
    rw [e] at h
    exact (in_both hu I R hx hy rx ry e).2 (h.ok R (.bl _))
end
end ML

/-! ML3: expressions, tests, calls. -/
namespace ML
open PySem PySem.Spec PyProof.Rows L2
def RE (X : Cx) (W : WX) (e : Expr) (m : Ex) : Prop := PE X e (tM X.K X.mg W (rV X.K) m)
def RT (X : Cx) (W : WX) (e : Expr) (m : Sl → M Bool) : Prop := PT X e (tM X.K X.mg W rB m)
def RW (X : Cx) (W : WX) (e : Expr) (m : Sl → M Bool) : Prop := PW X e (tM X.K X.mg W rB m)
def eArgs : List Ex → Sl → M (List DV)
  | [], _ => pur []
  | m :: ms, ss => bnd (m ss) fun x => bnd (eArgs ms ss) fun xs => pur (x :: xs)
def RA (X : Cx) (W : WX) (es : List Expr) (ms : List Ex) : Prop := PA X es (tM X.K X.mg W (rVs X.K) (eArgs ms))
theorem bnd_ok {A B : Type} {m : M A} {f : A → M B} {st : Sto} {b : B} {st' : Sto} (h : bnd m f st = .ok b st') : ∃ a st1, m st = .ok a st1 ∧ f a st1 = .ok b st' := by
  unfold bnd at h
  cases e : m st with
  | ok a st1 => rw [e] at h; exact ⟨a, st1, rfl, h⟩
  | exc x s => rw [e] at h; cases h
  | bad => rw [e] at h; cases h
theorem eArgs_length : ∀ {ms : List Ex} {ss : Sl} {st st' : Sto} {xs : List DV}, eArgs ms ss st = .ok xs st' → xs.length = ms.length
  | [], _, _, _, _, h => by cases h; rfl
  | m :: ms, ss, st, st', xs, h => by
    obtain ⟨a, st1, h1, h2⟩ := bnd_ok h
    obtain ⟨ys, st2, h3, h4⟩ := bnd_ok h2
    cases h4
    rw [List.length_cons, List.length_cons, eArgs_length h3]
def eVar (i : Nat) : Ex := fun ss st => match ss[i]? with
  | some (some d) => .ok d st
  | _ => .bad
def eC (d : DV) : Ex := fun _ => pur d
def eUn (g : DV → M DV) (a : Ex) : Ex := fun ss => bnd (a ss) g
def eOp (g : DV → DV → M DV) (a b : Ex) : Ex := fun ss => bnd (a ss) fun x => bnd (b ss) fun y => g x y
def asB : DV → M Bool
  | .bl b => pur b
  | _ => stuck
def truM (d : DV) : M Bool := fun st => match d with
  | .non => .ok false st
  | .bl b => .ok b st
  | .int i => .ok (i != 0) st
  | .str x => if x.length ≤ sizeLine then .ok ((x.length : Int) != 0) st else .bad
  | .tup xs => .ok (!xs.isEmpty) st
  | .fzl xs => .ok (!xs.isEmpty) st
  | .ktp xs => .ok (!xs.isEmpty) st
  | .ref k => match st[k]? with
    | some (.lst xs) => .ok (!xs.isEmpty) st
    | _ => .bad
  | .ty _ => .bad
  | .exn _ _ _ _ => .bad
def tVal (m : Ex) : Sl → M Bool := fun ss => bnd (m ss) asB
def tTru (m : Ex) : Sl → M Bool := fun ss => bnd (m ss) truM
def tAnd (a b : Sl → M Bool) : Sl → M Bool := fun ss => bnd (a ss) fun c => if c = true then b ss else pur false
def tOr (a b : Sl → M Bool) : Sl → M Bool := fun ss => bnd (a ss) fun c => if c = true then pur true else b ss
def tNot (a : Sl → M Bool) : Sl → M Bool := fun ss => bnd (a ss) fun c => pur (!c)
def eAnd (a b : Ex) : Ex := fun ss => bnd (a ss) fun x => bnd (asB x) fun c => if c = true then b ss else pur (.bl false)
def eOr (a b : Ex) : Ex := fun ss => bnd (a ss) fun x => bnd (asB x) fun c => if c = true then pur (.bl true) else b ss
def eNot (a : Ex) : Ex := fun ss => bnd (a ss) fun x => bnd (asB x) fun c => pur (.bl (!c))
def eIf (t : Sl → M Bool) (a b : Ex) : Ex := fun ss => bnd (t ss) fun c => if c = true then a ss else b ss
def eTup (ms : List Ex) : Ex := fun ss => bnd (eArgs ms ss) fun xs => pur (.tup xs)
def eLst (ms : List Ex) : Ex := fun ss => bnd (eArgs ms ss) fun xs => alloc (.lst xs)
def eCall (f : List DV → M DV) (ms : List Ex) : Ex := fun ss => bnd (eArgs ms ss) f

section
variable {X : Cx} {W : WX} {a b : Expr} {ma mb : Ex} {pos : Pos}
theorem tM.imp {A B : Type} {K : PySem.W.Frag} {mg : Str → Option Value} {R : List Addr → Hp → A → B → Prop} {m : Sl → M A} {σ : L2.St} {H : Hp} {Q Q' : B → Hp → Prop} (h : tM K mg W R m σ H Q) (hq : ∀ b H', Q b H' → Q' b H') : tM K mg W R m σ H Q' := by
  obtain ⟨ads, ss, st, R, L, p⟩ := h
  exact ⟨ads, ss, st, R, L, p.mono hq⟩
/-- a step, then the rest, the names the same -/
theorem tM.bind {A B A' B' : Type} {K : PySem.W.Frag} {mg : Str → Option Value} {R : List Addr → Hp → A → B → Prop} {R' : List Addr → Hp → A' → B' → Prop} {m : Sl → M A} {f : Sl → A → M A'} {σ : L2.St} {H : Hp} {Q : B' → Hp → Prop}
    (h : tM K mg W R' (fun ss => bnd (m ss) (f ss)) σ H Q) : tM K mg W R m σ H fun b H' => ∃ ads ss a st, RSt K mg ads H' st ∧ RSl K ads H' ss σ ∧ R ads H' a b ∧ post K mg W R' σ ads H' (f ss a st) Q := by
  obtain ⟨ads, ss, st, R, L, p⟩ := h
  exact ⟨ads, ss, st, R, L, (post.bind p).mono fun b H' ⟨ads', a, st', fu, r1, r2, r3⟩ => ⟨ads', ss, a, st', r1, L.mono fu, r2, r3⟩⟩
theorem re_var {i : Nat} {x : Str} (hN : X.N[i]? = some x) (hv : Vis X.env.scope x) (hd : (x == ("__debug__" : Str)) = false := by decide) (hcd : (x == ("__classdict__" : Str)) = false := by decide) : RE X W (.Name x pos) (eVar i) := by
  refine ⟨fun pins s σ H Q I h => (pe_var hN hv hd hcd).run pins s σ H Q I ?_⟩
  obtain ⟨ads, ss, st, R, L, p⟩ := h
  unfold eVar at p
  split at p
  · rename_i d e
    obtain ⟨v, h1, h2⟩ := L.2 i d e
    exact ⟨v, h1, p.ok R h2⟩
  · exact p.elim
theorem re_of {e : Expr} {d : DV} {v : V} (h : PE X e (tC v)) (r : ∀ ads H, RV X.K ads H d v) : RE X W e (eC d) := by
  refine ⟨fun pins s σ H Q I h' => h.run pins s σ H Q I ?_⟩
  obtain ⟨ads, ss, st, R, L, p⟩ := h'
  exact p.ok R (r _ _)
theorem re_int {i : Int} {j : Nat} : RE X W (.Constant (.int i) j pos) (eC (.int i)) := re_of pe_int fun _ _ => .int i
theorem re_bl {b : Bool} {j : Nat} : RE X W (.Constant (.bool b) j pos) (eC (.bl b)) := re_of pe_bl fun _ _ => .bl b
theorem re_non {j : Nat} : RE X W (.Constant .none j pos) (eC .non) := re_of pe_non fun _ _ => .non
theorem re_ty {x : Str} {n : String} (hg : Gl X x) (hm : X.mg x = none) (hv : bootBuiltins x = some (.type n)) (hn : x ≠ "__name__" := by decide) (hd : (x == ("__debug__" : Str)) = false := by decide) : RE X W (.Name x pos) (eC (.ty n)) := re_of (v := .ty n) (pe_bltn hg hm hv rfl hn hd) fun _ _ => .ty n
theorem re_str {x : Str} {j : Nat} : RE X W (.Constant (.str x) j pos) (eC (.str x)) := re_of pe_str fun _ _ => .str x
/-- a module's constant -/
structure GC (K : PySem.W.Frag) (mg : Str → Option Value) (x : Str) (d : DV) : Prop where
  ex : ∃ v u, mg x = some u ∧ RelV v u ∧ ∀ ads H, RV K ads H d v
theorem re_glob {x : Str} {d : DV} (hg : Gl X x) (G : GC X.K X.mg x d) (hd : (x == ("__debug__" : Str)) = false := by decide) : RE X W (.Name x pos) (eC d) := by
  obtain ⟨v, u, h1, h2, h3⟩ := G.ex
  exact re_of (pe_glob hg h1 h2 hd) h3
/-- two operands -/
theorem two_op {g : DV → DV → M DV} {f : Value → Value → Sem Value} (ho : OpM X f g) (ha : RE X W a ma) (hb : RE X W b mb) {pins : List (Addr × Obj)} {s : Shared} {σ : L2.St} {H : Hp} {Q : VK} (I : Inv X pins σ H s) (h : tM X.K X.mg W (rV X.K) (eOp g ma mb) σ H Q) :
    ∃ R : V → V → Hp → Prop, (tM X.K X.mg W (rV X.K) ma σ H fun x H1 => tM X.K X.mg W (rV X.K) mb σ H1 fun y H2 => R x y H2) ∧
      ∀ v u s2 x y H2, Inv X pins σ H2 s2 → RelV x v → RelV y u → R x y H2 → wpAny (model X.prog X.w) X.A (f v u) (EP X pins σ Q) X.xe s2 := by
  refine ⟨fun x y H2 => ∃ ads dx dy st, RSt X.K X.mg ads H2 st ∧ RV X.K ads H2 dx x ∧ RV X.K ads H2 dy y ∧ post X.K X.mg W (rV X.K) σ ads H2 (g dx dy st) Q, ?_, ?_⟩
  · obtain ⟨ads, ss, st, R, L, p⟩ := h
    refine ⟨ads, ss, st, R, L, (post.bind p).mono fun x H1 ⟨ads1, dx, st1, fu1, R1, r1, p1⟩ => ?_⟩
    refine ⟨ads1, ss, st1, R1, L.mono fu1, (post.bind p1).mono fun y H2 ⟨ads2, dy, st2, fu2, R2, r2, p2⟩ => ?_⟩
    exact ⟨ads2, dx, dy, st2, R2, r1.mono fu2, r2, p2⟩
  · rintro v u s2 x y H2 I2 rx ry ⟨ads, dx, dy, st, R, h1, h2, p⟩
    exact ho pins s2 σ H2 x y v u Q ads dx dy st W I2 R h1 h2 rx ry p
theorem re_op {op : Operator} {g : DV → DV → M DV} (ho : OpM X (binaryOp op) g) (ha : RE X W a ma) (hb : RE X W b mb) : RE X W (.BinOp a op b pos) (eOp g ma mb) := by
  refine ⟨fun pins s σ H Q I h => ?_⟩
  obtain ⟨R, h1, h2⟩ := two_op ho ha hb I h
  exact wpAny_BinOp (bin ha hb I h1 h2)
theorem re_un {op : UnaryOp} {g : DV → M DV} (ho : UnM X (unaryOp op) g) (ha : RE X W a ma) : RE X W (.UnaryOp op a pos) (eUn g ma) := by
  refine ⟨fun pins s σ H Q I h => ?_⟩
  have h := tM.bind (R := rV X.K) (f := fun _ => g) h
  exact (pe_un (r := fun x H1 Q => ∃ (ads : List Addr) (ss : Sl) (d : DV) (st : Sto), RSt X.K X.mg ads H1 st ∧ RSl X.K ads H1 ss σ ∧ RV X.K ads H1 d x ∧ post X.K X.mg W (rV X.K) σ ads H1 (g d st) Q) (fun pins s σ' H x v Q I rx ⟨ads, ss, d, st, R, L, r, p⟩ => by
    have p' : post X.K X.mg (fun cls d _ H => W cls d σ H) (rV X.K) σ' ads H (g d st) Q := by
      revert p
      cases g d st <;> exact fun p => p
    exact ho pins s σ' H x v Q ads d st _ I R r rx p') ha).run pins s σ H Q I h
theorem re_cmp {op : CmpOp} {g : DV → DV → M DV} (ho : OpM X (compareOp op) g) (ha : RE X W a ma) (hb : RE X W b mb) (hm : behindInMarks op b = false := by rfl) : RE X W (.Compare a [op] [b] pos) (eOp g ma mb) := by
  refine ⟨fun pins s σ H Q I h => ?_⟩
  obtain ⟨R, h1, h2⟩ := two_op ho ha hb I h
  exact wpAny_Compare1 (bin ha hb I h1 h2) hm
theorem rt_cmp {op : CmpOp} {g : DV → DV → M DV} (ho : OpM X (compareOp op) g) (ha : RE X W a ma) (hb : RE X W b mb) (hm : behindInMarks op b = false := by rfl) : RT X W (.Compare a [op] [b] pos) (tVal (eOp g ma mb)) := by
  refine ⟨fun pins s σ H Q I h => ?_⟩
  have h' : tM X.K X.mg W (rV X.K) (eOp g ma mb) σ H fun x H' => ∃ k, x = V.bl k ∧ Q k H' := (tM.bind (f := fun _ => asB) h).imp fun x H' ⟨ads, ss, d, st, R, L, r, p⟩ => by
    cases r with
    | bl k => exact ⟨k, rfl, p.ok R rfl⟩
    | _ => exact (p : False).elim
  obtain ⟨R, h1, h2⟩ := two_op ho ha hb I h'
  refine wpAny_isTrue_Compare1 (bin ha hb I h1 fun v u s2 x y H2 I2 rx ry q => thn (h2 v u s2 x y H2 I2 rx ry q) fun c s3 ⟨z, H3, I3, r3, k, e, q3⟩ => ?_) hm
  subst e
  cases r3
  exact wpAny_truthy_bool ⟨H3, I3, q3⟩
theorem rt_tru {e : Expr} {m : Ex} (h : RE X W e m) (he : ∀ whole, isTrue e X.env whole = (do let v ← whole; standAt e.pos; holding [v] (truthy v)) := by intro _; rfl) : RT X W e (tTru m) := by
  refine ⟨fun pins s σ H Q I hw => (pt_truth h he).run pins s σ H Q I ?_⟩
  refine (tM.bind (f := fun _ => truM) hw).imp fun x H' ⟨ads, ss, d, st, R, L, r, p⟩ => ?_
  cases r with
  | non => exact ⟨false, rfl, p.ok R rfl⟩
  | bl b => exact ⟨b, rfl, p.ok R rfl⟩
  | int i => exact ⟨_, rfl, p.ok R rfl⟩
  | str y =>
    simp only [truM] at p
    split at p
    · exact ⟨_, ⟨by assumption, rfl⟩, p.ok R rfl⟩
    · exact p.elim
  | @tup a xs vs hs rs =>
    refine ⟨!vs.isEmpty, .inr (.inl ⟨vs, .of hs, rfl⟩), ?_⟩
    have e : xs.isEmpty = vs.isEmpty := by cases rs <;> rfl
    rw [← e]
    exact p.ok R rfl
  | @ktp a xs vs hs rs =>
    refine ⟨!vs.isEmpty, .inr (.inl ⟨vs, hs, rfl⟩), ?_⟩
    have e : xs.isEmpty = vs.isEmpty := by cases rs <;> rfl
    rw [← e]
    exact p.ok R rfl
  | @fzl a xs vs hs rs =>
    refine ⟨!vs.isEmpty, .inl ⟨vs, hs.sq, rfl⟩, ?_⟩
    have e : xs.isEmpty = vs.isEmpty := by cases rs <;> rfl
    rw [← e]
    exact p.ok R rfl
  | @ref k a hk =>
    simp only [truM] at p
    split at p
    · rename_i xs e1
      obtain ⟨vs, hv, rs⟩ := R.list hk e1
      refine ⟨!vs.isEmpty, .inl ⟨vs, .of hv, rfl⟩, ?_⟩
      have e : xs.isEmpty = vs.isEmpty := by cases rs <;> rfl
      rw [← e]
      exact p.ok R rfl
    · exact p.elim
  | ty n => exact p.elim
  | exn0 a => exact p.elim
  | exn1 => exact p.elim
/-! and, or, not: tests -/
variable {ta tb : Sl → M Bool} {rest : List Expr}
theorem rw_and1 (ha : RT X W a ta) : RW X W (.BoolOp .And [a] pos) ta := pw_and1 ha
theorem rw_or1 (ha : RT X W a ta) : RW X W (.BoolOp .Or [a] pos) ta := pw_or1 ha
theorem rw_and (ha : RT X W a ta) (hb : RW X W (.BoolOp .And (b :: rest) pos) tb) : RW X W (.BoolOp .And (a :: b :: rest) pos) (tAnd ta tb) := by
  refine ⟨fun wh pins s σ H Q I h => (pw_and ha hb).run wh pins s σ H Q I ?_⟩
  refine (tM.bind (f := fun ss c => if c = true then tb ss else pur false) h).imp fun c H' ⟨ads, ss, d, st, R, L, r, p⟩ => ?_
  cases r
  cases c with
  | true => exact ⟨ads, ss, st, R, L, p⟩
  | false => exact p.ok R rfl
theorem rw_or (ha : RT X W a ta) (hb : RW X W (.BoolOp .Or (b :: rest) pos) tb) : RW X W (.BoolOp .Or (a :: b :: rest) pos) (tOr ta tb) := by
  refine ⟨fun wh pins s σ H Q I h => (pw_or ha hb).run wh pins s σ H Q I ?_⟩
  refine (tM.bind (f := fun ss c => if c = true then pur true else tb ss) h).imp fun c H' ⟨ads, ss, d, st, R, L, r, p⟩ => ?_
  cases r
  cases c with
  | true => exact p.ok R rfl
  | false => exact ⟨ads, ss, st, R, L, p⟩
theorem rt_bop {e : Expr} {t : Sl → M Bool} (h : RW X W e t) : RT X W e t := PW.pt h
theorem rt_not (ha : RT X W a ta) : RT X W (.UnaryOp .Not a pos) (tNot ta) := by
  refine ⟨fun pins s σ H Q I h => (pt_not ha).run pins s σ H Q I ?_⟩
  refine (tM.bind (f := fun _ c => pur (!c)) h).imp fun c H' ⟨ads, ss, d, st, R, L, r, p⟩ => ?_
  cases r
  exact p.ok R rfl
/-! .. as values -/
theorem re_one {op : BoolOp} (ha : RE X W a ma) : RE X W (.BoolOp op [a] pos) ma := pe_one ha
theorem re_and (ha : RE X W a ma) (hb : RE X W (.BoolOp .And (b :: rest) pos) mb) : RE X W (.BoolOp .And (a :: b :: rest) pos) (eAnd ma mb) := by
  refine ⟨fun pins s σ H Q I h => (pe_and ha hb).run pins s σ H Q I ?_⟩
  refine (tM.bind (f := fun ss x => bnd (asB x) fun c => if c = true then mb ss else pur (DV.bl false)) h).imp fun x H' ⟨ads, ss, d, st, R, L, r, p⟩ => ?_
  cases r with
  | bl c =>
    refine ⟨c, rfl, ?_⟩
    cases c with
    | true => exact ⟨ads, ss, st, R, L, p⟩
    | false => exact post.ok p R (.bl _)
  | _ => exact (p : False).elim
theorem re_or (ha : RE X W a ma) (hb : RE X W (.BoolOp .Or (b :: rest) pos) mb) : RE X W (.BoolOp .Or (a :: b :: rest) pos) (eOr ma mb) := by
  refine ⟨fun pins s σ H Q I h => (pe_or ha hb).run pins s σ H Q I ?_⟩
  refine (tM.bind (f := fun ss x => bnd (asB x) fun c => if c = true then pur (DV.bl true) else mb ss) h).imp fun x H' ⟨ads, ss, d, st, R, L, r, p⟩ => ?_
  cases r with
  | bl c =>
    refine ⟨c, rfl, ?_⟩
    cases c with
    | true => exact post.ok p R (.bl _)
    | false => exact ⟨ads, ss, st, R, L, p⟩
  | _ => exact (p : False).elim
theorem re_not (ha : RE X W a ma) : RE X W (.UnaryOp .Not a pos) (eNot ma) := by
  refine ⟨fun pins s σ H Q I h => (pe_not ha).run pins s σ H Q I ?_⟩
  refine (tM.bind (f := fun ss x => bnd (asB x) fun c => pur (DV.bl (!c))) h).imp fun x H' ⟨ads, ss, d, st, R, L, r, p⟩ => ?_
  cases r with
  | bl c => exact ⟨c, rfl, post.ok p R (.bl _)⟩
  | _ => exact (p : False).elim
theorem re_if {c : Expr} {tc : Sl → M Bool} (hc : RT X W c tc) (ha : RE X W a ma) (hb : RE X W b mb) : RE X W (.IfExp c a b pos) (eIf tc ma mb) := by
  refine ⟨fun pins s σ H Q I h => (pe_ifExp hc ha hb).run pins s σ H Q I ?_⟩
  refine (tM.bind (f := fun ss c => if c = true then ma ss else mb ss) h).imp fun c H' ⟨ads, ss, d, st, R, L, r, p⟩ => ?_
  cases r
  cases c with
  | true => exact ⟨ads, ss, st, R, L, p⟩
  | false => exact ⟨ads, ss, st, R, L, p⟩
/-- chains of two comparisons -/
def eChain (g g' : DV → DV → M DV) (a b c : Ex) : Ex := fun ss => bnd (a ss) fun x => bnd (b ss) fun y => bnd (g x y) fun z => bnd (asB z) fun k => if k = true then bnd (c ss) fun w => g' y w else pur (.bl false)
theorem chain_rd {g g' : DV → DV → M DV} {op op' : CmpOp} {mc : Ex} {σ : L2.St} {H : Hp} {Q : VK} (h : tM X.K X.mg W (rV X.K) (eChain g g' ma mb mc) σ H Q) :
    tM X.K X.mg W (rV X.K) ma σ H fun x H1 => tM X.K X.mg W (rV X.K) mb σ H1 fun y H2 => ∃ ads dx dy st, RSt X.K X.mg ads H2 st ∧ RV X.K ads H2 dx x ∧ RV X.K ads H2 dy y ∧
      post X.K X.mg W (rV X.K) σ ads H2 (g dx dy st) fun z H3 => ∃ k, z = V.bl k ∧ if k = true then tM X.K X.mg W (rV X.K) mc σ H3 fun w H4 => ∃ ads dy dw st, RSt X.K X.mg ads H4 st ∧ RV X.K ads H4 dy y ∧ RV X.K ads H4 dw w ∧ post X.K X.mg W (rV X.K) σ ads H4 (g' dy dw st) Q else Q (.bl false) H3 := by
  obtain ⟨ads, ss, st, R, L, p⟩ := h
  refine ⟨ads, ss, st, R, L, (post.bind p).mono fun x H1 ⟨ads1, dx, st1, fu1, R1, r1, p1⟩ => ?_⟩
  refine ⟨ads1, ss, st1, R1, L.mono fu1, (post.bind p1).mono fun y H2 ⟨ads2, dy, st2, fu2, R2, r2, p2⟩ => ?_⟩
  refine ⟨ads2, dx, dy, st2, R2, r1.mono fu2, r2, (post.bind p2).mono fun z H3 ⟨ads3, dz, st3, fu3, R3, r3, p3⟩ => ?_⟩
  cases r3 with
  | bl k =>
    refine ⟨k, rfl, ?_⟩
    cases k with
    | false => exact post.ok p3 R3 (.bl _)
    | true =>
      refine ⟨ads3, ss, st3, R3, (L.mono (fu1.trans fu2)).mono fu3, ?_⟩
      have p3' : post X.K X.mg W (rV X.K) σ ads3 H3 (bnd (mc ss) (fun w => g' dy w) st3) Q := p3
      exact (post.bind p3').mono fun w H4 ⟨ads4, dw, st4, fu4, R4, r4, p4⟩ => ⟨ads4, dy, dw, st4, R4, (r2.mono fu3).mono fu4, r4, p4⟩
  | _ => exact (p3 : False).elim
theorem re_chain {op op' : CmpOp} {g g' : DV → DV → M DV} {c : Expr} {mc : Ex} (ho : OpM X (compareOp op) g) (ho' : OpM X (compareOp op') g') (ha : RE X W a ma) (hb : RE X W b mb) (hc : RE X W c mc) (hm : lastMarks [op, op'] [b, c] = false := by with_unfolding_all rfl) :
    RE X W (.Compare a [op, op'] [b, c] pos) (eChain g g' ma mb mc) := by
  refine ⟨fun pins s σ H Q I h => ?_⟩
  have h := chain_rd (op := op) (op' := op') h
  refine Compare_chain (thn (ha.run pins s σ H _ I h) fun v s1 ⟨x, H1, I1, r1, q1⟩ => chain_link (thn (hb.run pins s1 σ H1 _ I1 q1) fun u s2 ⟨y, H2, I2, r2, ads, dx, dy, st, R, rx, ry, p⟩ =>
    thn (ho pins s2 σ H2 x y v u _ ads dx dy st W I2 R rx ry r1 r2 p) fun d s3 ⟨z, H3, I3, r3, k, e, q3⟩ => ?_)) hm
  subst e
  cases r3
  refine wpAny_truthy_bool ?_
  cases k with
  | false => exact ite_ff ⟨.bl false, H3, I3, rfl, q3⟩
  | true => exact ite_tt (chain_last (thn (hc.run pins s3 σ H3 _ I3 q3) fun w' s4 ⟨z', H4, I4, r4, ads, dy, dw, st, R, ry, rw, p⟩ => ho' pins s4 σ H4 y z' u w' Q ads dy dw st W I4 R ry rw r2 r4 p))
theorem rt_chain {op op' : CmpOp} {g g' : DV → DV → M DV} {c : Expr} {mc : Ex} (ho : OpM X (compareOp op) g) (ho' : OpM X (compareOp op') g') (ha : RE X W a ma) (hb : RE X W b mb) (hc : RE X W c mc) (hm : lastMarks [op, op'] [b, c] = false := by with_unfolding_all rfl) :
    RT X W (.Compare a [op, op'] [b, c] pos) (tVal (eChain g g' ma mb mc)) := by
  refine ⟨fun pins s σ H Q I h => ?_⟩
  have h' : tM X.K X.mg W (rV X.K) (eChain g g' ma mb mc) σ H fun x H' => ∃ k, x = V.bl k ∧ Q k H' := (tM.bind (f := fun _ => asB) h).imp fun x H' ⟨ads, ss, d, st, R, L, r, p⟩ => by
    cases r with
    | bl k => exact ⟨k, rfl, p.ok R rfl⟩
    | _ => exact (p : False).elim
  have h := chain_rd (op := op) (op' := op') h'
  refine isTrue_chain (thn (ha.run pins s σ H _ I h) fun v s1 ⟨x, H1, I1, r1, q1⟩ => test_link (thn (hb.run pins s1 σ H1 _ I1 q1) fun u s2 ⟨y, H2, I2, r2, ads, dx, dy, st, R, rx, ry, p⟩ =>
    thn (ho pins s2 σ H2 x y v u _ ads dx dy st W I2 R rx ry r1 r2 p) fun d s3 ⟨z, H3, I3, r3, k, e, q3⟩ => ?_)) hm
  subst e
  cases r3
  refine wpAny_truthy_bool ?_
  cases k with
  | false =>
    obtain ⟨k', e', q'⟩ := q3
    cases e'
    exact ite_ff ⟨H3, I3, q'⟩
  | true =>
    refine ite_tt (test_last (thn (hc.run pins s3 σ H3 _ I3 q3) fun w' s4 ⟨z', H4, I4, r4, ads, dy, dw, st, R, ry, rw, p⟩ => thn (ho' pins s4 σ H4 y z' u w' _ ads dy dw st W I4 R ry rw r2 r4 p) fun c5 s5 ⟨z5, H5, I5, r5, k5, e5, q5⟩ => ?_))
    subst e5
    cases r5
    exact wpAny_truthy_bool ⟨H5, I5, q5⟩
end

/-! ### arguments, displays -/
section
variable {X : Cx} {W : WX} {e : Expr} {es : List Expr} {m : Ex} {ms : List Ex} {pos : Pos}
theorem ra_nil : RA X W [] [] := by
  refine ⟨fun pos pins s σ H Q I h => pa_nil.run pos pins s σ H Q I ?_⟩
  obtain ⟨ads, ss, st, R, L, p⟩ := h
  exact post.ok p R .nil
theorem ra_cons (ha : RE X W e m) (hr : RA X W es ms) (hs : starEach (e :: es) X.env = (false, eval e X.env) :: starEach es X.env := by rfl) : RA X W (e :: es) (m :: ms) := by
  refine ⟨fun pos pins s σ H Q I h => (pa_cons ha hr hs).run pos pins s σ H Q I ?_⟩
  obtain ⟨ads, ss, st, R, L, p⟩ := h
  refine ⟨ads, ss, st, R, L, (post.bind p).mono fun x H1 ⟨ads1, dx, st1, fu1, R1, r1, p1⟩ => ?_⟩
  refine ⟨ads1, ss, st1, R1, L.mono fu1, (post.bind p1).mono fun xs H2 ⟨ads2, dxs, st2, fu2, R2, r2, p2⟩ => ?_⟩
  exact post.ok p2 R2 (.cons (r1.mono fu2) r2)
theorem small_es (h : es.length ≤ 1000) : es.length ≤ sizeLine := by rw [sizeLine_eq]; omega
theorem args_len {ss : Sl} {st : Sto} {K : PySem.W.Frag} {mg : Str → Option Value} {σ : L2.St} {ads : List Addr} {H : Hp} {f : List DV → M DV} {Q : VK} (hl : ms.length ≤ 1000) (p : post K mg W (rV K) σ ads H (bnd (eArgs ms ss) f st) Q) :
    post K mg W (rVs K) σ ads H (eArgs ms ss st) fun vs H' => vs.length ≤ sizeLine ∧ ∃ ads' xs st', Fut ads H ads' H' ∧ RSt K mg ads' H' st' ∧ RVs K ads' H' xs vs ∧ post K mg W (rV K) σ ads' H' (f xs st') Q := by
  have q := post.bind (R := rVs K) p
  cases e : eArgs ms ss st with
  | ok xs st' =>
    rw [e] at q
    have n := eArgs_length e
    intro ads' H' vs fu R r
    refine ⟨?_, q ads' H' vs fu R r⟩
    rw [sizeLine_eq, ← r.length, n]
    omega
  | exc x s => rw [e] at q; exact q
  | bad => rw [e] at q; exact q
theorem re_tup {k : Nat} (h : RA X W es ms) (hl : ms.length ≤ 1000 := by first | decide | simp) : RE X W (.Tuple es k pos) (eTup ms) := by
  refine ⟨fun pins s σ H Q I hq => (pe_tup h).run pins s σ H Q I ?_⟩
  obtain ⟨ads, ss, st, R, L, p⟩ := hq
  refine ⟨ads, ss, st, R, L, (args_len hl p).mono fun vs H1 ⟨z, ads1, xs, st1, fu, R1, r1, p1⟩ => ⟨z, fun q hp => ?_⟩⟩
  exact post.newT R1 r1 p1 hp
theorem re_lst (h : RA X W es ms) (hl : ms.length ≤ 1000 := by first | decide | simp) : RE X W (.List es pos) (eLst ms) := by
  refine ⟨fun pins s σ H Q I hq => (pe_lst h).run pins s σ H Q I ?_⟩
  obtain ⟨ads, ss, st, R, L, p⟩ := hq
  refine ⟨ads, ss, st, R, L, (args_len hl p).mono fun vs H1 ⟨z, ads1, xs, st1, fu, R1, r1, p1⟩ => ⟨z, fun q hp => ?_⟩⟩
  exact post.newL R1 r1 p1 hp
end

/-! ### calls of defs -/
def spM (K : PySem.W.Frag) (mg : Str → Option Value) (f : List DV → M DV) : Sp := fun vs H Q E => ∃ ads as st, RSt K mg ads H st ∧ RVs K ads H as vs ∧ post K mg (fun cls d _ H' => E cls d H') (rV K) [] ads H (f as st) Q
theorem post.wish {A B : Type} {K : PySem.W.Frag} {mg : Str → Option Value} {W W' : WX} {R : List Addr → Hp → A → B → Prop} {σ σ' : L2.St} {ads : List Addr} {H : Hp} {o : Out A} {Q : B → Hp → Prop} (h : post K mg W R σ ads H o Q) (hw : ∀ c d H', W c d σ H' → W' c d σ' H') : post K mg W' R σ' ads H o Q := by
  cases o with
  | ok a st => exact h
  | exc e st => exact fun ads' H' c d f r x => hw _ _ _ (h ads' H' c d f r x)
  | bad => exact h
section
variable {X : Cx} {W : WX} {k : Nat} {f C : Addr} {fd : FuncData} {ps : List Str} {x m : Str} {p pos apos : Pos} {e o : Expr} {es : List Expr} {g : List DV → M DV} {ms : List Ex} {mo : Ex}
theorem run_M {pins : List (Addr × Obj)} {σ : L2.St} {H : Hp} {s : Shared} {Q : VK} {us : List Value} {vs : List V} (F : FnOk X.prog X.w X.K X.mg X.base (L2.CX X.prog X.w) k f fd ps (spM X.K X.mg g)) (hr : Room k X.A) (hb : Binds X.K fd ps []) (tk : Takes X W)
    (I : Inv X pins σ H s) (r : Vals vs us) {ads : List Addr} {as : List DV} {st : Sto} (R : RSt X.K X.mg ads H st) (rv : RVs X.K ads H as vs) (h : post X.K X.mg W (rV X.K) σ ads H (g as st) Q) : wpAny (model X.prog X.w) X.A (call (.ref f) us) (EP X pins σ Q) X.xe s :=
  run_fnS (E := WE W) F hr hb (passAt tk σ) I r ⟨ads, as, st, R, rv, h.wish fun _ _ _ q => q⟩
theorem re_call (F : FnOk X.prog X.w X.K X.mg X.base (L2.CX X.prog X.w) k f fd ps (spM X.K X.mg g)) (hr : Room k X.A) (hg : Gl X x) (hm : X.mg x = some (.ref f)) (hk : PySem.W.keepIn X.K (.ref f) = true) (hb : Binds X.K fd ps []) (tk : Takes X W)
    (ha : RA X W (e :: es) ms) (hdb : (x == ("__debug__" : Str)) = false := by decide) (he : starEach (e :: es) X.env = (false, eval e X.env) :: starEach es X.env := by rfl) (hpl : (backTo pos (starEach es X.env)).any (·.1) = false := by rfl) :
    RE X W (.Call (.Name x p) (e :: es) [] pos) (eCall g ms) := by
  refine ⟨fun pins s σ H Q I h => ?_⟩
  obtain ⟨ads, ss, st, R, L, q⟩ := h
  refine wpAny_Call_Name_kw (ld_glob I hg hm ?_ hdb)
  have h1 : tM X.K X.mg W (rVs X.K) (eArgs ms) σ H _ := ⟨ads, ss, st, R, L, post.bind q⟩
  refine PySem.W.callWith_K (h₀ := X.base) I.ok.mod.kin hk (thn (ha.run pos pins s σ H _ I h1) fun us s1 ⟨vs, H1, I1, r, ads1, as, st1, fu, R1, rv, q1⟩ => ⟨I1.kIn, ?_⟩) he hpl
  exact run_M F hr hb tk I1 r R1 rv q1
theorem re_call0 (F : FnOk X.prog X.w X.K X.mg X.base (L2.CX X.prog X.w) k f fd ps (spM X.K X.mg g)) (hr : Room k X.A) (hg : Gl X x) (hm : X.mg x = some (.ref f)) (hk : PySem.W.keepIn X.K (.ref f) = true) (hb : Binds X.K fd ps []) (tk : Takes X W)
    (hdb : (x == ("__debug__" : Str)) = false := by decide) : RE X W (.Call (.Name x p) [] [] pos) (eCall g []) := by
  refine ⟨fun pins s σ H Q I h => ?_⟩
  obtain ⟨ads, ss, st, R, L, q⟩ := h
  refine wpAny_Call_Name_kw (ld_glob I hg hm ?_ hdb)
  exact PySem.W.callWith_K0 I.kIn hk (run_M (us := []) F hr hb tk I .nil R .nil q)
end

/-! ### calls of built-ins -/
def CallM (X : Cx) (f : Value) (g : List DV → M DV) : Prop :=
  ∀ (pins : List (Addr × Obj)) (s : Shared) (σ : L2.St) (H : Hp) (vs : List V) (us : List Value) (Q : VK) (ads : List Addr) (as : List DV) (st : Sto) (W : WX), Inv X pins σ H s → RSt X.K X.mg ads H st → RVs X.K ads H as vs → Vals vs us →
    post X.K X.mg W (rV X.K) σ ads H (g as st) Q → wpAny (model X.prog X.w) X.A (call f us) (EP X pins σ Q) X.xe s
section
variable {X : Cx} {W : WX} {x : Str} {p pos : Pos} {e : Expr} {es : List Expr} {g : List DV → M DV} {ms : List Ex} {id T : String}
theorem re_callB (hc : CallM X (.builtin id) g) (hg : Gl X x) (hm : X.mg x = none) (hv : bootBuiltins x = some (.builtin id)) (ha : RA X W (e :: es) ms) (hn : x ≠ "__name__" := by decide) (hdb : (x == ("__debug__" : Str)) = false := by decide)
    (he : starEach (e :: es) X.env = (false, eval e X.env) :: starEach es X.env := by rfl) (hpl : (backTo pos (starEach es X.env)).any (·.1) = false := by rfl) : RE X W (.Call (.Name x p) (e :: es) [] pos) (eCall g ms) := by
  refine ⟨fun pins s σ H Q I h => ?_⟩
  obtain ⟨ads, ss, st, R, L, q⟩ := h
  have h1 : tM X.K X.mg W (rVs X.K) (eArgs ms) σ H _ := ⟨ads, ss, st, R, L, post.bind q⟩
  refine wpAny_Call_Name_kw (ld_blt I hg hm hv ?_ hn hdb)
  exact PyProof.Rows.callWith_builtin1 (thn (ha.run pos pins s σ H _ I h1) fun us s1 ⟨vs, H1, I1, r, ads1, as, st1, fu, R1, rv, q1⟩ => hc pins s1 σ H1 vs us Q ads1 as st1 W I1 R1 rv r q1) he hpl
theorem re_callTy (hc : CallM X (.type T) g) (hg : Gl X x) (hm : X.mg x = none) (hv : bootBuiltins x = some (.type T)) (ha : RA X W (e :: es) ms) (hn : x ≠ "__name__" := by decide) (hdb : (x == ("__debug__" : Str)) = false := by decide)
    (he : starEach (e :: es) X.env = (false, eval e X.env) :: starEach es X.env := by rfl) (hpl : (backTo pos (starEach es X.env)).any (·.1) = false := by rfl) : RE X W (.Call (.Name x p) (e :: es) [] pos) (eCall g ms) := by
  refine ⟨fun pins s σ H Q I h => ?_⟩
  obtain ⟨ads, ss, st, R, L, q⟩ := h
  have h1 : tM X.K X.mg W (rVs X.K) (eArgs ms) σ H _ := ⟨ads, ss, st, R, L, post.bind q⟩
  refine wpAny_Call_Name_kw (ld_blt I hg hm hv ?_ hn hdb)
  exact PyProof.Rows.callWith_type1 (thn (ha.run pos pins s σ H _ I h1) fun us s1 ⟨vs, H1, I1, r, ads1, as, st1, fu, R1, rv, q1⟩ => hc pins s1 σ H1 vs us Q ads1 as st1 W I1 R1 rv r q1) he hpl
end
end ML

/-! ML4: statements, targets, loops, comprehensions, defs. -/
namespace ML
open PySem PySem.Spec PyProof.Rows L2
def postS (K : PySem.W.Frag) (mg : Str → Option Value) (W : WX) (D : Ends) (ads : List Addr) (H : Hp) : Out Fl → Prop
  | .ok (.nx ss) st => ∀ ads' H' σ', Fut ads H ads' H' → RSt K mg ads' H' st → RSl K ads' H' ss σ' → D.nx σ' H'
  | .ok (.bk ss) st => ∀ ads' H' σ', Fut ads H ads' H' → RSt K mg ads' H' st → RSl K ads' H' ss σ' → D.bk σ' H'
  | .ok (.ct ss) st => ∀ ads' H' σ', Fut ads H ads' H' → RSt K mg ads' H' st → RSl K ads' H' ss σ' → D.ct σ' H'
  | .ok (.rt d) st => ∀ ads' H' v, Fut ads H ads' H' → RSt K mg ads' H' st → RV K ads' H' d v → D.rt v H'
  | .ok (.rs e ss) st => ∀ ads' H' σ' cls d, Fut ads H ads' H' → RSt K mg ads' H' st → RSl K ads' H' ss σ' → RX K mg ads' H' e cls d → W cls d σ' H'
  | .exc _ _ => False
  | .bad => False
def tS (K : PySem.W.Frag) (mg : Str → Option Value) (W : WX) (m : Stt) : TS := fun D σ H => ∃ ads ss st, RSt K mg ads H st ∧ RSl K ads H ss σ ∧ postS K mg W D ads H (m ss st)
def RS (X : Cx) (W : WX) (st : Stmt) (m : Stt) : Prop := PS X st (tS X.K X.mg W m)
def RSs (X : Cx) (W : WX) (st : List Stmt) (m : Stt) : Prop := PSs X st (tS X.K X.mg W m)
/-- an expression's outcome within a statement -/
def lft {A : Type} (ss : Sl) (m : M A) (k : A → M Fl) : M Fl := fun st => match m st with
  | .ok a st' => k a st'
  | .exc e st' => .ok (.rs e ss) st'
  | .bad => .bad
theorem postS.from {K : PySem.W.Frag} {mg : Str → Option Value} {W : WX} {D : Ends} {ads ads' : List Addr} {H H' : Hp} {o : Out Fl} (f : Fut ads H ads' H') (h : postS K mg W D ads H o) : postS K mg W D ads' H' o := by
  cases o with
  | ok fl st =>
    cases fl with
    | nx ss => exact fun a2 H2 σ2 f2 R L => h a2 H2 σ2 (f.trans f2) R L
    | bk ss => exact fun a2 H2 σ2 f2 R L => h a2 H2 σ2 (f.trans f2) R L
    | ct ss => exact fun a2 H2 σ2 f2 R L => h a2 H2 σ2 (f.trans f2) R L
    | rt d => exact fun a2 H2 v f2 R r => h a2 H2 v (f.trans f2) R r
    | rs e ss => exact fun a2 H2 σ2 c d f2 R L x => h a2 H2 σ2 c d (f.trans f2) R L x
  | exc e st => exact h
  | bad => exact h
theorem post.from {A B : Type} {K : PySem.W.Frag} {mg : Str → Option Value} {W : WX} {R : List Addr → Hp → A → B → Prop} {σ : L2.St} {ads ads' : List Addr} {H H' : Hp} {o : Out A} {Q : B → Hp → Prop} (f : Fut ads H ads' H') (h : post K mg W R σ ads H o Q) : post K mg W R σ ads' H' o Q := by
  cases o with
  | ok a st => exact fun a2 H2 b f2 R r => h a2 H2 b (f.trans f2) R r
  | exc e st => exact fun a2 H2 c d f2 R x => h a2 H2 c d (f.trans f2) R x
  | bad => exact h
theorem postS.lft {A B : Type} {K : PySem.W.Frag} {mg : Str → Option Value} {W : WX} {R : List Addr → Hp → A → B → Prop} {D : Ends} {σ : L2.St} {ads : List Addr} {H : Hp} {ss : Sl} {st : Sto} {m : M A} {k : A → M Fl} (L : RSl K ads H ss σ) (h : postS K mg W D ads H (ML.lft ss m k st)) :
    post K mg W R σ ads H (m st) fun b H' => ∃ ads' a st', Fut ads H ads' H' ∧ RSt K mg ads' H' st' ∧ R ads' H' a b ∧ postS K mg W D ads' H' (k a st') := by
  unfold ML.lft at h
  cases e : m st with
  | ok a st' =>
    rw [e] at h
    exact fun ads' H' b f rs r => ⟨ads', a, st', f, rs, r, h.from f⟩
  | exc x st' =>
    rw [e] at h
    exact fun ads' H' c d f rs x => h ads' H' σ c d f rs (L.mono f) x
  | bad => rw [e] at h; exact h
theorem tS.lft {A B : Type} {K : PySem.W.Frag} {mg : Str → Option Value} {W : WX} {R : List Addr → Hp → A → B → Prop} {D : Ends} {σ : L2.St} {H : Hp} {m : Sl → M A} {k : Sl → A → M Fl} (h : tS K mg W (fun ss => ML.lft ss (m ss) (k ss)) D σ H) :
    tM K mg W R m σ H fun b H' => ∃ ads ss a st, RSt K mg ads H' st ∧ RSl K ads H' ss σ ∧ R ads H' a b ∧ postS K mg W D ads H' (k ss a st) := by
  obtain ⟨ads, ss, st, R, L, p⟩ := h
  exact ⟨ads, ss, st, R, L, (postS.lft L p).mono fun b H' ⟨ads', a, st', f, r1, r2, r3⟩ => ⟨ads', ss, a, st', r1, L.mono f, r2, r3⟩⟩

/-! ### small statements -/
def sSkip : Stt := fun ss => pur (.nx ss)
def sSeq (a b : Stt) : Stt := fun ss st => match a ss st with
  | .ok (.nx ss') st' => b ss' st'
  | o => o
def sExpr (m : Ex) : Stt := fun ss => lft ss (m ss) fun _ => pur (.nx ss)
def sRet (m : Ex) : Stt := fun ss => lft ss (m ss) fun v => pur (.rt v)
def sRetN : Stt := fun _ => pur (.rt .non)
def sBrk : Stt := fun ss => pur (.bk ss)
def sCont : Stt := fun ss => pur (.ct ss)
def sIf (c : Sl → M Bool) (a b : Stt) : Stt := fun ss => lft ss (c ss) fun t => if t = true then a ss else b ss
def sSet (i : Nat) (m : Ex) : Stt := fun ss => lft ss (m ss) fun v => pur (.nx (ss.set i (some v)))
section
variable {X : Cx} {W : WX} {st : Stmt} {rest : List Stmt} {m u : Stt} {e : Expr} {me : Ex} {pos : Pos}
theorem rss_nil : RSs X W [] sSkip := ⟨fun pins s σ H D I h => pss_nil.run pins s σ H D I (by
  obtain ⟨ads, ss, st, R, L, p⟩ := h
  exact p ads H σ .refl R L)⟩
theorem tS.seq {K : PySem.W.Frag} {mg : Str → Option Value} {D : Ends} {σ : L2.St} {H : Hp} (h : tS K mg W (sSeq m u) D σ H) : tS K mg W m { D with nx := tS K mg W u D } σ H := by
  obtain ⟨ads, ss, st, R, L, p⟩ := h
  refine ⟨ads, ss, st, R, L, ?_⟩
  unfold sSeq at p
  split at p
  · rename_i ss' st' e
    rw [e]
    exact fun ads' H' σ' f R' L' => ⟨ads', ss', st', R', L', p.from f⟩
  · rename_i hn
    generalize hm : m ss st = o at p hn ⊢
    cases o with
    | ok fl st' =>
      cases fl with
      | nx ss' => exact (hn ss' st' rfl).elim
      | bk ss' => exact p
      | ct ss' => exact p
      | rt d => exact p
      | rs e ss' => exact p
    | exc e st' => exact p
    | bad => exact p
theorem rss_cons (h1 : RS X W st m) (h2 : RSs X W rest u) : RSs X W (st :: rest) (sSeq m u) := ⟨fun pins s σ H D I h => (pss_cons h1 h2).run pins s σ H D I h.seq⟩
theorem rss_one (h1 : RS X W st m) : RSs X W [st] m := pss_one h1
theorem rs_pass : RS X W (.Pass pos) sSkip := ⟨fun pins s σ H D I h => ps_pass.run pins s σ H D I (by
  obtain ⟨ads, ss, st, R, L, p⟩ := h
  exact p ads H σ .refl R L)⟩
theorem rs_break : RS X W (.Break pos) sBrk := ⟨fun pins s σ H D I h => ps_break.run pins s σ H D I (by
  obtain ⟨ads, ss, st, R, L, p⟩ := h
  exact p ads H σ .refl R L)⟩
theorem rs_continue : RS X W (.Continue pos) sCont := ⟨fun pins s σ H D I h => ps_continue.run pins s σ H D I (by
  obtain ⟨ads, ss, st, R, L, p⟩ := h
  exact p ads H σ .refl R L)⟩
theorem rs_expr (he : RE X W e me) (hs : swapsWith e none pos.line X.env = pure false := by rfl) : RS X W (.Expr e pos) (sExpr me) := ⟨fun pins s σ H D I h => (ps_expr he hs).run pins s σ H D I (by
  refine (tS.lft (R := rV X.K) (k := fun ss _ => pur (.nx ss)) h).imp fun v H' ⟨ads, ss, d, st, R, L, r, p⟩ => ?_
  exact p ads H' σ .refl R L)⟩
theorem rs_ret (he : RE X W e me) : RS X W (.Return (some e) pos) (sRet me) := ⟨fun pins s σ H D I h => (ps_ret he).run pins s σ H D I (by
  refine (tS.lft (R := rV X.K) (k := fun ss v => pur (.rt v)) h).imp fun v H' ⟨ads, ss, d, st, R, L, r, p⟩ => ?_
  exact p ads H' v .refl R r)⟩
theorem rs_retN : RS X W (.Return none pos) sRetN := ⟨fun pins s σ H D I h => ps_retN.run pins s σ H D I (by
  obtain ⟨ads, ss, st, R, L, p⟩ := h
  exact p ads H _ .refl R .non)⟩
theorem rs_if {c : Expr} {a b : List Stmt} {tc : Sl → M Bool} {ma mb : Stt} (hc : RT X W c tc) (ha : RSs X W a ma) (hb : RSs X W b mb) : RS X W (.If c a b pos) (sIf tc ma mb) := ⟨fun pins s σ H D I h => (ps_if hc ha hb).run pins s σ H D I (by
  refine (tS.lft (R := rB) (k := fun ss t => if t = true then ma ss else mb ss) h).imp fun t H' ⟨ads, ss, d, st, R, L, r, p⟩ => ?_
  cases r
  cases t with
  | true => exact ⟨ads, ss, st, R, L, p⟩
  | false => exact ⟨ads, ss, st, R, L, p⟩)⟩
theorem rs_set {i : Nat} {x : Str} {pos' : Pos} (hN : X.N.Nodup) (hi : X.N[i]? = some x) (hx : Loc X.env.scope x) (he : RE X W e me) (hs : swapsWith e (some (.Name x pos')) pos.line X.env = pure false := by rfl) (hf : X.fn x = true ∨ X.env.scope.names.lookup x = some .local := by first | exact .inl rfl | exact .inr rfl | assumption) :
    RS X W (.Assign [.Name x pos'] e pos) (sSet i me) := ⟨fun pins s σ H D I h => (ps_set hN hi hx he hs hf).run pins s σ H D I (by
  refine (tS.lft (R := rV X.K) (k := fun ss v => pur (.nx (ss.set i (some v)))) h).imp fun v H' ⟨ads, ss, d, st, R, L, r, p⟩ => ?_
  exact p ads H' _ .refl R (L.set i r))⟩
end

/-! ### targets -/
abbrev Tg := DV → Sl → M Sl
def tG (K : PySem.W.Frag) (mg : Str → Option Value) (g : Tg) : TG := fun v σ H Q => ∃ ads ss d st, RSt K mg ads H st ∧ RSl K ads H ss σ ∧ RV K ads H d v ∧
  match g d ss st with
  | .ok ss' st' => ∀ ads' H' σ', Fut ads H ads' H' → RSt K mg ads' H' st' → RSl K ads' H' ss' σ' → Q σ' H'
  | _ => False
def RG (X : Cx) (tg : Expr) (g : Tg) : Prop := PG X tg (tG X.K X.mg g)
def gNm (i : Nat) : Tg := fun d ss => pur (ss.set i (some d))
/-- a tuple's (or a list's) items to names -/
def setAll : List Nat → List DV → Sl → Sl
  | i :: is, d :: ds, ss => setAll is ds (ss.set i (some d))
  | _, _, ss => ss
def gTp (is : List Nat) : Tg := fun d ss => match d with
  | .tup xs => if xs.length = is.length then pur (setAll is xs ss) else stuck
  | _ => stuck
def setAllV : List Nat → List V → L2.St → L2.St
  | i :: is, d :: ds, σ => setAllV is ds (σ.set i (some d))
  | _, _, σ => σ
theorem RSl.setAll {K : PySem.W.Frag} {ads : List Addr} {H : Hp} : ∀ {is : List Nat} {ds : List DV} {vs : List V} {ss : Sl} {σ : L2.St}, RVs K ads H ds vs → RSl K ads H ss σ → RSl K ads H (ML.setAll is ds ss) (setAllV is vs σ)
  | [], _, _, _, _, _, L => by cases ‹RVs K ads H _ _› <;> exact L
  | _ :: _, _, _, _, _, .nil, L => L
  | i :: is, _, _, _, _, .cons h r, L => RSl.setAll (is := is) r (L.set i h)
/-- names all of them -/
inductive NmsOk (X : Cx) : List Expr → List Nat → Prop
  | nil : NmsOk X [] []
  | cons {x : Str} {pos : Pos} {i : Nat} {es : List Expr} {is : List Nat} (hi : X.N[i]? = some x) (hx : Loc X.env.scope x) (hf : X.fn x = true ∨ X.env.scope.names.lookup x = some .local) (r : NmsOk X es is) : NmsOk X (.Name x pos :: es) (i :: is)
def gAll : List Nat → TGs
  | [] => gNil
  | i :: is => gCons (gName i) (gAll is)
theorem gAll_of : ∀ {is : List Nat} {vs : List V} {σ : L2.St} {H : Hp} {Q : L2.St → Hp → Prop}, vs.length = is.length → Q (setAllV is vs σ) H → gAll is vs σ H Q
  | [], [], _, _, _, _, q => ⟨rfl, q⟩
  | [], _ :: _, _, _, _, h, _ => by cases h
  | _ :: _, [], _, _, _, h, _ => by cases h
  | i :: is, v :: vs, σ, H, Q, h, q => ⟨v, vs, rfl, gAll_of (is := is) (Nat.succ.inj h) q⟩
theorem NmsOk.each {X : Cx} : ∀ {es : List Expr} {is : List Nat}, NmsOk X es is → (assignEach es X.env).length = is.length ∧ (assignEach es X.env).findIdx? (·.1) = none ∧ (X.N.Nodup → PGs X es (gAll is))
  | _, _, .nil => ⟨rfl, rfl, fun _ => pgs_nil⟩
  | _, _, .cons hi hx hf r => by
    obtain ⟨h1, h2, h3⟩ := NmsOk.each r
    refine ⟨congrArg (· + 1) h1, ?_, fun hN => pgs_cons (pg_name hN hi hx hf) (h3 hN) rfl⟩
    show List.findIdx? _ (_ :: _) = none
    rw [List.findIdx?_cons, h2]
    rfl
section
variable {X : Cx} {W : WX} {pos : Pos}
theorem rg_name {i : Nat} {x : Str} (hN : X.N.Nodup) (hi : X.N[i]? = some x) (hx : Loc X.env.scope x) (hf : X.fn x = true ∨ X.env.scope.names.lookup x = some .local := by first | exact .inl rfl | exact .inr rfl | assumption) : RG X (.Name x pos) (gNm i) := by
  refine ⟨fun pins s σ H v u Q I r h => (pg_name hN hi hx hf).run pins s σ H v u Q I r ?_⟩
  obtain ⟨ads, ss, d, st, R, L, rv, p⟩ := h
  exact p ads H _ .refl R (L.set i rv)
theorem rg_tup {es : List Expr} {k : Nat} {is : List Nat} (hc : X.calm = true) (hN : X.N.Nodup) (h : NmsOk X es is) : RG X (.Tuple es k pos) (gTp is) := by
  obtain ⟨h1, h2, h3⟩ := h.each
  refine ⟨fun pins s σ H v u Q I r h => (pg_tup hc (h3 hN) h1 h2).run pins s σ H v u Q I r ?_⟩
  obtain ⟨ads, ss, d, st, R, L, rv, p⟩ := h
  cases rv with
  | @tup a xs vs hs rs =>
    simp only [gTp] at p
    by_cases hl : xs.length = is.length
    · rw [if_pos hl] at p
      refine ⟨a, vs, rfl, .of hs, by rw [← rs.length]; exact hl, gAll_of (by rw [← rs.length]; exact hl) ?_⟩
      exact p ads H _ .refl R (RSl.setAll rs L)
    · rw [if_neg hl] at p
      exact (p : False).elim
  | _ => exact (p : False).elim
/-- target = value -/
def gK (g : M Sl) (k : Sl → M Fl) : M Fl := fun st => match g st with
  | .ok ss st' => k ss st'
  | _ => .bad
def sAsg (g : Tg) (m : Ex) : Stt := fun ss => lft ss (m ss) fun v => gK (g v ss) fun ss' => pur (.nx ss')
theorem tG.of {K : PySem.W.Frag} {mg : Str → Option Value} {g : Tg} {k : Sl → M Fl} {D : Ends} {ads : List Addr} {H : Hp} {ss : Sl} {σ : L2.St} {d : DV} {v : V} {st : Sto} {Q : L2.St → Hp → Prop} (R : RSt K mg ads H st) (L : RSl K ads H ss σ) (rv : RV K ads H d v) (p : postS K mg W D ads H (gK (g d ss) k st))
    (hq : ∀ ads' H' ss' σ' st', Fut ads H ads' H' → RSt K mg ads' H' st' → RSl K ads' H' ss' σ' → postS K mg W D ads' H' (k ss' st') → Q σ' H') : tG K mg g v σ H Q := by
  refine ⟨ads, ss, d, st, R, L, rv, ?_⟩
  unfold gK at p
  cases e : g d ss st with
  | ok ss' st' => rw [e] at p; exact fun ads' H' σ' f R' L' => hq ads' H' ss' σ' st' f R' L' (p.from f)
  | exc x st' => rw [e] at p; exact p
  | bad => rw [e] at p; exact p
theorem rs_asg {tg e : Expr} {me : Ex} {g : Tg} (he : RE X W e me) (hg : RG X tg g) (hs : swapsWithSole [tg] e pos.line X.env = pure false := by rfl) (hw : swappedStores [tg] e X.env = pure none := by rfl)
    (h1 : (assignEach [tg] X.env).map (·.2) = [assign tg X.env] := by rfl) : RS X W (.Assign [tg] e pos) (sAsg g me) := ⟨fun pins s σ H D I h => (ps_asg he hg hs hw h1).run pins s σ H D I (by
  refine (tS.lft (R := rV X.K) (k := fun ss v => gK (g v ss) fun ss' => pur (.nx ss')) h).imp fun v H' ⟨ads, ss, d, st, R, L, r, p⟩ => ?_
  exact tG.of R L r p fun ads' H2 ss' σ' st' f R' L' p' => p' ads' H2 σ' .refl R' L')⟩
/-- a, b = x, y -/
def sPar (i j : Nat) (ms : List Ex) : Stt := fun ss => lft ss (eArgs ms ss) fun xs => match xs with
  | [x, y] => pur (.nx ((ss.set i (some x)).set j (some y)))
  | _ => stuck
theorem rs_par {i j : Nat} {x y : Str} {a b : Expr} {ms : List Ex} {px py pt : Pos} {kt k2 : Nat} {pt2 : Pos} (hc : X.calm = true) (hN : X.N.Nodup) (hi : X.N[i]? = some x) (hj : X.N[j]? = some y) (hij : i ≠ j)
    (hx : X.env.scope.names.lookup x = some .local) (hy : X.env.scope.names.lookup y = some .local) (ha : RA X W [a, b] ms)
    (hw : swappedStores [.Tuple [.Name x px, .Name y py] kt pt] (.Tuple [a, b] k2 pt2) X.env = pure (some [x, y]) := by rfl)
    (hs : swapsWithSole [.Tuple [.Name x px, .Name y py] kt pt] (.Tuple [a, b] k2 pt2) pos.line X.env = pure false := by rfl) :
    RS X W (.Assign [.Tuple [.Name x px, .Name y py] kt pt] (.Tuple [a, b] k2 pt2) pos) (sPar i j ms) := ⟨fun pins s σ H D I h => (ps_par hc hN hi hj hij hx hy ha hw hs).run pins s σ H D I (by
  refine (tS.lft (R := rVs X.K) (k := fun ss xs => match xs with
    | [x, y] => pur (.nx ((ss.set i (some x)).set j (some y)))
    | _ => stuck) h).imp fun vs H' ⟨ads, ss, ds, st, R, L, r, p⟩ => ?_
  match ds, r, p with
  | [d1, d2], r, p =>
    obtain ⟨u1, u2, rfl, r1, r2⟩ := r.two
    exact ⟨u1, u2, rfl, p ads H' _ .refl R ((L.set i r1).set j r2)⟩
  | [], _, p => exact (p : False).elim
  | [_], _, p => exact (p : False).elim
  | _ :: _ :: _ :: _, _, p => exact (p : False).elim)⟩
end

/-! ### while -/
def FUEL : Nat := 18446744073709551616
def wh (c : Sl → M Bool) (b : Stt) : Nat → Sl → M Fl
  | 0, _ => stuck
  | n + 1, ss => lft ss (c ss) fun t => if t = true then fun st => match b ss st with
      | .ok (.nx ss') st' => wh c b n ss' st'
      | .ok (.ct ss') st' => wh c b n ss' st'
      | .ok (.bk ss') st' => .ok (.nx ss') st'
      | o => o
    else pur (.nx ss)
def sWhile (c : Sl → M Bool) (b : Stt) : Stt := wh c b FUEL
section
variable {X : Cx} {W : WX} {pos : Pos}
theorem rs_while {c : Expr} {body : List Stmt} {tc : Sl → M Bool} {mb : Stt} (hp : PassesOwn (model X.prog X.w) X.A X.env X.xe) (hc : RT X W c tc) (hb : RSs X W body mb) : RS X W (.While c body [] pos) (sWhile tc mb) := ⟨fun pins s σ H D I h => (ps_while hp hc hb).run pins s σ H D I (by
  refine ⟨fun n σ H => ∃ ads ss st, RSt X.K X.mg ads H st ∧ RSl X.K ads H ss σ ∧ postS X.K X.mg W D ads H (wh tc mb n ss st), ⟨FUEL, h⟩, fun n σ H hw => ?_⟩
  cases n with
  | zero =>
    obtain ⟨ads, ss, st, R, L, p⟩ := hw
    exact (p : False).elim
  | succ n =>
    refine (tS.lft (R := rB) (m := tc) (k := fun ss t => if t = true then fun st => match mb ss st with
      | .ok (.nx ss') st' => wh tc mb n ss' st'
      | .ok (.ct ss') st' => wh tc mb n ss' st'
      | .ok (.bk ss') st' => .ok (.nx ss') st'
      | o => o
    else pur (.nx ss)) (show tS X.K X.mg W (wh tc mb (n + 1)) D σ H from hw)).imp fun t H' ⟨ads, ss, d, st, R, L, r, p⟩ => ?_
    cases r
    cases t with
    | false => exact p ads H' σ .refl R L
    | true =>
      refine ⟨fun σ' H' => ∃ ads ss st, RSt X.K X.mg ads H' st ∧ RSl X.K ads H' ss σ' ∧ postS X.K X.mg W D ads H' (wh tc mb n ss st), fun σ' H' q => ⟨n, Nat.lt_succ_self n, q⟩, ads, ss, st, R, L, ?_⟩
      have p : postS X.K X.mg W D ads H' (match mb ss st with
        | .ok (.nx ss') st' => wh tc mb n ss' st'
        | .ok (.ct ss') st' => wh tc mb n ss' st'
        | .ok (.bk ss') st' => .ok (.nx ss') st'
        | o => o) := p
      generalize mb ss st = o at p ⊢
      cases o with
      | ok fl st' =>
        cases fl with
        | nx ss' => exact fun a2 H2 σ2 f R2 L2 => ⟨a2, ss', st', R2, L2, p.from f⟩
        | ct ss' => exact fun a2 H2 σ2 f R2 L2 => ⟨a2, ss', st', R2, L2, p.from f⟩
        | bk ss' => exact p
        | rt d => exact p
        | rs e ss' => exact p
      | exc e st' => exact p
      | bad => exact p)⟩
end

/-! ### what is walked -/
structure Wk where
  items : List DV
  g : List (Nat × DO)
def okG (g : List (Nat × DO)) (st : Sto) : Prop := ∀ p ∈ g, st[p.1]? = some p.2
structure Walks (K : PySem.W.Frag) (mg : Str → Option Value) (wk : Wk) (J : It) (ads0 : List Addr) (H0 : Hp) : Prop where
  go : ∀ (i : Nat) (d : DV) (ads : List Addr) (H : Hp) (st : Sto), wk.items[i]? = some d → Fut ads0 H0 ads H → RSt K mg ads H st → okG wk.g st → J.go i H ∧ ∀ x H', J.yld i H x H' → Fut ads H ads H' ∧ RSt K mg ads H' st ∧ RV K ads H' d x
  stop : ∀ (i : Nat) (ads : List Addr) (H : Hp) (st : Sto), wk.items.length ≤ i → Fut ads0 H0 ads H → RSt K mg ads H st → okG wk.g st → J.stop i H
def tI (K : PySem.W.Frag) (mg : Str → Option Value) (W : WX) (mi : Sl → M Wk) : TI := fun σ H R => tM K mg W (fun ads H' wk J => Walks K mg wk J ads H') mi σ H R
def RI (X : Cx) (W : WX) (tg iter : Expr) (mi : Sl → M Wk) : Prop := PI X tg iter (tI X.K X.mg W mi)
open Classical in
noncomputable def forL (g : List (Nat × DO)) (tg : Tg) (b : Stt) : List DV → Sl → M Fl
  | [], ss => fun st => if okG g st then .ok (.nx ss) st else .bad
  | x :: xs, ss => fun st => if okG g st then gK (tg x ss) (fun ss1 st1 => match b ss1 st1 with
      | .ok (.nx ss2) st2 => forL g tg b xs ss2 st2
      | .ok (.ct ss2) st2 => forL g tg b xs ss2 st2
      | .ok (.bk ss2) st2 => .ok (.nx ss2) st2
      | o => o) st else .bad
noncomputable def sFor (mi : Sl → M Wk) (tg : Tg) (b : Stt) : Stt := fun ss => lft ss (mi ss) fun wk => forL wk.g tg b wk.items ss
section
variable {X : Cx} {W : WX} {pos : Pos}
theorem rs_for {tg iter : Expr} {body : List Stmt} {mi : Sl → M Wk} {g : Tg} {mb : Stt} (hp : PassesOwn (model X.prog X.w) X.A X.env X.xe) (hc : X.calm = true) (hi : RI X W tg iter mi) (hg : RG X tg g) (hb : RSs X W body mb)
    (hs : ∀ x, foldedSetIterable iter X.env x = pure x := by intro _; rfl) : RS X W (.For tg iter body [] pos) (sFor mi g mb) := ⟨fun pins s σ H D I h => (ps_for hp hc hi hg hb hs).run pins s σ H D I (by
  refine tM.imp (tS.lft (R := fun ads H' wk J => Walks X.K X.mg wk J ads H') (k := fun ss wk => forL wk.g g mb wk.items ss) h) fun J H1 ⟨ads0, ss0, wk, st0, R0, L0, wks, p0⟩ => ?_
  refine ⟨fun i n σ H => n = wk.items.length - i ∧ ∃ ads ss st, Fut ads0 H1 ads H ∧ RSt X.K X.mg ads H st ∧ RSl X.K ads H ss σ ∧ postS X.K X.mg W D ads H (forL wk.g g mb (wk.items.drop i) ss st), ⟨_, rfl, ads0, ss0, st0, .refl, R0, L0, by rw [List.drop_zero]; exact p0⟩, ?_⟩
  rintro i n σ H ⟨rfl, ads, ss, st, f, R, L, p⟩
  by_cases hi : i < wk.items.length
  · rw [List.drop_eq_getElem_cons hi] at p
    simp only [forL] at p
    split at p
    · rename_i ok
      obtain ⟨go, yl⟩ := wks.go i _ ads H st (List.getElem?_eq_getElem hi) f R ok
      refine .inr ⟨go, fun σ' H' => ∃ ads ss st, Fut ads0 H1 ads H' ∧ RSt X.K X.mg ads H' st ∧ RSl X.K ads H' ss σ' ∧ postS X.K X.mg W D ads H' (forL wk.g g mb (wk.items.drop (i + 1)) ss st), fun σ' H' q => ⟨_, by omega, rfl, q⟩, fun x H' y => ?_⟩
      obtain ⟨f2, R2, rv⟩ := yl x H' y
      refine tG.of R2 (L.mono f2) rv (p.from f2) fun ads3 H3 ss3 σ3 st3 f3 R3 L3 p3 => ⟨ads3, ss3, st3, R3, L3, ?_⟩
      have f03 : Fut ads0 H1 ads3 H3 := (f.trans f2).trans f3
      generalize mb ss3 st3 = o at p3 ⊢
      cases o with
      | ok fl st' =>
        cases fl with
        | nx ss' => exact fun a2 H2 σ2 f R2 L2 => ⟨a2, ss', st', f03.trans f, R2, L2, p3.from f⟩
        | ct ss' => exact fun a2 H2 σ2 f R2 L2 => ⟨a2, ss', st', f03.trans f, R2, L2, p3.from f⟩
        | bk ss' => exact p3
        | rt d => exact p3
        | rs e ss' => exact p3
      | exc e st' => exact p3
      | bad => exact p3
    · exact p.elim
  · rw [List.drop_eq_nil_of_le (by omega)] at p
    simp only [forL] at p
    split at p
    · rename_i ok
      exact .inl ⟨wks.stop i ads H st (by omega) f R ok, p ads H σ .refl R L⟩
    · exact p.elim)⟩
/-! lists, tuples, ranges -/
def iLs (m : Ex) : Sl → M Wk := fun ss => bnd (m ss) fun d st => match d with
  | .ref k => match st[k]? with
    | some (.lst xs) => .ok ⟨xs, [(k, .lst xs)]⟩ st
    | _ => .bad
  | .fzl xs => .ok ⟨xs, []⟩ st
  | _ => .bad
def iTp (m : Ex) : Sl → M Wk := fun ss => bnd (m ss) fun d st => match d with
  | .tup xs => .ok ⟨xs, []⟩ st
  | .ktp xs => .ok ⟨xs, []⟩ st
  | _ => .bad
def iSg (m : Ex) : Sl → M Wk := fun ss => bnd (m ss) fun d st => match d with
  | .str x => .ok ⟨x.cps.toList.map fun c => .str ⟨#[c]⟩, []⟩ st
  | _ => .bad
def irange (lo : Int) (n : Nat) : List DV := (List.range n).map fun (i : Nat) => .int (lo + i)
def small62 (i : Int) : Prop := -(2 ^ 62) ≤ i ∧ i < 2 ^ 62
@[irreducible] instance (i : Int) : Decidable (small62 i) := by unfold small62; exact inferInstance
def iRg1 (ms : List Ex) : Sl → M Wk := fun ss => bnd (eArgs ms ss) fun ds st => match ds with
  | [.int j] => if small62 j then .ok ⟨irange 0 j.toNat, []⟩ st else .bad
  | _ => .bad
def iRg2 (ms : List Ex) : Sl → M Wk := fun ss => bnd (eArgs ms ss) fun ds st => match ds with
  | [.int i, .int j] => if small62 i ∧ small62 j then .ok ⟨irange i (j - i).toNat, []⟩ st else .bad
  | _ => .bad
theorem ri_list {tg l : Expr} {m : Ex} (hl : RE X W l m) : RI X W tg l (iLs m) := ⟨fun pins s σ H R I h => (pi_list hl).run pins s σ H R I (by
  refine (tM.bind (R := rV X.K) h).imp fun x H1 ⟨ads, ss, d, st, Rs, L, rv, p⟩ => ?_
  cases rv with
  | @ref k a hk =>
    simp only at p
    split at p
    · rename_i xs e
      obtain ⟨vs, hv, rs⟩ := Rs.list hk e
      refine ⟨a, rfl, ⟨vs, .of hv⟩, p ads H1 _ .refl Rs ⟨fun i d ads' H' st' hi f R' ok => ?_, fun i ads' H' st' hi f R' ok => ?_⟩⟩
      · obtain ⟨ws, hw, rw'⟩ := R'.list (f.pre |> fun z => Ext.get z hk) (ok (k, .lst xs) (by simp))
        obtain ⟨w, h1, h2⟩ := rw'.get hi
        refine ⟨⟨ws, w, .of hw, h1⟩, fun x H2 ⟨e2, e3⟩ => ?_⟩
        subst e2
        have e4 := e3 ws (.of hw)
        rw [h1] at e4
        cases e4
        exact ⟨.refl, R', h2⟩
      · obtain ⟨ws, hw, rw'⟩ := R'.list (f.pre |> fun z => Ext.get z hk) (ok (k, .lst xs) (by simp))
        exact ⟨ws, .of hw, by rw [← rw'.length]; exact hi⟩
    · exact p.elim
  | @fzl a xs vs hs rs =>
    refine ⟨a, rfl, ⟨vs, hs.sq⟩, p ads H1 _ .refl Rs ⟨fun i d ads' H' st' hi f R' ok => ?_, fun i ads' H' st' hi f R' ok => ?_⟩⟩
    · have rs' := rs.mono f
      have hs' := f.kp.fzL hs
      obtain ⟨w, h1, h2⟩ := rs'.get hi
      refine ⟨⟨vs, w, hs'.sq, h1⟩, fun x H2 ⟨e2, e3⟩ => ?_⟩
      subst e2
      have e4 := e3 vs hs'.sq
      rw [h1] at e4
      cases e4
      exact ⟨.refl, R', h2⟩
    · exact ⟨vs, (f.kp.fzL hs).sq, by rw [← rs.length]; exact hi⟩
  | _ => exact (p : False).elim)⟩
theorem ri_tup {tg l : Expr} {m : Ex} (hl : RE X W l m) : RI X W tg l (iTp m) := ⟨fun pins s σ H R I h => (pi_tup hl).run pins s σ H R I (by
  refine (tM.bind (R := rV X.K) h).imp fun x H1 ⟨ads, ss, d, st, Rs, L, rv, p⟩ => ?_
  cases rv with
  | @tup a xs vs hs rs =>
    refine ⟨a, rfl, ⟨vs, .of hs⟩, p ads H1 _ .refl Rs ⟨fun i d ads' H' st' hi f R' ok => ?_, fun i ads' H' st' hi f R' ok => ?_⟩⟩
    · have rs' := rs.mono f
      have hs' := SqT.of (K := X.K) (f.kp.tup _ _ hs)
      obtain ⟨w, h1, h2⟩ := rs'.get hi
      refine ⟨⟨vs, w, hs', h1⟩, fun x H2 ⟨e2, e3⟩ => ?_⟩
      subst e2
      have e4 := e3 vs hs'
      rw [h1] at e4
      cases e4
      exact ⟨.refl, R', h2⟩
    · exact ⟨vs, SqT.of (f.kp.tup _ _ hs), by rw [← rs.length]; exact hi⟩
  | @ktp a xs vs hs rs =>
    refine ⟨a, rfl, ⟨vs, hs⟩, p ads H1 _ .refl Rs ⟨fun i d ads' H' st' hi f R' ok => ?_, fun i ads' H' st' hi f R' ok => ?_⟩⟩
    · have rs' := rs.mono f
      have hs' := f.kp.sqT hs
      obtain ⟨w, h1, h2⟩ := rs'.get hi
      refine ⟨⟨vs, w, hs', h1⟩, fun x H2 ⟨e2, e3⟩ => ?_⟩
      subst e2
      have e4 := e3 vs hs'
      rw [h1] at e4
      cases e4
      exact ⟨.refl, R', h2⟩
    · exact ⟨vs, f.kp.sqT hs, by rw [← rs.length]; exact hi⟩
  | _ => exact (p : False).elim)⟩
theorem ri_str {tg l : Expr} {m : Ex} (hl : RE X W l m) : RI X W tg l (iSg m) := ⟨fun pins s σ H R I h => (pi_str hl).run pins s σ H R I (by
  refine (tM.bind (R := rV X.K) h).imp fun x H1 ⟨ads, ss, d, st, Rs, L, rv, p⟩ => ?_
  cases rv with
  | str z =>
    refine ⟨z, rfl, p ads H1 _ .refl Rs ⟨fun i d ads' H' st' hi f R' ok => ?_, fun i ads' H' st' hi f R' ok => ?_⟩⟩
    · rw [List.getElem?_map] at hi
      cases e : z.cps.toList[i]? with
      | none => rw [e] at hi; cases hi
      | some c =>
        rw [e] at hi
        cases hi
        have e' : z.cps[i]? = some c := by rw [← Array.getElem?_toList]; exact e
        refine ⟨(Array.getElem?_eq_some_iff.mp e').1, fun x H2 ⟨e2, c', e3, e4⟩ => ?_⟩
        rw [e'] at e3
        cases e3
        subst e2 e4
        exact ⟨.refl, R', .str _⟩
    · show z.cps.size ≤ i
      simpa using hi
  | _ => exact (p : False).elim)⟩
theorem irange_get {lo : Int} {n i : Nat} {d : DV} (h : (irange lo n)[i]? = some d) : i < n ∧ d = .int (lo + i) := by
  unfold irange at h
  rw [List.getElem?_map] at h
  by_cases hi : i < n
  · rw [List.getElem?_range hi] at h
    cases h
    exact ⟨hi, rfl⟩
  · rw [List.getElem?_eq_none (by simpa using hi)] at h
    cases h
theorem irange_length (lo : Int) (n : Nat) : (irange lo n).length = n := by unfold irange; rw [List.length_map, List.length_range]
theorem walks_range {K : PySem.W.Frag} {mg : Str → Option Value} {lo : Int} {n : Nat} {ads : List Addr} {H : Hp} : Walks K mg ⟨irange lo n, []⟩ (Itr lo n) ads H :=
  ⟨fun i d ads' H' st' hi f R' ok => by
    obtain ⟨h1, rfl⟩ := irange_get hi
    refine ⟨h1, fun x H2 ⟨e2, e3⟩ => ?_⟩
    subst e2 e3
    exact ⟨.refl, R', .int _⟩, fun i ads' H' st' hi f R' ok => by
    rw [irange_length] at hi
    exact hi⟩
theorem ri_range1 {tg a : Expr} {ms : List Ex} {p pos : Pos} (hg : Gl X "range") (hm : X.mg "range" = none) (ha : RA X W [a] ms) (hs : starEach [a] X.env = [(false, eval a X.env)] := by rfl) : RI X W tg (.Call (.Name "range" p) [a] [] pos) (iRg1 ms) := ⟨fun pins s σ H R I h => (pi_range1 hg hm ha hs).run pins s σ H R I (by
  refine (tM.bind (R := rVs X.K) h).imp fun vs H1 ⟨ads, ss, ds, st, Rs, L, rv, p⟩ => ?_
  split at p
  · obtain ⟨u, rfl, r⟩ := rv.one
    cases r
    split at p
    · rename_i hj
      exact ⟨_, rfl, hj.1, hj.2, p ads H1 _ .refl Rs walks_range⟩
    · exact p.elim
  · exact p.elim)⟩
theorem ri_range2 {tg a b : Expr} {ms : List Ex} {p pos : Pos} (hg : Gl X "range") (hm : X.mg "range" = none) (ha : RA X W [a, b] ms) (hs : starEach [a, b] X.env = [(false, eval a X.env), (false, eval b X.env)] := by rfl) (hs2 : starEach [b] X.env = [(false, eval b X.env)] := by rfl) :
    RI X W tg (.Call (.Name "range" p) [a, b] [] pos) (iRg2 ms) := ⟨fun pins s σ H R I h => (pi_range2 hg hm ha hs hs2).run pins s σ H R I (by
  refine (tM.bind (R := rVs X.K) h).imp fun vs H1 ⟨ads, ss, ds, st, Rs, L, rv, p⟩ => ?_
  split at p
  · obtain ⟨u, u', rfl, r1, r2⟩ := rv.two
    cases r1; cases r2
    split at p
    · rename_i hj
      exact ⟨_, _, rfl, ⟨hj.1.1, hj.1.2, hj.2.1, hj.2.2⟩, p ads H1 _ .refl Rs walks_range⟩
    · exact p.elim
  · exact p.elim)⟩
end
end ML

/-! ML5: comprehensions, defs. -/
namespace ML
open PySem PySem.Spec PyProof.Rows L2
/-- what a block does not let out -/
def noX {A : Type} (m : M A) : M A := fun st => match m st with
  | .ok a st' => .ok a st'
  | _ => .bad
def wipeD (ss : Sl) : List Nat → Sl
  | [] => ss
  | v :: vs => (wipeD ss vs).set v none
open Classical in
noncomputable def lcL (g : List (Nat × DO)) (own : List Nat) (tg : Tg) (c : Sl → M Bool) (e : Ex) : List DV → Sl → M (List DV)
  | [], ss => fun st => if okG g st then .ok [] st else .bad
  | x :: xs, ss => fun st => if okG g st then bnd (tg x (wipeD ss own)) (fun ss1 => bnd (c ss1) fun t => if t = true then bnd (e ss1) fun y => bnd (lcL g own tg c e xs ss) fun ys => pur (y :: ys) else lcL g own tg c e xs ss) st else .bad
/-- at most so many items come -/
noncomputable def eLc (mi : Sl → M Wk) (own : List Nat) (tg : Tg) (c : Sl → M Bool) (e : Ex) : Ex := fun ss => bnd (mi ss) fun wk => if wk.items.length ≤ sizeLine then bnd (noX (lcL wk.g own tg c e wk.items ss)) fun ys => alloc (.lst ys) else stuck
abbrev WF : WX := fun _ _ _ _ => False
def tTrue : Sl → M Bool := fun _ => pur true
structure RIf (X : Cx) (W : WX) (ifs : List Expr) (m : Sl → M Bool) : Prop where
  pt : PTs X ifs (tM X.K X.mg W rB m)
theorem rts_nil {X : Cx} {W : WX} : RIf X W [] tTrue := ⟨⟨fun pins s σ H Q I h => pts_nil.run pins s σ H Q I (by
  obtain ⟨ads, ss, st, R, L, p⟩ := h
  exact p.ok R rfl)⟩⟩
theorem rts_one {X : Cx} {W : WX} {c : Expr} {m : Sl → M Bool} (h : RT X W c m) : RIf X W [c] m := ⟨pts_one h⟩
theorem RSl.wipe {K : PySem.W.Frag} {ads : List Addr} {H : Hp} {ss : Sl} {σ : L2.St} (h : RSl K ads H ss σ) : ∀ vs : List Nat, RSl K ads H (wipeD ss vs) (L2.wipe σ vs)
  | [] => h
  | v :: vs => (RSl.wipe h vs).forget2 v
/-- a target of a comprehension: it stores its own names alone -/
structure CG (X : Cx) (tg : Expr) (own : List Nat) (g : Tg) : Prop where
  /-- the rule's reading, and how it is met -/
  ex : ∃ t : TG, PG X tg t ∧ ∀ {v : V} {σ : L2.St} {H : Hp} {Q : L2.St → Hp → Prop} {ads : List Addr} {ss : Sl} {d : DV} {st : Sto}, RSt X.K X.mg ads H st → RSl X.K ads H ss σ → RV X.K ads H d v →
    (match g d ss st with
    | .ok ss' st' => ∀ σ', (∀ σ0, L2.wipe σ0 own = σ → L2.wipe σ' own = σ) → st' = st → RSl X.K ads H ss' σ' → Q σ' H
    | _ => False) → t v σ H Q
section
variable {X : Cx} {pos : Pos}
theorem wipe_set {σ : L2.St} {i : Nat} {v : V} : (σ.set i (some v)).set i none = σ.set i none := List.set_set ..
theorem wipe_comm : ∀ {vs : List Nat} {σ : L2.St} {i : Nat} {x : Option V}, i ∈ vs → L2.wipe (σ.set i x) vs = L2.wipe σ vs
  | [], _, _, _, h => by simp at h
  | v :: vs, σ, i, x, h => by
    unfold L2.wipe
    by_cases hv : i ∈ vs
    · rw [wipe_comm hv]
    · have e : i = v := by
        rcases List.mem_cons.mp h with z | z
        · exact z
        · exact absurd z hv
      subst e
      have : ∀ (ws : List Nat) (σ : L2.St), i ∉ ws → L2.wipe (σ.set i x) ws = (L2.wipe σ ws).set i x := by
        intro ws
        induction ws with
        | nil => intro σ _; rfl
        | cons w ws ih =>
          intro σ hw
          rw [List.mem_cons, not_or] at hw
          show (L2.wipe (σ.set i x) ws).set w none = ((L2.wipe σ ws).set w none).set i x
          rw [ih σ hw.2, List.set_comm _ _ hw.1]
      rw [this vs σ hv, List.set_set]
theorem wipe_setAll {own : List Nat} : ∀ {is : List Nat} {vs : List V} {σ : L2.St}, (∀ i ∈ is, i ∈ own) → L2.wipe (setAllV is vs σ) own = L2.wipe σ own
  | [], _, _, _ => rfl
  | _ :: _, [], _, _ => rfl
  | i :: is, v :: vs, σ, h => by
    show L2.wipe (setAllV is vs (σ.set i (some v))) own = _
    rw [wipe_setAll (fun j hj => h j (List.mem_cons_of_mem _ hj)), wipe_comm (h i List.mem_cons_self)]
theorem wipe_wipe (σ : L2.St) (own : List Nat) : L2.wipe (L2.wipe σ own) own = L2.wipe σ own := by
  have : ∀ (ws vs : List Nat) (σ : L2.St), (∀ i ∈ vs, i ∈ ws) → L2.wipe (L2.wipe σ vs) ws = L2.wipe σ ws := by
    intro ws vs
    induction vs with
    | nil => intro σ _; rfl
    | cons v vs ih =>
      intro σ h
      show L2.wipe ((L2.wipe σ vs).set v none) ws = _
      rw [wipe_comm (h v List.mem_cons_self), ih σ fun i hi => h i (List.mem_cons_of_mem _ hi)]
  exact this own own σ fun i h => h
theorem cg_name {i : Nat} {x : Str} (hN : X.N.Nodup) (hi : X.N[i]? = some x) (hx : Loc X.env.scope x) (hf : X.fn x = true ∨ X.env.scope.names.lookup x = some .local := by first | exact .inl rfl | exact .inr rfl | assumption) : CG X (.Name x pos) [i] (gNm i) := by
  refine ⟨gName i, pg_name hN hi hx hf, fun {v σ H Q ads ss d st} R L rv h => ?_⟩
  have h : ∀ σ', (∀ σ0, L2.wipe σ0 [i] = σ → L2.wipe σ' [i] = σ) → st = st → RSl X.K ads H (ss.set i (some d)) σ' → Q σ' H := h
  refine h _ (fun σ0 e => ?_) rfl (L.set i rv)
  rw [← e, wipe_comm (by simp), wipe_wipe]
theorem cg_tup {es : List Expr} {k : Nat} {is own : List Nat} (hc : X.calm = true) (hN : X.N.Nodup) (h : NmsOk X es is) (ho : ∀ i ∈ is, i ∈ own := by decide) : CG X (.Tuple es k pos) own (gTp is) := by
  obtain ⟨h1, h2, h3⟩ := h.each
  refine ⟨_, pg_tup hc (h3 hN) h1 h2, fun {v σ H Q ads ss d st} R L rv p => ?_⟩
  cases rv with
  | @tup a xs vs hs rs =>
    simp only [gTp] at p
    by_cases hl : xs.length = is.length
    · rw [if_pos hl] at p
      refine ⟨a, vs, rfl, .of hs, by rw [← rs.length]; exact hl, gAll_of (by rw [← rs.length]; exact hl) ?_⟩
      have p : ∀ σ', (∀ σ0, L2.wipe σ0 own = σ → L2.wipe σ' own = σ) → st = st → RSl X.K ads H (setAll is xs ss) σ' → Q σ' H := p
      refine p _ (fun σ0 e => ?_) rfl (RSl.setAll rs L)
      rw [← e, wipe_setAll ho, wipe_wipe]
    · rw [if_neg hl] at p
      exact (p : False).elim
  | _ => exact (p : False).elim
end
section
variable {X : Cx} {W : WX}
theorem Fut.under {ads0 ads : List Addr} {H1 H : Hp} {D : Addr} {o : HO} (hD : H1 D = none) (f : Fut ads0 H1 ads H) : Fut ads0 H1 ads (upd H D o) :=
  ⟨f.pre, ⟨fun a xs e => by rw [upd_ne (ne_of_none e hD)]; exact f.kp.tup a xs e, fun a o' u k e => by rw [upd_ne (ne_of_none e hD)]; exact f.kp.frz a o' u k e, fun a fs e => by rw [upd_ne (ne_of_none e hD)]; exact f.kp.xd a fs e⟩,
   fun a o' h1 h2 => let ⟨h3, h4⟩ := f.oth a o' h1 h2; ⟨h3, by rw [upd_ne (ne_of_none h2 hD)]; exact h4⟩, fun a o' u e => by rw [upd_ne (ne_of_none e hD)]; exact f.fz a o' u e⟩
theorem Fut.adopt {ads0 ads : List Addr} {H1 H : Hp} {D : Addr} (hD : H1 D = none) (f : Fut ads0 H1 ads H) : Fut ads0 H1 (ads ++ [D]) H := by
  obtain ⟨r, e⟩ := f.pre
  refine ⟨⟨r ++ [D], by rw [e, List.append_assoc]⟩, f.kp, fun a o h1 h2 => ?_, f.fz⟩
  obtain ⟨h3, h4⟩ := f.oth a o h1 h2
  refine ⟨fun z => ?_, h4⟩
  rcases List.mem_append.mp z with z | z
  · exact h3 z
  · exact ne_of_none h2 hD (by simpa using z)
/-- an untracked list is changed -/
theorem RSt.side {K : PySem.W.Frag} {mg : Str → Option Value} {ads : List Addr} {H : Hp} {st : Sto} {D : Addr} {vs : List V} {o : HO} (R : RSt K mg ads H st) (h : D ∉ ads) (e : H D = some (.lst vs)) : RSt K mg ads (upd H D o) st ∧ Kp H (upd H D o) :=
  have k : Kp H (upd H D o) := .write e (fun _ z => by cases z) (fun _ _ z => by cases z)
  ⟨R.keep k fun a ha => upd_ne fun q => h (q ▸ ha), k⟩
/-- the reading of a comprehension -/
theorem lc_read {mi : Sl → M Wk} {own : List Nat} {g : Tg} {c : Sl → M Bool} {e : Ex} {σ : L2.St} {H : Hp} {Q : VK} {t : TG} {K : PySem.W.Frag} {mg : Str → Option Value}
    (ht : ∀ {v : V} {σ : L2.St} {H : Hp} {Q : L2.St → Hp → Prop} {ads : List Addr} {ss : Sl} {d : DV} {st : Sto}, RSt K mg ads H st → RSl K ads H ss σ → RV K ads H d v →
      (match g d ss st with
      | .ok ss' st' => ∀ σ', (∀ σ0, L2.wipe σ0 own = σ → L2.wipe σ' own = σ) → st' = st → RSl K ads H ss' σ' → Q σ' H
      | _ => False) → t v σ H Q)
    (hg : ∀ d ss st ss' st', g d ss st = .ok ss' st' → st' = st)
    (h : tM K mg W (rV K) (eLc mi own g c e) σ H Q) : tLc (tI K mg W mi) t (tM K mg WF rB c) (tM K mg WF (rV K) e) own σ H Q := by
  refine tM.imp (tM.bind (R := fun ads H' wk J => Walks K mg wk J ads H') h) fun J H1 ⟨ads0, ss, wk, st0, R0, L0, wks, p0⟩ => ?_
  by_cases hz : wk.items.length ≤ sizeLine
  case neg => rw [if_neg hz] at p0; exact (p0 : False).elim
  rw [if_pos hz] at p0
  cases eo : lcL wk.g own g c e wk.items ss st0 with
  | exc _ _ =>
    have z : noX (lcL wk.g own g c e wk.items ss) st0 = .bad := by unfold noX; rw [eo]
    unfold bnd at p0; rw [z] at p0; exact (p0 : False).elim
  | bad =>
    have z : noX (lcL wk.g own g c e wk.items ss) st0 = .bad := by unfold noX; rw [eo]
    unfold bnd at p0; rw [z] at p0; exact (p0 : False).elim
  | ok ysA stF =>
  have p0 : post K mg W (rV K) σ ads0 H1 (alloc (.lst ysA) stF) Q := by
    have z : noX (lcL wk.g own g c e wk.items ss) st0 = .ok ysA stF := by unfold noX; rw [eo]
    unfold bnd at p0; rw [z] at p0; exact p0
  intro D hD
  have hDa : D ∉ ads0 := R0.fresh hD
  refine ⟨fun i n H => n = wk.items.length - i ∧ i ≤ wk.items.length ∧ ∃ ads st acc dacc ys, Fut ads0 H1 ads H ∧ D ∉ ads ∧ RSt K mg ads H st ∧ RSl K ads H ss σ ∧ H D = some (.lst acc) ∧ acc.length ≤ i ∧ RVs K ads H dacc acc ∧
    lcL wk.g own g c e (wk.items.drop i) ss st = .ok ys stF ∧ dacc ++ ys = ysA, ⟨_, rfl, Nat.zero_le _, ads0, st0, [], [], ysA, .under hD .refl, hDa, R0.newU hD, L0.mono (.newU hD), upd_same, Nat.le_refl _, .nil, by rw [List.drop_zero]; exact eo, rfl⟩, ?_⟩
  rintro i n H ⟨rfl, hil, ads, st, acc, dacc, ys, f, nD, R, L, eD, la, ra, el, ey⟩
  by_cases hi : i < wk.items.length
  · rw [List.drop_eq_getElem_cons hi] at el
    simp only [lcL] at el
    by_cases ok : okG wk.g st
    case neg => rw [if_neg ok] at el; cases el
    rw [if_pos ok] at el
    obtain ⟨go, yl⟩ := wks.go i _ ads H st (List.getElem?_eq_getElem hi) f R ok
    obtain ⟨ss1, st1, e1, el1⟩ := bnd_ok el
    have est := hg _ _ _ _ _ e1
    subst est
    clear el
    obtain ⟨tb, st2, e2, el2⟩ := bnd_ok el1
    refine .inr ⟨go, fun H' => ∃ ads st acc dacc ys, Fut ads0 H1 ads H' ∧ D ∉ ads ∧ RSt K mg ads H' st ∧ RSl K ads H' ss σ ∧ H' D = some (.lst acc) ∧ acc.length ≤ i + 1 ∧ RVs K ads H' dacc acc ∧
      lcL wk.g own g c e (wk.items.drop (i + 1)) ss st = .ok ys stF ∧ dacc ++ ys = ysA, fun H' q => ⟨_, by omega, rfl, by omega, q⟩, fun x H' y => ?_⟩
    obtain ⟨f2, R2, rv⟩ := yl x H' y
    refine ht R2 ((L.mono f2).wipe own) rv ?_
    rw [e1]
    intro σ2 hw _ L2'
    refine ⟨hw σ rfl, ads, ss1, _, R2, L2', ?_⟩
    rw [e2]
    intro ads3 H3 b f3 R3 eb
    cases eb
    cases tb with
    | false =>
      rw [if_neg Bool.false_ne_true] at el2 ⊢
      have f23 := f2.trans f3
      obtain ⟨nD3, eD3⟩ := f23.oth D _ nD eD
      exact ⟨ads3, st2, acc, dacc, ys, f.trans f23, nD3, R3, L.mono f23, eD3, by omega, ra.mono f23, el2, ey⟩
    | true =>
      rw [if_pos rfl] at el2 ⊢
      obtain ⟨yv, st3, e3, el3⟩ := bnd_ok el2
      obtain ⟨ys', st4, e4, el4⟩ := bnd_ok el3
      cases el4
      refine ⟨ads3, ss1, st2, R3, L2'.mono f3, ?_⟩
      rw [e3]
      intro ads4 H4 v f4 R4 r4
      have f24 := (f2.trans f3).trans f4
      obtain ⟨nD4, eD4⟩ := f24.oth D _ nD eD
      obtain ⟨R5, k5⟩ := R4.side (o := .lst (acc ++ [v])) nD4 eD4
      have hle : acc.length < sizeLine := by omega
      refine ⟨acc, eD4, hle, ads4, st3, acc ++ [v], dacc ++ [yv], ys', (f.trans f24).under hD, nD4, R5, ⟨(L.mono f24).1, fun j d hj => ?_⟩, upd_same, by rw [List.length_append, List.length_singleton]; omega, ?_, e4, by rw [List.append_assoc]; exact ey⟩
      · obtain ⟨u, h1, h2⟩ := (L.mono f24).2 j d hj
        exact ⟨u, h1, h2.mono2 (.refl _) k5⟩
      · exact ((ra.mono f24).append (.cons r4 .nil)).mono2 (.refl _) k5
  · rw [List.drop_eq_nil_of_le (by omega)] at el
    simp only [lcL] at el
    by_cases ok : okG wk.g st
    case neg => rw [if_neg ok] at el; cases el
    rw [if_pos ok] at el
    cases el
    refine .inl ⟨wks.stop i ads H _ (by omega) f R ok, p0 (ads ++ [D]) H _ (f.adopt hD) ?_ (.ref (alloc_at R))⟩
    refine R.adopt nD ⟨acc, eD, ?_⟩
    rw [← ey, List.append_nil]
    exact ra.mono2 ⟨[D], rfl⟩ .refl
theorem gNm_st {i : Nat} : ∀ (d : DV) (ss : Sl) (st : Sto) (ss' : Sl) (st' : Sto), gNm i d ss st = .ok ss' st' → st' = st := fun d ss st ss' st' h => by
  cases h
  rfl
theorem gTp_st {is : List Nat} : ∀ (d : DV) (ss : Sl) (st : Sto) (ss' : Sl) (st' : Sto), gTp is d ss st = .ok ss' st' → st' = st := fun d ss st ss' st' h => by
  cases d with
  | tup xs =>
    simp only [gTp] at h
    by_cases hl : xs.length = is.length
    · rw [if_pos hl] at h
      cases h
      rfl
    · rw [if_neg hl] at h
      cases h
  | _ => cases h
/-- what the block's parts are asked for -/
abbrev Blk (X : Cx) (scope : Scope) (s : Shared) (H : Hp) (C : Addr) (cl : List (Str × Addr)) (fp : List Addr) : Cx := X.blk s H scope (compEnvC scope cl C X.env) fp
theorem re_lc {elt tg iter : Expr} {ifs : List Expr} {scope : Scope} {own : List (Str × Nat)} {is : List Nat} {pos : Pos} {mi : Sl → M Wk} {g : Tg} {mc : Sl → M Bool} {me : Ex} {t : TG} (hc : X.calm = true) (hN : X.N.Nodup) (hi : RI X W tg iter mi) (ok : BlkOk X.N X.env.scope scope own) (his : own.map (·.2) = is)
    (hg : ∀ (s : Shared) (H : Hp) (C : Addr) (cl : List (Str × Addr)) (fp : List Addr), PG (Blk X scope s H C cl fp) tg t)
    (hr : ∀ {v : V} {σ : L2.St} {H : Hp} {Q : L2.St → Hp → Prop} {ads : List Addr} {ss : Sl} {d : DV} {st : Sto}, RSt X.K X.mg ads H st → RSl X.K ads H ss σ → RV X.K ads H d v →
      (match g d ss st with
      | .ok ss' st' => ∀ σ', (∀ σ0, L2.wipe σ0 is = σ → L2.wipe σ' is = σ) → st' = st → RSl X.K ads H ss' σ' → Q σ' H
      | _ => False) → t v σ H Q)
    (hs : ∀ d ss st ss' st', g d ss st = .ok ss' st' → st' = st)
    (ht : ∀ (s : Shared) (H : Hp) (C : Addr) (cl : List (Str × Addr)) (fp : List Addr), RIf (Blk X scope s H C cl fp) WF ifs mc)
    (he : ∀ (s : Shared) (H : Hp) (C : Addr) (cl : List (Str × Addr)) (fp : List Addr), RE (Blk X scope s H C cl fp) WF elt me) (hf : ∀ x, foldedSetIterable iter X.env x = pure x := by intro _; rfl) :
    RE X W (.ListComp elt [⟨tg, iter, ifs, 0⟩] scope pos) (eLc mi is g mc me) := by
  subst his
  exact ⟨fun pins s σ H Q I h => (pe_lc (tt := tM X.K X.mg WF rB mc) (te := tM X.K X.mg WF (rV X.K) me) hc hN hi ok hg (fun s H C cl fp => (ht s H C cl fp).pt) (fun s H C cl fp => he s H C cl fp) hf).run pins s σ H Q I (lc_read hr hs h)⟩
theorem rs_setLc {i : Nat} {y : Str} {py : Pos} {elt tg iter : Expr} {ifs : List Expr} {scope : Scope} {own : List (Str × Nat)} {is : List Nat} {pos spos : Pos} {mi : Sl → M Wk} {g : Tg} {mc : Sl → M Bool} {me : Ex} {t : TG} (hc : X.calm = true) (hN : X.N.Nodup) (hy : X.N[i]? = some y) (hyl : X.env.scope.names.lookup y = some .local)
    (hsw : swapsWith (.ListComp elt [⟨tg, iter, ifs, 0⟩] scope pos) (some (.Name y py)) spos.line X.env = pure true) (hi : RI X W tg iter mi) (ok : BlkOk X.N X.env.scope scope own) (his : own.map (·.2) = is)
    (hg : ∀ (s : Shared) (H : Hp) (C : Addr) (cl : List (Str × Addr)) (fp : List Addr), PG (Blk X scope s H C cl fp) tg t)
    (hr : ∀ {v : V} {σ : L2.St} {H : Hp} {Q : L2.St → Hp → Prop} {ads : List Addr} {ss : Sl} {d : DV} {st : Sto}, RSt X.K X.mg ads H st → RSl X.K ads H ss σ → RV X.K ads H d v →
      (match g d ss st with
      | .ok ss' st' => ∀ σ', (∀ σ0, L2.wipe σ0 is = σ → L2.wipe σ' is = σ) → st' = st → RSl X.K ads H ss' σ' → Q σ' H
      | _ => False) → t v σ H Q)
    (hs : ∀ d ss st ss' st', g d ss st = .ok ss' st' → st' = st)
    (ht : ∀ (s : Shared) (H : Hp) (C : Addr) (cl : List (Str × Addr)) (fp : List Addr), RIf (Blk X scope s H C cl fp) WF ifs mc)
    (he : ∀ (s : Shared) (H : Hp) (C : Addr) (cl : List (Str × Addr)) (fp : List Addr), RE (Blk X scope s H C cl fp) WF elt me) (hf : ∀ x, foldedSetIterable iter X.env x = pure x := by intro _; rfl) :
    RS X W (.Assign [.Name y py] (.ListComp elt [⟨tg, iter, ifs, 0⟩] scope pos) spos) (sSet i (eLc mi is g mc me)) := by
  subst his
  refine ⟨fun pins s σ H D I h => (ps_setLc (tt := tM X.K X.mg WF rB mc) (te := tM X.K X.mg WF (rV X.K) me) hc hN hy hyl hsw hi ok hg (fun s H C cl fp => (ht s H C cl fp).pt) (fun s H C cl fp => he s H C cl fp) hf).run pins s σ H D I ?_⟩
  refine lc_read hr hs ?_
  refine (tS.lft (R := rV X.K) (k := fun ss v => pur (.nx (ss.set i (some v)))) h).imp fun v H' ⟨ads, ss, d, st, R, L, r, p⟩ => ?_
  exact p ads H' _ .refl R (L.set i r)
end
/-- the two kinds of targets -/
theorem cr_name {K : PySem.W.Frag} {mg : Str → Option Value} {i : Nat} {v : V} {σ : L2.St} {H : Hp} {Q : L2.St → Hp → Prop} {ads : List Addr} {ss : Sl} {d : DV} {st : Sto} (R : RSt K mg ads H st) (L : RSl K ads H ss σ) (rv : RV K ads H d v)
    (h : match gNm i d ss st with
      | .ok ss' st' => ∀ σ', (∀ σ0, L2.wipe σ0 [i] = σ → L2.wipe σ' [i] = σ) → st' = st → RSl K ads H ss' σ' → Q σ' H
      | _ => False) : gName i v σ H Q := by
  have h : ∀ σ', (∀ σ0, L2.wipe σ0 [i] = σ → L2.wipe σ' [i] = σ) → st = st → RSl K ads H (ss.set i (some d)) σ' → Q σ' H := h
  refine h _ (fun σ0 e => ?_) rfl (L.set i rv)
  rw [← e, wipe_comm (by simp), wipe_wipe]
theorem cr_tup {K : PySem.W.Frag} {mg : Str → Option Value} {is own : List Nat} (ho : ∀ i ∈ is, i ∈ own) {v : V} {σ : L2.St} {H : Hp} {Q : L2.St → Hp → Prop} {ads : List Addr} {ss : Sl} {d : DV} {st : Sto} (R : RSt K mg ads H st) (L : RSl K ads H ss σ) (rv : RV K ads H d v)
    (h : match gTp is d ss st with
      | .ok ss' st' => ∀ σ', (∀ σ0, L2.wipe σ0 own = σ → L2.wipe σ' own = σ) → st' = st → RSl K ads H ss' σ' → Q σ' H
      | _ => False) : gTup K is.length (gAll is) v σ H Q := by
  cases rv with
  | @tup a xs vs hs rs =>
    simp only [gTp] at h
    by_cases hl : xs.length = is.length
    · rw [if_pos hl] at h
      refine ⟨a, vs, rfl, .of hs, by rw [← rs.length]; exact hl, gAll_of (by rw [← rs.length]; exact hl) ?_⟩
      have h : ∀ σ', (∀ σ0, L2.wipe σ0 own = σ → L2.wipe σ' own = σ) → st = st → RSl K ads H (setAll is xs ss) σ' → Q σ' H := h
      refine h _ (fun σ0 e => ?_) rfl (RSl.setAll rs L)
      rw [← e, wipe_setAll ho, wipe_wipe]
    · rw [if_neg hl] at h
      exact (h : False).elim
  | _ => exact (h : False).elim

/-! ### defs -/
def finish : Out Fl → Out DV
  | .ok (.nx _) st => .ok .non st
  | .ok (.rt v) st => .ok v st
  | .ok (.rs e _) st => .exc e st
  | _ => .bad
/-- a def of n parameters and N names -/
def fnM (n N : Nat) (body : Stt) : List DV → M DV := fun vs st => if vs.length = n then finish (body (vs.map some ++ List.replicate (N - n) none) st) else .bad
section
variable {P : Program} {w : World} {K : PySem.W.Frag} {mg : Str → Option Value} {base : Heap}
theorem fn_ok {x qual : Str} {st : Stmt} {f : Addr} {fd : FuncData} {N ps : List Str} {k : Nat} {body : Stt} (F : Fun K x qual st f fd) (S : FnScope N ps (defScope st))
    (hbody : ∀ (cdv : Value) (A : Around) (outer : List Env) (s : Shared) (H : Hp) (E : XK), Room k (A.deeper (envOfC qual (defScope st) s.heap.objs.size f cdv)) →
      RSs (cxOf (L2.CX P w) P w K mg base N qual (defScope st) f cdv A outer s H E) (fun cls d _ H => E cls d H) (defBody st) body) : FnOk P w K mg base (L2.CX P w) (k + 1) f fd ps (spM K mg (fnM ps.length N.length body)) := by
  refine F.okX S (fun vs H Q E h => ?_) fun cdv A outer s H vs Q E hr h => ⟨_, hbody cdv A outer s H E hr, ?_⟩
  · obtain ⟨ads, as, st, R, rv, p⟩ := h
    unfold fnM at p
    by_cases hl : as.length = ps.length
    · rw [← rv.length, hl]
    · rw [if_neg hl] at p
      exact p.elim
  · obtain ⟨ads, as, st0, R, rv, p⟩ := h
    unfold fnM at p
    by_cases hl : as.length = ps.length
    case neg => rw [if_neg hl] at p; exact p.elim
    rw [if_pos hl] at p
    refine ⟨ads, as.map some ++ List.replicate (N.length - ps.length) none, st0, R, ⟨?_, fun i d hi => ?_⟩, ?_⟩
    · unfold L2.start
      simp [rv.length, ← hl]
    · by_cases hi' : i < as.length
      · rw [List.getElem?_append_left (by simpa using hi'), List.getElem?_map] at hi
        cases e : as[i]? with
        | none => rw [e] at hi; cases hi
        | some d' =>
          rw [e] at hi
          cases hi
          obtain ⟨v, h1, h2⟩ := rv.get e
          refine ⟨v, ?_, h2⟩
          unfold L2.start
          rw [List.getElem?_append_left (by rw [List.length_map, ← rv.length]; exact hi'), List.getElem?_map, h1]
          rfl
      · rw [List.getElem?_append_right (by simpa using hi'), List.getElem?_replicate] at hi
        split at hi <;> cases hi
    · revert p
      generalize body (as.map some ++ List.replicate (N.length - ps.length) none) st0 = o
      intro p
      cases o with
      | ok fl st' =>
        cases fl with
        | nx ss => exact fun ads' H' σ' f R' L' => p ads' H' .non f R' .non
        | bk ss => exact (p : False).elim
        | ct ss => exact (p : False).elim
        | rt d => exact fun ads' H' v f R' r => p ads' H' v f R' r
        | rs e ss => exact fun ads' H' σ' c d f R' L' x => p ads' H' c d f R' x
      | exc e st' => exact (p : False).elim
      | bad => exact (p : False).elim
/-- no way at all -/
theorem fn_stuck {f : Addr} {fd : FuncData} {ps : List Str} {k : Nat} : FnOk P w K mg base (L2.CX P w) k f fd ps (spM K mg fun _ => stuck) :=
  ⟨fun vs H Q E ⟨ads, as, st, R, rv, p⟩ => (p : False).elim, fun A outer s H args us vs Q E hr he hb hv ⟨ads, as, st, R, rv, p⟩ => (p : False).elim⟩
end
end ML

/-! ML6: subscripts, slices, built-ins, a list's methods. -/
namespace ML
open PySem PySem.Spec PyProof.Rows L2
/-! ### dicts -/
def hGet : List (HK × DV) → HK → Option DV
  | [], _ => none
  | (k, v) :: r, h => if k = h then some v else hGet r h
def hSet : List (HK × DV) → HK → DV → List (HK × DV)
  | [], h, d => [(h, d)]
  | (k, v) :: r, h, d => if k = h then (k, d) :: r else (k, v) :: hSet r h d
def flatH : HK → Bool
  | .int _ => true
  | .str _ => true
  | _ => false
def tupH : HK → Bool
  | .tup ks => ks.all flatH
  | _ => false
/-- one kind of keys alone -/
def kindOk (kvs : List (HK × DV)) (h : HK) : Bool := match kvs with
  | [] => flatH h || tupH h
  | (k, _) :: _ => (flatH k && flatH h) || (tupH k && tupH h)
theorem flatH_key {h : HK} (f : flatH h = true) : ∃ k : Key, h = hK k := by
  cases h with
  | int i => exact ⟨.inl i, rfl⟩
  | str x => exact ⟨.inr x, rfl⟩
  | _ => cases f
theorem flatHs_keys : ∀ {hs : List HK}, hs.all flatH = true → ∃ ks : List Key, hs = ks.map hK
  | [], _ => ⟨[], rfl⟩
  | h :: hs, f => by
    rw [List.all_cons, Bool.and_eq_true] at f
    obtain ⟨k, rfl⟩ := flatH_key f.1
    obtain ⟨ks, rfl⟩ := flatHs_keys f.2
    exact ⟨k :: ks, rfl⟩
theorem hK_inj {a b : Key} (h : hK a = hK b) : a = b := by
  cases a <;> cases b <;> cases h <;> rfl
theorem hKs_inj : ∀ {a b : List Key}, a.map hK = b.map hK → a = b
  | [], [], _ => rfl
  | [], _ :: _, h => by cases h
  | _ :: _, [], h => by cases h
  | x :: xs, y :: ys, h => by
    rw [List.map_cons, List.map_cons] at h
    injection h with h1 h2
    rw [hK_inj h1, hKs_inj h2]
def RelD (K : PySem.W.Frag) (ads : List Addr) (H : Hp) : Option DV → Option V → Prop
  | some d, some v => RV K ads H d v
  | none, none => True
  | _, _ => False
section
variable {K : PySem.W.Frag} {mg : Str → Option Value} {ads : List Addr} {H : Hp}
theorem RKs.get {k : Key} : ∀ {kvs : List (HK × DV)} {vs : List (Key × V)}, RKs K ads H kvs vs → RelD K ads H (hGet kvs (hK k)) (valV vs k)
  | _, _, .nil => True.intro
  | (h, d) :: kvs, (j, v) :: vs, .cons q r => by
    obtain ⟨h1, h2⟩ := q
    have h1 : h = hK j := h1
    subst h1
    unfold hGet
    by_cases e : j = k
    · subst e
      rw [if_pos rfl, valV_pos rfl]
      exact h2
    · rw [if_neg (fun z => e (hK_inj z)), valV_neg e]
      exact RKs.get r
theorem RTs.get {k : List Key} : ∀ {kvs : List (HK × DV)} {vs : List (List Key × V)}, RTs K ads H kvs vs → RelD K ads H (hGet kvs (.tup (k.map hK))) (valV vs k)
  | _, _, .nil => True.intro
  | (h, d) :: kvs, (j, v) :: vs, .cons q r => by
    obtain ⟨h1, h2⟩ := q
    have h1 : h = .tup (j.map hK) := h1
    subst h1
    unfold hGet
    by_cases e : j = k
    · subst e
      rw [if_pos rfl, valV_pos rfl]
      exact h2
    · rw [if_neg (fun z => e (hKs_inj (HK.tup.inj z))), valV_neg e]
      exact RTs.get r
theorem putK_cons_eq {κ : Type} [DecidableEq κ] {k : κ} {v w : V} {r : List (κ × V)} (nd : ((k, v) :: r).map (·.1) |>.Nodup) : putK ((k, v) :: r) k w = (k, w) :: r := by
  unfold putK
  rw [if_pos (by simp)]
  rw [List.map_cons, if_pos rfl]
  congr 1
  have : ∀ p ∈ r, (if p.1 = k then (p.1, w) else p) = p := fun p hp => by
    rw [if_neg]
    intro e
    rw [List.map_cons, List.nodup_cons] at nd
    have q : p.1 ∈ r.map (·.1) := List.mem_map_of_mem hp
    rw [e] at q
    exact nd.1 q
  rw [List.map_congr_left this, List.map_id']
theorem putK_cons_ne {κ : Type} [DecidableEq κ] {k j : κ} {v w : V} {r : List (κ × V)} (e : ¬ j = k) : putK ((j, v) :: r) k w = (j, v) :: putK r k w := by
  unfold putK
  rw [List.any_cons, decide_eq_false e, Bool.false_or]
  split
  · rw [List.map_cons, if_neg e]
  · rfl
theorem RKs.put {k : Key} {d : DV} {v : V} (rv : RV K ads H d v) : ∀ {kvs : List (HK × DV)} {vs : List (Key × V)}, (vs.map (·.1)).Nodup → RKs K ads H kvs vs → RKs K ads H (hSet kvs (hK k) d) (putK vs k v)
  | _, _, _, .nil => .cons ⟨rfl, rv⟩ .nil
  | (h, x) :: kvs, (j, w) :: vs, nd, .cons q r => by
    obtain ⟨h1, h2⟩ := q
    have h1 : h = hK j := h1
    subst h1
    unfold hSet
    by_cases e : j = k
    · subst e
      rw [if_pos rfl, putK_cons_eq nd]
      exact .cons ⟨rfl, rv⟩ r
    · rw [if_neg (fun z => e (hK_inj z)), putK_cons_ne e]
      exact .cons ⟨rfl, h2⟩ (RKs.put rv (List.nodup_cons.mp nd).2 r)
theorem RTs.put {k : List Key} {d : DV} {v : V} (rv : RV K ads H d v) : ∀ {kvs : List (HK × DV)} {vs : List (List Key × V)}, (vs.map (·.1)).Nodup → RTs K ads H kvs vs → RTs K ads H (hSet kvs (.tup (k.map hK)) d) (putK vs k v)
  | _, _, _, .nil => .cons ⟨rfl, rv⟩ .nil
  | (h, x) :: kvs, (j, w) :: vs, nd, .cons q r => by
    obtain ⟨h1, h2⟩ := q
    have h1 : h = .tup (j.map hK) := h1
    subst h1
    unfold hSet
    by_cases e : j = k
    · subst e
      rw [if_pos rfl, putK_cons_eq nd]
      exact .cons ⟨rfl, rv⟩ r
    · rw [if_neg (fun z => e (hKs_inj (HK.tup.inj z))), putK_cons_ne e]
      exact .cons ⟨rfl, h2⟩ (RTs.put rv (List.nodup_cons.mp nd).2 r)
theorem RKs.any {j : Nat} : ∀ {vs : List (Key × V)} {kvs : List (HK × DV)}, RKs K ads H kvs vs → ∀ p ∈ kvs, flatH p.1 = true
  | _, _, .nil, p, hp => by simp at hp
  | (k, v) :: vs, (h, d) :: kvs, .cons q r, p, hp => by
    rcases List.mem_cons.mp hp with e | hp
    · subst e
      have h1 : h = hK k := q.1
      subst h1
      cases k <;> rfl
    · exact RKs.any (j := j) r p hp
theorem kOf_flat {d : DV} {h : HK} (e : kOf d = some h) {v : V} (r : RV K ads H d v) (f : flatH h = true) : ∃ k : Key, h = hK k ∧ v = kV k := by
  cases r with
  | int i => cases e; exact ⟨.inl i, rfl, rfl⟩
  | str x => cases e; exact ⟨.inr x, rfl, rfl⟩
  | non => cases e; cases f
  | tup hs rs =>
    simp only [kOf, Option.map_eq_some_iff] at e
    obtain ⟨a, _, e⟩ := e
    subst e
    cases f
  | _ => cases e
theorem kOfs_flat : ∀ {ds : List DV} {hs : List HK} {vs : List V}, kOfs ds = some hs → RVs K ads H ds vs → hs.all flatH = true → ∃ ks : List Key, hs = ks.map hK ∧ vs = ks.map kV
  | _, _, _, e, .nil, _ => by cases e; exact ⟨[], rfl, rfl⟩
  | d :: ds, hs, _, e, .cons h r, f => by
    simp only [kOfs] at e
    obtain ⟨h0, e1, e⟩ := Option.bind_eq_some_iff.mp e
    obtain ⟨hs', e2, e⟩ := Option.map_eq_some_iff.mp e
    subst e
    rw [List.all_cons, Bool.and_eq_true] at f
    obtain ⟨k, rfl, rfl⟩ := kOf_flat e1 h f.1
    obtain ⟨ks, rfl, rfl⟩ := kOfs_flat e2 r f.2
    exact ⟨k :: ks, rfl, rfl⟩
theorem kOf_tup {d : DV} {h : HK} (e : kOf d = some h) {v : V} (r : RV K ads H d v) (f : tupH h = true) : ∃ (ks : List Key) (b : Addr), h = .tup (ks.map hK) ∧ v = .ref b ∧ H b = some (.tup (ks.map kV)) := by
  cases r with
  | int i => cases e; cases f
  | str x => cases e; cases f
  | non => cases e; cases f
  | @tup a xs vs hs rs =>
    simp only [kOf, Option.map_eq_some_iff] at e
    obtain ⟨hs', e1, e⟩ := e
    subst e
    obtain ⟨ks, rfl, rfl⟩ := kOfs_flat e1 rs f
    exact ⟨ks, a, rfl, rfl, hs⟩
  | _ => cases e
end
theorem Inv.toT {X : Cx} {pins : List (Addr × Obj)} {σ : L2.St} {H : Hp} {s : Shared} {a : Addr} (I : Inv X pins σ H s) (e : H a = some (.dK [])) : Inv X pins σ (upd H a (.dT [])) s := by
  obtain ⟨z, hd, vs, rel, dd⟩ := dk_of I.hok e
  cases rel
  obtain ⟨o, es, ep, h1, h2, h3, h4, h5, _⟩ := dd
  have hes : es.toList = [] := by
    cases q : es.toList with
    | nil => rfl
    | cons x r => rw [q] at h5; cases h5
  exact d_write (t' := s.toks) I (by rw [e]; exact True.intro) ⟨rfl, fun _ _ => rfl⟩ ⟨o, h1⟩ ⟨Nat.zero_le _, hd, [], .nil, o, es, ep, h1, h2, h3, by rw [hes]; rfl, List.nodup_nil⟩
theorem Inv.toK {X : Cx} {pins : List (Addr × Obj)} {σ : L2.St} {H : Hp} {s : Shared} {a : Addr} (I : Inv X pins σ H s) (e : H a = some (.dT [])) : Inv X pins σ (upd H a (.dK [])) s := by
  obtain ⟨z, hd, xs, rel, dd⟩ := dt_of I.hok e
  cases rel
  obtain ⟨o, es, ep, h1, h2, h3, h4, _⟩ := dd
  have hes : es.toList = [] := by simpa using h4
  refine d_write (t' := s.toks) I (by rw [e]; exact True.intro) ⟨rfl, fun _ _ => rfl⟩ ⟨o, h1⟩ ⟨Nat.zero_le _, hd, [], .nil, o, es, ep, h1, h2, h3, fun x hx => ?_, by rw [hes]; exact .nil, List.nodup_nil⟩
  rw [← Array.mem_toList_iff, hes] at hx
  cases hx
theorem KV.keys {κ : Type} : ∀ {kvs : List (κ × V)} {vs : List (κ × Value)}, KV kvs vs → kvs.map (·.1) = vs.map (·.1)
  | _, _, .nil => rfl
  | p :: ps, q :: qs, .cons h r => by rw [List.map_cons, List.map_cons, h.1, KV.keys r]
theorem KT.keys {H : Hp} : ∀ {kvs : List (List Key × V)} {vs : List (List Key × Addr × Value)}, KT H kvs vs → kvs.map (·.1) = vs.map (·.1)
  | _, _, .nil => rfl
  | p :: ps, q :: qs, .cons h r => by rw [List.map_cons, List.map_cons, h.1, KT.keys r]
/-- the dict of a handle at a key -/
theorem dict_at {X : Cx} {pins : List (Addr × Obj)} {σ : L2.St} {H : Hp} {s : Shared} {ads : List Addr} {st : Sto} {k : Nat} {a : Addr} {kvs : List (HK × DV)} {dy : DV} {y : V} {h : HK} (I : Inv X pins σ H s) (R : RSt X.K X.mg ads H st) (hk : ads[k]? = some a) (e1 : st[k]? = some (.dic kvs)) (ry : RV X.K ads H dy y) (e2 : kOf dy = some h) (ko : kindOk kvs h = true) :
    ∃ H2 o, Inv X pins σ H2 s ∧ RSt X.K X.mg ads H2 st ∧ Fut ads H ads H2 ∧ DGet H2 a y o ∧ RelD X.K ads H2 (hGet kvs h) o ∧ IsD H2 a ∧
      ∀ d v, kvs.length < sizeLine → RV X.K ads H2 d v → ∃ H3, DPut H2 a y v H3 ∧ Fut ads H2 ads H3 ∧ RSt X.K X.mg ads H3 (st.set k (.dic (hSet kvs h d))) := by
  have ro := R.ob k a _ hk e1
  have flat : ∀ {H2 : Hp} {vs : List (Key × V)}, Inv X pins σ H2 s → RSt X.K X.mg ads H2 st → Fut ads H ads H2 → H2 a = some (.dK vs) → RKs X.K ads H2 kvs vs → flatH h = true → ∃ H2 o, Inv X pins σ H2 s ∧ RSt X.K X.mg ads H2 st ∧ Fut ads H ads H2 ∧ DGet H2 a y o ∧ RelD X.K ads H2 (hGet kvs h) o ∧ IsD H2 a ∧
      ∀ d v, kvs.length < sizeLine → RV X.K ads H2 d v → ∃ H3, DPut H2 a y v H3 ∧ Fut ads H2 ads H3 ∧ RSt X.K X.mg ads H3 (st.set k (.dic (hSet kvs h d))) := by
    intro H2 vs I2 R2 fu e rk f
    obtain ⟨kk, rfl, rfl⟩ := kOf_flat e2 ry f
    refine ⟨H2, _, I2, R2, fu, .k e, rk.get, .inl ⟨vs, .inl e⟩, fun d v hl rv => ⟨_, .k e (by rw [← Paired.length rk]; exact hl), R2.write hk, R2.set hk (.inl ⟨_, upd_same, ?_⟩)⟩⟩
    obtain ⟨_, _, ws, rel, dd⟩ := dk_of I2.hok e
    obtain ⟨_, _, _, _, _, _, _, _, nd⟩ := dd
    have nd' : (vs.map (·.1)).Nodup := by rw [KV.keys rel]; exact nd
    have fw := R2.write (o := .dK (putK vs kk v)) hk
    exact RKs.put (rv.mono fw) nd' (rk.mono2 fw.pre fw.kp)
  have tupl : ∀ {H2 : Hp} {vs : List (List Key × V)}, Inv X pins σ H2 s → RSt X.K X.mg ads H2 st → Fut ads H ads H2 → H2 a = some (.dT vs) → RTs X.K ads H2 kvs vs → tupH h = true → ∃ H2 o, Inv X pins σ H2 s ∧ RSt X.K X.mg ads H2 st ∧ Fut ads H ads H2 ∧ DGet H2 a y o ∧ RelD X.K ads H2 (hGet kvs h) o ∧ IsD H2 a ∧
      ∀ d v, kvs.length < sizeLine → RV X.K ads H2 d v → ∃ H3, DPut H2 a y v H3 ∧ Fut ads H2 ads H3 ∧ RSt X.K X.mg ads H3 (st.set k (.dic (hSet kvs h d))) := by
    intro H2 vs I2 R2 fu e rk f
    obtain ⟨kk, b, rfl, rfl, eb⟩ := kOf_tup e2 (ry.mono fu) f
    refine ⟨H2, _, I2, R2, fu, .t e eb, rk.get, .inr ⟨vs, .inl e⟩, fun d v hl rv => ⟨_, .t e eb (by rw [← Paired.length rk]; exact hl), R2.write hk, R2.set hk (.inr ⟨_, upd_same, ?_⟩)⟩⟩
    obtain ⟨_, _, ws, rel, dd⟩ := dt_of I2.hok e
    obtain ⟨_, _, _, _, _, _, _, _, nd⟩ := dd
    have nd' : (vs.map (·.1)).Nodup := by rw [KT.keys rel]; exact nd
    have fw := R2.write (o := .dT (putK vs kk v)) hk
    exact RTs.put (rv.mono fw) nd' (rk.mono2 fw.pre fw.kp)
  rcases ro with ⟨vs, hv, rk⟩ | ⟨vs, hv, rk⟩
  · cases hf : flatH h with
    | true => exact flat I R .refl hv rk hf
    | false =>
      have e0 : kvs = [] := by
        cases kvs with
        | nil => rfl
        | cons p r =>
          have fp := RKs.any (j := 0) rk p List.mem_cons_self
          have tp : tupH p.1 = false := by
            cases q : p.1 <;> rw [q] at fp <;> first | rfl | cases fp
          simp [kindOk, hf, tp] at ko
      subst e0
      cases rk
      have ht : tupH h = true := by simpa [kindOk, hf] using ko
      have fw := R.write (o := .dT []) hk
      have R2 : RSt X.K X.mg ads (upd H a (.dT [])) (st.set k (.dic [])) := R.set hk (.inr ⟨[], upd_same, .nil⟩)
      have es : st.set k (.dic []) = st := by
        obtain ⟨l1, l2⟩ := List.getElem?_eq_some_iff.mp e1
        rw [← l2]
        exact List.set_getElem_self l1
      rw [es] at R2
      exact tupl (Inv.toT I hv) R2 fw upd_same .nil ht
  · cases hf : tupH h with
    | true => exact tupl I R .refl hv rk hf
    | false =>
      have e0 : kvs = [] := by
        cases kvs with
        | nil => rfl
        | cons p r =>
          cases rk with
          | cons q _ =>
            have q1 := q.1
            simp [kindOk, hf, q1, flatH] at ko
      subst e0
      cases rk
      have ht : flatH h = true := by simpa [kindOk, hf] using ko
      have fw := R.write (o := .dK []) hk
      have R2 : RSt X.K X.mg ads (upd H a (.dK [])) (st.set k (.dic [])) := R.set hk (.inl ⟨[], upd_same, .nil⟩)
      have es : st.set k (.dic []) = st := by
        obtain ⟨l1, l2⟩ := List.getElem?_eq_some_iff.mp e1
        rw [← l2]
        exact List.set_getElem_self l1
      rw [es] at R2
      exact flat (Inv.toK I hv) R2 fw upd_same .nil ht
/-! ### subscripts -/
def optD (o : Option DV) : M DV := fun st => match o with
  | some d => .ok d st
  | none => .bad
def ixM : DV → DV → M DV
  | .tup xs, .int i => optD (atI xs i)
  | .ktp xs, .int i => optD (atI xs i)
  | .fzl xs, .int i => optD (atI xs i)
  | .ref k, y => fun st => match st[k]? with
    | some (.lst xs) => match y with
      | .int i => optD (atI xs i) st
      | _ => .bad
    | some (.dic kvs) => optD ((kOf y).bind fun h => if kindOk kvs h = true then hGet kvs h else none) st
    | _ => .bad
  | .str z, .int i => fun st => if z.length ≤ sizeLine then optD ((atI z.cps.toList i).map fun c => .str ⟨#[c]⟩) st else .bad
  | _, _ => stuck
theorem RVs.atI {K : PySem.W.Frag} {ads : List Addr} {H : Hp} {xs : List DV} {vs : List V} {i : Int} {d : DV} (r : RVs K ads H xs vs) (h : L2.atI xs i = some d) : ∃ v, L2.atI vs i = some v ∧ RV K ads H d v := by
  unfold L2.atI at h ⊢
  rw [← r.length]
  cases e : ixN xs.length i with
  | none => rw [e] at h; cases h
  | some j =>
    rw [e] at h
    exact r.get h
def IxM (X : Cx) (g : DV → DV → M DV) : Prop :=
  ∀ (value slice : Expr) (pins : List (Addr × Obj)) (s : Shared) (σ : L2.St) (H : Hp) (x y : V) (v u : Value) (Q : VK) (ads : List Addr) (dx dy : DV) (st : Sto) (W : WX), Inv X pins σ H s → RSt X.K X.mg ads H st → RV X.K ads H dx x → RV X.K ads H dy y → RelV x v → RelV y u →
    post X.K X.mg W (rV X.K) σ ads H (g dx dy st) Q → subscripted slice false v u = operate [v, u] (getItem v u) → wpAny (model X.prog X.w) X.A (subscriptTail value slice v u) (EP X pins σ Q) X.xe s
theorem optD_ok {K : PySem.W.Frag} {mg : Str → Option Value} {W : WX} {σ : L2.St} {ads : List Addr} {H : Hp} {st : Sto} {Q : VK} {o : Option DV} (h : post K mg W (rV K) σ ads H (optD o st) Q) : ∃ d, o = some d ∧ post K mg W (rV K) σ ads H (.ok d st) Q := by
  cases o with
  | none => exact (h : False).elim
  | some d => exact ⟨d, rfl, h⟩
theorem ixm {X : Cx} (hu : X.A.units + 1 < cLine) : IxM X ixM := by
  intro value slice pins s σ H x y v u Q ads dx dy st W I R hx hy rx ry h hs
  have sq : rIx X.K x y H Q → wpAny (model X.prog X.w) X.A (subscriptTail value slice v u) (EP X pins σ Q) X.xe s := fun z => ix_seq value slice pins s σ H x y v u Q I rx ry z hs
  cases hx with
  | @tup a xs vs hs rs =>
    cases hy with
    | int i =>
      obtain ⟨d, e, h⟩ := optD_ok h
      obtain ⟨w, h1, h2⟩ := rs.atI e
      exact sq (.inr (.inl ⟨a, vs, i, w, rfl, rfl, .of hs, h1, h.ok R h2⟩))
    | _ => exact (h : False).elim
  | @ktp a xs vs hs rs =>
    cases hy with
    | int i =>
      obtain ⟨d, e, h⟩ := optD_ok h
      obtain ⟨w, h1, h2⟩ := rs.atI e
      exact sq (.inr (.inl ⟨a, vs, i, w, rfl, rfl, hs, h1, h.ok R h2⟩))
    | _ => exact (h : False).elim
  | @fzl a xs vs hs rs =>
    cases hy with
    | int i =>
      obtain ⟨d, e, h⟩ := optD_ok h
      obtain ⟨w, h1, h2⟩ := rs.atI e
      exact sq (.inl ⟨a, vs, i, w, rfl, rfl, hs.sq, h1, h.ok R h2⟩)
    | _ => exact (h : False).elim
  | @ref k a hk =>
    simp only [ixM] at h
    split at h
    · rename_i xs e1
      obtain ⟨vs, hv, rs⟩ := R.list hk e1
      cases hy with
      | int i =>
        obtain ⟨d, e, h⟩ := optD_ok h
        obtain ⟨w, h1, h2⟩ := rs.atI e
        exact sq (.inl ⟨a, vs, i, w, rfl, rfl, .of hv, h1, h.ok R h2⟩)
      | _ => exact (h : False).elim
    · rename_i kvs e1
      obtain ⟨d, e, h⟩ := optD_ok h
      obtain ⟨hk', e2, e⟩ := Option.bind_eq_some_iff.mp e
      by_cases ko : kindOk kvs hk' = true
      case neg => rw [if_neg ko] at e; cases e
      rw [if_pos ko] at e
      obtain ⟨H2, o, I2, R2, fu, g, ro, isd, _⟩ := dict_at I R hk e1 hy e2 ko
      rw [e] at ro
      cases o with
      | none => exact ro.elim
      | some w =>
        cases (show v = Value.ref a from rx)
        exact tail_any (dict_typeIs I2 g) PySem.F.slot_dict_getitem.lookup (d_getItem hu I2 g ry fun w' s' I' r' => ⟨w, H2, I', r', h ads H2 w fu R2 ro⟩) hs
    · exact h.elim
  | str z =>
    cases hy with
    | int i =>
      simp only [ixM] at h
      split at h
      · rename_i hz
        obtain ⟨d, e, h⟩ := optD_ok h
        cases e1 : L2.atI z.cps.toList i with
        | none => rw [e1] at e; cases e
        | some c =>
          rw [e1] at e
          cases e
          exact sq (.inr (.inr ⟨z, i, c, rfl, rfl, hz, e1, h.ok R (.str _)⟩))
      · exact h.elim
    | _ => exact (h : False).elim
  | _ => cases hy <;> exact (h : False).elim
/-- a part of a slice -/
def pNo : Sl → M (Option Int) := fun _ => pur none
def pSm (m : Ex) : Sl → M (Option Int) := fun ss => bnd (m ss) fun d => match d with
  | .int i => pur (some i)
  | _ => stuck
def cutD (xs : List DV) (lo hi : Option Int) : List DV := (xs.drop (HT.sIx xs.length 0 lo)).take (HT.sIx xs.length xs.length hi - HT.sIx xs.length 0 lo)
def slM (d : DV) (lo hi : Option Int) : M DV := fun st => match d with
  | .tup xs => .ok (.tup (cutD xs lo hi)) st
  | .fzl xs => alloc (.lst (cutD xs lo hi)) st
  | .ref k => match st[k]? with
    | some (.lst xs) => alloc (.lst (cutD xs lo hi)) st
    | _ => .bad
  | .str z => if z.length ≤ sizeLine then .ok (.str (cutS z lo hi)) st else .bad
  | _ => .bad
def eSl (m : Ex) (lo hi : Sl → M (Option Int)) : Ex := fun ss => bnd (m ss) fun d => bnd (lo ss) fun l => bnd (hi ss) fun h => slM d l h
abbrev rO : List Addr → Hp → Option Int → Option Int → Prop := fun _ _ a b => a = b
def RO' (X : Cx) (W : WX) (e : Option Expr) (m : Sl → M (Option Int)) : Prop := PO X e (tM X.K X.mg W rO m)
theorem RVs.cut {K : PySem.W.Frag} {ads : List Addr} {H : Hp} {xs : List DV} {vs : List V} {lo hi : Option Int} (r : RVs K ads H xs vs) : RVs K ads H (cutD xs lo hi) (cutV vs lo hi) := by
  unfold cutD cutV
  rw [r.length]
  exact (r.drop _).take _
section
variable {X : Cx} {W : WX} {a b e : Expr} {ma mb m : Ex} {pos p2 : Pos}
theorem re_ix {g : DV → DV → M DV} (hg : IxM X g) (ha : RE X W a ma) (hb : RE X W b mb) (hs : PlainIx b := by exact fun _ _ => rfl) : RE X W (.Subscript a b pos) (eOp g ma mb) := ⟨fun pins s σ H Q I h => by
  obtain ⟨ads, ss, st, R, L, p⟩ := h
  have h1 : tM X.K X.mg W (rV X.K) ma σ H _ := ⟨ads, ss, st, R, L, (post.bind (R := rV X.K) p).mono fun x H1 ⟨ads1, dx, st1, fu1, R1, r1, p1⟩ =>
    (show tM X.K X.mg W (rV X.K) mb σ H1 _ from ⟨ads1, ss, st1, R1, L.mono fu1, (post.bind (R := rV X.K) p1).mono fun y H2 ⟨ads2, dy, st2, fu2, R2, r2, p2⟩ => (show ∃ ads dx dy st, RSt X.K X.mg ads H2 st ∧ RV X.K ads H2 dx x ∧ RV X.K ads H2 dy y ∧ post X.K X.mg W (rV X.K) σ ads H2 (g dx dy st) Q from ⟨ads2, dx, dy, st2, R2, r1.mono fu2, r2, p2⟩)⟩)⟩
  exact Subscript_ (binT ha hb I h1 fun v u s2 x y H2 I2 rx ry ⟨ads, dx, dy, st, R, h1, h2, p⟩ => hg a b pins s2 σ H2 x y v u Q ads dx dy st W I2 R h1 h2 rx ry p (hs _ _))⟩
theorem ro_no : RO' X W none pNo := ⟨fun pins s σ H Q I h => po_none.run pins s σ H Q I (by
  obtain ⟨ads, ss, st, R, L, p⟩ := h
  exact p.ok R rfl)⟩
theorem ro_sm (h : RE X W e m) : RO' X W (some e) (pSm m) := ⟨fun pins s σ H Q I hq => (po_some h).run pins s σ H Q I (by
  refine (tM.bind (R := rV X.K) (f := fun _ d => match d with
    | .int i => pur (some i)
    | _ => stuck) hq).imp fun x H' ⟨ads, ss, d, st, R, L, r, p⟩ => ?_
  cases r with
  | int i => exact ⟨i, rfl, p.ok R rfl⟩
  | _ => exact (p : False).elim)⟩
theorem re_slice {lo hi : Option Expr} {ml mh : Sl → M (Option Int)} (he : RE X W e m) (hl : RO' X W lo ml) (hh : RO' X W hi mh) : RE X W (.Subscript e (.Slice lo hi none p2) pos) (eSl m ml mh) := ⟨fun pins s σ H Q I h => by
  have hr : SlR X (fun x lo hi H Q => rSlL X.K x lo hi H Q ∨ (rSlA X.K x lo hi H Q ∨ rSlS x lo hi H Q)) := sl_list.or (sl_tupA.or sl_str)
  refine (pe_slice hr he hl hh).run pins s σ H Q I ?_
  obtain ⟨ads, ss, st, R, L, p⟩ := h
  refine ⟨ads, ss, st, R, L, (post.bind (R := rV X.K) p).mono fun x H1 ⟨ads1, dx, st1, fu1, R1, r1, p1⟩ => ?_⟩
  refine ⟨ads1, ss, st1, R1, L.mono fu1, (post.bind (R := rO) p1).mono fun l H2 ⟨ads2, l', st2, fu2, R2, r2, p2⟩ => ?_⟩
  refine ⟨ads2, ss, st2, R2, (L.mono fu1).mono fu2, (post.bind (R := rO) p2).mono fun u H3 ⟨ads3, u', st3, fu3, R3, r3, p3⟩ => ?_⟩
  cases r2; cases r3
  have r1 := (r1.mono fu2).mono fu3
  cases r1 with
  | @tup a xs vs hs rs =>
    refine .inr (.inl ⟨a, vs, rfl, .of hs, fun ⟨e1, e2⟩ => ?_, fun _ q hq => post.newT R3 rs.cut p3 hq⟩)
    have e : cutD xs l u = xs := by
      unfold cutD
      rw [rs.length, e1, e2, ← rs.length]
      simp
    have p3 : post X.K X.mg W (rV X.K) σ ads3 H3 (.ok (.tup (cutD xs l u)) st3) Q := p3
    rw [e] at p3
    exact p3.ok R3 (.tup hs rs)
  | @fzl a xs vs hs rs => exact .inl ⟨a, vs, rfl, hs.sq, fun q hq => post.newL R3 rs.cut p3 hq⟩
  | @ref k a hk =>
    simp only [slM] at p3
    split at p3
    · rename_i xs e1
      obtain ⟨vs, hv, rs⟩ := R3.list hk e1
      exact .inl ⟨a, vs, rfl, .of hv, fun q hq => post.newL R3 rs.cut p3 hq⟩
    · exact p3.elim
  | str z =>
    simp only [slM] at p3
    split at p3
    · exact .inr (.inr ⟨z, rfl, by assumption, p3.ok R3 (.str _)⟩)
    · exact p3.elim
  | _ => exact (p3 : False).elim⟩
end

/-! ### built-ins -/
def lenM : List DV → M DV
  | [.tup xs] => pur (.int xs.length)
  | [.ktp xs] => pur (.int xs.length)
  | [.fzl xs] => pur (.int xs.length)
  | [.str z] => fun st => if z.length ≤ sizeLine then .ok (.int z.length) st else .bad
  | [.ref k] => fun st => match st[k]? with
    | some (.lst xs) => .ok (.int xs.length) st
    | some (.dic kvs) => .ok (.int kvs.length) st
    | _ => .bad
  | _ => stuck
def absM : List DV → M DV
  | [.int i] => pur (.int (if i < 0 then -i else i))
  | _ => stuck
def max2M : List DV → M DV
  | [.int i, .int j] => pur (.int (if j > i then j else i))
  | _ => stuck
def min2M : List DV → M DV
  | [.int i, .int j] => pur (.int (if j < i then j else i))
  | _ => stuck
def intM : List DV → M DV
  | [.int i] => pur (.int i)
  | [.bl b] => pur (.int (if b then 1 else 0))
  | _ => stuck
def listM : List DV → M DV
  | [.tup xs] => alloc (.lst xs)
  | [.fzl xs] => alloc (.lst xs)
  | [.ref k] => fun st => match st[k]? with
    | some (.lst xs) => alloc (.lst xs) st
    | _ => .bad
  | _ => stuck
def tupleM : List DV → M DV
  | [.tup xs] => pur (.tup xs)
  | [.fzl xs] => pur (.tup xs)
  | [.ref k] => fun st => match st[k]? with
    | some (.lst xs) => .ok (.tup xs) st
    | _ => .bad
  | _ => stuck
def intsD : List DV → Option (List Int)
  | [] => some []
  | .int i :: r => (intsD r).map (i :: ·)
  | _ :: _ => none
def blsD : List DV → Option (List Bool)
  | [] => some []
  | .bl i :: r => (blsD r).map (i :: ·)
  | _ :: _ => none
def itemsM (d : DV) (st : Sto) : Option (List DV) := match d with
  | .fzl xs => some xs
  | .ref k => match st[k]? with
    | some (.lst xs) => some xs
    | _ => none
  | _ => none
def sumM : List DV → M DV
  | [d] => fun st => match (itemsM d st).bind intsD with
    | some ns => .ok (.int ns.sum) st
    | none => .bad
  | _ => stuck
def allM : List DV → M DV
  | [d] => fun st => match (itemsM d st).bind blsD with
    | some bs => .ok (.bl (bs.all id)) st
    | none => .bad
  | _ => stuck
def anyM : List DV → M DV
  | [d] => fun st => match (itemsM d st).bind blsD with
    | some bs => .ok (.bl (bs.any id)) st
    | none => .bad
  | _ => stuck
def greatest : List Int → Int
  | [] => 0
  | [x] => x
  | x :: r => if x < greatest r then greatest r else x
def least : List Int → Int
  | [] => 0
  | [x] => x
  | x :: r => if least r < x then least r else x
theorem greatest_ge : ∀ {ns : List Int} {x : Int}, x ∈ ns → x ≤ greatest ns
  | [y], x, h => by simp at h; subst h; exact Int.le_refl _
  | y :: z :: r, x, h => by
    unfold greatest
    rcases List.mem_cons.mp h with h | h
    · subst h; split <;> omega
    · have := greatest_ge h; split <;> omega
theorem least_le : ∀ {ns : List Int} {x : Int}, x ∈ ns → least ns ≤ x
  | [y], x, h => by simp at h; subst h; exact Int.le_refl _
  | y :: z :: r, x, h => by
    unfold least
    rcases List.mem_cons.mp h with h | h
    · subst h; split <;> omega
    · have := least_le h; split <;> omega
theorem greatest_mem : ∀ {ns : List Int}, 0 < ns.length → greatest ns ∈ ns
  | [y], _ => List.mem_cons_self
  | y :: z :: r, _ => by
    unfold greatest
    split
    · exact List.mem_cons_of_mem _ (greatest_mem (by simp))
    · exact List.mem_cons_self
theorem least_mem : ∀ {ns : List Int}, 0 < ns.length → least ns ∈ ns
  | [y], _ => List.mem_cons_self
  | y :: z :: r, _ => by
    unfold least
    split
    · exact List.mem_cons_of_mem _ (least_mem (by simp))
    · exact List.mem_cons_self
def max1M : List DV → M DV
  | [d] => fun st => match (itemsM d st).bind intsD with
    | some (n :: ns) => .ok (.int (greatest (n :: ns))) st
    | _ => .bad
  | _ => stuck
def min1M : List DV → M DV
  | [d] => fun st => match (itemsM d st).bind intsD with
    | some (n :: ns) => .ok (.int (least (n :: ns))) st
    | _ => .bad
  | _ => stuck
/-- of what built-in type -/
def tyD (d : DV) (st : Sto) : Option String := match d with
  | .non => some "NoneType"
  | .bl _ => some "bool"
  | .int _ => some "int"
  | .str _ => some "str"
  | .tup _ => some "tuple"
  | .ktp _ => some "tuple"
  | .fzl _ => some "list"
  | .ref k => match st[k]? with
    | some (.lst _) => some "list"
    | some (.dic _) => some "dict"
    | _ => none
  | .ty _ => none
  | .exn _ _ _ _ => none
def isTy (t n : String) : Bool := t == n || (t == "bool" && n == "int")
def knownTy (n : String) : Bool := ["int", "bool", "str", "tuple", "list", "dict"].contains n
def isiM : List DV → M DV
  | [d, .ty n] => fun st => match tyD d st with
    | some t => if knownTy n = true then .ok (.bl (isTy t n)) st else .bad
    | none => .bad
  | _ => stuck
section
variable {X : Cx}
theorem cm_len : CallM X (.builtin "len") lenM := by
  intro pins s σ H vs us Q ads as st W I R rv r h
  unfold lenM at h
  split at h
  · obtain ⟨v, rfl, hv⟩ := rv.one
    cases hv with
    | tup hs rs =>
      refine call_len_seq pins s σ H _ us Q I r ⟨_, _, rfl, .inr (.of hs), ?_⟩
      rw [← rs.length]
      exact post.ok h R (.int _)
  · obtain ⟨v, rfl, hv⟩ := rv.one
    cases hv with
    | ktp hs rs =>
      refine call_len_seq pins s σ H _ us Q I r ⟨_, _, rfl, .inr hs, ?_⟩
      rw [← rs.length]
      exact post.ok h R (.int _)
  · obtain ⟨v, rfl, hv⟩ := rv.one
    cases hv with
    | fzl hs rs =>
      refine call_len_seq pins s σ H _ us Q I r ⟨_, _, rfl, .inl hs.sq, ?_⟩
      rw [← rs.length]
      exact post.ok h R (.int _)
  · obtain ⟨v, rfl, hv⟩ := rv.one
    cases hv
    split at h
    · exact call_len_str pins s σ H _ us Q I r ⟨_, rfl, by assumption, h.ok R (.int _)⟩
    · exact h.elim
  · obtain ⟨v, rfl, hv⟩ := rv.one
    cases hv with
    | ref hk =>
      split at h
      · rename_i xs e1
        obtain ⟨ws, hw, rs⟩ := R.list hk e1
        refine call_len_seq pins s σ H _ us Q I r ⟨_, _, rfl, .inl (.of hw), ?_⟩
        rw [← rs.length]
        exact post.ok h R (.int _)
      · rename_i kvs e1
        rcases R.ob _ _ _ hk e1 with ⟨ws, hw, rs⟩ | ⟨ws, hw, rs⟩
        · refine call_lenD pins s σ H _ us Q I r ⟨_, ws, rfl, hw, ?_⟩
          rw [← Paired.length rs]
          exact post.ok h R (.int _)
        · refine call_len_dT pins s σ H _ us Q I r ⟨_, ws, rfl, hw, ?_⟩
          rw [← Paired.length rs]
          exact post.ok h R (.int _)
      · exact h.elim
  · exact (h : False).elim
theorem cm_abs : CallM X (.builtin "abs") absM := by
  intro pins s σ H vs us Q ads as st W I R rv r h
  unfold absM at h
  split at h
  · obtain ⟨v, rfl, hv⟩ := rv.one
    cases hv
    exact call_abs pins s σ H _ us Q I r ⟨_, rfl, post.ok h R (.int _)⟩
  · exact (h : False).elim
theorem cm_max2 (hc : X.calm = true) : CallM X (.builtin "max") max2M := by
  intro pins s σ H vs us Q ads as st W I R rv r h
  unfold max2M at h
  split at h
  · obtain ⟨v, v', rfl, hv, hv'⟩ := rv.two
    cases hv; cases hv'
    exact call_max2 hc pins s σ H _ us Q I r ⟨_, _, rfl, post.ok h R (.int _)⟩
  · exact (h : False).elim
theorem cm_min2 (hc : X.calm = true) : CallM X (.builtin "min") min2M := by
  intro pins s σ H vs us Q ads as st W I R rv r h
  unfold min2M at h
  split at h
  · obtain ⟨v, v', rfl, hv, hv'⟩ := rv.two
    cases hv; cases hv'
    exact call_min2 hc pins s σ H _ us Q I r ⟨_, _, rfl, post.ok h R (.int _)⟩
  · exact (h : False).elim
theorem cm_int : CallM X (.type "int") intM := by
  intro pins s σ H vs us Q ads as st W I R rv r h
  unfold intM at h
  split at h
  · obtain ⟨v, rfl, hv⟩ := rv.one
    cases hv
    exact call_int1 pins s σ H _ us Q I r (.inl ⟨_, rfl, post.ok h R (.int _)⟩)
  · obtain ⟨v, rfl, hv⟩ := rv.one
    cases hv
    exact call_int1 pins s σ H _ us Q I r (.inr ⟨_, rfl, post.ok h R (.int _)⟩)
  · exact (h : False).elim
theorem cm_list : CallM X (.type "list") listM := by
  intro pins s σ H vs us Q ads as st W I R rv r h
  unfold listM at h
  split at h
  · obtain ⟨v, rfl, hv⟩ := rv.one
    cases hv with
    | tup hs rs => exact call_list_of pins s σ H _ us Q I r ⟨_, _, rfl, .inr (.of hs), fun l hl => post.newL R rs h hl⟩
  · obtain ⟨v, rfl, hv⟩ := rv.one
    cases hv with
    | fzl hs rs => exact call_list_of pins s σ H _ us Q I r ⟨_, _, rfl, .inl hs.sq, fun l hl => post.newL R rs h hl⟩
  · obtain ⟨v, rfl, hv⟩ := rv.one
    cases hv with
    | ref hk =>
      split at h
      · rename_i xs e1
        obtain ⟨ws, hw, rs⟩ := R.list hk e1
        exact call_list_of pins s σ H _ us Q I r ⟨_, _, rfl, .inl (.of hw), fun l hl => post.newL R rs h hl⟩
      · exact h.elim
  · exact (h : False).elim
theorem cm_tuple : CallM X (.type "tuple") tupleM := by
  intro pins s σ H vs us Q ads as st W I R rv r h
  unfold tupleM at h
  split at h
  · obtain ⟨v, rfl, hv⟩ := rv.one
    cases hv with
    | tup hs rs => exact call_tuple_of pins s σ H _ us Q I r ⟨_, _, rfl, .inr ⟨.of hs, post.ok h R (.tup hs rs)⟩⟩
  · obtain ⟨v, rfl, hv⟩ := rv.one
    cases hv with
    | fzl hs rs => exact call_tuple_of pins s σ H _ us Q I r ⟨_, _, rfl, .inl ⟨hs.sq, fun l hl => post.newT R rs h hl⟩⟩
  · obtain ⟨v, rfl, hv⟩ := rv.one
    cases hv with
    | ref hk =>
      split at h
      · rename_i xs e1
        obtain ⟨ws, hw, rs⟩ := R.list hk e1
        exact call_tuple_of pins s σ H _ us Q I r ⟨_, _, rfl, .inl ⟨.of hw, fun l hl => post.newT R rs h hl⟩⟩
      · exact h.elim
  · exact (h : False).elim
theorem items_sq {K : PySem.W.Frag} {mg : Str → Option Value} {ads : List Addr} {H : Hp} {st : Sto} (R : RSt K mg ads H st) {d : DV} {v : V} {xs : List DV} (r : RV K ads H d v) (h : itemsM d st = some xs) : ∃ a vs, v = .ref a ∧ SqL K H a vs ∧ RVs K ads H xs vs := by
  cases r with
  | fzl hs rs =>
    cases h
    exact ⟨_, _, rfl, hs.sq, rs⟩
  | ref hk =>
    simp only [itemsM] at h
    split at h
    · rename_i ys e1
      cases h
      obtain ⟨ws, hw, rs⟩ := R.list hk e1
      exact ⟨_, _, rfl, .of hw, rs⟩
    · cases h
  | _ => cases h
theorem ints_vs {K : PySem.W.Frag} {ads : List Addr} {H : Hp} : ∀ {xs : List DV} {vs : List V} {ns : List Int}, RVs K ads H xs vs → intsD xs = some ns → vs = ns.map V.int
  | _, _, _, .nil, e => by cases e; rfl
  | x :: xs, v :: vs, ns, .cons h r, e => by
    cases h with
    | int i =>
      simp only [intsD] at e
      cases e1 : intsD xs with
      | none => rw [e1] at e; cases e
      | some ms =>
        rw [e1] at e
        cases e
        rw [ints_vs r e1]
        rfl
    | _ => cases e
theorem bls_vs {K : PySem.W.Frag} {ads : List Addr} {H : Hp} : ∀ {xs : List DV} {vs : List V} {ns : List Bool}, RVs K ads H xs vs → blsD xs = some ns → vs = ns.map V.bl
  | _, _, _, .nil, e => by cases e; rfl
  | x :: xs, v :: vs, ns, .cons h r, e => by
    cases h with
    | bl i =>
      simp only [blsD] at e
      cases e1 : blsD xs with
      | none => rw [e1] at e; cases e
      | some ms =>
        rw [e1] at e
        cases e
        rw [bls_vs r e1]
        rfl
    | _ => cases e
theorem items_ints {K : PySem.W.Frag} {mg : Str → Option Value} {ads : List Addr} {H : Hp} {st : Sto} (R : RSt K mg ads H st) {d : DV} {v : V} {ns : List Int} (r : RV K ads H d v) (h : (itemsM d st).bind intsD = some ns) : ∃ a, v = .ref a ∧ SqL K H a (ns.map V.int) := by
  cases e : itemsM d st with
  | none => rw [e] at h; cases h
  | some xs =>
    rw [e] at h
    obtain ⟨a, vs, h1, h2, h3⟩ := items_sq R r e
    have h4 := ints_vs h3 h
    subst h4
    exact ⟨a, h1, h2⟩
theorem items_bls {K : PySem.W.Frag} {mg : Str → Option Value} {ads : List Addr} {H : Hp} {st : Sto} (R : RSt K mg ads H st) {d : DV} {v : V} {ns : List Bool} (r : RV K ads H d v) (h : (itemsM d st).bind blsD = some ns) : ∃ a, v = .ref a ∧ SqL K H a (ns.map V.bl) := by
  cases e : itemsM d st with
  | none => rw [e] at h; cases h
  | some xs =>
    rw [e] at h
    obtain ⟨a, vs, h1, h2, h3⟩ := items_sq R r e
    have h4 := bls_vs h3 h
    subst h4
    exact ⟨a, h1, h2⟩
theorem cm_sum (hc : X.calm = true) : CallM X (.builtin "sum") sumM := by
  intro pins s σ H vs us Q ads as st W I R rv r h
  unfold sumM at h
  split at h
  · obtain ⟨v, rfl, hv⟩ := rv.one
    split at h
    · rename_i ns e
      obtain ⟨a, rfl, hs⟩ := items_ints R hv e
      exact cr_sum hc pins s σ H _ us Q I r ⟨a, ns, rfl, hs, h.ok R (.int _)⟩
    · exact h.elim
  · exact (h : False).elim
theorem cm_all (hc : X.calm = true) : CallM X (.builtin "all") allM := by
  intro pins s σ H vs us Q ads as st W I R rv r h
  unfold allM at h
  split at h
  · obtain ⟨v, rfl, hv⟩ := rv.one
    split at h
    · rename_i ns e
      obtain ⟨a, rfl, hs⟩ := items_bls R hv e
      exact cr_all hc pins s σ H _ us Q I r ⟨a, ns, rfl, hs, h.ok R (.bl _)⟩
    · exact h.elim
  · exact (h : False).elim
theorem cm_any (hc : X.calm = true) : CallM X (.builtin "any") anyM := by
  intro pins s σ H vs us Q ads as st W I R rv r h
  unfold anyM at h
  split at h
  · obtain ⟨v, rfl, hv⟩ := rv.one
    split at h
    · rename_i ns e
      obtain ⟨a, rfl, hs⟩ := items_bls R hv e
      exact cr_any hc pins s σ H _ us Q I r ⟨a, ns, rfl, hs, h.ok R (.bl _)⟩
    · exact h.elim
  · exact (h : False).elim
theorem cm_max1 (hc : X.calm = true) : CallM X (.builtin "max") max1M := by
  intro pins s σ H vs us Q ads as st W I R rv r h
  unfold max1M at h
  split at h
  · obtain ⟨v, rfl, hv⟩ := rv.one
    split at h
    · rename_i n ns e
      obtain ⟨a, rfl, hs⟩ := items_ints R hv e
      refine cr_max hc pins s σ H _ us Q I r ⟨a, n :: ns, rfl, hs, by simp, fun m hm hle => ?_⟩
      have e1 : m = greatest (n :: ns) := Int.le_antisymm (greatest_ge hm) (hle _ (greatest_mem (by simp)))
      rw [e1]
      exact h.ok R (.int _)
    · exact h.elim
  · exact (h : False).elim
theorem cm_min1 (hc : X.calm = true) : CallM X (.builtin "min") min1M := by
  intro pins s σ H vs us Q ads as st W I R rv r h
  unfold min1M at h
  split at h
  · obtain ⟨v, rfl, hv⟩ := rv.one
    split at h
    · rename_i n ns e
      obtain ⟨a, rfl, hs⟩ := items_ints R hv e
      refine cr_min hc pins s σ H _ us Q I r ⟨a, n :: ns, rfl, hs, by simp, fun m hm hle => ?_⟩
      have e1 : m = least (n :: ns) := Int.le_antisymm (hle _ (least_mem (by simp))) (least_le hm)
      rw [e1]
      exact h.ok R (.int _)
    · exact h.elim
  · exact (h : False).elim
theorem tyD_tyX {K : PySem.W.Frag} {mg : Str → Option Value} {ads : List Addr} {H : Hp} {st : Sto} (R : RSt K mg ads H st) {d : DV} {v : V} {t : String} (r : RV K ads H d v) (h : tyD d st = some t) : TyX K H v (.type t) := by
  cases r with
  | non => cases h; exact .base .non
  | bl b => cases h; exact .base (.bl b)
  | int i => cases h; exact .base (.int i)
  | str x => cases h; exact .base (.str x)
  | @tup a xs vs hs rs =>
    cases h
    exact .base (.tup hs)
  | @ktp a xs vs hs rs =>
    cases h
    rcases hs with (hs | ⟨o, hs⟩) | ⟨o, its, n, hk, hc, _⟩
    · exact .base (.tup hs)
    · exact .fTuple hs
    · exact .kTuple hk hc
  | @fzl a xs vs hs rs =>
    cases h
    rcases hs with ⟨o, hs⟩ | ⟨o, its, n, hk, hc, _⟩
    · exact .base (.frz hs)
    · exact .kList hk hc
  | @ref k a hk =>
    simp only [tyD] at h
    split at h
    · rename_i xs e
      cases h
      obtain ⟨vs, hv, _⟩ := R.list hk e
      exact .base (.lst hv)
    · rename_i kvs e
      cases h
      rcases R.ob k a _ hk e with ⟨vs, hv, _⟩ | ⟨vs, hv, _⟩
      · exact .base (.dK hv)
      · exact .base (.dT hv)
    · cases h
  | ty n => cases h
  | exn0 a => cases h
  | exn1 => cases h
theorem kit_all : (["NoneType", "bool", "int", "str", "tuple", "list", "dict"].all fun t => ["int", "bool", "str", "tuple", "list", "dict"].all fun n => kitB t n == some (isTy t n)) = true := by decide +kernel
theorem tyD_mem {d : DV} {st : Sto} {t : String} (h : tyD d st = some t) : t ∈ ["NoneType", "bool", "int", "str", "tuple", "list", "dict"] := by
  unfold tyD at h
  split at h <;> first | (cases h; simp) | (split at h <;> first | (cases h; simp) | cases h) | cases h
theorem cm_isi : CallM X (.builtin "isinstance") isiM := by
  intro pins s σ H vs us Q ads as st W I R rv r h
  unfold isiM at h
  split at h
  · rename_i d n
    obtain ⟨v, v', rfl, hv, hv'⟩ := rv.two
    split at h
    · rename_i t e
      split at h
      · rename_i kn
        cases hv'
        have e2 : kitB t n = some (isTy t n) := by
          have z := List.all_eq_true.mp (List.all_eq_true.mp kit_all t (tyD_mem e)) n (by simpa [knownTy] using kn)
          exact eq_of_beq z
        exact call_isi pins s σ H _ us Q I r ⟨v, .ty n, _, _, _, rfl, .ty n, tyD_tyX R hv e, kit_ty e2, h.ok R (.bl _)⟩
      · exact h.elim
    · exact h.elim
  · exact (h : False).elim
end

/-! ### methods of built-in types -/
def MtMM (X : Cx) (T id : String) (g : DV → List DV → M DV) : Prop :=
  ∀ (pins : List (Addr × Obj)) (s : Shared) (σ : L2.St) (H : Hp) (x : V) (vs : List V) (v : Value) (us : List Value) (Q : VK) (ads : List Addr) (d : DV) (as : List DV) (st : Sto) (W : WX), Inv X pins σ H s → RSt X.K X.mg ads H st → RV X.K ads H d x → RVs X.K ads H as vs → RelV x v → Vals vs us →
    post X.K X.mg W (rV X.K) σ ads H (g d as st) Q → wpAny (model X.prog X.w) X.A (call (.builtin id) (v :: us)) (EP X pins σ Q) X.xe s
/-- o's type, ahead of the arguments -/
def isT (T : String) (d : DV) (st : Sto) : Bool := tyD d st == some T
def eMt (T : String) (g : DV → List DV → M DV) (m : Ex) (ms : List Ex) : Ex := fun ss => bnd (m ss) fun d st => if isT T d st = true then bnd (eArgs ms ss) (g d) st else .bad
theorem tyV_of {K : PySem.W.Frag} {mg : Str → Option Value} {ads : List Addr} {H : Hp} {st : Sto} (R : RSt K mg ads H st) {d : DV} {v : V} {T : String} (hT : T ≠ "tuple") (h1 : T ≠ "NoneType") (h2 : T ≠ "bool") (r : RV K ads H d v) (h : isT T d st = true) : tyV K T v H := by
  have h : tyD d st = some T := eq_of_beq h
  cases r with
  | non => cases h; exact (h1 rfl).elim
  | bl b => cases h; exact (h2 rfl).elim
  | int i => cases h; rfl
  | str x => cases h; rfl
  | tup hs rs => cases h; exact (hT rfl).elim
  | ktp hs rs => cases h; exact (hT rfl).elim
  | fzl hs rs => cases h; exact .inl ⟨rfl, _, hs.sq⟩
  | ref hk =>
    simp only [tyD] at h
    split at h
    · rename_i xs e
      cases h
      obtain ⟨vs, hv, _⟩ := R.list hk e
      exact .inl ⟨rfl, vs, .of hv⟩
    · rename_i kvs e
      cases h
      rcases R.ob _ _ _ hk e with ⟨vs, hv, _⟩ | ⟨vs, hv, _⟩
      · exact .inr (.inr (.inl ⟨rfl, .inl ⟨vs, hv⟩⟩))
      · exact .inr (.inr (.inl ⟨rfl, .inr ⟨vs, hv⟩⟩))
    · cases h
  | ty n => cases h
  | exn0 a => cases h
  | exn1 => cases h
section
variable {X : Cx} {W : WX} {o e : Expr} {es : List Expr} {m : Ex} {ms : List Ex} {name : Str} {apos cpos : Pos} {T id : String} {g : DV → List DV → M DV}
theorem re_mt (pa : PlainAttrs T) (slot : Slot T name id) (hty : typeOf (.builtin id) = pure (.type "method_descriptor")) (hm : MtMM X T id g) (hT : T ≠ "tuple" := by decide) (h1 : T ≠ "NoneType" := by decide) (h2 : T ≠ "bool" := by decide) (ho : RE X W o m) (ha : RA X W (e :: es) ms)
    (hbase : attributeBase o name X.env (eval o X.env) = eval o X.env := by rfl)
    (hfew : ((backTo cpos (starEach (e :: es) X.env)).all (fun x => !x.1) && (backToKw cpos (keywordEach [] X.env)).all (fun x => x.1.isSome)
      && decide ((e :: es).length + ([] : List Keyword).length + (if ([] : List Keyword).isEmpty then 0 else 1) < 30)) = true := by rfl)
    (hline : (apos.endLine == cpos.line) = true := by rfl) (hs : starEach (e :: es) X.env = (false, eval e X.env) :: starEach es X.env := by rfl) (hplain : (backTo cpos (starEach es X.env)).any (·.1) = false := by rfl) :
    RE X W (.Call (.Attribute o name apos) (e :: es) [] cpos) (eMt T g m ms) := ⟨fun pins s σ H Q I h => by
  refine (pe_bm (r := fun x vs H2 Q => ∃ ads d as st, RSt X.K X.mg ads H2 st ∧ RV X.K ads H2 d x ∧ RVs X.K ads H2 as vs ∧ post X.K X.mg (fun cls d _ H => W cls d σ H) (rV X.K) σ ads H2 (g d as st) Q) pa slot hty (fun pins s σ' H x vs v us Q I rx rs ⟨ads, d, as, st, R, rd, ra, p⟩ => hm pins s σ' H x vs v us Q ads d as st (fun cls d _ H => W cls d σ H) I R rd ra rx rs (p.wish fun _ _ _ z => z)) ho ha hbase hfew hline hs hplain).run pins s σ H Q I ?_
  obtain ⟨ads, ss, st, R, L, p⟩ := h
  refine ⟨ads, ss, st, R, L, (post.bind (R := rV X.K) p).mono fun x H1 ⟨ads1, d, st1, fu1, R1, r1, p1⟩ => ?_⟩
  by_cases ht : isT T d st1 = true
  case neg => rw [if_neg ht] at p1; exact p1.elim
  rw [if_pos ht] at p1
  refine ⟨tyV_of R1 hT h1 h2 r1 ht, ads1, ss, st1, R1, L.mono fu1, (post.bind (R := rVs X.K) p1).mono fun vs H2 ⟨ads2, as, st2, fu2, R2, r2, p2⟩ => ?_⟩
  exact ⟨ads2, d, as, st2, R2, r1.mono fu2, r2, p2.wish fun _ _ _ z => z⟩⟩
theorem re_mt0 (pa : PlainAttrs T) (slot : Slot T name id) (hty : typeOf (.builtin id) = pure (.type "method_descriptor")) (hm : MtMM X T id g) (hT : T ≠ "tuple" := by decide) (h1 : T ≠ "NoneType" := by decide) (h2 : T ≠ "bool" := by decide) (ho : RE X W o m)
    (hbase : attributeBase o name X.env (eval o X.env) = eval o X.env := by rfl) (hline : (apos.endLine == cpos.line) = true := by rfl) :
    RE X W (.Call (.Attribute o name apos) [] [] cpos) (eMt T g m []) := ⟨fun pins s σ H Q I h => by
  refine (pe_bm0 (r := fun x vs H2 Q => ∃ ads d as st, RSt X.K X.mg ads H2 st ∧ RV X.K ads H2 d x ∧ RVs X.K ads H2 as vs ∧ post X.K X.mg (fun cls d _ H => W cls d σ H) (rV X.K) σ ads H2 (g d as st) Q) pa slot hty (fun pins s σ' H x vs v us Q I rx rs ⟨ads, d, as, st, R, rd, ra, p⟩ => hm pins s σ' H x vs v us Q ads d as st (fun cls d _ H => W cls d σ H) I R rd ra rx rs (p.wish fun _ _ _ z => z)) ho hbase hline).run pins s σ H Q I ?_
  obtain ⟨ads, ss, st, R, L, p⟩ := h
  refine ⟨ads, ss, st, R, L, (post.bind (R := rV X.K) p).mono fun x H1 ⟨ads1, d, st1, fu1, R1, r1, p1⟩ => ?_⟩
  by_cases ht : isT T d st1 = true
  case neg => rw [if_neg ht] at p1; exact p1.elim
  rw [if_pos ht] at p1
  exact ⟨tyV_of R1 hT h1 h2 r1 ht, ads1, d, [], st1, R1, r1, .nil, p1.wish fun _ _ _ z => z⟩⟩
end

/-! ### a list's methods -/
/-- the list of a handle, changed -/
def onL (d : DV) (f : List DV → Option (DV × List DV)) : M DV := fun st => match d with
  | .ref k => match st[k]? with
    | some (.lst xs) => match f xs with
      | some (r, ys) => .ok r (st.set k (.lst ys))
      | none => .bad
    | _ => .bad
  | _ => .bad
def appendM (d : DV) (as : List DV) : M DV := match as with
  | [y] => onL d fun xs => if xs.length < sizeLine then some (.non, xs ++ [y]) else none
  | _ => stuck
def extendM (d : DV) (as : List DV) : M DV := match as with
  | [.ref l] => fun st => match st[l]? with
    | some (.lst ys) => onL d (fun xs => if xs.length + ys.length ≤ sizeLine then some (.non, xs ++ ys) else none) st
    | _ => .bad
  | _ => stuck
def popM (d : DV) (as : List DV) : M DV := match as with
  | [] => onL d fun xs => (xs[xs.length - 1]?).map fun y => (y, xs.dropLast)
  | [.int i] => onL d fun xs => if -(2 ^ 63) ≤ i ∧ i < 2 ^ 63 then (ixN xs.length i).bind fun k => (xs[k]?).map fun y => (y, xs.eraseIdx k) else none
  | _ => stuck
def insertM (d : DV) (as : List DV) : M DV := match as with
  | [.int i, y] => onL d fun xs => if xs.length < sizeLine ∧ 0 ≤ i ∧ i < 2 ^ 63 then some (.non, xs.take i.toNat ++ [y] ++ xs.drop i.toNat) else none
  | _ => stuck
def reverseM (d : DV) (as : List DV) : M DV := match as with
  | [] => onL d fun xs => some (.non, xs.reverse)
  | _ => stuck
def clearM (d : DV) (as : List DV) : M DV := match as with
  | [] => onL d fun xs => some (.non, [])
  | _ => stuck
theorem onL_ok {K : PySem.W.Frag} {mg : Str → Option Value} {W : WX} {σ : L2.St} {ads : List Addr} {H : Hp} {st : Sto} {d : DV} {x : V} {f : List DV → Option (DV × List DV)} {Q : VK} (R : RSt K mg ads H st) (rd : RV K ads H d x) (h : post K mg W (rV K) σ ads H (onL d f st) Q) :
    ∃ l xs vs r ys, x = .ref l ∧ H l = some (.lst vs) ∧ RVs K ads H xs vs ∧ f xs = some (r, ys) ∧ ∀ ws v, RVs K ads H ys ws → (∀ H', Kp H H' → RV K ads H' r v) → Q v (upd H l (.lst ws)) := by
  cases rd with
  | @ref k a hk =>
    simp only [onL] at h
    split at h
    · rename_i xs e1
      obtain ⟨vs, hv, rs⟩ := R.list hk e1
      split at h
      · rename_i r ys e2
        refine ⟨a, xs, vs, r, ys, rfl, hv, rs, e2, fun ws v hw hr => ?_⟩
        have fu := R.write (o := .lst ws) hk
        exact h ads _ v fu (R.set hk ⟨ws, upd_same, hw.mono fu⟩) (hr _ fu.kp)
      · exact h.elim
    · exact h.elim
  | _ => exact (h : False).elim
section
variable {X : Cx}
theorem mm_append : MtMM X "list" "list.append" appendM := by
  intro pins s σ H x vs v us Q ads d as st W I R rd ra rx rs h
  unfold appendM at h
  split at h
  · obtain ⟨w, rfl, hw⟩ := ra.one
    obtain ⟨l, xs, ws, r, ys, rfl, hl, hr, hf, hq⟩ := onL_ok R rd h
    split at hf
    · cases hf
      exact mt_append pins s σ H _ _ v us Q I rx rs ⟨l, ws, w, rfl, rfl, hl, by rw [← hr.length]; assumption, hq _ _ (hr.append (.cons hw .nil)) fun _ _ => .non⟩
    · cases hf
  · exact (h : False).elim
theorem mm_extend : MtMM X "list" "list.extend" extendM := by
  intro pins s σ H x vs v us Q ads d as st W I R rd ra rx rs h
  unfold extendM at h
  split at h
  · obtain ⟨w, rfl, hw⟩ := ra.one
    cases hw with
    | ref hk =>
      split at h
      · rename_i zs e1
        obtain ⟨us', hu, hrz⟩ := R.list hk e1
        obtain ⟨l, xs, ws, r, ys, rfl, hl, hr, hf, hq⟩ := onL_ok R rd h
        split at hf
        · cases hf
          exact mt_extend pins s σ H _ _ v us Q I rx rs ⟨l, _, ws, us', rfl, rfl, hl, hu, by rw [← hr.length, ← hrz.length]; assumption, hq _ _ (hr.append hrz) fun _ _ => .non⟩
        · cases hf
      · exact h.elim
  · exact (h : False).elim
theorem ixN_get {K : PySem.W.Frag} {ads : List Addr} {H : Hp} {xs : List DV} {ws : List V} (hr : RVs K ads H xs ws) {k : Nat} {y : DV} (h : xs[k]? = some y) : ∃ w, ws[k]? = some w ∧ RV K ads H y w := hr.get h
theorem mm_pop : MtMM X "list" "list.pop" popM := by
  intro pins s σ H x vs v us Q ads d as st W I R rd ra rx rs h
  unfold popM at h
  split at h
  · cases ra
    obtain ⟨l, xs, ws, r, ys, rfl, hl, hr, hf, hq⟩ := onL_ok R rd h
    cases e : xs[xs.length - 1]? with
    | none => rw [e] at hf; cases hf
    | some y =>
      rw [e] at hf
      cases hf
      obtain ⟨w, h1, h2⟩ := hr.get e
      exact mt_pop pins s σ H _ _ v us Q I rx rs ⟨l, ws, w, rfl, rfl, hl, by rw [← hr.length]; exact h1, hq _ _ hr.dropLast fun _ k => h2.mono2 (.refl _) k⟩
  · obtain ⟨w, rfl, hw⟩ := ra.one
    cases hw
    obtain ⟨l, xs, ws, r, ys, rfl, hl, hr, hf, hq⟩ := onL_ok R rd h
    split at hf
    · rename_i hi
      rename_i i
      cases e : ixN xs.length i with
      | none => rw [e] at hf; cases hf
      | some k =>
        rw [e] at hf
        cases e2 : xs[k]? with
        | none => rw [Option.bind_some, e2] at hf; cases hf
        | some y =>
          rw [Option.bind_some, e2] at hf
          cases hf
          obtain ⟨w, h1, h2⟩ := hr.get e2
          have e3 := (ixN_seq (n := ws.length) (by rw [← hr.length]; exact e)).1
          exact mt_popAt pins s σ H _ _ v us Q I rx rs ⟨l, ws, i, k, w, rfl, rfl, hl, hi.1, hi.2, e3, h1, hq _ _ (hr.eraseIdx k) fun _ kp => h2.mono2 (.refl _) kp⟩
    · cases hf
  · exact (h : False).elim
theorem mm_insert : MtMM X "list" "list.insert" insertM := by
  intro pins s σ H x vs v us Q ads d as st W I R rd ra rx rs h
  unfold insertM at h
  split at h
  · obtain ⟨u, w, rfl, hu, hw⟩ := ra.two
    cases hu
    obtain ⟨l, xs, ws, r, ys, rfl, hl, hr, hf, hq⟩ := onL_ok R rd h
    split at hf
    · rename_i hi
      cases hf
      exact mt_insert pins s σ H _ _ v us Q I rx rs ⟨l, ws, _, w, rfl, rfl, hl, by rw [← hr.length]; exact hi.1, hi.2.1, hi.2.2, hq _ _ (((hr.take _).append (.cons hw .nil)).append (hr.drop _)) fun _ _ => .non⟩
    · cases hf
  · exact (h : False).elim
theorem mm_reverse : MtMM X "list" "list.reverse" reverseM := by
  intro pins s σ H x vs v us Q ads d as st W I R rd ra rx rs h
  unfold reverseM at h
  split at h
  · cases ra
    obtain ⟨l, xs, ws, r, ys, rfl, hl, hr, hf, hq⟩ := onL_ok R rd h
    cases hf
    exact mt_reverse pins s σ H _ _ v us Q I rx rs ⟨l, ws, rfl, rfl, hl, hq _ _ hr.reverse fun _ _ => .non⟩
  · exact (h : False).elim
theorem mm_clear : MtMM X "list" "list.clear" clearM := by
  intro pins s σ H x vs v us Q ads d as st W I R rd ra rx rs h
  unfold clearM at h
  split at h
  · cases ra
    obtain ⟨l, xs, ws, r, ys, rfl, hl, hr, hf, hq⟩ := onL_ok R rd h
    cases hf
    exact mt_clear pins s σ H _ _ v us Q I rx rs ⟨l, ws, rfl, rfl, hl, hq _ _ .nil fun _ _ => .non⟩
  · exact (h : False).elim
end
end ML

/-! ML7: dicts' methods, stores, augmented stores, own classes. -/
namespace ML
open PySem PySem.Spec PyProof.Rows L2
/-! ### in, for dicts too -/
noncomputable def inX (x y : DV) : M DV := fun st => match y with
  | .ref k => match st[k]? with
    | some (.dic kvs) => match kOf x with
      | some h => if kindOk kvs h = true then .ok (.bl (hGet kvs h).isSome) st else .bad
      | none => .bad
    | _ => inM x y st
  | _ => inM x y st
noncomputable def ninX (x y : DV) : M DV := fun st => match y with
  | .ref k => match st[k]? with
    | some (.dic kvs) => match kOf x with
      | some h => if kindOk kvs h = true then .ok (.bl (!(hGet kvs h).isSome)) st else .bad
      | none => .bad
    | _ => ninM x y st
  | _ => ninM x y st
theorem RelD.isSome {K : PySem.W.Frag} {ads : List Addr} {H : Hp} {a : Option DV} {b : Option V} (r : RelD K ads H a b) : a.isSome = b.isSome := by
  cases a <;> cases b <;> first | rfl | exact r.elim
section
variable {X : Cx}
theorem opm_inX (hu : X.A.units + 65 < cLine) : OpM X (compareOp .In) inX := by
  intro pins s σ H x y v u Q ads dx dy st W I R hx hy rx ry h
  unfold inX at h
  split at h
  · rename_i k
    cases hy with
    | @ref _ a hk =>
      split at h
      · rename_i kvs e1
        split at h
        · rename_i hh e2
          split at h
          · rename_i ko
            obtain ⟨H2, o, I2, R2, fu, g, ro, isd, _⟩ := dict_at I R hk e1 hx e2 ko
            cases (show u = Value.ref a from ry)
            refine d_in (by omega) I2 g rx fun s' I' => ⟨.bl o.isSome, H2, I', rfl, ?_⟩
            rw [← ro.isSome]
            exact h ads H2 _ fu R2 (.bl _)
          · exact h.elim
        · exact h.elim
      · exact opm_in hu pins s σ H x _ v u Q ads dx _ st W I R hx (.ref hk) rx ry h
  · exact opm_in hu pins s σ H x y v u Q ads dx dy st W I R hx hy rx ry h
theorem opm_ninX (hu : X.A.units + 65 < cLine) : OpM X (compareOp .NotIn) ninX := by
  intro pins s σ H x y v u Q ads dx dy st W I R hx hy rx ry h
  unfold ninX at h
  split at h
  · rename_i k
    cases hy with
    | @ref _ a hk =>
      split at h
      · rename_i kvs e1
        split at h
        · rename_i hh e2
          split at h
          · rename_i ko
            obtain ⟨H2, o, I2, R2, fu, g, ro, isd, _⟩ := dict_at I R hk e1 hx e2 ko
            cases (show u = Value.ref a from ry)
            refine d_notIn (by omega) I2 g rx fun s' I' => ⟨.bl (!o.isSome), H2, I', rfl, ?_⟩
            rw [← ro.isSome]
            exact h ads H2 _ fu R2 (.bl _)
          · exact h.elim
        · exact h.elim
      · exact opm_nin hu pins s σ H x _ v u Q ads dx _ st W I R hx (.ref hk) rx ry h
  · exact opm_nin hu pins s σ H x y v u Q ads dx dy st W I R hx hy rx ry h
end

/-! ### a dict's methods -/
def onD (d : DV) (y : DV) (f : List (HK × DV) → HK → M DV) : M DV := fun st => match d with
  | .ref k => match st[k]? with
    | some (.dic kvs) => match kOf y with
      | some h => if kindOk kvs h = true then f kvs h st else .bad
      | none => .bad
    | _ => .bad
  | _ => .bad
def dgetM (d : DV) (as : List DV) : M DV := match as with
  | [y] => onD d y fun kvs h => pur ((hGet kvs h).getD .non)
  | [y, z] => onD d y fun kvs h => pur ((hGet kvs h).getD z)
  | _ => stuck
def setdefM (d : DV) (as : List DV) : M DV := match as with
  | [y, z] => fun st => match d with
    | .ref k => onD d y (fun kvs h st => match hGet kvs h with
      | some w => .ok w st
      | none => if kvs.length < sizeLine then .ok z (st.set k (.dic (hSet kvs h z))) else .bad) st
    | _ => .bad
  | _ => stuck
theorem onD_at {X : Cx} {pins : List (Addr × Obj)} {σ : L2.St} {H : Hp} {s : Shared} {ads : List Addr} {st : Sto} {d y : DV} {x w : V} {W : WX} {f : List (HK × DV) → HK → M DV} {Q : VK} (I : Inv X pins σ H s) (R : RSt X.K X.mg ads H st) (rd : RV X.K ads H d x) (ry : RV X.K ads H y w) (h : post X.K X.mg W (rV X.K) σ ads H (onD d y f st) Q) :
    ∃ k a kvs hh H2 o, d = .ref k ∧ x = .ref a ∧ ads[k]? = some a ∧ st[k]? = some (.dic kvs) ∧ Inv X pins σ H2 s ∧ RSt X.K X.mg ads H2 st ∧ Fut ads H ads H2 ∧ DGet H2 a w o ∧ RelD X.K ads H2 (hGet kvs hh) o ∧ IsD H2 a ∧
      (∀ d v, kvs.length < sizeLine → RV X.K ads H2 d v → ∃ H3, DPut H2 a w v H3 ∧ Fut ads H2 ads H3 ∧ RSt X.K X.mg ads H3 (st.set k (.dic (hSet kvs hh d)))) ∧ post X.K X.mg W (rV X.K) σ ads H2 (f kvs hh st) Q := by
  unfold onD at h
  split at h
  · rename_i k
    cases rd with
    | @ref _ a hk =>
      split at h
      · rename_i kvs e1
        split at h
        · rename_i hh e2
          split at h
          · rename_i ko
            obtain ⟨H2, o, I2, R2, fu, g, ro, isd, put⟩ := dict_at I R hk e1 ry e2 ko
            exact ⟨k, a, kvs, hh, H2, o, rfl, rfl, hk, e1, I2, R2, fu, g, ro, isd, put, h.from fu⟩
          · exact h.elim
        · exact h.elim
      · exact h.elim
  · exact h.elim
theorem RelD.getD {K : PySem.W.Frag} {ads : List Addr} {H : Hp} {a : Option DV} {b : Option V} {z : DV} {y : V} (r : RelD K ads H a b) (rz : RV K ads H z y) : RV K ads H (a.getD z) (b.getD y) := by
  cases a <;> cases b <;> first | exact rz | exact r | exact r.elim
section
variable {X : Cx}
theorem mm_dget (hu : X.A.units + 1 < cLine) : MtMM X "dict" "dict.get" dgetM := by
  intro pins s σ H x vs v us Q ads d as st W I R rd ra rx rs h
  unfold dgetM at h
  split at h
  · obtain ⟨w, rfl, hw⟩ := ra.one
    obtain ⟨k, a, kvs, hh, H2, o, rfl, rfl, hk, e1, I2, R2, fu, g, ro, isd, put, p⟩ := onD_at I R rd hw h
    obtain ⟨u1, rfl, r1⟩ := vals1 rs
    cases (show v = Value.ref a from rx)
    exact d_get1 hu I2 g r1 fun w' s' I' r' => ⟨_, H2, I', r', p.ok R2 (ro.getD .non)⟩
  · obtain ⟨w, w2, rfl, hw, hw2⟩ := ra.two
    obtain ⟨k, a, kvs, hh, H2, o, rfl, rfl, hk, e1, I2, R2, fu, g, ro, isd, put, p⟩ := onD_at I R rd hw h
    obtain ⟨u1, u2, rfl, r1, r2⟩ := vals2 rs
    cases (show v = Value.ref a from rx)
    exact d_get2 hu I2 g r1 r2 fun w' s' I' r' => ⟨_, H2, I', r', p.ok R2 (ro.getD (hw2.mono fu))⟩
  · exact (h : False).elim
theorem mm_setdef (hu : X.A.units + 1 < cLine) : MtMM X "dict" "dict.setdefault" setdefM := by
  intro pins s σ H x vs v us Q ads d as st W I R rd ra rx rs h
  unfold setdefM at h
  split at h
  · split at h
    · rename_i k
      obtain ⟨w, w2, rfl, hw, hw2⟩ := ra.two
      obtain ⟨k1, a, kvs, hh, H2, o, e0, rfl, hk, e1, I2, R2, fu, g, ro, isd, put, p⟩ := onD_at I R rd hw h
      have e0 := DV.ref.inj e0
      subst e0
      obtain ⟨u1, u2, rfl, r1, r2⟩ := vals2 rs
      cases (show v = Value.ref a from rx)
      have hw2' := hw2.mono fu
      -- what is handed back
      have there : ∀ b, hGet kvs hh = some b → ∀ w, RV X.K ads H2 b w → Q w H2 := fun b e w rw' => by
        rw [e] at p
        exact p.ok R2 rw'
      have new : hGet kvs hh = none → kvs.length < sizeLine ∧ ∀ H3, Fut ads H2 ads H3 → RSt X.K X.mg ads H3 (st.set k (.dic (hSet kvs hh _))) → Q w2 H3 := fun e => by
        rw [e] at p
        by_cases hl : kvs.length < sizeLine
        · simp only [if_pos hl] at p
          exact ⟨hl, fun H3 f3 R3 => p ads H3 w2 f3 R3 (hw2'.mono f3)⟩
        · simp only [if_neg hl] at p
          exact p.elim
      rcases g with ⟨ks, kk, e, ey, l⟩ | ⟨ks, kk, b, e, ey, eb, l⟩
      · subst ey
        have e : H2 a = some (.dK ks) := by
          rcases e with e | ⟨ob, e⟩
          · exact e
          · exact ((R2.ob k a _ hk e1).nofrz e).elim
        obtain ⟨z, hd, vs0, rel, dd⟩ := dk_of I2.hok e
        have hz : vs0.length ≤ sizeLine := by rw [← rel.length]; exact z
        refine call_meetsIn PySem.F.slot_dict_setdefault dd.typeIs PySem.F.entry_dict_setdefault (PySem.F.args_dict_setdefault_3 _ _ _) (kt_meets_setdefault (mixKind X.prog X.w) _ (kV_is r1) hd _) ⟨vs0, dd, hz, fun u hu => ?_, fun hn h' dd' hs => ?_⟩
        · have rr := rel.val kk
          rw [hu] at rr
          cases hv : valV ks kk with
          | none => rw [hv] at rr; exact False.elim rr
          | some x =>
            rw [hv] at rr l
            subst l
            cases hg : hGet kvs hh with
            | none => rw [hg] at ro; exact ro.elim
            | some bb =>
              rw [hg] at ro
              exact (⟨x, H2, I2.tok _, rr, there bb hg x ro⟩ : EP X pins σ Q u _)
        · have rr := rel.val kk
          rw [hn] at rr
          cases hv : valV ks kk with
          | some x => rw [hv] at rr; exact False.elim rr
          | none =>
            rw [hv] at l
            subst l
            cases hg : hGet kvs hh with
            | some bb => rw [hg] at ro; exact ro.elim
            | none =>
              obtain ⟨hl, fin⟩ := new hg
              obtain ⟨H3, dp, f3, R3⟩ := put _ w2 hl hw2'
              rcases dp with ⟨ks', kk', e', ey', hl', eH⟩ | ⟨ks', kk', b', e', _⟩
              · rw [e] at e'
                cases e'
                cases kV_inj ey'
                subst eH
                have hl2 : (putK ks kk w2).length ≤ sizeLine := by have := length_putK ks kk w2; omega
                exact (⟨w2, _, d_write (t' := s.toks + 1) I2 (by rw [e]; exact True.intro) hs (let ⟨q, _, _, hq, _⟩ := dd'; ⟨q, hq⟩) (dk_new hl2 hd (rel.put kk r2) dd'), r2, fin _ f3 R3⟩ : EP X pins σ Q _ _)
              · rw [e] at e'
                cases e'
      · subst ey
        cases (show u1 = Value.ref b from r1)
        have e : H2 a = some (.dT ks) := by
          rcases e with e | ⟨ob, e⟩
          · exact e
          · exact ((R2.ob k a _ hk e1).nofrz e).elim
        obtain ⟨z, hd, xs, rel, dd⟩ := dt_of I2.hok e
        have hz : xs.length ≤ sizeLine := by rw [← Paired.length rel]; exact z
        refine call_setdefault_heap (hsz := hz) (tupleKind_room_in1 hu) (key_of I2.hok eb) hd dd (fun q hq => ?_) fun hn h' dd' hs => ?_
        · have rr := rel.val kk
          rw [hq] at rr
          cases hv : valV ks kk with
          | none => rw [hv] at rr; exact False.elim rr
          | some x =>
            rw [hv] at rr l
            subst l
            cases hg : hGet kvs hh with
            | none => rw [hg] at ro; exact ro.elim
            | some bb =>
              rw [hg] at ro
              exact (⟨x, H2, I2.tok _, rr, there bb hg x ro⟩ : EP X pins σ Q _ _)
        · have rr := rel.val kk
          rw [hn] at rr
          cases hv : valV ks kk with
          | some x => rw [hv] at rr; exact False.elim rr
          | none =>
            rw [hv] at l
            subst l
            cases hg : hGet kvs hh with
            | some bb => rw [hg] at ro; exact ro.elim
            | none =>
              obtain ⟨hl, fin⟩ := new hg
              obtain ⟨H3, dp, f3, R3⟩ := put _ w2 hl hw2'
              rcases dp with ⟨ks', kk', e', _⟩ | ⟨ks', kk', b', e', ey', eb', hl', eH⟩
              · rw [e] at e'
                cases e'
              · rw [e] at e'
                cases e'
                cases ey'
                rw [eb] at eb'
                have ek : kk = kk' := by
                  have q := HO.tup.inj (Option.some.inj eb')
                  have inj : ∀ {a b : List Key}, a.map kV = b.map kV → a = b := by
                    intro a
                    induction a with
                    | nil => intro b h; cases b <;> first | rfl | cases h
                    | cons x xs ih =>
                      intro b h
                      cases b with
                      | nil => cases h
                      | cons y ys =>
                        rw [List.map_cons, List.map_cons] at h
                        injection h with h1 h2
                        rw [kV_inj h1, ih h2]
                  exact inj q
                subst ek
                subst eH
                have hl2 : (putK ks kk w2).length ≤ sizeLine := by have := length_putK ks kk w2; omega
                obtain ⟨q, es, ep, hq, h2, h3, h4, _, h5⟩ := dd'
                refine (⟨w2, upd H2 a (.dT (putK ks kk w2)), d_write (ob := .dT (putK ks kk w2)) (t' := _) I2 (by rw [e]; exact True.intro) hs ⟨q, hq⟩ ⟨hl2, hd, _, (rel.put kk eb r2).keeps fun c ys ec => ?_, q, es, ep, hq, h2, h3, h4, h5⟩, r2, fin _ f3 R3⟩ : EP X pins σ Q _ _)
                rw [upd_ne (ne_of ec e (fun z => nomatch z))]
                exact ec
    · exact h.elim
  · exact (h : False).elim
end

/-! ### new dicts -/
def eDic0 : Ex := fun _ => alloc (.dic [])
theorem re_dic0 {X : Cx} {W : WX} {pos : Pos} : RE X W (.Dict [] [] pos) eDic0 := ⟨fun pins s σ H Q I h => pe_dnewK.run pins s σ H Q I (by
  obtain ⟨ads, ss, st, R, L, p⟩ := h
  intro q hq
  exact p _ _ _ (Fut.alloc hq) (R.alloc hq (.inl ⟨[], upd_same, .nil⟩)) (.ref (alloc_at R)))⟩

/-! ### stores -/
def setM (o i v : DV) : M Unit := fun st => match o with
  | .ref k => match st[k]? with
    | some (.lst xs) => match i with
      | .int n => match ixN xs.length n with
        | some j => .ok () (st.set k (.lst (xs.set j v)))
        | none => .bad
      | _ => .bad
    | some (.dic kvs) => match kOf i with
      | some h => if kindOk kvs h = true ∧ kvs.length < sizeLine then .ok () (st.set k (.dic (hSet kvs h v))) else .bad
      | none => .bad
    | _ => .bad
  | _ => .bad
theorem setM_ok {X : Cx} (hu : X.A.units + 1 < cLine) {pins : List (Addr × Obj)} {s : Shared} {σ : L2.St} {H : Hp} {o i v : V} {ov iv u : Value} {ads : List Addr} {dO dI dV : DV} {st st' : Sto} {Q : Hp → Prop} (I : Inv X pins σ H s) (R : RSt X.K X.mg ads H st) (rO : RV X.K ads H dO o) (rI : RV X.K ads H dI i) (rV' : RV X.K ads H dV v)
    (r1 : RelV o ov) (r2 : RelV i iv) (r3 : RelV v u) (e : setM dO dI dV st = .ok () st') (hq : ∀ H', Fut ads H ads H' → RSt X.K X.mg ads H' st' → Q H') :
    wpAny (model X.prog X.w) X.A (setItem ov iv u) (fun _ s' => ∃ H', Inv X pins σ H' s' ∧ Q H') X.xe s := by
  unfold setM at e
  split at e
  · rename_i k
    cases rO with
    | @ref _ a hk =>
      split at e
      · rename_i xs e1
        split at e
        · rename_i n
          cases rI
          split at e
          · rename_i j ej
            cases e
            obtain ⟨vs, hv, rs⟩ := R.list hk e1
            refine set_list pins s σ H _ _ v ov iv u Q I r1 r2 r3 ⟨a, vs, n, j, rfl, rfl, hv, by rw [← rs.length]; exact ej, ?_⟩
            have fw := R.write (o := .lst (vs.set j v)) hk
            exact hq _ fw (R.set hk ⟨_, upd_same, (rs.set rV' j).mono fw⟩)
          · cases e
        · cases e
      · rename_i kvs e1
        split at e
        · rename_i h e2
          split at e
          · rename_i hc
            cases e
            obtain ⟨H2, o', I2, R2, fu, g, ro, isd, put⟩ := dict_at I R hk e1 rI e2 hc.1
            obtain ⟨H3, dp, f3, R3⟩ := put dV v hc.2 (rV'.mono fu)
            cases (show ov = Value.ref a from r1)
            exact d_setItem hu I2 dp r2 r3 fun s' I' => ⟨H3, I', hq H3 (fu.trans f3) R3⟩
          · cases e
        · cases e
      · cases e
  · cases e
def gSub (mo mi : Ex) : Tg := fun d ss => bnd (mo ss) fun o => bnd (mi ss) fun i => bnd (setM o i d) fun _ => pur ss
section
variable {X : Cx} {W : WX} {o i e : Expr} {mo mi me : Ex} {pos tpos : Pos}
theorem okP {A B : Type} {K : PySem.W.Frag} {mg : Str → Option Value} {R : List Addr → Hp → A → B → Prop} {m : Sl → M A} {σ : L2.St} {ads : List Addr} {H : Hp} {ss : Sl} {st st' : Sto} {a : A} {Q : B → Hp → Prop} (Rs : RSt K mg ads H st) (L : RSl K ads H ss σ) (e : m ss st = .ok a st')
    (hq : ∀ ads' H' b, Fut ads H ads' H' → RSt K mg ads' H' st' → R ads' H' a b → Q b H') : tM K mg W R m σ H Q := ⟨ads, ss, st, Rs, L, by rw [e]; exact hq⟩
theorem rg_sub (hu : X.A.units + 1 < cLine) (ho : RE X W o mo) (hi : RE X W i mi)
    (ha : ∀ v, assign (.Subscript o i pos) X.env v = (do
      let ov ← holding [v] (eval o X.env)
      let iv ← holding [v, ov] (eval i X.env)
      standAt pos
      holding [v, ov, iv] (setItem ov iv v)
      release [v, ov, iv] []) := by intro _; rfl) : RG X (.Subscript o i pos) (gSub mo mi) := by
  refine ⟨fun pins s σ H v u Q I r h => ?_⟩
  obtain ⟨ads, ss, d, st, R, L, rv, p⟩ := h
  cases e : gSub mo mi d ss st with
  | exc _ _ => rw [e] at p; exact p.elim
  | bad => rw [e] at p; exact p.elim
  | ok ss' st' =>
  rw [e] at p
  obtain ⟨dO, st1, e1, e⟩ := bnd_ok e
  obtain ⟨dI, st2, e2, e⟩ := bnd_ok e
  obtain ⟨un, st3, e3, e⟩ := bnd_ok e
  cases e
  rw [ha]
  refine wpAny_bind (wpAny_holding (thn (ho.run pins s σ H _ I (okP (Q := fun x H1 => ∃ ads1, Fut ads H ads1 H1 ∧ RSt X.K X.mg ads1 H1 st1 ∧ RV X.K ads1 H1 dO x) R L e1 fun ads1 H1 b f1 R1 r1 => ⟨ads1, f1, R1, r1⟩)) fun ov s1 ⟨x, H1, I1, r1, ads1, f1, R1, rO⟩ => ?_))
  refine wpAny_bind (wpAny_holding (thn (hi.run pins s1 σ H1 _ I1 (okP (Q := fun x H2 => ∃ ads2, Fut ads1 H1 ads2 H2 ∧ RSt X.K X.mg ads2 H2 st2 ∧ RV X.K ads2 H2 dI x) R1 (L.mono f1) e2 fun ads2 H2 b f2 R2 r2 => ⟨ads2, f2, R2, r2⟩)) fun iv s2 ⟨y, H2, I2, r2, ads2, f2, R2, rI⟩ => ?_))
  refine wpAny_bind (wpAny_standAt (wpAny_bind (wpAny_holding (thn (setM_ok hu I2 R2 (rO.mono f2) rI (rv.mono (f1.trans f2)) r1 r2 r e3 (Q := Q σ) fun H' f3 R3 => p ads2 H' σ ((f1.trans f2).trans f3) R3 (L.mono ((f1.trans f2).trans f3))) fun _ s3 ⟨H3, I3, q3⟩ => ?_))))
  exact wpAny_release ⟨σ, H3, I3, q3⟩
end

/-! ### augmented stores -/
def iaddM : DV → DV → M DV
  | .int i, .int j => pur (.int (i + j))
  | .str a, .str b => fun st => if a.length + b.length ≤ sizeLine then .ok (.str (a ++ b)) st else .bad
  | _, _ => stuck
def isubM : DV → DV → M DV
  | .int i, .int j => pur (.int (i - j))
  | _, _ => stuck
section
variable {X : Cx} {W : WX} {e : Expr} {me : Ex} {pos : Pos}
theorem ipm_add : OpM X (inplaceOp .Add) iaddM := by
  intro pins s σ H x y v u Q ads dx dy st W I R hx hy rx ry h
  cases hx with
  | int i =>
    cases hy with
    | int j => exact iop_add pins s σ H _ _ v u Q I rx ry ⟨i, j, rfl, rfl, h.ok R (.int _)⟩
    | _ => exact (h : False).elim
  | str a =>
    cases hy with
    | str b =>
      simp only [iaddM] at h
      split at h
      · exact iop_add_str pins s σ H _ _ v u Q I rx ry ⟨a, b, rfl, rfl, by assumption, h.ok R (.str _)⟩
      · exact h.elim
    | _ => exact (h : False).elim
  | _ => cases hy <;> exact (h : False).elim
theorem ipm_sub : OpM X (inplaceOp .Sub) isubM := by
  intro pins s σ H x y v u Q ads dx dy st W I R hx hy rx ry h
  cases hx with
  | int i =>
    cases hy with
    | int j => exact iop_sub pins s σ H _ _ v u Q I rx ry ⟨i, j, rfl, rfl, h.ok R (.int _)⟩
    | _ => exact (h : False).elim
  | _ => cases hy <;> exact (h : False).elim
def sAug (i : Nat) (g : DV → DV → M DV) (m : Ex) : Stt := fun ss => lft ss (eVar i ss) fun x => lft ss (m ss) fun y => lft ss (g x y) fun z => pur (.nx (ss.set i (some z)))
theorem rs_aug {i : Nat} {x : Str} {op : Operator} {g : DV → DV → M DV} {pos' : Pos} (hN : X.N.Nodup) (hi : X.N[i]? = some x) (hx : Loc X.env.scope x) (he : RE X W e me) (ho : OpM X (inplaceOp op) g) (hf : X.fn x = true ∨ X.env.scope.names.lookup x = some .local := by first | exact .inl rfl | exact .inr rfl | assumption) :
    RS X W (.AugAssign (.Name x pos') op e pos) (sAug i g me) := ⟨fun pins s σ H D I h => by
  obtain ⟨ads, ss, st, R, L, p⟩ := h
  unfold sAug lft eVar at p
  cases e1 : ss[i]? with
  | none => rw [e1] at p; exact (p : False).elim
  | some od =>
  cases od with
  | none => rw [e1] at p; exact (p : False).elim
  | some d =>
  rw [e1] at p
  obtain ⟨x0, hx0, rx0⟩ := L.2 i d e1
  have p : postS X.K X.mg W D ads H (lft ss (me ss) (fun y => lft ss (g d y) fun z => pur (.nx (ss.set i (some z)))) st) := p
  have h2 : tS X.K X.mg W (fun ss => lft ss (me ss) (fun y => lft ss (g d y) fun z => pur (.nx (ss.set i (some z))))) D σ H := ⟨ads, ss, st, R, L, p⟩
  let ti : TIp := fun x y H1 Q => ∃ ads dx dy st, RSt X.K X.mg ads H1 st ∧ RV X.K ads H1 dx x ∧ RV X.K ads H1 dy y ∧ post X.K X.mg (fun _ _ _ _ => True) (rV X.K) [] ads H1 (g dx dy st) Q
  have hp : PIp X op ti := fun pins s σ H x y v u Q I rx ry ⟨ads, dx, dy, st, R, h1, h2, q⟩ => ho pins s σ H x y v u Q ads dx dy st (fun _ _ _ _ => True) I R h1 h2 rx ry (q.wish fun _ _ _ z => z)
  refine (ps_aug hN hi hx he hp hf).run pins s σ H D I ⟨x0, hx0, ?_⟩
  refine ⟨ads, ss, st, R, L, (postS.lft (R := rV X.K) L p).mono fun y H1 ⟨ads1, dy, st1, f1, R1, ry, p1⟩ => ?_⟩
  refine ⟨ads1, d, dy, st1, R1, rx0.mono f1, ry, ?_⟩
  have q := postS.lft (R := rV X.K) (L.mono f1) p1
  refine (q.mono fun z H2 ⟨ads2, dz, st2, f2, R2, rz, p2⟩ => p2 ads2 H2 _ .refl R2 (((L.mono f1).mono f2).set i rz)).wish fun _ _ _ _ => True.intro⟩
/-- o[i] op= e, o a list or a dict -/
def sAugS (mo mi : Ex) (g : DV → DV → M DV) (m : Ex) : Stt := fun ss => lft ss (mo ss) fun o => lft ss (mi ss) fun i => lft ss (ixM o i) fun x => lft ss (m ss) fun y => lft ss (g x y) fun z => lft ss (setM o i z) fun _ => pur (.nx ss)
end

/-! ### own classes -/
/-- the facts of a class's attribute -/
def KF (K : PySem.W.Frag) (mg : Str → Option Value) (c f : Str) : Prop := ∀ C, mg c = some (.ref C) → Cls K C ∧ NoAttr K C f
def eFld (c : Str) (lay : List Str) (i : Nat) (m : Ex) : Ex := fun ss => bnd (m ss) fun d st => match d with
  | .ref k => match st[k]? with
    | some (.ins c' lay' vs) => if c' = c ∧ lay' = lay then optD vs[i]? st else .bad
    | _ => .bad
  | _ => .bad
def putI (i : Nat) (v : DV) (vs : List DV) : Option (List DV) := if i < vs.length then some (vs.set i v) else if i = vs.length then some (vs ++ [v]) else none
def sFld (c : Str) (lay : List Str) (i : Nat) (mo mv : Ex) : Stt := fun ss => lft ss (mv ss) fun v => lft ss (mo ss) fun d st => match d with
  | .ref k => match st[k]? with
    | some (.ins c' lay' vs) => if c' = c ∧ lay' = lay then match putI i v vs with
      | some ws => .ok (.nx ss) (st.set k (.ins c lay ws))
      | none => .bad
    else .bad
    | _ => .bad
  | _ => .bad
theorem zip_at {K : PySem.W.Frag} {ads : List Addr} {H : Hp} {f : Str} {d : DV} : ∀ {lay : List Str} {xs : List DV} {vs : List (Str × V)} {i : Nat}, lay.Nodup → lay[i]? = some f → xs[i]? = some d → RFs K ads H (lay.zip xs) vs → ∃ v, vs.lookup f = some v ∧ RV K ads H d v
  | [], _, _, _, _, h, _, _ => by simp at h
  | _ :: _, [], _, _, _, _, h, _ => by simp at h
  | g :: lay, x :: xs, (g', w) :: vs, 0, nd, h1, h2, .cons q r => by
    obtain ⟨q1, q2⟩ := q
    have q1 : g = g' := q1
    subst q1
    simp at h1 h2
    subst h1 h2
    exact ⟨w, by rw [List.lookup_cons, beq_self_eq_true], q2⟩
  | g :: lay, x :: xs, (g', w) :: vs, i + 1, nd, h1, h2, .cons q r => by
    obtain ⟨q1, q2⟩ := q
    have q1 : g = g' := q1
    subst q1
    have nd' := List.nodup_cons.mp nd
    have h1 : lay[i]? = some f := by simpa using h1
    obtain ⟨v, e, rv⟩ := zip_at nd'.2 h1 (show xs[i]? = some d by simpa using h2) r
    have ne : ¬ f = g := fun z => nd'.1 (z ▸ List.mem_of_getElem? h1)
    exact ⟨v, by rw [List.lookup_cons, beq_false_of_ne ne]; exact e, rv⟩
theorem zip_none {K : PySem.W.Frag} {ads : List Addr} {H : Hp} {f : Str} : ∀ {lay : List Str} {xs : List DV} {vs : List (Str × V)}, f ∉ lay → RFs K ads H (lay.zip xs) vs → vs.lookup f = none
  | [], _, _, _, .nil => rfl
  | _ :: _, [], _, _, .nil => rfl
  | g :: lay, x :: xs, (g', w) :: vs, h, .cons q r => by
    obtain ⟨q1, q2⟩ := q
    have q1 : g = g' := q1
    subst q1
    rw [List.mem_cons, not_or] at h
    rw [List.lookup_cons, beq_false_of_ne h.1]
    exact zip_none h.2 r
theorem zip_put {K : PySem.W.Frag} {ads : List Addr} {H : Hp} {f : Str} {d : DV} {v : V} (rv : RV K ads H d v) : ∀ {lay : List Str} {xs : List DV} {vs : List (Str × V)} {i : Nat}, lay.Nodup → lay[i]? = some f → i < xs.length → RFs K ads H (lay.zip xs) vs → RFs K ads H (lay.zip (xs.set i d)) (putF f v vs)
  | [], _, _, _, _, h, _, _ => by simp at h
  | _ :: _, [], _, _, _, _, h, _ => by simp at h
  | g :: lay, x :: xs, (g', w) :: vs, 0, nd, h1, _, .cons q r => by
    obtain ⟨q1, q2⟩ := q
    have q1 : g = g' := q1
    subst q1
    simp at h1
    subst h1
    show RFs K ads H ((g, d) :: lay.zip xs) (if g = g then (g, v) :: vs else (g, w) :: putF g v vs)
    rw [if_pos rfl]
    exact .cons ⟨rfl, rv⟩ r
  | g :: lay, x :: xs, (g', w) :: vs, i + 1, nd, h1, hi, .cons q r => by
    obtain ⟨q1, q2⟩ := q
    have q1 : g = g' := q1
    subst q1
    have nd' := List.nodup_cons.mp nd
    have h1 : lay[i]? = some f := by simpa using h1
    have ne : ¬ g = f := fun z => nd'.1 (z ▸ List.mem_of_getElem? h1)
    show RFs K ads H ((g, x) :: lay.zip (xs.set i d)) (if g = f then (g, v) :: vs else (g, w) :: putF f v vs)
    rw [if_neg ne]
    exact .cons ⟨rfl, q2⟩ (zip_put rv nd'.2 h1 (by simpa using hi) r)
theorem zip_app {K : PySem.W.Frag} {ads : List Addr} {H : Hp} {f : Str} {d : DV} {v : V} (rv : RV K ads H d v) : ∀ {lay : List Str} {xs : List DV} {vs : List (Str × V)}, lay.Nodup → lay[xs.length]? = some f → RFs K ads H (lay.zip xs) vs → RFs K ads H (lay.zip (xs ++ [d])) (putF f v vs)
  | [], _, _, _, h, _ => by simp at h
  | g :: lay, [], [], nd, h, .nil => by
    simp at h
    subst h
    exact .cons ⟨rfl, rv⟩ (by cases lay <;> exact .nil)
  | g :: lay, x :: xs, (g', w) :: vs, nd, h1, .cons q r => by
    obtain ⟨q1, q2⟩ := q
    have q1 : g = g' := q1
    subst q1
    have nd' := List.nodup_cons.mp nd
    have h1 : lay[xs.length]? = some f := by simpa using h1
    have ne : ¬ g = f := fun z => nd'.1 (z ▸ List.mem_of_getElem? h1)
    show RFs K ads H ((g, x) :: lay.zip (xs ++ [d])) (if g = f then (g, v) :: vs else (g, w) :: putF f v vs)
    rw [if_neg ne]
    exact .cons ⟨rfl, q2⟩ (zip_app rv nd'.2 h1 r)
section
variable {X : Cx} {W : WX} {o e : Expr} {mo me : Ex} {c f : Str} {lay : List Str} {i : Nat} {pos pos' : Pos}
theorem re_fld (he : RE X W o mo) (kf : KF X.K X.mg c f) (hnd : lay.Nodup) (hi : lay[i]? = some f) (hb : attributeBase o f X.env (eval o X.env) = eval o X.env := by rfl) : RE X W (.Attribute o f pos) (eFld c lay i mo) := ⟨fun pins s σ H Q I h => (pe_fld he hb).run pins s σ H Q I (by
  refine (tM.bind (R := rV X.K) h).imp fun x H' ⟨ads, ss, d, st, R, L, r, p⟩ => ?_
  cases r with
  | @ref k a hk =>
    simp only at p
    split at p
    · rename_i c' lay' xs e1
      by_cases hc : c' = c ∧ lay' = lay
      case neg => rw [if_neg hc] at p; exact p.elim
      rw [if_pos hc] at p
      obtain ⟨rfl, rfl⟩ := hc
      obtain ⟨dv, e2, p⟩ := optD_ok p
      obtain ⟨C, dx, vs, h0, h1, hl, h2⟩ := R.ob k a _ hk e1
      obtain ⟨w, e3, rw'⟩ := zip_at hnd hi e2 h2
      obtain ⟨k1, k2⟩ := kf C h0
      exact ⟨a, C, dx, vs, w, rfl, h1, k1, k2, e3, p.ok R rw'⟩
    · exact p.elim
  | _ => exact (p : False).elim)⟩
theorem rs_fld (ho : RE X W o mo) (he : RE X W e me) (kf : KF X.K X.mg c f) (hnd : lay.Nodup) (hi : lay[i]? = some f) (hll : lay.length < 1000) (hs : swapsWith e (some (.Attribute o f pos')) pos.line X.env = pure false := by rfl) : RS X W (.Assign [.Attribute o f pos'] e pos) (sFld c lay i mo me) := ⟨fun pins s σ H D I h => (ps_fld ho he hs).run pins s σ H D I (by
  obtain ⟨ads, ss, st, R, L, p⟩ := h
  refine ⟨ads, ss, st, R, L, (postS.lft (R := rV X.K) L p).mono fun v H1 ⟨ads1, dv, st1, f1, R1, rv, p1⟩ => ?_⟩
  refine ⟨ads1, ss, st1, R1, L.mono f1, (postS.lft (R := rV X.K) (L.mono f1) p1).mono fun x H2 ⟨ads2, d, st2, f2, R2, r, p2⟩ => ?_⟩
  cases r with
  | @ref k a hk =>
    simp only at p2
    split at p2
    · rename_i c' lay' xs e1
      by_cases hc : c' = c ∧ lay' = lay
      case neg => rw [if_neg hc] at p2; exact p2.elim
      rw [if_pos hc] at p2
      obtain ⟨rfl, rfl⟩ := hc
      obtain ⟨C, dx, vs, h0, h1, hl, h2⟩ := R2.ob k a _ hk e1
      obtain ⟨k1, k2⟩ := kf C h0
      have lvs : vs.length ≤ lay'.length := by rw [← RFs.length h2, List.length_zip]; omega
      refine ⟨a, C, dx, vs, rfl, h1, k1, k2, by omega, ?_⟩
      split at p2
      · rename_i ws e2
        have fw := R2.write (o := .ins C dx (putF f v vs)) hk
        refine p2 ads2 _ σ fw (R2.set hk ⟨C, dx, _, h0, upd_same, ?_⟩) (((L.mono f1).mono f2).mono fw)
        have h2' := h2.mono fw
        have rv' := (rv.mono f2).mono fw
        unfold putI at e2
        split at e2
        · cases e2
          exact ⟨by rw [List.length_set]; exact hl, zip_put rv' hnd hi (by assumption) h2'⟩
        · split at e2
          · rename_i hn
            cases e2
            have hi' : lay'[xs.length]? = some f := by rw [← hn]; exact hi
            exact ⟨by have := (List.getElem?_eq_some_iff.mp hi').1; rw [List.length_append, List.length_singleton]; omega, zip_app rv' hnd hi' h2'⟩
          · cases e2
      · exact p2.elim
    · exact p2.elim
  | _ => exact (p2 : False).elim)⟩
end
def isIns (c : Str) (lay : List Str) (d : DV) (st : Sto) : Prop := match d with
  | .ref k => match st[k]? with
    | some (.ins c' lay' _) => c' = c ∧ lay' = lay
    | _ => False
  | _ => False
open Classical in
noncomputable def eMeth (c : Str) (lay : List Str) (f : List DV → M DV) (mo : Ex) (ms : List Ex) : Ex := fun ss => bnd (mo ss) fun o st => if isIns c lay o st then bnd (eArgs ms ss) (fun as => f (o :: as)) st else .bad
/-- a method of a class -/
def KM (K : PySem.W.Frag) (mg : Str → Option Value) (c m : Str) (g : Addr) : Prop := ∀ C, mg c = some (.ref C) → Cls K C ∧ Meth K C m g
theorem isIns_at {K : PySem.W.Frag} {mg : Str → Option Value} {ads : List Addr} {H : Hp} {st : Sto} {c : Str} {lay : List Str} {d : DV} {v : V} (R : RSt K mg ads H st) (r : RV K ads H d v) (h : isIns c lay d st) : ∃ a C dx fs xs, v = .ref a ∧ mg c = some (.ref C) ∧ H a = some (.ins C dx fs) ∧ RFs K ads H (lay.zip xs) fs := by
  unfold isIns at h
  split at h
  · rename_i k
    cases r with
    | @ref _ a hk =>
      split at h
      · rename_i c' lay' xs e1
        obtain ⟨rfl, rfl⟩ := h
        obtain ⟨C, dx, vs, h0, h1, hl, h2⟩ := R.ob k a _ hk e1
        exact ⟨a, C, dx, vs, xs, rfl, h0, h1, h2⟩
      · exact h.elim
  · exact h.elim
section
variable {X : Cx} {W : WX} {k : Nat} {f C : Addr} {fd : FuncData} {ps : List Str} {x m c : Str} {lay : List Str} {p pos apos : Pos} {e o : Expr} {es : List Expr} {g : List DV → M DV} {ms : List Ex} {mo : Ex}
theorem re_meth {pl : Sem Bool} (ho : RE X W o mo) (km : KM X.K X.mg c m f) (hml : m ∉ lay) (F : FnOk X.prog X.w X.K X.mg X.base (L2.CX X.prog X.w) k f fd ps (spM X.K X.mg g)) (hr : Room k X.A) (hb : Binds X.K fd ps []) (tk : Takes X W) (ha : RA X W (e :: es) ms)
    (hst : starEach (e :: es) X.env = (false, eval e X.env) :: starEach es X.env := by rfl) (hpl : (backTo pos (starEach es X.env)).any (·.1) = false := by rfl)
    (ht : eval (.Call (.Attribute o m apos) (e :: es) [] pos) X.env = (do
      let ov ← eval o X.env
      standAt apos.atName
      let (f, first) ← holding [ov] (getMethod ov m pl)
      callWith pos f first (backTo pos (starEach (e :: es) X.env)) (backToKw pos (keywordEach [] X.env))) := by rfl) :
    RE X W (.Call (.Attribute o m apos) (e :: es) [] pos) (eMeth c lay g mo ms) := by
  refine ⟨fun pins s σ H Q I h => ?_⟩
  obtain ⟨ads, ss, st, R, L, q⟩ := h
  have h1 : tM X.K X.mg W (rV X.K) mo σ H _ := ⟨ads, ss, st, R, L, post.bind q⟩
  refine PySem.W.methodCall_KW (pl := pl) (thn (ho.run pins s σ H _ I h1) fun u s1 ⟨v, H1, I1, rx, ads1, d, st1, f1, R1, rv, q1⟩ => ?_) ht
  by_cases hi : isIns c lay d st1
  case neg => rw [if_neg hi] at q1; exact q1.elim
  rw [if_pos hi] at q1
  obtain ⟨a, C, dx, fs, xs, rfl, h0, ea, rf⟩ := isIns_at R1 rv hi
  obtain ⟨cl, hm⟩ := km C h0
  obtain rfl : u = Value.ref a := rx
  refine getmeth_ok I1 ea cl hm (zip_none hml rf) ?_
  have h2 : tM X.K X.mg W (rVs X.K) (eArgs ms) σ H1 _ := ⟨ads1, ss, st1, R1, L.mono f1, post.bind q1⟩
  refine PySem.W.callWith_K (first := [.ref a]) (h₀ := X.base) I.ok.mod.kin hm.kp (thn (ha.run pos pins s1 σ H1 _ I1 h2) fun us s2 ⟨vs, H2, I2, r, ads2, as, st2, f2, R2, ra, q2⟩ => ⟨I2.kIn, ?_⟩) hst hpl
  exact run_M (us := .ref a :: us) (vs := .ref a :: vs) F hr hb tk I2 (.cons rfl r) R2 (.cons (rv.mono f2) ra) q2
theorem re_meth0 {pl : Sem Bool} (ho : RE X W o mo) (km : KM X.K X.mg c m f) (hml : m ∉ lay) (F : FnOk X.prog X.w X.K X.mg X.base (L2.CX X.prog X.w) k f fd ps (spM X.K X.mg g)) (hr : Room k X.A) (hb : Binds X.K fd ps []) (tk : Takes X W)
    (ht : eval (.Call (.Attribute o m apos) [] [] pos) X.env = (do
      let ov ← eval o X.env
      standAt apos.atName
      let (f, first) ← holding [ov] (getMethod ov m pl)
      callWith pos f first (backTo pos (starEach [] X.env)) (backToKw pos (keywordEach [] X.env))) := by rfl) :
    RE X W (.Call (.Attribute o m apos) [] [] pos) (eMeth c lay g mo []) := by
  refine ⟨fun pins s σ H Q I h => ?_⟩
  obtain ⟨ads, ss, st, R, L, q⟩ := h
  have h1 : tM X.K X.mg W (rV X.K) mo σ H _ := ⟨ads, ss, st, R, L, post.bind q⟩
  refine PySem.W.methodCall_KW (pl := pl) (thn (ho.run pins s σ H _ I h1) fun u s1 ⟨v, H1, I1, rx, ads1, d, st1, f1, R1, rv, q1⟩ => ?_) ht
  by_cases hi : isIns c lay d st1
  case neg => rw [if_neg hi] at q1; exact q1.elim
  rw [if_pos hi] at q1
  obtain ⟨a, C, dx, fs, xs, rfl, h0, ea, rf⟩ := isIns_at R1 rv hi
  obtain ⟨cl, hm⟩ := km C h0
  obtain rfl : u = Value.ref a := rx
  refine getmeth_ok I1 ea cl hm (zip_none hml rf) ?_
  exact PySem.W.callWith_K0 (first := [.ref a]) I1.kIn hm.kp (run_M (us := [.ref a]) (vs := [.ref a]) F hr hb tk I1 (.cons rfl .nil) R1 (.cons rv .nil) q1)
/-- C(..) -/
def mkM (c : Str) (lay : List Str) (init : List DV → M DV) (as : List DV) : M DV := fun st => match init (.ref st.length :: as) (st ++ [.ins c lay []]) with
  | .ok .non st' => .ok (.ref st.length) st'
  | .exc e st' => .exc e st'
  | _ => .bad
theorem run_mk {pins : List (Addr × Obj)} {σ : L2.St} {H : Hp} {s : Shared} {Q : VK} {us : List Value} {vs : List V} (hc : X.mg c = some (.ref C)) (M : Mk X.K C f) (F : FnOk X.prog X.w X.K X.mg X.base (L2.CX X.prog X.w) k f fd ps (spM X.K X.mg g)) (hr : Room (k + 1) X.A) (hb : Binds X.K fd ps []) (tk : Takes X W)
    (I : Inv X pins σ H s) (r : Vals vs us) {ads : List Addr} {as : List DV} {st : Sto} (R : RSt X.K X.mg ads H st) (rv : RVs X.K ads H as vs) (h : post X.K X.mg W (rV X.K) σ ads H (mkM c lay g as st) Q) : wpAny (model X.prog X.w) X.A (call (.ref C) us) (EP X pins σ Q) X.xe s := by
  have n1 : H (s.heap.objs.size + 1) = none := I.hok.fresh (Nat.le_succ _)
  have n2 : H s.heap.objs.size = none := I.hok.fresh (Nat.le_refl _)
  have I2 := Inv.made (C := C) I
  have fa : Fut ads H (ads ++ [s.heap.objs.size + 1]) (upd (upd H s.heap.objs.size (.own (s.heap.objs.size + 1))) (s.heap.objs.size + 1) (.ins C s.heap.objs.size [])) := by
    have g1 : Fut ads H ads (upd H s.heap.objs.size (.own (s.heap.objs.size + 1))) := .newU n2
    refine g1.trans (.alloc ?_)
    rw [upd_ne (Nat.succ_ne_self _)]
    exact n1
  have R2 : RSt X.K X.mg (ads ++ [s.heap.objs.size + 1]) (upd (upd H s.heap.objs.size (.own (s.heap.objs.size + 1))) (s.heap.objs.size + 1) (.ins C s.heap.objs.size [])) (st ++ [.ins c lay []]) := by
    refine (R.newU n2).alloc (by rw [upd_ne (Nat.succ_ne_self _)]; exact n1) ⟨C, s.heap.objs.size, [], hc, upd_same, Nat.zero_le _, ?_⟩
    rw [List.zip_nil_right]
    exact .nil
  have r2 : Vals (V.ref (s.heap.objs.size + 1) :: vs) (Value.ref (s.heap.objs.size + 1) :: us) := .cons rfl r
  have hsp : spM X.K X.mg g (V.ref (s.heap.objs.size + 1) :: vs) (upd (upd H s.heap.objs.size (.own (s.heap.objs.size + 1))) (s.heap.objs.size + 1) (.ins C s.heap.objs.size [])) (fun v H2 => v = .non ∧ Q (.ref (s.heap.objs.size + 1)) H2) (WE W σ) := by
    refine ⟨_, .ref st.length :: as, _, R2, .cons (.ref (alloc_at R)) (rv.mono fa), ?_⟩
    unfold mkM at h
    cases eg : g (.ref st.length :: as) (st ++ [.ins c lay []]) with
    | ok d st' =>
      rw [eg] at h
      cases d with
      | non =>
        intro ads' H' b fu R' rb
        cases rb
        exact ⟨rfl, h ads' H' _ (fa.trans fu) R' (.ref (Ext.get fu.pre (alloc_at R)))⟩
      | _ => exact (h : False).elim
    | exc x st' =>
      rw [eg] at h
      exact fun ads' H' cl d fu R' rx => h ads' H' cl d (fa.trans fu) R' rx
    | bad => rw [eg] at h; exact h
  have hl : (Value.ref (s.heap.objs.size + 1) :: us).length = ps.length := by
    have e := r2.length
    rw [F.len _ _ _ _ hsp] at e
    exact e.symm
  have bb := hb _ (Value.ref (s.heap.objs.size + 1) :: us) I2.kIn (by rw [List.append_nil]; exact hl)
  rw [List.append_nil] at bb
  refine wpAny_call (make_map (f := f) I.kIn M.makes M.init (beq_iff_eq.mp M.fn) (codeAny_mono (F.run _ X.stack _ _ ⟨Value.ref (s.heap.objs.size + 1) :: us, []⟩ (Value.ref (s.heap.objs.size + 1) :: us) _ _ (WE W σ) (hr.make C us [])
    (I2.env0.make C us []) bb r2 hsp) fun r s' hq' => ?_))
  cases r with
  | error e => exact passAt tk σ pins _ _ e s' I2 hq'
  | ok fl =>
    cases fl with
    | ret u =>
      obtain ⟨v, H', I3, rv, ev, q3⟩ := I2.after hq'
      subst ev
      exact ⟨rv, ⟨V.ref (s.heap.objs.size + 1), H', I3, rfl, q3⟩⟩
    | next => exact False.elim hq'
    | brk => exact False.elim hq'
    | cont => exact False.elim hq'
theorem re_make (M : Mk X.K C f) (F : FnOk X.prog X.w X.K X.mg X.base (L2.CX X.prog X.w) k f fd ps (spM X.K X.mg g)) (hr : Room (k + 1) X.A) (hg : Gl X c) (hm : X.mg c = some (.ref C)) (hb : Binds X.K fd ps []) (tk : Takes X W)
    (ha : RA X W (e :: es) ms) (hdb : (c == ("__debug__" : Str)) = false := by decide) (he : starEach (e :: es) X.env = (false, eval e X.env) :: starEach es X.env := by rfl) (hpl : (backTo pos (starEach es X.env)).any (·.1) = false := by rfl) :
    RE X W (.Call (.Name c p) (e :: es) [] pos) (eCall (mkM c lay g) ms) := by
  refine ⟨fun pins s σ H Q I h => ?_⟩
  obtain ⟨ads, ss, st, R, L, q⟩ := h
  have h1 : tM X.K X.mg W (rVs X.K) (eArgs ms) σ H _ := ⟨ads, ss, st, R, L, post.bind q⟩
  refine wpAny_Call_Name_kw (ld_glob I hg hm ?_ hdb)
  refine PySem.W.callWith_K (h₀ := X.base) I.ok.mod.kin M.kp (thn (ha.run pos pins s σ H _ I h1) fun us s1 ⟨vs, H1, I1, r, ads1, as, st1, f1, R1, rv, q1⟩ => ⟨I1.kIn, ?_⟩) he hpl
  exact run_mk hm M F hr hb tk I1 r R1 rv q1
theorem re_make0 (M : Mk X.K C f) (F : FnOk X.prog X.w X.K X.mg X.base (L2.CX X.prog X.w) k f fd ps (spM X.K X.mg g)) (hr : Room (k + 1) X.A) (hg : Gl X c) (hm : X.mg c = some (.ref C)) (hb : Binds X.K fd ps []) (tk : Takes X W)
    (hdb : (c == ("__debug__" : Str)) = false := by decide) : RE X W (.Call (.Name c p) [] [] pos) (eCall (mkM c lay g) []) := by
  refine ⟨fun pins s σ H Q I h => ?_⟩
  obtain ⟨ads, ss, st, R, L, q⟩ := h
  refine wpAny_Call_Name_kw (ld_glob I hg hm ?_ hdb)
  exact PySem.W.callWith_K0 I.kIn M.kp (run_mk (us := []) hm M F hr hb tk I .nil R .nil q)
end
end ML

/-! ML8: the law's end. -/
namespace ML
open PySem PySem.Spec PyProof.Rows L2
theorem hu1 {A : Around} {k : Nat} (hr : Room k A) : A.units + 1 < cLine := hu_of hr
theorem hu64 {A : Around} {k : Nat} (hr : Room k A) : A.units + 64 < cLine := hr.units
theorem hu65 {A : Around} {k : Nat} (hr : Room k A) : A.units + 65 < cLine := by have := hr.un; omega
/-- the law's promise -/
def spL (K : PySem.W.Frag) (n : Nat) : Sp := fun vs H Q _ => ∃ (a : Addr) (ns : List Int), vs = [.ref a] ∧ ns.length ≤ n ∧ Only H ∧ SqL K H a (ns.map V.int) ∧ ∀ H', Q (.bl true) H'
theorem rvs_ints {K : PySem.W.Frag} {ads : List Addr} {H : Hp} : ∀ ns : List Int, RVs K ads H (ns.map DV.int) (ns.map V.int)
  | [] => .nil
  | n :: ns => .cons (.int n) (rvs_ints ns)
theorem law_ok {P : Program} {w : World} {K : PySem.W.Frag} {mg : Str → Option Value} {base : Heap} {k n : Nat} {f : Addr} {fd : FuncData} {ps : List Str} {g : List DV → M DV} (F : FnOk P w K mg base (L2.CX P w) k f fd ps (spM K mg g))
    (hg : ∀ ns : List Int, ns.length ≤ n → ∃ st, g [.fzl (ns.map DV.int)] [] = .ok (.bl true) st) : FnOk P w K mg base (L2.CX P w) k f fd ps (spL K n) := by
  refine F.imp fun vs H Q E ⟨a, ns, e, hl, ho, hs, hq⟩ => ?_
  subst e
  obtain ⟨st, e⟩ := hg ns hl
  have fz : FzL K H a (ns.map V.int) := by
    rcases hs with (h | ⟨o, h⟩) | h
    · rcases ho a with h' | ⟨o, xs, h'⟩
      · rw [h] at h'; cases h'
      · rw [h] at h'; cases h'
    · exact .inl ⟨o, h⟩
    · exact .inr h
  refine ⟨[], [.fzl (ns.map DV.int)], [], .nil, .cons (.fzl fz (rvs_ints ns)) .nil, ?_⟩
  rw [e]
  intro ads' H' b _ _ r
  cases r
  exact hq H'
theorem cx_none {P : Program} {w : World} {H : Hp} {s : Shared} {e : Value} {s' : Shared} (h : L2.CX P w [] H s (fun _ _ _ => False) e s') : False := by
  obtain ⟨_, _, _, _, _, _, _, _, _, _, _, _, z⟩ := h
  exact z
end ML

/-! ML9: lists taken apart by targets; enumerate, zip. -/
namespace ML
open PySem PySem.Spec PyProof.Rows L2
section
open Sem (wp)
variable {prog : Program} {w : World} {A : Around} {E : Value → Shared → Prop} {s : Shared}
theorem draw_list {it l : Addr} {items : Array Value} (hne : l ≠ it) : ∀ (n i : Nat) (s : Shared) (Q : List Value → Shared → Prop), s.heap.IsListIter it l i → s.heap.IsList l items → i + n ≤ items.size →
    (∀ h', h'.IsListIter it l (i + n) → Heap.SameBut it s.heap h' → Q ((items.toList.drop i).take n) { s with heap := h' }) → wpAny (model prog w) A (draw (.ref it) n) Q E s
  | 0, i, s, Q, hit, _, _, hQ => by
    show wpAny _ _ (pure []) Q E s
    exact wpAny_pure (by simpa using hQ s.heap hit (Heap.SameBut.refl ..))
  | n + 1, i, s, Q, hit, ht, hle, hQ => by
    have hlt : i < items.size := by omega
    show wpAny _ _ (pyNext (.ref it) >>= _) Q E s
    refine wpAny_bind (wpAny_pyNext_list_item hit ht (x := items[i]) (by simp [hlt]) fun h₁ hit₁ hs₁ => ?_)
    refine wpAny_bind (wpAny_holding (draw_list hne n (i + 1) _ _ hit₁ (ht.extBut hs₁.extBut hne) (by omega) fun h₂ hit₂ hs₂ => wpAny_pure ?_))
    have hd : items.toList.drop i = items[i] :: items.toList.drop (i + 1) := by simp [List.drop_eq_getElem_cons, hlt]
    have := hQ h₂ (by rw [show i + (n + 1) = i + 1 + n by omega]; exact hit₂) (hs₁.trans hs₂)
    rw [hd, List.take_succ_cons] at this
    exact this
theorem unpackItems_list {l : Addr} {items : Array Value} {Q : List Value → Shared → Prop} (hh : A.handled = none) (ht : s.heap.IsList l items)
    (hQ : ∀ h', Heap.ExtBut s.heap.objs.size s.heap h' → Q items.toList { s with heap := h' }) : wpAny (model prog w) A (unpackItems (.ref l) items.size none) Q E s := by
  have hlt : l ≠ s.heap.objs.size := by obtain ⟨o, ho, _⟩ := ht; exact Nat.ne_of_lt (Heap.lt_size ho)
  unfold unpackItems
  refine wpAny_bind ?_
  · unfold notIterableAtAll
    refine wpAny_bind (wpAny_specialOf ht.typeIs slot_list_iter.lookup ?_)
    refine wpAny_pure ?_
    simp only [Bool.false_eq_true, if_false]
    refine wpAny_bind (wpAny_holding (wpAny_pyIter_list ht ?_))
    refine wpAny_bind (wpAny_holding (draw_list hlt items.size 0 _ _ ⟨_, Heap.get?_push_size _ rfl, rfl, rfl⟩ (ht.push _) (by omega) fun h₁ hit₁ hs₁ => ?_))
    have hall : List.take items.size (List.drop 0 items.toList) = items.toList := by
      rw [List.drop_zero]; exact List.take_of_length_le (by simp)
    rw [hall]
    rw [if_neg (by simp)]
    have ht₁ : h₁.IsList l items := (ht.push _).extBut hs₁.extBut hlt
    refine wpAny_bind (wpAny_holding (wpAny_pyNext_list_end hh hit₁ ht₁ (by simp) fun h₂ he₂ => ?_))
    simp only [Option.isSome_none, Bool.false_eq_true, if_false]
    refine wpAny_pure (hQ h₂ fun b o hb e => he₂ b o hb (hs₁.extBut b o hb (Heap.get?_push_of_some _ e)))
theorem assign_Tuple_list {env : Env} {elts : List Expr} {x1} {pos : Pos} {l : Addr} {items : Array Value} {Q : Unit → Shared → Prop} (hh : A.handled = none) (ht : s.heap.IsList l items)
    (hn : (assignEach elts env).length = items.size) (hstar : (assignEach elts env).findIdx? (·.1) = none)
    (h : ∀ h', Heap.ExtBut s.heap.objs.size s.heap h' → wpAny (model prog w) A (assignInOrder ((assignEach elts env).map (·.2)) items.toList) Q E { s with heap := h' }) :
    wpAny (model prog w) A (assign (.Tuple elts x1 pos) env (.ref l)) Q E s := by
  rw [assign_Tuple]
  refine wpAny_bind (wpAny_standAt ?_)
  unfold unpack
  rw [hn, hstar]
  exact wpAny_bind (wpAny_holding (unpackItems_list hh ht h))
end
/-- a tuple's or a list's items to names -/
def gTpL (is : List Nat) : Tg := fun d ss st => match d with
  | .tup xs => if xs.length = is.length then .ok (setAll is xs ss) st else .bad
  | .ktp xs => if xs.length = is.length then .ok (setAll is xs ss) st else .bad
  | .fzl xs => if xs.length = is.length then .ok (setAll is xs ss) st else .bad
  | .ref k => match st[k]? with
    | some (.lst xs) => if xs.length = is.length then .ok (setAll is xs ss) st else .bad
    | _ => .bad
  | _ => .bad
section
variable {X : Cx} {W : WX} {pos : Pos}
theorem tupL_run {es : List Expr} {k : Nat} {is : List Nat} (hc : X.calm = true) (hN : X.N.Nodup) (h : NmsOk X es is) {pins : List (Addr × Obj)} {s : Shared} {σ : L2.St} {H : Hp} {a : Addr} {vs : List V} {Q : L2.St → Hp → Prop}
    (I : Inv X pins σ H s) (hs : SqT X.K H a vs ∨ SqL X.K H a vs) (hl : vs.length = is.length) (q : Q (setAllV is vs σ) H) : wpAny (model X.prog X.w) X.A (assign (.Tuple es k pos) X.env (.ref a)) (fun _ s' => ∃ σ' H', Inv X pins σ' H' s' ∧ Q σ' H') X.xe s := by
  obtain ⟨h1, h2, h3⟩ := h.each
  rcases hs with hs | hs
  · refine (pg_tup hc (h3 hN) h1 h2).run pins s σ H (.ref a) (.ref a) Q I rfl ⟨a, vs, rfl, hs, hl, gAll_of hl q⟩
  · obtain ⟨its, rv, p, hz⟩ := I.list hs
    refine assign_Tuple_list (I.ok.hd hc) p.isList (by simp [h1, ← hl, rv.length]) h2 fun h' hx => ?_
    have I1 : Inv X pins σ H { s with heap := h' } := I.kept (t' := s.toks) fun b o e => hx b o (Nat.ne_of_lt (Heap.lt_size e)) e
    exact (h3 hN).run pins _ σ H vs _ Q I1 (by simpa using rv) (gAll_of hl q)
theorem rg_tupL {es : List Expr} {k : Nat} {is : List Nat} (hc : X.calm = true) (hN : X.N.Nodup) (h : NmsOk X es is) : RG X (.Tuple es k pos) (gTpL is) := by
  refine ⟨fun pins s σ H v u Q I r hq => ?_⟩
  obtain ⟨ads, ss, d, st, R, L, rv, p⟩ := hq
  cases rv with
  | @tup a xs vs hs rs =>
    cases r
    simp only [gTpL] at p
    by_cases hl : xs.length = is.length
    · rw [if_pos hl] at p
      exact tupL_run hc hN h I (.inl (.of hs)) (by rw [← rs.length]; exact hl) (p ads H _ .refl R (RSl.setAll rs L))
    · rw [if_neg hl] at p
      exact (p : False).elim
  | @ktp a xs vs hs rs =>
    cases r
    simp only [gTpL] at p
    by_cases hl : xs.length = is.length
    · rw [if_pos hl] at p
      exact tupL_run hc hN h I (.inl hs) (by rw [← rs.length]; exact hl) (p ads H _ .refl R (RSl.setAll rs L))
    · rw [if_neg hl] at p
      exact (p : False).elim
  | @fzl a xs vs hs rs =>
    cases r
    simp only [gTpL] at p
    by_cases hl : xs.length = is.length
    · rw [if_pos hl] at p
      exact tupL_run hc hN h I (.inr hs.sq) (by rw [← rs.length]; exact hl) (p ads H _ .refl R (RSl.setAll rs L))
    · rw [if_neg hl] at p
      exact (p : False).elim
  | @ref k a hk =>
    cases r
    simp only [gTpL] at p
    split at p
    · rename_i ss1 st1 e0
      split at e0
      · rename_i xs e
        obtain ⟨vs, hv, rs⟩ := R.list hk e
        by_cases hl : xs.length = is.length
        · rw [if_pos hl] at e0
          cases e0
          exact tupL_run hc hN h I (.inr (.of hv)) (by rw [← rs.length]; exact hl) (p ads H _ .refl R (RSl.setAll rs L))
        · rw [if_neg hl] at e0
          cases e0
      · cases e0
    · exact p.elim
  | _ => exact (p : False).elim
end

/-! ### enumerate, zip -/
/-- a list's items, and what must stay -/
def seqOf (d : DV) (st : Sto) : Option (List DV × List (Nat × DO)) := match d with
  | .fzl xs => some (xs, [])
  | .ref k => match st[k]? with
    | some (.lst xs) => some (xs, [(k, .lst xs)])
    | _ => none
  | _ => none
theorem seqOf_at {K : PySem.W.Frag} {mg : Str → Option Value} {ads : List Addr} {H : Hp} {st : Sto} (R : RSt K mg ads H st) {d : DV} {v : V} {xs : List DV} {g : List (Nat × DO)} (r : RV K ads H d v) (h : seqOf d st = some (xs, g)) :
    ∃ a vs, v = .ref a ∧ SqL K H a vs ∧ RVs K ads H xs vs ∧ ∀ ads' H' st', Fut ads H ads' H' → RSt K mg ads' H' st' → okG g st' → ∃ ws, SqL K H' a ws ∧ RVs K ads' H' xs ws := by
  cases r with
  | @fzl a ys vs hs rs =>
    cases h
    exact ⟨a, vs, rfl, hs.sq, rs, fun ads' H' st' f R' _ => ⟨vs, (f.kp.fzL hs).sq, rs.mono f⟩⟩
  | @ref k a hk =>
    simp only [seqOf] at h
    split at h
    · rename_i ys e
      cases h
      obtain ⟨vs, hv, rs⟩ := R.list hk e
      refine ⟨a, vs, rfl, .of hv, rs, fun ads' H' st' f R' ok => ?_⟩
      obtain ⟨ws, hw, rw'⟩ := R'.list (Ext.get f.pre hk) (ok (k, .lst xs) (by simp))
      exact ⟨ws, .of hw, rw'⟩
    · cases h
  | _ => simp only [seqOf] at h; cases h
def iEn (ms : List Ex) : Sl → M Wk := fun ss => bnd (eArgs ms ss) fun ds st => match ds with
  | [d] => match seqOf d st with
    | some (xs, g) => .ok ⟨(List.range xs.length).zipWith (fun i x => .tup [.int (i : Nat), x]) xs, g⟩ st
    | none => .bad
  | _ => .bad
def iZp (ms : List Ex) : Sl → M Wk := fun ss => bnd (eArgs ms ss) fun ds st => match ds with
  | [d, d'] => match seqOf d st, seqOf d' st with
    | some (xs, g), some (ys, g') => .ok ⟨xs.zipWith (fun x y => .tup [x, y]) ys, g ++ g'⟩ st
    | _, _ => .bad
  | _ => .bad
theorem okG_app {g g' : List (Nat × DO)} {st : Sto} (h : okG (g ++ g') st) : okG g st ∧ okG g' st := ⟨fun p hp => h p (List.mem_append_left _ hp), fun p hp => h p (List.mem_append_right _ hp)⟩
/-- a new pair -/
theorem new_pair {K : PySem.W.Frag} {mg : Str → Option Value} {ads : List Addr} {H : Hp} {st : Sto} (R : RSt K mg ads H st) {T : Addr} {x y : V} {dx dy : DV} (hT : H T = none) (rx : RV K ads H dx x) (ry : RV K ads H dy y) :
    Fut ads H ads (upd H T (.tup [x, y])) ∧ RSt K mg ads (upd H T (.tup [x, y])) st ∧ RV K ads (upd H T (.tup [x, y])) (.tup [dx, dy]) (.ref T) :=
  ⟨.newU hT, R.newU hT, .tup upd_same (.cons (rx.mono (.newU hT)) (.cons (ry.mono (.newU hT)) .nil))⟩
section
variable {X : Cx} {W : WX} {pos : Pos}
theorem ri_enum {e : Expr} {ms : List Ex} {p tpos : Pos} {elts : List Expr} {kk : Nat} (hg : Gl X "enumerate") (hm : X.mg "enumerate" = none) (ha : RA X W [e] ms) (hs : starEach [e] X.env = [(false, eval e X.env)] := by rfl) :
    RI X W (.Tuple elts kk tpos) (.Call (.Name "enumerate" p) [e] [] pos) (iEn ms) := ⟨fun pins s σ H R I h => (pi_enum hg hm ha hs).run pins s σ H R I (by
  refine (tM.bind (R := rVs X.K) h).imp fun vs H1 ⟨ads, ss, ds, st, Rs, L, rv, p⟩ => ?_
  match ds, rv, p with
  | [d], rv, p =>
    obtain ⟨u, rfl, r⟩ := rv.one
    simp only at p
    split at p
    · rename_i xs g e0
      obtain ⟨a, vs, rfl, hs, rs, fut⟩ := seqOf_at Rs r e0
      refine ⟨a, vs, rfl, hs, p ads H1 _ .refl Rs ⟨fun i d' ads' H' st' hi f R' ok => ?_, fun i ads' H' st' hi f R' ok => ?_⟩⟩
      · obtain ⟨ws, hw, rw'⟩ := fut ads' H' st' f R' ok
        rw [List.getElem?_zipWith] at hi
        cases hx : xs[i]? with
        | none => rw [hx] at hi; cases h5 : (List.range xs.length)[i]? <;> rw [h5] at hi <;> cases hi
        | some x =>
          have hil : i < xs.length := (List.getElem?_eq_some_iff.mp hx).1
          rw [hx, List.getElem?_range hil] at hi
          cases hi
          obtain ⟨w, h1, h2⟩ := rw'.get hx
          refine ⟨⟨ws, w, hw, h1⟩, fun y H2 ⟨T, z, e1, hT, e2, e3⟩ => ?_⟩
          subst e1 e2
          have e4 := e3 ws hw
          rw [h1] at e4
          cases e4
          exact new_pair R' hT (.int _) h2
      · obtain ⟨ws, hw, rw'⟩ := fut ads' H' st' f R' ok
        refine ⟨ws, hw, ?_⟩
        rw [← rw'.length]
        simpa using hi
    · exact p.elim
  | [], _, p => exact (p : False).elim
  | _ :: _ :: _, _, p => exact (p : False).elim)⟩
theorem ri_zip {e e2 : Expr} {ms : List Ex} {p tpos : Pos} {elts : List Expr} {kk : Nat} (hg : Gl X "zip") (hm : X.mg "zip" = none) (ha : RA X W [e, e2] ms)
    (hs : starEach [e, e2] X.env = (false, eval e X.env) :: starEach [e2] X.env := by rfl) (hpl : (backTo pos (starEach [e2] X.env)).any (·.1) = false := by rfl) :
    RI X W (.Tuple elts kk tpos) (.Call (.Name "zip" p) [e, e2] [] pos) (iZp ms) := ⟨fun pins s σ H R I h => (pi_zip hg hm ha hs hpl).run pins s σ H R I (by
  refine (tM.bind (R := rVs X.K) h).imp fun vs H1 ⟨ads, ss, ds, st, Rs, L, rv, p⟩ => ?_
  match ds, rv, p with
  | [d, d'], rv, p =>
    obtain ⟨u, u', rfl, r, r'⟩ := rv.two
    simp only at p
    split at p
    · rename_i xs g ys g' e0 e0'
      obtain ⟨a, vs, rfl, hs, rs, fut⟩ := seqOf_at Rs r e0
      obtain ⟨a', vs', rfl, hs', rs', fut'⟩ := seqOf_at Rs r' e0'
      refine ⟨a, a', vs, vs', rfl, hs, hs', p ads H1 _ .refl Rs ⟨fun i d' ads' H' st' hi f R' ok => ?_, fun i ads' H' st' hi f R' ok => ?_⟩⟩
      · obtain ⟨ok1, ok2⟩ := okG_app ok
        obtain ⟨ws, hw, rw'⟩ := fut ads' H' st' f R' ok1
        obtain ⟨ws', hw', rw2⟩ := fut' ads' H' st' f R' ok2
        rw [List.getElem?_zipWith] at hi
        cases hx : xs[i]? with
        | none => rw [hx] at hi; cases hi
        | some x =>
          cases hy : ys[i]? with
          | none => rw [hx, hy] at hi; cases hi
          | some y =>
            rw [hx, hy] at hi
            cases hi
            obtain ⟨w, h1, h2⟩ := rw'.get hx
            obtain ⟨w', h1', h2'⟩ := rw2.get hy
            refine ⟨⟨ws, ws', w, w', hw, hw', h1, h1'⟩, fun z H2 ⟨T, z1, z2, e1, hT, e2, e3, e4⟩ => ?_⟩
            subst e1 e2
            have e5 := e3 ws hw
            rw [h1] at e5
            cases e5
            have e6 := e4 ws' hw'
            rw [h1'] at e6
            cases e6
            exact new_pair R' hT h2 h2'
      · obtain ⟨ok1, ok2⟩ := okG_app ok
        obtain ⟨ws, hw, rw'⟩ := fut ads' H' st' f R' ok1
        obtain ⟨ws', hw', rw2⟩ := fut' ads' H' st' f R' ok2
        refine ⟨ws, ws', hw, hw', ?_⟩
        rw [← rw'.length, ← rw2.length]
        have hi : (List.zipWith (fun x y => DV.tup [x, y]) xs ys).length ≤ i := hi
        rw [List.length_zipWith] at hi
        omega
    · exact p.elim
  | [], _, p => exact (p : False).elim
  | [_], _, p => exact (p : False).elim
  | _ :: _ :: _ :: _, _, p => exact (p : False).elim)⟩
end
end ML

/-! ML10: what the printed walks use. -/
namespace ML
open PySem PySem.Spec PyProof.Rows L2
theorem bb_len : bootBuiltins "len" = some (.builtin "len") := by decide +kernel
theorem bb_abs : bootBuiltins "abs" = some (.builtin "abs") := by decide +kernel
theorem bb_max : bootBuiltins "max" = some (.builtin "max") := by decide +kernel
theorem bb_min : bootBuiltins "min" = some (.builtin "min") := by decide +kernel
theorem bb_sum : bootBuiltins "sum" = some (.builtin "sum") := by decide +kernel
theorem bb_all : bootBuiltins "all" = some (.builtin "all") := by decide +kernel
theorem bb_any : bootBuiltins "any" = some (.builtin "any") := by decide +kernel
theorem bb_isinstance : bootBuiltins "isinstance" = some (.builtin "isinstance") := by decide +kernel
theorem bb_int : bootBuiltins "int" = some (.type "int") := by decide +kernel
theorem bb_bool : bootBuiltins "bool" = some (.type "bool") := by decide +kernel
theorem bb_str : bootBuiltins "str" = some (.type "str") := by decide +kernel
theorem bb_list : bootBuiltins "list" = some (.type "list") := by decide +kernel
theorem bb_tuple : bootBuiltins "tuple" = some (.type "tuple") := by decide +kernel
theorem bb_dict : bootBuiltins "dict" = some (.type "dict") := by decide +kernel
theorem bb_range : bootBuiltins "range" = some (.type "range") := by decide +kernel
/-- a def of the text, ready to be called -/
structure Fn (P : Program) (w : World) (K : PySem.W.Frag) (mg : Str → Option Value) (base : Heap) (x : Str) (k : Nat) (ps : List Str) (g : List DV → M DV) : Prop where
  ex : ∃ (f : Addr) (fd : FuncData), FnOk P w K mg base (L2.CX P w) k f fd ps (spM K mg g) ∧ mg x = some (.ref f) ∧ PySem.W.keepIn K (.ref f) = true ∧ Binds K fd ps []
section
variable {X : Cx} {W : WX} {k : Nat} {ps : List Str} {x : Str} {p pos : Pos} {e : Expr} {es : List Expr} {g : List DV → M DV} {ms : List Ex}
theorem re_callF (F : Fn X.prog X.w X.K X.mg X.base x k ps g) (hr : Room k X.A) (hg : Gl X x) (tk : Takes X W)
    (ha : RA X W (e :: es) ms) (hdb : (x == ("__debug__" : Str)) = false := by kernel_rfl) (he : starEach (e :: es) X.env = (false, eval e X.env) :: starEach es X.env := by rfl) (hpl : (backTo pos (starEach es X.env)).any (·.1) = false := by rfl) :
    RE X W (.Call (.Name x p) (e :: es) [] pos) (eCall g ms) := by
  obtain ⟨f, fd, h1, h2, h3, h4⟩ := F.ex
  exact re_call h1 hr hg h2 h3 h4 tk ha hdb he hpl
theorem re_callF0 (F : Fn X.prog X.w X.K X.mg X.base x k ps g) (hr : Room k X.A) (hg : Gl X x) (tk : Takes X W) (hdb : (x == ("__debug__" : Str)) = false := by kernel_rfl) : RE X W (.Call (.Name x p) [] [] pos) (eCall g []) := by
  obtain ⟨f, fd, h1, h2, h3, h4⟩ := F.ex
  exact re_call0 h1 hr hg h2 h3 h4 tk hdb
end
def blkB (N : List Str) (sc scope : Scope) (own : List (Str × Nat)) : Bool :=
  (scope.kind == .function) && (scope.names.all fun y => scope.names.lookup y.1 == some y.2) && (own.all fun p => N[p.2]? == some p.1) &&
  (scope.names.all fun y => !(y.2 == .free) || sc.names.lookup y.1 == some .cell || sc.names.lookup y.1 == some .free) &&
  (scope.names.all fun y => !(y.2 == .local || y.2 == .cell) || (own.map (·.1)).elem y.1 || !(N.elem y.1))
theorem blk_of {N : List Str} {sc scope : Scope} {own : List (Str × Nat)} (h : blkB N sc scope own = true) : BlkOk N sc scope own := by
  unfold blkB at h
  simp only [Bool.and_eq_true, List.all_eq_true, Bool.or_eq_true, Bool.not_eq_true', beq_iff_eq, beq_eq_false_iff_ne, List.elem_eq_mem, decide_eq_true_eq, decide_eq_false_iff_not] at h
  obtain ⟨⟨⟨⟨h1, h2⟩, h3⟩, h4⟩, h5⟩ := h
  refine ⟨h1, h2, h3, fun y hy e => ?_, fun y hy e => ?_⟩
  · rcases h4 y hy with (z | z) | z
    · exact absurd e z
    · exact .inl z
    · exact .inr z
  · rcases h5 y hy with (z | z) | z
    · rcases e with q | q
      · exact absurd q (by simpa using fun q' => by rw [q] at z; simp at z)
      · exact absurd q (by simpa using fun q' => by rw [q] at z; simp at z)
    · exact .inl z
    · exact .inr z
end ML

/-! ML11: anything walked; pairs in comprehensions; lists of ranges. -/
namespace ML
open PySem PySem.Spec PyProof.Rows L2
section
variable {X : Cx} {W : WX} {pos : Pos} {tg : Expr}
theorem at_list {pins : List (Addr × Obj)} {s : Shared} {σ : L2.St} {H : Hp} {a : Addr} {xs : List V} {R : It → Hp → Prop} (I : Inv X pins σ H s) (hq : SqL X.K H a xs) (q : R (Itl X.K a) H) : wpAny (model X.prog X.w) X.A (pyIter (.ref a)) (PIE X pins σ tg R) X.xe s := by
  obtain ⟨its, rv, p, hz⟩ := I.list hq
  exact wpAny_pyIter_list p.isList (pi_one (tk := s.toks) I _ (turn_list a _) ⟨_, Heap.get?_push_size _ rfl, rfl, rfl⟩ q)
theorem at_tup {pins : List (Addr × Obj)} {s : Shared} {σ : L2.St} {H : Hp} {a : Addr} {xs : List V} {R : It → Hp → Prop} (I : Inv X pins σ H s) (hq : SqT X.K H a xs) (q : R (Itt X.K a) H) : wpAny (model X.prog X.w) X.A (pyIter (.ref a)) (PIE X pins σ tg R) X.xe s := by
  obtain ⟨its, rv, p, hz⟩ := I.tuple hq
  exact wpAny_pyIter_tuple (show s.heap.IsTuple a its.toArray from p) (pi_one (tk := s.toks) I _ (turn_tuple a _) ⟨_, Heap.get?_push_size _ rfl, rfl, rfl⟩ q)
theorem at_str {pins : List (Addr × Obj)} {s : Shared} {σ : L2.St} {H : Hp} {x : Str} {t : Tok} {R : It → Hp → Prop} (I : Inv X pins σ H s) (q : R (Its x) H) : wpAny (model X.prog X.w) X.A (pyIter (.str x t)) (PIE X pins σ tg R) X.xe s := by
  cases ha : x.cps.all (· < 128)
  · exact wpAny_pyIter_wide ha (pi_one (tk := s.toks) I _ (turn_str _ x t "str_iterator" (.inr rfl)) ⟨_, Heap.get?_push_size _ rfl, rfl, rfl⟩ q)
  · exact wpAny_pyIter_ascii ha (pi_one (tk := s.toks) I _ (turn_str _ x t "str_ascii_iterator" (.inl rfl)) ⟨_, Heap.get?_push_size _ rfl, rfl, rfl⟩ q)
/-- what a value walked gives -/
def wkOf (d : DV) (st : Sto) : Option Wk := match d with
  | .ref k => match st[k]? with
    | some (.lst xs) => some ⟨xs, [(k, .lst xs)]⟩
    | _ => none
  | .fzl xs => some ⟨xs, []⟩
  | .tup xs => some ⟨xs, []⟩
  | .ktp xs => some ⟨xs, []⟩
  | .str x => some ⟨x.cps.toList.map fun c => .str ⟨#[c]⟩, []⟩
  | _ => none
def optW (o : Option Wk) : M Wk := fun st => match o with
  | some w => .ok w st
  | none => .bad
def iAny (m : Ex) : Sl → M Wk := fun ss => bnd (m ss) fun d st => optW (wkOf d st) st
theorem wk_list {K : PySem.W.Frag} {mg : Str → Option Value} {ads : List Addr} {H : Hp} {a : Addr} {xs : List DV} {g : List (Nat × DO)} (fut : ∀ ads' H' st', Fut ads H ads' H' → RSt K mg ads' H' st' → okG g st' → ∃ ws, SqL K H' a ws ∧ RVs K ads' H' xs ws) : Walks K mg ⟨xs, g⟩ (Itl K a) ads H := by
  refine ⟨fun i d ads' H' st' hi f R' ok => ?_, fun i ads' H' st' hi f R' ok => ?_⟩
  · obtain ⟨ws, hw, rw'⟩ := fut _ _ _ f R' ok
    obtain ⟨w, h1, h2⟩ := rw'.get hi
    refine ⟨⟨ws, w, hw, h1⟩, fun x H2 ⟨e2, e3⟩ => ?_⟩
    subst e2
    have e4 := e3 ws hw
    rw [h1] at e4
    cases e4
    exact ⟨.refl, R', h2⟩
  · obtain ⟨ws, hw, rw'⟩ := fut _ _ _ f R' ok
    exact ⟨ws, hw, by rw [← rw'.length]; exact hi⟩
theorem wk_tup {K : PySem.W.Frag} {mg : Str → Option Value} {ads : List Addr} {H : Hp} {a : Addr} {xs : List DV} {vs : List V} (hs : SqT K H a vs) (rs : RVs K ads H xs vs) : Walks K mg ⟨xs, []⟩ (Itt K a) ads H := by
  refine ⟨fun i d ads' H' st' hi f R' ok => ?_, fun i ads' H' st' hi f R' ok => ?_⟩
  · have rs' := rs.mono f
    have hs' := f.kp.sqT hs
    obtain ⟨w, h1, h2⟩ := rs'.get hi
    refine ⟨⟨vs, w, hs', h1⟩, fun x H2 ⟨e2, e3⟩ => ?_⟩
    subst e2
    have e4 := e3 vs hs'
    rw [h1] at e4
    cases e4
    exact ⟨.refl, R', h2⟩
  · exact ⟨vs, f.kp.sqT hs, by rw [← rs.length]; exact hi⟩
theorem wk_str {K : PySem.W.Frag} {mg : Str → Option Value} {ads : List Addr} {H : Hp} {z : Str} : Walks K mg ⟨z.cps.toList.map fun c => .str ⟨#[c]⟩, []⟩ (Its z) ads H := by
  refine ⟨fun i d ads' H' st' hi f R' ok => ?_, fun i ads' H' st' hi f R' ok => ?_⟩
  · rw [List.getElem?_map] at hi
    cases e : z.cps.toList[i]? with
    | none => rw [e] at hi; cases hi
    | some c =>
      rw [e] at hi
      cases hi
      have e' : z.cps[i]? = some c := by rw [← Array.getElem?_toList]; exact e
      refine ⟨(Array.getElem?_eq_some_iff.mp e').1, fun x H2 ⟨e2, c', e3, e4⟩ => ?_⟩
      rw [e'] at e3
      cases e3
      subst e2 e4
      exact ⟨.refl, R', .str _⟩
  · show z.cps.size ≤ i
    simpa using hi
def tIany (K : PySem.W.Frag) (mg : Str → Option Value) (W : WX) (m : Ex) : TI := tI K mg W (iAny m)
theorem ri_any {l : Expr} {m : Ex} (hl : RE X W l m) : RI X W tg l (iAny m) := ⟨fun pins s σ H R I h => by
  have h := tM.bind (R := rV X.K) h
  refine thn (hl.run pins s σ H _ I h) fun v s1 ⟨x, H1, I1, r1, ads, ss, d, st, Rs, L, rv, p⟩ => ?_
  cases rv with
  | @ref k a hk =>
    cases r1
    have p : post X.K X.mg W (fun ads H' wk J => Walks X.K X.mg wk J ads H') σ ads H1 (optW (wkOf (.ref k) st) st) R := p
    cases e0 : wkOf (.ref k) st with
    | none => rw [e0] at p; exact (p : False).elim
    | some wk =>
      rw [e0] at p
      simp only [wkOf] at e0
      split at e0
      · rename_i xs e
        cases e0
        obtain ⟨vs, hv, rs⟩ := Rs.list hk e
        refine at_list I1 (.of hv) (p ads H1 _ .refl Rs (wk_list fun ads' H' st' f R' ok => ?_))
        obtain ⟨ws, hw, rw'⟩ := R'.list (Ext.get f.pre hk) (ok (k, .lst xs) (by simp))
        exact ⟨ws, .of hw, rw'⟩
      · cases e0
  | @fzl a xs vs hs rs =>
    cases r1
    exact at_list I1 hs.sq (p ads H1 _ .refl Rs (wk_list fun ads' H' st' f R' ok => ⟨vs, (f.kp.fzL hs).sq, rs.mono f⟩))
  | @tup a xs vs hs rs =>
    cases r1
    exact at_tup I1 (.of hs) (p ads H1 _ .refl Rs (wk_tup (.of hs) rs))
  | @ktp a xs vs hs rs =>
    cases r1
    exact at_tup I1 hs (p ads H1 _ .refl Rs (wk_tup hs rs))
  | str z =>
    obtain ⟨t, rfl⟩ := r1
    exact at_str I1 (p ads H1 _ .refl Rs wk_str)
  | _ => exact (p : False).elim⟩
/-! pairs (or lists) taken apart in comprehensions -/
def tgL (K : PySem.W.Frag) (is : List Nat) : TG := fun v σ H Q => ∃ a vs, v = .ref a ∧ (SqT K H a vs ∨ SqL K H a vs) ∧ vs.length = is.length ∧ Q (setAllV is vs σ) H
theorem pg_tupL {es : List Expr} {k : Nat} {is : List Nat} (hc : X.calm = true) (hN : X.N.Nodup) (h : NmsOk X es is) : PG X (.Tuple es k pos) (tgL X.K is) := by
  refine ⟨fun pins s σ H v u Q I r hq => ?_⟩
  obtain ⟨a, vs, rfl, hs, hl, q⟩ := hq
  cases r
  exact tupL_run hc hN h I hs hl q
theorem gTpL_st {is : List Nat} : ∀ (d : DV) (ss : Sl) (st : Sto) (ss' : Sl) (st' : Sto), gTpL is d ss st = .ok ss' st' → st' = st := fun d ss st ss' st' h => by
  cases d with
  | ref k =>
    simp only [gTpL] at h
    split at h
    · split at h
      · cases h; rfl
      · cases h
    · cases h
  | tup xs => simp only [gTpL] at h; split at h <;> cases h; rfl
  | ktp xs => simp only [gTpL] at h; split at h <;> cases h; rfl
  | fzl xs => simp only [gTpL] at h; split at h <;> cases h; rfl
  | _ => cases h
theorem cr_tupL {K : PySem.W.Frag} {mg : Str → Option Value} {is own : List Nat} (ho : ∀ i ∈ is, i ∈ own) {v : V} {σ : L2.St} {H : Hp} {Q : L2.St → Hp → Prop} {ads : List Addr} {ss : Sl} {d : DV} {st : Sto} (R : RSt K mg ads H st) (L : RSl K ads H ss σ) (rv : RV K ads H d v)
    (h : match gTpL is d ss st with
      | .ok ss' st' => ∀ σ', (∀ σ0, L2.wipe σ0 own = σ → L2.wipe σ' own = σ) → st' = st → RSl K ads H ss' σ' → Q σ' H
      | _ => False) : tgL K is v σ H Q := by
  have fin : ∀ (xs : List DV) (vs : List V), RVs K ads H xs vs → (∀ σ', (∀ σ0, L2.wipe σ0 own = σ → L2.wipe σ' own = σ) → st = st → RSl K ads H (setAll is xs ss) σ' → Q σ' H) → Q (setAllV is vs σ) H := fun xs vs rs h => by
    refine h _ (fun σ0 e => ?_) rfl (RSl.setAll rs L)
    rw [← e, wipe_setAll ho, wipe_wipe]
  cases rv with
  | @tup a xs vs hs rs =>
    simp only [gTpL] at h
    by_cases hl : xs.length = is.length
    · rw [if_pos hl] at h
      exact ⟨a, vs, rfl, .inl (.of hs), by rw [← rs.length]; exact hl, fin xs vs rs h⟩
    · rw [if_neg hl] at h
      exact (h : False).elim
  | @ktp a xs vs hs rs =>
    simp only [gTpL] at h
    by_cases hl : xs.length = is.length
    · rw [if_pos hl] at h
      exact ⟨a, vs, rfl, .inl hs, by rw [← rs.length]; exact hl, fin xs vs rs h⟩
    · rw [if_neg hl] at h
      exact (h : False).elim
  | @fzl a xs vs hs rs =>
    simp only [gTpL] at h
    by_cases hl : xs.length = is.length
    · rw [if_pos hl] at h
      exact ⟨a, vs, rfl, .inr hs.sq, by rw [← rs.length]; exact hl, fin xs vs rs h⟩
    · rw [if_neg hl] at h
      exact (h : False).elim
  | @ref k a hk =>
    simp only [gTpL] at h
    split at h
    · rename_i ss1 st1 e0
      split at e0
      · rename_i xs e
        obtain ⟨vs, hv, rs⟩ := R.list hk e
        by_cases hl : xs.length = is.length
        · rw [if_pos hl] at e0
          cases e0
          exact ⟨a, vs, rfl, .inr (.of hv), by rw [← rs.length]; exact hl, fin xs vs rs h⟩
        · rw [if_neg hl] at e0
          cases e0
      · cases e0
    · exact h.elim
  | _ => exact (h : False).elim
end
end ML
namespace ML
open PySem PySem.Spec PyProof.Rows L2
def rsteps (i c : Int) (n : Nat) : List DV := (List.range n).map fun (k : Nat) => .int (i + k * c)
def iRg3 (ms : List Ex) : Sl → M Wk := fun ss => bnd (eArgs ms ss) fun ds st => match ds with
  | [.int i, .int j, .int c] => if c ≠ 0 ∧ c.natAbs < 1073741824 ∧ Builtin.Range.small i j c = true ∧ Builtin.Range.rangeSize i j c = ((Builtin.Range.rangeSize i j c).toNat : Int) then .ok ⟨rsteps i c (Builtin.Range.rangeSize i j c).toNat, []⟩ st else .bad
  | _ => .bad
theorem ri_range3 {X : Cx} {W : WX} {tg a b c : Expr} {ms : List Ex} {p pos : Pos} (hg : Gl X "range") (hm : X.mg "range" = none) (ha : RA X W [a, b, c] ms)
    (hs : starEach [a, b, c] X.env = (false, eval a X.env) :: starEach [b, c] X.env := by rfl) (hpl : (backTo pos (starEach [b, c] X.env)).any (·.1) = false := by rfl) :
    RI X W tg (.Call (.Name "range" p) [a, b, c] [] pos) (iRg3 ms) := ⟨fun pins s σ H R I h => (pi_range3 hg hm ha hs hpl).run pins s σ H R I (by
  refine (tM.bind (R := rVs X.K) h).imp fun vs H1 ⟨ads, ss, ds, st, Rs, L, rv, p⟩ => ?_
  split at p
  · obtain ⟨u, u', u'', rfl, r1, r2, r3⟩ := rv.three
    cases r1; cases r2; cases r3
    split at p
    · rename_i hj
      refine ⟨_, _, _, _, rfl, ⟨hj.1, hj.2.1, hj.2.2.1, hj.2.2.2⟩, p ads H1 _ .refl Rs ⟨fun k d ads' H' st' hi f R' ok => ?_, fun k ads' H' st' hi f R' ok => ?_⟩⟩
      · unfold rsteps at hi
        rw [List.getElem?_map] at hi
        cases e : (List.range (Builtin.Range.rangeSize _ _ _).toNat)[k]? with
        | none => rw [e] at hi; cases hi
        | some j =>
          rw [e] at hi
          cases hi
          obtain ⟨h1, h2⟩ := List.getElem?_eq_some_iff.mp e
          rw [List.getElem_range] at h2
          subst h2
          refine ⟨by rw [List.length_range] at h1; exact h1, fun x H2 ⟨e2, e3⟩ => ?_⟩
          subst e2 e3
          exact ⟨.refl, R', .int _⟩
      · show _ ≤ k
        simpa [rsteps] using hi
    · exact p.elim
  · exact p.elim)⟩
end ML

/-! ML12: constants of the module, joined texts, texts of numbers. -/
namespace ML
open PySem PySem.Spec PyProof.Rows L2
section
variable {K : PySem.W.Frag} {mg : Str → Option Value} {h : Heap} {x : Str}
theorem gc_int {i : Int} {t : Tok} (X : K.In h) (G : h.Ns mainGlobals mg) (e : PySem.W.nsIn K mainGlobals x = some (some (.int i t))) : GC K mg x (.int i) := ⟨.int i, .int i t, PySem.W.mg_of X G e, ⟨t, rfl⟩, fun _ _ => .int i⟩
theorem gc_str {i : Str} {t : Tok} (X : K.In h) (G : h.Ns mainGlobals mg) (e : PySem.W.nsIn K mainGlobals x = some (some (.str i t))) : GC K mg x (.str i) := ⟨.str i, .str i t, PySem.W.mg_of X G e, ⟨t, rfl⟩, fun _ _ => .str i⟩
theorem gc_tup {a : Addr} {od : Option Addr} {its : Array Value} {n : Nat} {sl : Array (Option Value)} {xs : List DV} {vs : List V} (X : K.In h) (G : h.Ns mainGlobals mg) (e : PySem.W.nsIn K mainGlobals x = some (some (.ref a))) (l : K.lookup a = some ⟨.type "tuple", od, .seq its n, sl⟩) (v : Vals vs its.toList) (hz : its.size ≤ 1000) (r : ∀ ads H, RVs K ads H xs vs) : GC K mg x (.ktp xs) :=
  ⟨.ref a, .ref a, PySem.W.mg_of X G e, rfl, fun ads H => .ktp (.inr ⟨_, its, n, l, rfl, rfl, by rw [sizeLine_eq]; omega, v⟩) (r ads H)⟩
end
/-! a.join(list or tuple of texts) -/
def strsD : List DV → Option (List Str)
  | [] => some []
  | .str i :: r => (strsD r).map (i :: ·)
  | _ :: _ => none
def seqM (d : DV) (st : Sto) : Option (List DV) := match d with
  | .fzl xs => some xs
  | .tup xs => some xs
  | .ktp xs => some xs
  | .ref k => match st[k]? with
    | some (.lst xs) => some xs
    | _ => none
  | _ => none
def joinM (d : DV) (as : List DV) : M DV := match d, as with
  | .str a, [y] => fun st => match (seqM y st).bind strsD with
    | some ys => if (ys.map (·.length)).sum + ys.length * a.length ≤ 16777216 then .ok (.str (Txt.join a ys)) st else .bad
    | none => .bad
  | _, _ => stuck
theorem strs_vs {K : PySem.W.Frag} {ads : List Addr} {H : Hp} : ∀ {xs : List DV} {vs : List V} {ns : List Str}, RVs K ads H xs vs → strsD xs = some ns → vs = ns.map V.str
  | [], _, ns, .nil, e => by cases e; rfl
  | x :: xs, _, ns, .cons (v := v) (vs := vs) h r, e => by
    cases x with
    | str i =>
      cases h
      simp only [strsD] at e
      cases e2 : strsD xs with
      | none => rw [e2] at e; cases e
      | some ms =>
        rw [e2] at e
        cases e
        rw [strs_vs r e2]
        rfl
    | _ => cases e
theorem mm_join {X : Cx} : MtMM X "str" "str.join" joinM := by
  intro pins s σ H x vs v us Q ads d as st W I R rx rs r1 r2 h
  cases rx with
  | str a =>
    match as, rs, h with
    | [y], rs, h =>
      obtain ⟨u, rfl, ry⟩ := rs.one
      have h : post X.K X.mg W (rV X.K) σ ads H (match (seqM y st).bind strsD with
        | some ys => if (ys.map (·.length)).sum + ys.length * a.length ≤ 16777216 then .ok (.str (Txt.join a ys)) st else .bad
        | none => .bad) Q := h
      cases e1 : seqM y st with
      | none => rw [e1] at h; exact (h : False).elim
      | some xs =>
      cases e2 : strsD xs with
      | none => rw [e1, Option.bind_some, e2] at h; exact (h : False).elim
      | some ys =>
      rw [e1, Option.bind_some, e2] at h
      by_cases hz : (ys.map (·.length)).sum + ys.length * a.length ≤ 16777216
      case neg => simp only [if_neg hz] at h; exact (h : False).elim
      simp only [if_pos hz] at h
      have hq : Q (.str (Txt.join a ys)) H := h.ok R (.str _)
      have key : ∃ p, u = .ref p ∧ (SqL X.K H p (ys.map V.str) ∨ SqT X.K H p (ys.map V.str)) := by
        cases ry with
        | @tup b zs ws hs qs =>
          injection e1 with e1
          subst e1
          rw [← strs_vs qs e2]
          exact ⟨b, rfl, .inr (.of hs)⟩
        | @ktp b zs ws hs qs =>
          injection e1 with e1
          subst e1
          rw [← strs_vs qs e2]
          exact ⟨b, rfl, .inr hs⟩
        | @fzl b zs ws hs qs =>
          injection e1 with e1
          subst e1
          rw [← strs_vs qs e2]
          exact ⟨b, rfl, .inl hs.sq⟩
        | @ref k b hk =>
          simp only [seqM] at e1
          split at e1
          · rename_i zs e
            injection e1 with e1
            subst e1
            obtain ⟨ws, hv, qs⟩ := R.list hk e
            rw [← strs_vs qs e2]
            exact ⟨b, rfl, .inl (.of hv)⟩
          · cases e1
        | _ => cases e1
      obtain ⟨p, rfl, hp⟩ := key
      exact mt_join pins s σ H _ _ v us Q I r1 r2 ⟨a, p, ys, rfl, rfl, hp, hz, hq⟩
    | [], _, h => exact (h : False).elim
    | _ :: _ :: _, _, h => exact (h : False).elim
  | _ => exact (h : False).elim
/-! str(a number) -/
def strM : List DV → M DV
  | [.int i] => fun st => if i.natAbs.log2 < 1920 then .ok (.str (toString i)) st else .bad
  | _ => stuck
theorem cm_str {X : Cx} : CallM X (.type "str") strM := by
  intro pins s σ H vs us Q ads as st W I R rs r h
  match as, rs, h with
  | [d], rs, h =>
    obtain ⟨u, rfl, rd⟩ := rs.one
    cases rd with
    | int i =>
      have h : post X.K X.mg W (rV X.K) σ ads H (if i.natAbs.log2 < 1920 then .ok (.str (toString i)) st else .bad) Q := h
      by_cases hz : i.natAbs.log2 < 1920
      · rw [if_pos hz] at h
        exact call_str_int pins s σ H _ us Q I r ⟨i, rfl, hz, h.ok R (.str _)⟩
      · rw [if_neg hz] at h
        exact (h : False).elim
    | _ => exact (h : False).elim
  | [], _, h => exact (h : False).elim
  | d :: _ :: _, _, h => cases d <;> exact (h : False).elim
end ML

/-! ML13: classes ready to be made, methods ready to be called; dict displays; list(range(n)); a dict of the top. -/
namespace ML
open PySem PySem.Spec PyProof.Rows L2
/-! ### classes -/
structure MkC (P : Program) (w : World) (K : PySem.W.Frag) (mg : Str → Option Value) (base : Heap) (c : Str) (k : Nat) (ps : List Str) (g : List DV → M DV) : Prop where
  ex : ∃ (C f : Addr) (fd : FuncData), Mk K C f ∧ FnOk P w K mg base (L2.CX P w) k f fd ps (spM K mg g) ∧ mg c = some (.ref C) ∧ Binds K fd ps []
structure MeC (P : Program) (w : World) (K : PySem.W.Frag) (mg : Str → Option Value) (base : Heap) (c m : Str) (k : Nat) (ps : List Str) (g : List DV → M DV) : Prop where
  ex : ∃ (f : Addr) (fd : FuncData), KM K mg c m f ∧ FnOk P w K mg base (L2.CX P w) k f fd ps (spM K mg g) ∧ Binds K fd ps []
section
variable {X : Cx} {W : WX} {k : Nat} {ps : List Str} {c m : Str} {lay : List Str} {p pos apos : Pos} {e o : Expr} {es : List Expr} {g : List DV → M DV} {ms : List Ex} {mo : Ex}
theorem re_makeC (F : MkC X.prog X.w X.K X.mg X.base c k ps g) (hr : Room (k + 1) X.A) (hg : Gl X c) (tk : Takes X W) (ha : RA X W (e :: es) ms)
    (hdb : (c == ("__debug__" : Str)) = false := by decide) (he : starEach (e :: es) X.env = (false, eval e X.env) :: starEach es X.env := by rfl) (hpl : (backTo pos (starEach es X.env)).any (·.1) = false := by rfl) :
    RE X W (.Call (.Name c p) (e :: es) [] pos) (eCall (mkM c lay g) ms) := by
  obtain ⟨C, f, fd, h1, h2, h3, h4⟩ := F.ex
  exact re_make h1 h2 hr hg h3 h4 tk ha hdb he hpl
theorem re_makeC0 (F : MkC X.prog X.w X.K X.mg X.base c k ps g) (hr : Room (k + 1) X.A) (hg : Gl X c) (tk : Takes X W)
    (hdb : (c == ("__debug__" : Str)) = false := by decide) : RE X W (.Call (.Name c p) [] [] pos) (eCall (mkM c lay g) []) := by
  obtain ⟨C, f, fd, h1, h2, h3, h4⟩ := F.ex
  exact re_make0 h1 h2 hr hg h3 h4 tk hdb
theorem re_methF {pl : Sem Bool} (ho : RE X W o mo) (F : MeC X.prog X.w X.K X.mg X.base c m k ps g) (hml : m ∉ lay) (hr : Room k X.A) (tk : Takes X W) (ha : RA X W (e :: es) ms)
    (hst : starEach (e :: es) X.env = (false, eval e X.env) :: starEach es X.env := by rfl) (hpl : (backTo pos (starEach es X.env)).any (·.1) = false := by rfl)
    (ht : eval (.Call (.Attribute o m apos) (e :: es) [] pos) X.env = (do
      let ov ← eval o X.env
      standAt apos.atName
      let (f, first) ← holding [ov] (getMethod ov m pl)
      callWith pos f first (backTo pos (starEach (e :: es) X.env)) (backToKw pos (keywordEach [] X.env))) := by rfl) :
    RE X W (.Call (.Attribute o m apos) (e :: es) [] pos) (eMeth c lay g mo ms) := by
  obtain ⟨f, fd, h1, h2, h3⟩ := F.ex
  exact re_meth (pl := pl) ho h1 hml h2 hr h3 tk ha hst hpl ht
theorem re_methF0 {pl : Sem Bool} (ho : RE X W o mo) (F : MeC X.prog X.w X.K X.mg X.base c m k ps g) (hml : m ∉ lay) (hr : Room k X.A) (tk : Takes X W)
    (ht : eval (.Call (.Attribute o m apos) [] [] pos) X.env = (do
      let ov ← eval o X.env
      standAt apos.atName
      let (f, first) ← holding [ov] (getMethod ov m pl)
      callWith pos f first (backTo pos (starEach [] X.env)) (backToKw pos (keywordEach [] X.env))) := by rfl) :
    RE X W (.Call (.Attribute o m apos) [] [] pos) (eMeth c lay g mo []) := by
  obtain ⟨f, fd, h1, h2, h3⟩ := F.ex
  exact re_meth0 (pl := pl) ho h1 hml h2 hr h3 tk ht
theorem kf_of {K : PySem.W.Frag} {mg : Str → Option Value} {c f : Str} {C : Addr} (e : mg c = some (.ref C)) (cl : Cls K C) (n : PySem.W.findIn K (.ref C) f = some none) : KF K mg c f := fun D h => by
  rw [e] at h
  cases h
  exact ⟨cl, n⟩
theorem km_of {K : PySem.W.Frag} {mg : Str → Option Value} {c m : Str} {C g : Addr} (e : mg c = some (.ref C)) (cl : Cls K C) (n : Meth K C m g) : KM K mg c m g := fun D h => by
  rw [e] at h
  cases h
  exact ⟨cl, n⟩
end
/-! ### dict displays -/
def pairsM : List (Ex × Ex) → Sl → M (List (DV × DV))
  | [], _ => pur []
  | (a, b) :: r, ss => bnd (a ss) fun x => bnd (b ss) fun y => bnd (pairsM r ss) fun t => pur ((x, y) :: t)
def keysD : List (DV × DV) → Option (List (HK × DV))
  | [] => some []
  | (x, y) :: r => match kOf x with
    | some h => if flatH h = true then (keysD r).map ((h, y) :: ·) else none
    | none => none
def mergeD (kvs : List (HK × DV)) : List (HK × DV) := kvs.foldl (fun a p => hSet a p.1 p.2) []
def eDisp (ps : List (Ex × Ex)) : Ex := fun ss => bnd (pairsM ps ss) fun t => match keysD t with
  | some kvs => if kvs.length ≤ 15 then alloc (.dic (mergeD kvs)) else stuck
  | none => stuck
abbrev RP2 (K : PySem.W.Frag) (ads : List Addr) (H : Hp) : List (DV × DV) → List (V × V) → Prop := Paired fun (p : DV × DV) (q : V × V) => RV K ads H p.1 q.1 ∧ RV K ads H p.2 q.2
theorem RP2.mono {K : PySem.W.Frag} {ads ads' : List Addr} {H H' : Hp} (f : Fut ads H ads' H') : ∀ {t : List (DV × DV)} {vs : List (V × V)}, RP2 K ads H t vs → RP2 K ads' H' t vs
  | _, _, .nil => .nil
  | _, _, .cons h r => .cons ⟨h.1.mono f, h.2.mono f⟩ (RP2.mono f r)
theorem pairs_post {K : PySem.W.Frag} {mg : Str → Option Value} {W : WX} : ∀ {ps : List (Ex × Ex)} {σ : L2.St} {H : Hp} {ads : List Addr} {ss : Sl} {st : Sto} {Q : List (V × V) → Hp → Prop}, RSt K mg ads H st → RSl K ads H ss σ →
    post K mg W (RP2 K) σ ads H (pairsM ps ss st) Q → tPairs (ps.map fun p => (tM K mg W (rV K) p.1, tM K mg W (rV K) p.2)) σ H Q
  | [], _, _, _, _, _, _, R, L, p => p.ok R .nil
  | (a, b) :: r, σ, H, ads, ss, st, Q, R, L, p => by
    refine ⟨ads, ss, st, R, L, (post.bind (R := rV K) p).mono fun x H1 ⟨ads1, dx, st1, f1, R1, r1, p1⟩ => ?_⟩
    refine ⟨ads1, ss, st1, R1, L.mono f1, (post.bind (R := rV K) p1).mono fun y H2 ⟨ads2, dy, st2, f2, R2, r2, p2⟩ => ?_⟩
    refine pairs_post R2 ((L.mono f1).mono f2) ?_
    refine (post.bind (R := RP2 K) p2).mono fun t H3 ⟨ads3, dt, st3, f3, R3, r3, p3⟩ => ?_
    exact p3.ok R3 (.cons ⟨(r1.mono f2).mono f3, r2.mono f3⟩ r3)
theorem keys_rel {K : PySem.W.Frag} {ads : List Addr} {H : Hp} : ∀ {t : List (DV × DV)} {vs : List (V × V)} {kvs : List (HK × DV)}, RP2 K ads H t vs → keysD t = some kvs → ∃ ws : List (Key × V), vs = ws.map (fun kv => (kV kv.1, kv.2)) ∧ RKs K ads H kvs ws
  | _, _, _, .nil, h => by
    cases h
    exact ⟨[], rfl, .nil⟩
  | (x, y) :: r, (u, v) :: vs, kvs, .cons q t, h => by
    unfold keysD at h
    cases e : kOf x with
    | none => rw [e] at h; cases h
    | some hk =>
      rw [e] at h
      simp only at h
      by_cases f : flatH hk = true
      case neg => rw [if_neg f] at h; cases h
      rw [if_pos f] at h
      cases e2 : keysD r with
      | none => rw [e2] at h; cases h
      | some rs =>
        rw [e2] at h
        cases h
        obtain ⟨ws, e3, r3⟩ := keys_rel t e2
        subst e3
        obtain ⟨q1, q2⟩ := q
        cases x with
        | int i =>
          cases e
          cases q1
          exact ⟨(.inl i, v) :: ws, rfl, .cons ⟨rfl, q2⟩ r3⟩
        | str s =>
          cases e
          cases q1
          exact ⟨(.inr s, v) :: ws, rfl, .cons ⟨rfl, q2⟩ r3⟩
        | non => cases e; cases f
        | tup ks =>
          simp only [kOf] at e
          cases e4 : kOfs ks with
          | none => rw [e4] at e; cases e
          | some hs => rw [e4] at e; cases e; cases f
        | _ => cases e
theorem nd_put {κ : Type} [DecidableEq κ] {kvs : List (κ × V)} {k : κ} (v : V) (hn : (kvs.map (·.1)).Nodup) : ((putK kvs k v).map (·.1)).Nodup := by
  unfold putK
  by_cases h : (kvs.any fun kv => decide (kv.1 = k)) = true
  · rw [if_pos h, List.map_map]
    have : kvs.map ((·.1) ∘ fun kv => if kv.1 = k then (kv.1, v) else kv) = kvs.map (·.1) := List.map_congr_left fun p _ => by
      show (if p.1 = k then (p.1, v) else p).1 = p.1
      split <;> rfl
    rw [this]
    exact hn
  · rw [if_neg h, List.map_append, List.nodup_append]
    refine ⟨hn, by simp, fun a ha b hb e => ?_⟩
    obtain ⟨p, hp, rfl⟩ := List.mem_map.mp ha
    have hb : b = k := by simpa using hb
    subst hb
    exact h (List.any_eq_true.mpr ⟨p, hp, by simpa using e⟩)
theorem merge_rel {K : PySem.W.Frag} {ads : List Addr} {H : Hp} : ∀ {kvs acc : List (HK × DV)} {ws vs : List (Key × V)}, (vs.map (·.1)).Nodup → RKs K ads H acc vs → RKs K ads H kvs ws → RKs K ads H (kvs.foldl (fun a p => hSet a p.1 p.2) acc) (mergeK vs ws)
  | _, _, _, _, _, ra, .nil => ra
  | (h, d) :: kvs, acc, (k, v) :: ws, vs, nd, ra, .cons q r => by
    obtain ⟨q1, q2⟩ := q
    have q1 : h = hK k := q1
    subst q1
    exact merge_rel (acc := hSet acc (hK k) d) (vs := putK vs k v) (nd_put v nd) (RKs.put q2 nd ra) r
/-- an address without a handle is written and gets one -/
theorem RSt.own {K : PySem.W.Frag} {mg : Str → Option Value} {ads : List Addr} {H : Hp} {st : Sto} (R : RSt K mg ads H st) {p : Addr} {z u : HO} {o : DO} (e : H p = some z) (h1 : ∀ xs, z ≠ .tup xs) (h2 : ∀ o' z', z ≠ .frz o' z') (h : p ∉ ads) (ro : RO K mg (ads ++ [p]) (upd H p u) p o) (h3 : ∀ fs, z ≠ .xd fs := by intro _ z; cases z) : RSt K mg (ads ++ [p]) (upd H p u) (st ++ [o]) :=
  (R.keep (.write e h1 h2 h3) fun a ha => upd_ne fun e => h (e ▸ ha)).adopt h ro
section
variable {X : Cx} {W : WX}
/-- the pairs of a display, as read -/
structure RPp (X : Cx) (W : WX) (pos : Pos) (keys : List (Option Expr)) (values : List Expr) (ps : List (Ex × Ex)) : Prop where
  run : PPs X pos keys values (ps.map fun p => (tM X.K X.mg W (rV X.K) p.1, tM X.K X.mg W (rV X.K) p.2))
theorem rpp_nil {pos : Pos} : RPp X W pos [] [] [] := ⟨pps_nil⟩
theorem rpp_cons {pos : Pos} {k v : Expr} {ks : List (Option Expr)} {vs : List Expr} {mk mv : Ex} {ps : List (Ex × Ex)} (hk : RE X W k mk) (hv : RE X W v mv) (hr : RPp X W pos ks vs ps) : RPp X W pos (some k :: ks) (v :: vs) ((mk, mv) :: ps) := ⟨pps_cons hk hv hr.run⟩
theorem re_disp {pos : Pos} {keys : List (Option Expr)} {values : List Expr} {ps : List (Ex × Ex)} (h : RPp X W pos keys values ps) (hall : keys.all (·.isSome) = true := by rfl) (hl : keys.length = values.length := by rfl) (h0 : keys ≠ [] := by simp)
    (h15 : keys.length ≤ 15 := by decide) : RE X W (.Dict keys values pos) (eDisp ps) := ⟨fun pins s σ H Q I q => (pe_disp h.run hall hl h0 h15).run pins s σ H Q I (by
  obtain ⟨ads, ss, st, R, L, p⟩ := q
  intro a ha
  have Rn := R.newU (u := .dK []) ha
  have fn : Fut ads H ads (upd H a (.dK [])) := .newU ha
  have an : a ∉ ads := R.fresh ha
  refine pairs_post Rn (L.mono fn) ?_
  unfold eDisp bnd at p
  cases e : pairsM ps ss st with
  | bad => rw [e] at p; exact p
  | exc x st' =>
    rw [e] at p
    exact fun ads' H' cls d fu R' rx => p ads' H' cls d (fn.trans fu) R' rx
  | ok t st' =>
    rw [e] at p
    simp only at p
    intro ads' H2 vs fu R' rt
    obtain ⟨o1, o2⟩ := fu.oth a _ an upd_same
    cases ek : keysD t with
    | none => rw [ek] at p; exact p.elim
    | some kvs =>
    rw [ek] at p
    simp only at p
    by_cases h15 : kvs.length ≤ 15
    case neg => rw [if_neg h15] at p; exact p.elim
    rw [if_pos h15] at p
    obtain ⟨ws, rfl, rk⟩ := keys_rel rt ek
    refine ⟨o2, ws, rfl, ?_, ?_⟩
    · rw [← show kvs.length = ws.length from rk.length]
      exact h15
    have kw : Kp H2 (upd H2 a (.dK (mergeK [] ws))) := .write o2 (fun _ z => by cases z) (fun _ _ z => by cases z)
    have ff := fn.trans fu
    have f2 : Fut ads H (ads' ++ [a]) (upd H2 a (.dK (mergeK [] ws))) := by
      obtain ⟨r, er⟩ := ff.pre
      refine ⟨⟨r ++ [a], by rw [er, List.append_assoc]⟩, ff.kp.trans kw, fun b ob h1 h2 => ?_, fun b ob u e => ?_⟩
      case refine_2 =>
        have nb : b ≠ a := ne_of_none e ha
        rw [upd_ne nb]
        exact ff.fz b ob u e
      have nb : b ≠ a := ne_of_none h2 ha
      obtain ⟨h3, h4⟩ := ff.oth b ob h1 h2
      refine ⟨fun z => ?_, by rw [upd_ne nb]; exact h4⟩
      rcases List.mem_append.mp z with z | z
      · exact h3 z
      · exact nb (by simpa using z)
    refine p _ _ _ f2 (R'.own o2 (fun _ z => by cases z) (fun _ _ z => by cases z) o1 (.inl ⟨mergeK [] ws, upd_same, ?_⟩)) (.ref (alloc_at R'))
    exact (merge_rel (acc := []) (vs := []) List.nodup_nil .nil rk).mono2 ⟨[a], rfl⟩ kw)⟩
end

/-! ### a dict of the top with text keys -/
def EntL (P : Params) : List (Str × DV) → List DictEntry → Prop
  | [], [] => True
  | p :: r, e :: es => (∃ t, e.key = .str p.1 t ∧ e.hash = PyData.keyHash P p.1) ∧ (∃ v, RelV v e.val ∧ ∀ (K : PySem.W.Frag) (ads : List Addr) (H : Hp), RV K ads H p.2 v) ∧ EntL P r es
  | _, _ => False
theorem EntL.lit {P : Params} : ∀ {kvs : List (Str × DV)} {es : List DictEntry}, EntL P kvs es → PySem.W.KeysLit P es
  | [], [], _ => True.intro
  | _ :: _, [], h => h.elim
  | [], _ :: _, h => h.elim
  | p :: r, e :: es, ⟨⟨t, h1, h2⟩, _, h3⟩ => ⟨⟨p.1, t, h1, h2⟩, EntL.lit h3⟩
def FindR (o : Option DV) (u : Option Value) : Prop := match o, u with
  | some d, some u => ∃ v, RelV v u ∧ ∀ (K : PySem.W.Frag) (ads : List Addr) (H : Hp), RV K ads H d v
  | none, none => True
  | _, _ => False
theorem EntL.find {P : Params} (z : Str) : ∀ {kvs : List (Str × DV)} {es : List DictEntry}, EntL P kvs es → FindR (kvs.lookup z) ((es.find? fun e => Value.isStrOf z e.key).map (·.val))
  | [], [], _ => True.intro
  | _ :: _, [], h => h.elim
  | [], _ :: _, h => h.elim
  | (x, d) :: r, e :: es, ⟨⟨t, h1, h2⟩, hv, h3⟩ => by
    have h1 : e.key = .str x t := h1
    rw [List.lookup_cons, List.find?_cons, h1]
    have q : Value.isStrOf z (.str x t) = (z == x) := by
      show (x == z) = (z == x)
      exact Bool.eq_iff_iff.mpr ⟨fun h => by rw [beq_iff_eq] at h ⊢; exact h.symm, fun h => by rw [beq_iff_eq] at h ⊢; exact h.symm⟩
    rw [q]
    cases e2 : z == x with
    | true => exact hv
    | false => exact EntL.find z h3
structure GKD (w : World) (K : PySem.W.Frag) (mg : Str → Option Value) (x : Str) (kvs : List (Str × DV)) : Prop where
  ex : ∃ (a : Addr) (es : Array DictEntry) (n : Nat), mg x = some (.ref a) ∧ K.lookup a = some ⟨.type "dict", none, .dict es n, #[]⟩ ∧ EntL w.params kvs es.toList ∧ (a == sysModules) = false
theorem gkd_of {w : World} {K : PySem.W.Frag} {mg : Str → Option Value} {h : Heap} {x : Str} {kvs : List (Str × DV)} {a : Addr} {es : Array DictEntry} {n : Nat} (X : K.In h) (G : h.Ns mainGlobals mg) (e : PySem.W.nsIn K mainGlobals x = some (some (.ref a)))
    (l : K.lookup a = some ⟨.type "dict", none, .dict es n, #[]⟩) (v : EntL w.params kvs es.toList) (lo : (a == sysModules) = false) : GKD w K mg x kvs := ⟨a, es, n, PySem.W.mg_of X G e, l, v, lo⟩
def kget (kvs : List (Str × DV)) (x z : DV) : M DV := match x with
  | .str s => pur ((kvs.lookup s).getD z)
  | _ => stuck
def eKget (kvs : List (Str × DV)) (mx mz : Ex) : Ex := fun ss => bnd (mx ss) fun x => bnd (mz ss) fun z => kget kvs x z
section
variable {X : Cx} {W : WX} {x : Str} {kvs : List (Str × DV)} {e f : Expr} {mx mz : Ex} {p apos cpos : Pos}
theorem kd_map {w : World} {K : PySem.W.Frag} {mg : Str → Option Value} (G : GKD w K mg x kvs) : ∃ (a : Addr) (es : Array DictEntry) (n : Nat), mg x = some (.ref a) ∧ KDict K w a es n ∧ ∀ z, FindR (kvs.lookup z) (PySem.findBy Value.isStrOf es z) := by
  obtain ⟨a, es, n, h1, h2, h3, h4⟩ := G.ex
  refine ⟨a, es, n, h1, ⟨h2, h3.lit, h4⟩, fun z => ?_⟩
  have q := h3.find z
  obtain ⟨l⟩ := es
  unfold PySem.findBy
  rw [List.find?_toArray]
  exact q
theorem re_kget (G : GKD X.w X.K X.mg x kvs) (hg : Gl X x) (ha : RE X W e mx) (hb : RE X W f mz) (hd : (x == ("__debug__" : Str)) = false := by decide)
    (m : M2 X (.Name x p) "get" apos e f cpos := by exact ⟨rfl, rfl, rfl, rfl⟩) : RE X W (.Call (.Attribute (.Name x p) "get" apos) [e, f] [] cpos) (eKget kvs mx mz) := by
  obtain ⟨a, es, n, h1, D, fi⟩ := kd_map G
  refine ⟨fun pins s σ H Q I h => ?_⟩
  have tI : ∀ {s : Shared} {H : Hp}, Inv X pins σ H s → s.TypeIs (.ref a) "dict" := fun I => kd_type D I
  refine wpAny_Call_method m.base m.few m.line PySem.F.plainAttrs_dict PySem.F.slot_dict_get PySem.F.type_dict_get (ld_glob I hg h1 ?_ hd)
  refine ⟨tI I, fun b q => ?_, ?_⟩
  · cases q
    exact ⟨_, I.kIn _ _ D.at_, rfl⟩
  rw [m.trees]
  obtain ⟨ads, ss, st, R, L, p0⟩ := h
  have h2 : tM X.K X.mg W (rV X.K) mx σ H _ := ⟨ads, ss, st, R, L, post.bind p0⟩
  refine Calls.callWith_builtin rfl (Calls.evalArgs_plain (Calls.spliced_cons (thn (ha.run pins s σ H _ I h2) fun iv s2 ⟨y, H2, I2, ry, ads1, dy, st1, f1, R1, r1, p1⟩ => ?_)))
  have h3 : tM X.K X.mg W (rV X.K) mz σ H2 _ := ⟨ads1, ss, st1, R1, L.mono f1, post.bind p1⟩
  refine Calls.spliced_cons (thn (hb.run pins s2 σ H2 _ I2 h3) fun fv s3 ⟨z, H3, I3, rz, ads2, dz, st2, f2, R2, r2, p2⟩ => Calls.spliced_nil ?_)
  have r1' := r1.mono f2
  cases dy with
  | str k =>
    cases r1'
    obtain ⟨t, rfl⟩ := ry
    have q := fi k
    refine call_meetsIn PySem.F.slot_dict_get (tI I3) PySem.F.entry_dict_get (PySem.F.args_dict_get_3 _ _ _) (meets_dict_get_default (strKind X.prog X.w) a (PySem.strKind_is X.prog X.w k t) D.low fv) ⟨_, PySem.W.mapOf_K (prog := X.prog) I3.kIn D.at_ D.lit, ?_⟩
    have p3 : post X.K X.mg W (rV X.K) σ ads2 H3 (.ok ((kvs.lookup k).getD dz) st2) Q := p2
    unfold FindR at q
    cases e1 : kvs.lookup k with
    | none =>
      rw [e1] at q p3
      cases e2 : PySem.findBy Value.isStrOf es k with
      | none => exact ⟨z, H3, I3.tok _, rz, p3.ok R2 r2⟩
      | some u => rw [e2] at q; exact q.elim
    | some d =>
      rw [e1] at q p3
      cases e2 : PySem.findBy Value.isStrOf es k with
      | none => rw [e2] at q; exact q.elim
      | some u =>
        rw [e2] at q
        obtain ⟨v, q1, q2⟩ := q
        exact ⟨v, H3, I3.tok _, q1, p3.ok R2 (q2 _ _ _)⟩
  | _ => exact (p2 : False).elim
end
/-! ### list(range(n)) -/
def lrgOk (n : Int) : Prop := -(2 ^ 62) ≤ n ∧ n < 2 ^ 62 ∧ n.toNat ≤ 2 ^ 24
@[irreducible] instance (n : Int) : Decidable (lrgOk n) := by unfold lrgOk; exact inferInstance
def eLrg (ms : List Ex) : Ex := fun ss => bnd (eArgs ms ss) fun ds => match ds with
  | [.int n] => if lrgOk n then alloc (.lst (irange 0 n.toNat)) else stuck
  | _ => stuck
theorem rgV_rel {K : PySem.W.Frag} {ads : List Addr} {H : Hp} {n : Int} : RVs K ads H (irange 0 n.toNat) (rgV 0 n) := by
  unfold rgV irange
  rw [Int.sub_zero]
  generalize List.range n.toNat = l
  induction l with
  | nil => exact .nil
  | cons a l ih => exact .cons (.int _) ih
section
variable {X : Cx} {W : WX} {e : Expr} {m : Ex} {p p2 pos pos2 : Pos}
theorem re_lrg (hc : X.calm = true) (hg : Gl X "list") (hg2 : Gl X "range") (hm : X.mg "list" = none) (hm2 : X.mg "range" = none) (ha : RE X W e m)
    (na : starEach [e] X.env = (false, eval e X.env) :: starEach [] X.env := by rfl) (nb : starEach [.Call (.Name "range" p2) [e] [] pos2] X.env = (false, eval (.Call (.Name "range" p2) [e] [] pos2) X.env) :: starEach [] X.env := by rfl) :
    RE X W (.Call (.Name "list" p) [.Call (.Name "range" p2) [e] [] pos2] [] pos) (eLrg [m]) := ⟨fun pins s σ H Q I h => (pe_listRg hc hg hm (prg_1 hg2 hm2 ha na) nb).run pins s σ H Q I (by
  obtain ⟨ads, ss, st, R, L, p0⟩ := h
  have e1 : eLrg [m] ss st = bnd (m ss) (fun d => match d with
    | .int n => if lrgOk n then alloc (.lst (irange 0 n.toNat)) else stuck
    | _ => stuck) st := by
    unfold eLrg eArgs eArgs bnd
    cases m ss st with
    | ok d st' => cases d <;> rfl
    | exc _ _ => rfl
    | bad => rfl
  rw [e1] at p0
  refine ⟨ads, ss, st, R, L, (post.bind (R := rV X.K) p0).mono fun x H1 ⟨ads1, dx, st1, f1, R1, r1, p1⟩ => ?_⟩
  cases dx with
  | int n =>
    cases r1
    have p1 : post X.K X.mg W (rV X.K) σ ads1 H1 ((if lrgOk n then alloc (.lst (irange 0 n.toNat)) else stuck) st1) Q := p1
    by_cases hn : lrgOk n
    case neg => rw [if_neg hn] at p1; exact p1.elim
    rw [if_pos hn] at p1
    refine ⟨n, rfl, ⟨by decide, by decide, hn.1, hn.2.1, by rw [Int.sub_zero]; exact hn.2.2⟩, fun q hq => ?_⟩
    exact post.newL R1 rgV_rel p1 hq
  | _ => exact (p1 : False).elim)⟩
end
end ML

/-! ML14: a name and names in a pair, dict(d), xs[::-1]. -/
namespace ML
open PySem PySem.Spec PyProof.Rows L2
/-- a pair of a thing and a tuple (or list) of things -/
def gNst (i : Nat) (is : List Nat) : Tg := fun d ss st => match d with
  | .tup [x, y] => gTpL is y (ss.set i (some x)) st
  | _ => .bad
section
variable {X : Cx} {W : WX} {pos : Pos}
theorem rg_nst {x : Str} {px p2 : Pos} {i k k2 : Nat} {es : List Expr} {is : List Nat} (hc : X.calm = true) (hN : X.N.Nodup) (hi : X.N[i]? = some x) (hx : Loc X.env.scope x) (hf : X.fn x = true ∨ X.env.scope.names.lookup x = some .local) (h : NmsOk X es is) : RG X (.Tuple [.Name x px, .Tuple es k2 p2] k pos) (gNst i is) := by
  have h2 := rg_tupL (k := k2) (pos := p2) hc hN h
  have h1 := pg_name (pos := px) hN hi hx hf
  refine ⟨fun pins s σ H v u Q I r hq => (pg_tup hc (pgs_cons h1 (pgs_cons h2 pgs_nil rfl) rfl) rfl rfl).run pins s σ H v u Q I r ?_⟩
  obtain ⟨ads, ss, d, st, R, L, rv, p⟩ := hq
  cases rv with
  | @tup a xs vs hs rs =>
    cases rs with
    | nil => exact (p : False).elim
    | @cons d1 v1 ds vs r1 rr =>
      cases rr with
      | nil => exact (p : False).elim
      | @cons d2 v2 ds vs r2 rr =>
        cases rr with
        | cons _ _ => exact (p : False).elim
        | nil =>
          have p : (match gTpL is d2 (ss.set i (some d1)) st with
            | .ok ss' st' => ∀ ads' H' σ', Fut ads H ads' H' → RSt X.K X.mg ads' H' st' → RSl X.K ads' H' ss' σ' → Q σ' H'
            | _ => False) := p
          refine ⟨a, _, rfl, .of hs, rfl, v1, _, rfl, v2, _, rfl, ⟨ads, ss.set i (some d1), d2, st, R, L.set i r1, r2, ?_⟩⟩
          cases e : gTpL is d2 (ss.set i (some d1)) st with
          | ok ss' st' =>
            rw [e] at p
            exact fun ads' H' σ' f R' L' => ⟨rfl, p ads' H' σ' f R' L'⟩
          | exc _ _ => rw [e] at p; exact p
          | bad => rw [e] at p; exact p
  | _ => exact (p : False).elim
end
/-- dict(d) -/
def dictM : List DV → M DV
  | [.ref k] => fun st => match st[k]? with
    | some (.dic kvs) => if kvs.all (fun p => flatH p.1) = true then alloc (.dic kvs) st else .bad
    | _ => .bad
  | _ => stuck
section
variable {X : Cx} {W : WX}
theorem cm_dict : CallM X (.type "dict") dictM := by
  intro pins s σ H vs us Q ads as st W I R rv r h
  unfold dictM at h
  split at h
  · rename_i k0
    obtain ⟨v, rfl, hv⟩ := rv.one
    cases hv with
    | @ref _ a hk =>
      split at h
      · rename_i kvs e1
        split at h
        case isFalse => exact h.elim
        rename_i ha
        have fin : ∀ {H2 : Hp} {vs : List (Key × V)}, Inv X pins σ H2 s → RSt X.K X.mg ads H2 st → Fut ads H ads H2 → H2 a = some (.dK vs) → RKs X.K ads H2 kvs vs → wpAny (model X.prog X.w) X.A (PySem.call (.type "dict") us) (EP X pins σ Q) X.xe s := by
          intro H2 vs I2 R2 f2 e rk
          refine call_dictD pins s σ H2 _ us Q I2 r ⟨a, vs, rfl, .inl e, fun p hp => ?_⟩
          have kw : Kp H2 (upd H2 p (.dK vs)) := .new hp
          refine (h : post X.K X.mg W (rV X.K) σ ads H (.ok (.ref st.length) (st ++ [.dic kvs])) Q) _ _ _ ?_ (R2.alloc hp (.inl ⟨vs, upd_same, rk.mono2 ⟨[p], rfl⟩ kw⟩)) (.ref (alloc_at R2))
          exact f2.trans (.alloc hp)
        rcases R.ob _ _ _ hk e1 with ⟨vs, hv, rk⟩ | ⟨vs, hv, rk⟩
        · exact fin I R .refl hv rk
        · cases kvs with
          | nil =>
            cases rk
            have fw := R.write (o := .dK []) hk
            have R2 : RSt X.K X.mg ads (upd H a (.dK [])) (st.set k0 (.dic [])) := R.set hk (.inl ⟨[], upd_same, .nil⟩)
            have es : st.set k0 (.dic []) = st := by
              obtain ⟨l1, l2⟩ := List.getElem?_eq_some_iff.mp e1
              rw [← l2]
              exact List.set_getElem_self l1
            rw [es] at R2
            exact fin (Inv.toK I hv) R2 fw upd_same .nil
          | cons p t =>
            cases rk with
            | cons q _ =>
              have q1 := q.1
              rw [List.all_cons, Bool.and_eq_true, q1] at ha
              cases ha.1
      · exact h.elim
  · exact (h : False).elim
end
/-- xs[::-1] -/
def revM : DV → M DV
  | .ref k => fun st => match st[k]? with
    | some (.lst xs) => alloc (.lst xs.reverse) st
    | _ => .bad
  | _ => stuck
def eRev (m : Ex) : Ex := fun ss => bnd (m ss) revM
theorem RVs.rev {K : PySem.W.Frag} {ads : List Addr} {H : Hp} : ∀ {xs : List DV} {vs : List V}, RVs K ads H xs vs → RVs K ads H xs.reverse vs.reverse
  | _, _, .nil => .nil
  | _, _, .cons h r => by
    rw [List.reverse_cons, List.reverse_cons]
    exact RVs.append (RVs.rev r) (.cons h .nil)
section
variable {X : Cx} {W : WX}
theorem re_rev {e : Expr} {m : Ex} {k : Nat} {p1 p2 p3 pos : Pos} (he : RE X W e m) : RE X W (.Subscript e (.Slice none none (some (.UnaryOp .USub (.Constant (.int 1) k p1) p2)) p3) pos) (eRev m) := ⟨fun pins s σ H Q I h => (pe_revL he).run pins s σ H Q I (by
  refine (tM.bind (R := rV X.K) h).imp fun x H1 ⟨ads, ss, d, st, R, L, rv, p⟩ => ?_
  cases rv with
  | @ref k a hk =>
    simp only [revM] at p
    split at p
    · rename_i xs e1
      obtain ⟨vs, hv, rs⟩ := R.list hk e1
      exact ⟨a, vs, rfl, .of hv, fun q hq => post.newL R rs.rev p hq⟩
    · exact p.elim
  | _ => exact (p : False).elim)⟩
end
end ML

/-! ML15: two dicts that are the same, by != . -/
namespace ML
open PySem PySem.Spec PyProof.Rows L2
def hitI (b : List (HK × DV)) (p : HK × DV) : Bool := match p.2, hGet b p.1 with
  | .int i, some (.int j) => i == j
  | _, _ => false
/-- the same keys, texts or ints, with the same ints; one at least -/
def sameD (a b : List (HK × DV)) : Bool := a.length == b.length && (a.any fun p => flatH p.1) && (b.any fun p => flatH p.1) && a.all (hitI b)
def neDM : DV → DV → M DV
  | .ref k, .ref l => fun st => match st[k]?, st[l]? with
    | some (.dic a), some (.dic b) => if sameD a b = true then .ok (.bl false) st else .bad
    | _, _ => .bad
  | _, _ => stuck
section
variable {K : PySem.W.Frag} {ads : List Addr} {H : Hp}
theorem RTs.noflat : ∀ {vs : List (List Key × V)} {kvs : List (HK × DV)}, RTs K ads H kvs vs → (kvs.any fun p => flatH p.1) = false
  | _, _, .nil => rfl
  | (k, v) :: vs, (h, d) :: kvs, .cons q r => by
    have h1 := q.1
    have h1 : h = _ := h1
    subst h1
    rw [List.any_cons, RTs.noflat r]
    rfl
theorem hits_D {A : Around} {s : Shared} {kb : List (HK × DV)} {ls : List (Key × V)} {wb : List (Key × Value)} (rb : RKs K ads H kb ls) (qb : KV ls wb) :
    ∀ {ka : List (HK × DV)} {ks : List (Key × V)} {wa : List (Key × Value)}, RKs K ads H ka ks → KV ks wa → ka.all (hitI kb) = true → PySem.W.KeqHits A s wb wa true
  | _, _, _, .nil, .nil, _ => .nil
  | (h, d) :: ka, (k, v) :: ks, (k', u) :: wa, .cons q r, .cons q' r', hh => by
    rw [List.all_cons, Bool.and_eq_true] at hh
    obtain ⟨h1, h2⟩ := hh
    obtain ⟨e1, r1⟩ := q
    obtain ⟨e2, r2⟩ := q'
    have e1 : h = hK k := e1
    have e2 : k = k' := e2
    have r1 : RV K ads H d v := r1
    have r2 : RelV v u := r2
    subst e2
    subst e1
    have g := rb.get (k := k)
    unfold hitI at h1
    simp only at h1
    have rr : RelO (valV ls k) (valueAt wb k) := qb.val k
    show PySem.W.KeqHits A s wb ((k, u) :: wa) (true && true)
    cases d with
    | int i =>
      cases hg : hGet kb (hK k) with
      | none => rw [hg] at h1; cases h1
      | some y =>
        rw [hg] at h1 g
        cases y with
        | int j =>
          have ij : i = j := by simpa using h1
          subst ij
          cases hv : valV ls k with
          | none => rw [hv] at g; exact g.elim
          | some z =>
            rw [hv] at g rr
            have g : RV K ads H (.int i) z := g
            cases g
            cases r1
            obtain ⟨y, hy, ry⟩ := rr.some_of
            exact .hit hy (eqAt_same r2 ry rfl) (hits_D rb qb r r' h2)
        | _ => cases h1
    | _ => cases h1
end
section
variable {X : Cx}
theorem opm_neD (hu : X.A.units + 64 < cLine) : OpM X (compareOp .NotEq) neDM := by
  intro pins s σ H x y v u Q ads dx dy st W I R hx hy rx ry h
  cases hx with
  | @ref k a hk =>
    cases hy with
    | @ref l b hl =>
      have h : post X.K X.mg W (rV X.K) σ ads H (match st[k]?, st[l]? with
        | some (.dic a), some (.dic b) => if sameD a b = true then .ok (.bl false) st else .bad
        | _, _ => .bad) Q := h
      cases e1 : st[k]? with
      | none => rw [e1] at h; exact h.elim
      | some o1 =>
        cases o1 with
        | dic ka =>
          cases e2 : st[l]? with
          | none => rw [e1, e2] at h; exact h.elim
          | some o2 =>
            cases o2 with
            | dic kb =>
              rw [e1, e2] at h
              simp only at h
              by_cases hd : sameD ka kb = true
              · rw [if_pos hd] at h
                unfold sameD at hd
                simp only [Bool.and_eq_true] at hd
                obtain ⟨⟨⟨d1, d2⟩, d3⟩, d4⟩ := hd
                rcases R.ob k a _ hk e1 with ⟨ks, ha, ra⟩ | ⟨ks, ha, ra⟩
                · rcases R.ob l b _ hl e2 with ⟨ls, hb, rb⟩ | ⟨ls, hb, rb⟩
                  · cases (show v = Value.ref a from rx)
                    cases (show u = Value.ref b from ry)
                    obtain ⟨_, ya, va, qa, da⟩ := dk_of I.hok ha
                    obtain ⟨_, yb, vb, qb, db⟩ := dk_of I.hok hb
                    have ll : va.length = vb.length := by
                      rw [← Paired.length qa, ← Paired.length qb, ← Paired.length ra, ← Paired.length rb]
                      simpa using d1
                    refine PySem.W.keq_ne (knd := mixKind X.prog X.w) (r := true) ya yb da db (by omega) (fun _ => hits_D rb qb ra qa d4) ?_
                    rw [show (!(va.length == vb.length && true)) = false from by rw [ll]; simp]
                    have := h.ok R (.bl false)
                    exact ⟨.bl false, H, I, rfl, this⟩
                  · rw [RTs.noflat rb] at d3
                    cases d3
                · rw [RTs.noflat ra] at d2
                  cases d2
              · rw [if_neg hd] at h
                exact h.elim
            | _ => rw [e1, e2] at h; exact h.elim
        | _ => rw [e1] at h; exact h.elim
    | _ => exact (h : False).elim
  | _ => cases hy <;> exact (h : False).elim
end
end ML

/-! ML16: in and subscript of a written dict; things that are never reached. -/
namespace ML
open PySem PySem.Spec PyProof.Rows L2
theorem EntL.ns {P : Params} (z : Str) : ∀ {kvs : List (Str × DV)} {es : List DictEntry}, EntL P kvs es → FindR (kvs.lookup z) ((es.find? fun e => e.key.isStr z).map (·.val)) ∧ es.any (·.refKey) = false
  | [], [], _ => ⟨True.intro, rfl⟩
  | _ :: _, [], h => h.elim
  | [], _ :: _, h => h.elim
  | (x, d) :: r, e :: es, ⟨⟨t, h1, h2⟩, hv, h3⟩ => by
    obtain ⟨q1, q2⟩ := EntL.ns z h3
    have h1 : e.key = .str x t := h1
    rw [List.lookup_cons, List.find?_cons, List.any_cons, h1]
    have q : Value.isStr (.str x t) z = (z == x) := by
      show (x == z) = (z == x)
      exact Bool.eq_iff_iff.mpr ⟨fun h => by rw [beq_iff_eq] at h ⊢; exact h.symm, fun h => by rw [beq_iff_eq] at h ⊢; exact h.symm⟩
    rw [q]
    refine ⟨?_, ?_⟩
    · cases e2 : z == x with
      | true => exact hv
      | false => exact q1
    · rw [q2]
      unfold DictEntry.refKey
      rw [h1]
      rfl
theorem kd_ns {w : World} {K : PySem.W.Frag} {mg : Str → Option Value} {x : Str} {kvs : List (Str × DV)} (G : GKD w K mg x kvs) : ∃ (a : Addr) (es : Array DictEntry) (n : Nat), mg x = some (.ref a) ∧ KDict K w a es n ∧ ∀ z, ∃ r, PySem.W.nsIn K a z = some r ∧ FindR (kvs.lookup z) r := by
  obtain ⟨a, es, n, h1, h2, h3, h4⟩ := G.ex
  refine ⟨a, es, n, h1, ⟨h2, h3.lit, h4⟩, fun z => ?_⟩
  obtain ⟨q1, q2⟩ := h3.ns z
  unfold PySem.W.nsIn
  rw [h2]
  simp only
  cases e : es.toList.find? (fun e => e.key.isStr z) with
  | some u =>
    rw [e] at q1
    exact ⟨_, rfl, q1⟩
  | none =>
    rw [e] at q1
    simp only [q2]
    exact ⟨_, rfl, q1⟩
theorem FindR.isSome {o : Option DV} {u : Option Value} (h : FindR o u) : u.isSome = o.isSome := by
  cases o <;> cases u <;> first | rfl | exact h.elim
def kin (kvs : List (Str × DV)) (x : DV) : M DV := match x with
  | .str s => pur (.bl (kvs.lookup s).isSome)
  | _ => stuck
def knin (kvs : List (Str × DV)) (x : DV) : M DV := match x with
  | .str s => pur (.bl (!(kvs.lookup s).isSome))
  | _ => stuck
def kix (kvs : List (Str × DV)) (x : DV) : M DV := match x with
  | .str s => fun st => match kvs.lookup s with
    | some d => .ok d st
    | none => .bad
  | _ => stuck
def eKin (kvs : List (Str × DV)) (mx : Ex) : Ex := fun ss => bnd (mx ss) (kin kvs)
def eKnin (kvs : List (Str × DV)) (mx : Ex) : Ex := fun ss => bnd (mx ss) (knin kvs)
def eKix (kvs : List (Str × DV)) (mx : Ex) : Ex := fun ss => bnd (mx ss) (kix kvs)
section
variable {X : Cx} {W : WX} {x : Str} {kvs : List (Str × DV)} {e : Expr} {mx : Ex} {p pos : Pos}
theorem re_kin (G : GKD X.w X.K X.mg x kvs) (hg : Gl X x) (ha : RE X W e mx) (hm : behindInMarks .In (.Name x p) = false := by rfl) (hd : (x == ("__debug__" : Str)) = false := by decide) : RE X W (.Compare e [.In] [.Name x p] pos) (eKin kvs mx) := by
  obtain ⟨a, es, n, h1, D, fi⟩ := kd_ns G
  refine ⟨fun pins s σ H Q I h => ?_⟩
  have hb : PE X (.Name x p) (tC (.ref a)) := pe_glob hg h1 rfl hd
  obtain ⟨ads, ss, st, R, L, p0⟩ := h
  have h2 : tM X.K X.mg W (rV X.K) mx σ H fun y H2 => tC (.ref a) σ H2 fun z H3 => z = .ref a ∧ ∃ ads dx st, RSt X.K X.mg ads H3 st ∧ RV X.K ads H3 dx y ∧ post X.K X.mg W (rV X.K) σ ads H3 (kin kvs dx st) Q :=
    ⟨ads, ss, st, R, L, (post.bind p0).mono fun y H2 ⟨ads1, dx, st1, f1, R1, r1, p1⟩ => ⟨rfl, ads1, dx, st1, R1, r1, p1⟩⟩
  refine wpAny_Compare1 (bin ha hb I h2 fun v u s2 y z H2 I2 rx ry ⟨ez, ads1, dx, st1, R1, r1, p1⟩ => ?_) hm
  subst ez
  cases r1 with
  | str k =>
    obtain ⟨r, e1, fr⟩ := fi k
    have p2 : post X.K X.mg W (rV X.K) σ ads1 H2 (.ok (.bl (kvs.lookup k).isSome) st1) Q := p1
    exact op_in_kd D pins s2 σ H2 _ _ v u Q I2 rx ry ⟨k, r, rfl, rfl, e1, by rw [fr.isSome]; exact p2.ok R1 (.bl _)⟩
  | _ => exact (p1 : False).elim
theorem re_knin (G : GKD X.w X.K X.mg x kvs) (hg : Gl X x) (ha : RE X W e mx) (hm : behindInMarks .NotIn (.Name x p) = false := by rfl) (hd : (x == ("__debug__" : Str)) = false := by decide) : RE X W (.Compare e [.NotIn] [.Name x p] pos) (eKnin kvs mx) := by
  obtain ⟨a, es, n, h1, D, fi⟩ := kd_ns G
  refine ⟨fun pins s σ H Q I h => ?_⟩
  have hb : PE X (.Name x p) (tC (.ref a)) := pe_glob hg h1 rfl hd
  obtain ⟨ads, ss, st, R, L, p0⟩ := h
  have h2 : tM X.K X.mg W (rV X.K) mx σ H fun y H2 => tC (.ref a) σ H2 fun z H3 => z = .ref a ∧ ∃ ads dx st, RSt X.K X.mg ads H3 st ∧ RV X.K ads H3 dx y ∧ post X.K X.mg W (rV X.K) σ ads H3 (knin kvs dx st) Q :=
    ⟨ads, ss, st, R, L, (post.bind p0).mono fun y H2 ⟨ads1, dx, st1, f1, R1, r1, p1⟩ => ⟨rfl, ads1, dx, st1, R1, r1, p1⟩⟩
  refine wpAny_Compare1 (bin ha hb I h2 fun v u s2 y z H2 I2 rx ry ⟨ez, ads1, dx, st1, R1, r1, p1⟩ => ?_) hm
  subst ez
  cases r1 with
  | str k =>
    obtain ⟨r, e1, fr⟩ := fi k
    have p2 : post X.K X.mg W (rV X.K) σ ads1 H2 (.ok (.bl (!(kvs.lookup k).isSome)) st1) Q := p1
    exact op_notIn_kd D pins s2 σ H2 _ _ v u Q I2 rx ry ⟨k, r, rfl, rfl, e1, by rw [fr.isSome]; exact p2.ok R1 (.bl _)⟩
  | _ => exact (p1 : False).elim
theorem rt_kin (G : GKD X.w X.K X.mg x kvs) (hg : Gl X x) (ha : RE X W e mx) (hm : behindInMarks .In (.Name x p) = false := by rfl) (hd : (x == ("__debug__" : Str)) = false := by decide) : RT X W (.Compare e [.In] [.Name x p] pos) (tVal (eKin kvs mx)) := by
  obtain ⟨a, es, n, h1, D, fi⟩ := kd_ns G
  refine ⟨fun pins s σ H Q I h => ?_⟩
  have hb : PE X (.Name x p) (tC (.ref a)) := pe_glob hg h1 rfl hd
  have h' : tM X.K X.mg W (rV X.K) (eKin kvs mx) σ H fun x H' => ∃ k, x = V.bl k ∧ Q k H' := (tM.bind (f := fun _ => asB) h).imp fun x H' ⟨ads, ss, d, st, R, L, r, p⟩ => by
    cases r with
    | bl k => exact ⟨k, rfl, p.ok R rfl⟩
    | _ => exact (p : False).elim
  obtain ⟨ads, ss, st, R, L, p0⟩ := h'
  have h2 : tM X.K X.mg W (rV X.K) mx σ H fun y H2 => tC (.ref a) σ H2 fun z H3 => z = .ref a ∧ ∃ ads dx st, RSt X.K X.mg ads H3 st ∧ RV X.K ads H3 dx y ∧ post X.K X.mg W (rV X.K) σ ads H3 (kin kvs dx st) fun x H' => ∃ k, x = V.bl k ∧ Q k H' :=
    ⟨ads, ss, st, R, L, (post.bind p0).mono fun y H2 ⟨ads1, dx, st1, f1, R1, r1, p1⟩ => ⟨rfl, ads1, dx, st1, R1, r1, p1⟩⟩
  refine wpAny_isTrue_Compare1 (bin ha hb I h2 fun v u s2 y z H2 I2 rx ry ⟨ez, ads1, dx, st1, R1, r1, p1⟩ => thn (show wpAny (model X.prog X.w) X.A (compareOp .In v u) (EP X pins σ fun x H' => ∃ k, x = V.bl k ∧ Q k H') X.xe s2 from ?_) fun c s3 ⟨z, H3, I3, r3, k, e, q3⟩ => ?_) hm
  · subst ez
    cases r1 with
    | str k =>
      obtain ⟨r, e1, fr⟩ := fi k
      have p2 : post X.K X.mg W (rV X.K) σ ads1 H2 (.ok (.bl (kvs.lookup k).isSome) st1) fun x H' => ∃ k, x = V.bl k ∧ Q k H' := p1
      exact op_in_kd D pins s2 σ H2 _ _ v u _ I2 rx ry ⟨k, r, rfl, rfl, e1, by rw [fr.isSome]; exact p2.ok R1 (.bl _)⟩
    | _ => exact (p1 : False).elim
  · subst e
    cases r3
    exact wpAny_truthy_bool ⟨H3, I3, q3⟩
theorem rt_knin (G : GKD X.w X.K X.mg x kvs) (hg : Gl X x) (ha : RE X W e mx) (hm : behindInMarks .NotIn (.Name x p) = false := by rfl) (hd : (x == ("__debug__" : Str)) = false := by decide) : RT X W (.Compare e [.NotIn] [.Name x p] pos) (tVal (eKnin kvs mx)) := by
  obtain ⟨a, es, n, h1, D, fi⟩ := kd_ns G
  refine ⟨fun pins s σ H Q I h => ?_⟩
  have hb : PE X (.Name x p) (tC (.ref a)) := pe_glob hg h1 rfl hd
  have h' : tM X.K X.mg W (rV X.K) (eKnin kvs mx) σ H fun x H' => ∃ k, x = V.bl k ∧ Q k H' := (tM.bind (f := fun _ => asB) h).imp fun x H' ⟨ads, ss, d, st, R, L, r, p⟩ => by
    cases r with
    | bl k => exact ⟨k, rfl, p.ok R rfl⟩
    | _ => exact (p : False).elim
  obtain ⟨ads, ss, st, R, L, p0⟩ := h'
  have h2 : tM X.K X.mg W (rV X.K) mx σ H fun y H2 => tC (.ref a) σ H2 fun z H3 => z = .ref a ∧ ∃ ads dx st, RSt X.K X.mg ads H3 st ∧ RV X.K ads H3 dx y ∧ post X.K X.mg W (rV X.K) σ ads H3 (knin kvs dx st) fun x H' => ∃ k, x = V.bl k ∧ Q k H' :=
    ⟨ads, ss, st, R, L, (post.bind p0).mono fun y H2 ⟨ads1, dx, st1, f1, R1, r1, p1⟩ => ⟨rfl, ads1, dx, st1, R1, r1, p1⟩⟩
  refine wpAny_isTrue_Compare1 (bin ha hb I h2 fun v u s2 y z H2 I2 rx ry ⟨ez, ads1, dx, st1, R1, r1, p1⟩ => thn (show wpAny (model X.prog X.w) X.A (compareOp .NotIn v u) (EP X pins σ fun x H' => ∃ k, x = V.bl k ∧ Q k H') X.xe s2 from ?_) fun c s3 ⟨z, H3, I3, r3, k, e, q3⟩ => ?_) hm
  · subst ez
    cases r1 with
    | str k =>
      obtain ⟨r, e1, fr⟩ := fi k
      have p2 : post X.K X.mg W (rV X.K) σ ads1 H2 (.ok (.bl (!(kvs.lookup k).isSome)) st1) fun x H' => ∃ k, x = V.bl k ∧ Q k H' := p1
      exact op_notIn_kd D pins s2 σ H2 _ _ v u _ I2 rx ry ⟨k, r, rfl, rfl, e1, by rw [fr.isSome]; exact p2.ok R1 (.bl _)⟩
    | _ => exact (p1 : False).elim
  · subst e
    cases r3
    exact wpAny_truthy_bool ⟨H3, I3, q3⟩
theorem re_kix (G : GKD X.w X.K X.mg x kvs) (hg : Gl X x) (ha : RE X W e mx) (hs : PlainIx e := by exact fun _ _ => rfl) (hd : (x == ("__debug__" : Str)) = false := by decide) : RE X W (.Subscript (.Name x p) e pos) (eKix kvs mx) := by
  obtain ⟨a, es, n, h1, D, fi⟩ := kd_ns G
  have hb : PE X (.Name x p) (tC (.ref a)) := pe_glob hg h1 rfl hd
  refine ⟨fun pins s σ H Q I h => ?_⟩
  obtain ⟨ads, ss, st, R, L, p0⟩ := h
  have h2 : tC (.ref a) σ H fun z H3 => tM X.K X.mg W (rV X.K) mx σ H3 fun y H2 => z = .ref a ∧ ∃ ads dx st, RSt X.K X.mg ads H2 st ∧ RV X.K ads H2 dx y ∧ post X.K X.mg W (rV X.K) σ ads H2 (kix kvs dx st) Q :=
    (⟨ads, ss, st, R, L, (post.bind p0).mono fun y H2 ⟨ads1, dx, st1, f1, R1, r1, p1⟩ => ⟨rfl, ads1, dx, st1, R1, r1, p1⟩⟩ : tM X.K X.mg W (rV X.K) mx σ H _)
  refine Subscript_ (binT hb ha I h2 fun v u s2 z y H2 I2 rx ry ⟨ez, ads1, dx, st1, R1, r1, p1⟩ => ?_)
  subst ez
  cases r1 with
  | str k =>
    obtain ⟨r, e1, fr⟩ := fi k
    have p2 : post X.K X.mg W (rV X.K) σ ads1 H2 (match kvs.lookup k with
      | some d => .ok d st1
      | none => .bad) Q := p1
    cases e2 : kvs.lookup k with
    | none => rw [e2] at p2; exact (p2 : False).elim
    | some d =>
      rw [e2] at fr p2
      cases r with
      | none => exact fr.elim
      | some u0 =>
        obtain ⟨v0, q1, q2⟩ := fr
        exact ix_kdict _ _ pins s2 σ H2 _ _ v u Q I2 rx ry ⟨a, k, v0, rfl, rfl, ⟨es, n, u0, D.at_, D.lit, e1, q1⟩, p2.ok R1 (q2 _ _ _)⟩ (hs _ _)
  | _ => exact (p1 : False).elim
end
/-! ### what is never reached -/
section
variable {X : Cx} {W : WX} {e : Expr} {st : Stmt}
theorem re_stuck : RE X W e (fun _ => stuck) := ⟨fun pins s σ H Q I h => by
  obtain ⟨_, _, _, _, _, p⟩ := h
  exact (p : False).elim⟩
theorem rs_stuck : RS X W st (fun _ => stuck) := ⟨fun pins s σ H D I h => by
  obtain ⟨_, _, _, _, _, p⟩ := h
  exact (p : False).elim⟩
end
end ML

/-! ML17: list of a dict, sorted, index. -/
namespace ML
open PySem PySem.Spec PyProof.Rows L2
theorem bb_sorted : bootBuiltins "sorted" = some (.builtin "sorted") := by decide +kernel
theorem bb_repr : bootBuiltins "repr" = some (.builtin "repr") := by decide +kernel
theorem bb_set : bootBuiltins "set" = some (.type "set") := by decide +kernel
theorem bb_zip : bootBuiltins "zip" = some (.type "zip") := by decide +kernel
def isrt (ns : List Int) : List Int := ns.mergeSort fun a b => decide (a ≤ b)
theorem isrt_perm (ns : List Int) : (isrt ns).Perm ns := List.mergeSort_perm _ _
theorem isrt_le (ns : List Int) : (isrt ns).Pairwise (· ≤ ·) := by
  have := List.pairwise_mergeSort (le := fun a b : Int => decide (a ≤ b)) (fun a b c h1 h2 => decide_eq_true (Int.le_trans (of_decide_eq_true h1) (of_decide_eq_true h2))) (fun a b => by
    rcases Int.le_total a b with h | h
    · simp [h]
    · simp [h]) ns
  exact this.imp fun h => of_decide_eq_true h
theorem isrt_eq {ns ms : List Int} (h : ms.Perm ns) (p : ms.Pairwise (· ≤ ·)) : ms = isrt ns :=
  List.Perm.eq_of_pairwise (fun a b _ _ h1 h2 => Int.le_antisymm h1 h2) p (isrt_le ns) (h.trans (isrt_perm ns).symm)
def sortedM : List DV → M DV
  | [d] => fun st => match (itemsM d st).bind intsD with
    | some ns => alloc (.lst ((isrt ns).map DV.int)) st
    | none => .bad
  | _ => stuck
def listX : List DV → M DV
  | [.ref k] => fun st => match st[k]? with
    | some (.dic kvs) => if kvs.all (fun p => flatH p.1) = true then alloc (.lst (kvs.map fun p => dOf p.1)) st else .bad
    | _ => listM [.ref k] st
  | as => listM as
def indexM (d : DV) (as : List DV) : M DV := fun st => match as with
  | [y] => match d with
    | .ref k => match st[k]? with
      | some (.lst xs) => if (flatD y && xs.all flatD) = true then match xs.findIdx? (fun z => eqF z y) with
        | some j => .ok (.int (j : Nat)) st
        | none => .bad
        else .bad
      | _ => .bad
    | _ => .bad
  | _ => .bad
section
variable {X : Cx} {W : WX}
theorem cm_sorted : CallM X (.builtin "sorted") sortedM := by
  intro pins s σ H vs us Q ads as st W I R rv r h
  unfold sortedM at h
  split at h
  · obtain ⟨v, rfl, hv⟩ := rv.one
    split at h
    · rename_i ns e
      obtain ⟨a, rfl, hs⟩ := items_ints R hv e
      refine cr_sortedI pins s σ H _ us Q I r ⟨a, ns, rfl, hs, fun ns' p hp hw hl => ?_⟩
      rw [isrt_eq hp hw]
      refine post.newL R ?_ h hl
      have : ∀ l : List Int, RVs X.K ads H (l.map DV.int) (l.map V.int) := fun l => by
        induction l with
        | nil => exact .nil
        | cons x l ih => exact .cons (.int x) ih
      exact this _
    · exact h.elim
  · exact (h : False).elim
theorem keysV {K : PySem.W.Frag} {ads : List Addr} {H : Hp} : ∀ {kvs : List (HK × DV)} {vs : List (Key × V)}, RKs K ads H kvs vs → RVs K ads H (kvs.map fun p => dOf p.1) (vs.map fun kv => kV kv.1)
  | _, _, .nil => .nil
  | (k, d) :: kvs, (q, v) :: vs, .cons h r => by
    obtain ⟨h1, _⟩ := h
    have h1 : k = hK q := h1
    subst h1
    refine .cons ?_ (keysV r)
    cases q with
    | inl i => exact .int i
    | inr x => exact .str x
theorem cm_listX (hc : X.calm = true) : CallM X (.type "list") listX := by
  intro pins s σ H vs us Q ads as st W I R rv r h
  unfold listX at h
  split at h
  · split at h
    · rename_i k0 kvs e
      obtain ⟨v, rfl, hv⟩ := rv.one
      cases hv with
      | @ref _ a hk =>
        split at h
        · rename_i hf
          rcases R.ob _ _ _ hk e with ⟨vs, e1, rk⟩ | ⟨vs, e1, rk⟩
          · exact call_listD hc pins s σ H _ us Q I r ⟨a, vs, rfl, .of e1, fun p hp => post.newL R (keysV rk) h hp⟩
          · cases rk with
            | nil => exact call_list_dT hc pins s σ H _ us Q I r ⟨a, [], rfl, .of e1, fun p bs hp hb => by
                have : bs = [] := by
                  cases hb
                  rfl
                subst this
                exact post.newL R .nil h hp⟩
            | cons q _ =>
              have := List.all_eq_true.mp hf _ List.mem_cons_self
              have q1 := q.1
              rw [q1] at this
              cases this
        · exact h.elim
    · exact cm_list pins s σ H vs us Q ads _ st W I R rv r h
  · exact cm_list pins s σ H vs us Q ads _ st W I R rv r h
theorem RVs.eqs {K : PySem.W.Frag} {ads : List Addr} {H : Hp} {y : DV} {u : V} (ry : RV K ads H y u) (fy : flatD y = true) : ∀ {xs : List DV} {vs : List V}, RVs K ads H xs vs → xs.all flatD = true → ∀ {i : Nat} {x : DV} {v : V}, xs[i]? = some x → vs[i]? = some v → eqF x y = eqV v u := fun {xs vs} r f {i x v} e1 e2 => by
  obtain ⟨v', e3, r3⟩ := r.get e1
  rw [e2] at e3
  cases e3
  exact eqF_eqV r3 ry (List.all_eq_true.mp f x (List.mem_of_getElem? e1)) fy
theorem mm_index : MtMM X "list" "list.index" indexM := by
  intro pins s σ H x vs v us Q ads d as st W I R rd ra rx rs h
  unfold indexM at h
  split at h
  · rename_i y
    obtain ⟨w, rfl, hw⟩ := ra.one
    split at h
    · rename_i k
      cases rd with
      | @ref _ a hk =>
      split at h
      · rename_i xs e
        split at h
        · rename_i hf
          rw [Bool.and_eq_true] at hf
          split at h
          · rename_i j ej
            obtain ⟨ws, hws, rws⟩ := R.list hk e
            rw [List.findIdx?_eq_some_iff_getElem] at ej
            obtain ⟨hj, e1, e2⟩ := ej
            obtain ⟨z, ez, rz⟩ := rws.get (List.getElem?_eq_getElem hj)
            have fz := List.all_eq_true.mp hf.2 _ (List.getElem_mem hj)
            refine mt_index pins s σ H _ _ v us Q I rx rs ⟨a, ws, w, j, z, rfl, rfl, .of hws, hw.flat hf.1, rws.flat hf.2, ez, ?_, fun m z' hm hz' => ?_, h.ok R (.int _)⟩
            · rw [← eqF_eqV rz hw fz hf.1]
              exact e1
            · have hml : m < xs.length := by omega
              rw [← RVs.eqs hw hf.1 rws hf.2 (List.getElem?_eq_getElem hml) hz']
              have := e2 m hm
              exact Bool.eq_false_iff.mpr this
          · exact (h : False).elim
        · exact (h : False).elim
      · exact (h : False).elim
    · exact (h : False).elim
  · exact (h : False).elim
end
end ML

/-! ML18: enumerate over tuples. -/
namespace ML
open PySem PySem.Spec PyProof.Rows L2
open Sem (wp)
open AutoSeq1 (wpAny_loadPart')
theorem meets_enumT (l : Addr) (items : Array Value) (n : Nat) (dct : Option Addr) (sl : Array (Option Value)) :
    Meets (Builtin.«enumerate.__new__» ⟨[.type "enumerate", .ref l], []⟩) (fun _ R s => s.heap.get? l = some { cls := .type "tuple", dict := dct, data := .seq items n, slots := sl } ∧
      R (.ok (.ret (.ref (s.heap.push { cls := .type "tuple_iterator", data := .fields #[.ref l, .int 0 0] }).objs.size)))
        { s with heap := (s.heap.push { cls := .type "tuple_iterator", data := .fields #[.ref l, .int 0 0] }).push { cls := .type "enumerate", data := .fields #[.none, .bool false, .ref s.heap.objs.size, rawInt 0, .none, .none] } }) :=
  .of_wp fun prog w A R s h => by
    obtain ⟨hp, g, d, tk, os⟩ := s; obtain ⟨hl, h⟩ := h
    have hsub := sub_enumerate
    have hL : Heap.IsTuple (Shared.heap ⟨hp, g, d, tk, os⟩) l items := ⟨_, hl, rfl, n, rfl⟩
    wp_walk using wpAny_loadPart' hl
    refine wpAny_stack_any fun st => wpAny_pure ?_
    split
    · rename_i c _ _ _ _ _
      cases (c == Value.type "enumerate")
      · wp_walk using wpAny_loadPart' hl, wpAny_pyIter_tuple hL
        exact ⟨_, rfl, h⟩
      · wp_walk using wpAny_loadPart' hl, wpAny_pyIter_tuple hL
        exact ⟨_, rfl, h⟩
    · wp_walk using wpAny_loadPart' hl, wpAny_pyIter_tuple hL
      exact ⟨_, rfl, h⟩
section
variable {prog : Program} {w : World} {A : Around} {E : Value → Shared → Prop} {s : Shared}
theorem call_enumT {l : Addr} {items : Array Value} {Q : Value → Shared → Prop} (hL : s.heap.IsTuple l items)
    (h : ∀ h', IsEnum h' (s.heap.objs.size + 1) s.heap.objs.size 0 .none → h'.IsTupleIter s.heap.objs.size l 0 → h'.objs.size = s.heap.objs.size + 2 →
      (∀ b o, s.heap.get? b = some o → h'.get? b = some o) → Q (.ref (s.heap.objs.size + 1)) { s with heap := h' }) :
    wpAny (model prog w) A (call (.type "enumerate") [.ref l]) Q E s := by
  obtain ⟨⟨c, dct, dt, sl⟩, hl, hc, n, hd⟩ := hL
  replace hc : c = .type "tuple" := hc
  replace hd : dt = .seq items n := hd
  subst hc hd
  refine callType_new F.called_enumerate (by decide) (F.typeCall_enumerate_1 _) (F.newCall_enumerate_1 _) (fun obj => F.args_object_init_2 obj _) F.entry_enumerate_new
    (meets_enumT l items n dct sl) ⟨hl, ?_⟩
  have hz : (s.heap.push { cls := .type "tuple_iterator", data := .fields #[.ref l, .int 0 0] }).objs.size = s.heap.objs.size + 1 := Heap.size_push ..
  show _ ∧ _
  rw [hz]
  have he : IsEnum ((s.heap.push { cls := .type "tuple_iterator", data := .fields #[.ref l, .int 0 0] }).push
      { cls := .type "enumerate", data := .fields #[.none, .bool false, .ref s.heap.objs.size, rawInt 0, .none, .none] }) (s.heap.objs.size + 1) s.heap.objs.size 0 .none := by
    have := Heap.get?_push_size (s.heap.push { cls := .type "tuple_iterator", data := .fields #[.ref l, .int 0 0] })
      (o := { cls := .type "enumerate", data := .fields #[.none, .bool false, .ref s.heap.objs.size, rawInt 0, .none, .none] }) rfl
    rw [hz] at this; exact this
  refine ⟨⟨_, he, rfl⟩, h _ he ⟨_, Heap.get?_push_of_some _ (Heap.get?_push_size _ rfl), rfl, rfl⟩ (by rw [Heap.size_push, hz]) fun b o x => Heap.get?_push_of_some _ (Heap.get?_push_of_some _ x)⟩
end
section
variable {prog : Program} {w : World} {A : Around} {E : Value → Shared → Prop} {s : Shared}
theorem wpAny_pyNext_enum_endT {e it l : Addr} {i : Nat} {items : Array Value} {old : Value} {Q : Option Value → Shared → Prop} (hh : A.handled = none)
    (he : IsEnum s.heap e it i old) (hit : s.heap.IsTupleIter it l i) (hl : s.heap.IsTuple l items) (hx : items[i]? = none)
    (hQ : ∀ h', Heap.ExtBut it s.heap h' → Q none { s with heap := h' }) : wpAny (model prog w) A (pyNext (.ref e)) Q E s := by
  have hTy : s.TypeIs (.ref e) "enumerate" := ⟨_, he, rfl⟩
  unfold pyNext
  refine wpAny_bind (wpAny_attempt (wpAny_callSpecial?_slot (name := Str.ofString "__next__") hTy F.slot_enumerate_next
    (wpAny_call_entry F.slot_enumerate_next hTy F.entry_enumerate_next ?_ (F.args_enumerate_next_1 _))))
  show wpAny _ _ (field (.ref e) 2 >>= _) _ _ _
  refine wpAny_bind (wpAny_field he rfl (x := .ref it) rfl ?_)
  refine wpAny_bind (wpAny_nextOf_tuple_end hh hit hl hx fun h' x he' hx' => ?_)
  obtain ⟨o, ho, hc⟩ := hx'
  refine wpAny_bind (wpAny_isInstance (T := "StopIteration") (b := true) ⟨o, ho, hc⟩ isSubtype_stop ?_)
  exact wpAny_pure (hQ _ he')
end
def IteT (K : PySem.W.Frag) (a : Addr) : It :=
  ⟨fun i H => ∃ (xs : List V) (x : V), SqT K H a xs ∧ xs[i]? = some x, fun i H v H' => ∃ T x, v = .ref T ∧ H T = none ∧ H' = upd H T (.tup [.int (i : Nat), x]) ∧ ∀ xs, SqT K H a xs → xs[i]? = some x, fun i H => ∃ xs : List V, SqT K H a xs ∧ xs.length ≤ i⟩
theorem turn_enumT {P : Program} {w : World} {K : PySem.W.Frag} {elts : List Expr} {kk : Nat} {tpos : Pos} (a e it : Addr) :
    Turn P w K (.Tuple elts kk tpos) (IteT K a) [e, it] e (fun i h => (∃ old, IsEnum h e it ((i : Nat) : Int) old) ∧ h.IsTupleIter it a i ∧ e ≠ it ∧ a ≠ it ∧ a ≠ e) where
  mem := by simp
  obj := fun i h st b hb => by
    obtain ⟨⟨old, he⟩, ⟨o, ho, hc, hd⟩, _⟩ := st
    have e' : b = e ∨ b = it := by simpa using hb
    rcases e' with z | z
    · rw [z]; exact ⟨_, he, fun v q => nomatch q⟩
    · rw [z]; exact ⟨o, ho, fun v q => by rw [hd] at q; cases q⟩
  keep := fun i h h' st k => let ⟨⟨old, he⟩, hi, hne⟩ := st; ⟨⟨old, k e (by simp) _ he⟩, hi.at fun o q => k it (by simp) o q, hne⟩
  item := by
    intro X hP hw hK hc i pins s σ H E I hf st hg
    subst hP hw hK
    obtain ⟨⟨old, he⟩, hit, hne, hai, hae⟩ := st
    obtain ⟨xs, x, hq, hx⟩ := hg
    obtain ⟨its, rv, p, hz⟩ := I.tuple hq
    obtain ⟨u, hu, ru⟩ := rv.get hx
    have hil : i < its.toArray.size := by
      have := (List.getElem?_eq_some_iff.mp hu).1
      simpa using this
    have hel : e < s.heap.objs.size := Heap.lt_size he
    have hitl : it < s.heap.objs.size := by obtain ⟨_, q, _⟩ := hit; exact Heap.lt_size q
    have D : Draws X.prog X.w X.A.in1 it [it, a] its.toArray.size (fun i v => its.toArray[i]? = some v) (fun i h => h.IsTupleIter it a i ∧ h.IsTuple a its.toArray) := Draws.tuple (A := X.A.in1) (show X.A.in1.handled = none from I.ok.hd hc) it a hai its.toArray
    refine wpAny_pyNext_enum_itemD D he ⟨hit, p⟩ hil hne (by simp [hne, Ne.symm hae]) fun y h' tk hy ho hst hT hsz hk => ?_
    have ey : y = u := by
      have hu2 : its.toArray[i]? = some u := by simpa using hu
      rw [hu2] at hy
      cases hy
      rfl
    subst ey
    refine ⟨_, rfl, wpAny_letOwnedTupleGo_enum (s := { s with heap := h', toks := tk + 1 }) ho fun h'' he' sb => ?_⟩
    have hT2 : h''.get? s.heap.objs.size = some { cls := .type "tuple", data := .seq #[.int i tk, y] } := (sb.2 _ (Nat.ne_of_gt hel)).trans hT
    have new : ObjOk X.prog X.w (upd H s.heap.objs.size (.tup [.int (i : Nat), x])) h'' s.heap.objs.size (.tup [.int (i : Nat), x]) :=
      ⟨by show 2 ≤ sizeLine; decide, [.int i tk, y], .cons ⟨_, rfl⟩ (.cons ru .nil), ⟨_, hT2, rfl, _, rfl⟩⟩
    have I1 : Inv X pins σ (upd H s.heap.objs.size (.tup [.int (i : Nat), x])) { s with heap := h'', toks := tk + 1 } :=
      I.turnedNew (ch := [e, it]) (fun b ob hb q => (sb.2 b (fun z => hb (by simp [z]))).trans (hk b ob (fun z => hb (by simp [z])) (fun z => hb (by simp [z])) q)) hf (Nat.le_refl _) new
    refine ⟨.ref s.heap.objs.size, _, I1, rfl, ⟨_, x, rfl, I.hok.fresh (Nat.le_refl _), rfl, fun ys hy => by rw [I.tuple_inj hy hq]; exact hx⟩, ⟨⟨y, ?_⟩, hst.1.at fun o q => (sb.2 it (Ne.symm hne)).trans q, hne, hai, hae⟩, fun b hb => ?_⟩
    · have e1 : ((i + 1 : Nat) : Int) = (i : Int) + 1 := by omega
      rw [e1]; exact he'
    · have hb' : b < s.heap.objs.size := by
        have e' : b = e ∨ b = it := by simpa using hb
        rcases e' with z | z
        · rw [z]; exact hel
        · rw [z]; exact hitl
      rw [upd_ne (Nat.ne_of_lt hb')]
      exact (hf b hb).1
  done := by
    intro X hP hw hK hc i pins s σ H E I hf st hg
    subst hP hw hK
    obtain ⟨⟨old, he⟩, hit, hne, hai, hae⟩ := st
    obtain ⟨xs, hq, hx⟩ := hg
    obtain ⟨its, rv, p, hz⟩ := I.tuple hq
    obtain ⟨f0, f1, f2, f3, f4, f5⟩ := hf it (by simp)
    have hl := rv.length
    exact wpAny_pyNext_enum_endT (I.ok.hd hc) he hit p (by simp; omega) fun h' eb => ⟨rfl, I.turned (t' := s.toks) (fun b o hb q => eb b o hb q) f0 f1 f3 f4 f5⟩
  self := fun A i s Q E st h => let ⟨⟨_, he⟩, _⟩ := st; wpAny_pyIter_enum he h
def iEnumA (K : PySem.W.Frag) (ta : TA) : TI := fun σ H R => ta σ H fun vs H1 => ∃ a xs, vs = [.ref a] ∧ ((SqL K H1 a xs ∧ R (Ite K a) H1) ∨ (SqT K H1 a xs ∧ R (IteT K a) H1))
theorem pi_enumA {X : Cx} {e : Expr} {ta : TA} {p pos tpos : Pos} {elts : List Expr} {kk : Nat} (hg : Gl X "enumerate") (hm : X.mg "enumerate" = none) (ha : PA X [e] ta) (hs : starEach [e] X.env = [(false, eval e X.env)] := by rfl) :
    PI X (.Tuple elts kk tpos) (.Call (.Name "enumerate" p) [e] [] pos) (iEnumA X.K ta) := by
  refine ⟨fun pins s σ H R I h => ?_⟩
  refine Call_ (ld_blt I hg hm boot_enumerate (PyProof.Rows.callWith_type1 (thn (ha.run pos pins s σ H _ I h) fun us s1 ⟨vs, H1, I1, r1, q1⟩ => ?_) hs rfl))
  obtain ⟨a, xs, ex, q1⟩ := q1
  subst ex
  cases r1 with
  | cons r rr =>
    cases rr
    cases r
    have fin : ∀ {h' : Heap} {b : Addr}, s1.heap.objs.size ≤ b → FpOk X pins H1 b := fun hle => I1.fpOk hle (I1.hok.fresh hle)
    have hle2 : ∀ b ∈ [s1.heap.objs.size + 1, s1.heap.objs.size], s1.heap.objs.size ≤ b := fun b hb => by
      have e' : b = s1.heap.objs.size + 1 ∨ b = s1.heap.objs.size := by simpa using hb
      rcases e' with z | z
      · rw [z]; exact Nat.le_add_right _ _
      · rw [z]; exact Nat.le_refl _
    rcases q1 with ⟨hq, q⟩ | ⟨hq, q⟩
    · obtain ⟨its, rv, p', hz⟩ := I1.list hq
      refine call_enumerate_list p'.isList fun h' he hit hsz hk => wpAny_pyIter_enum he ?_
      have I2 : Inv X pins σ H1 { s1 with heap := h' } := I1.kept (t' := s1.toks) hk
      exact ⟨s1.heap.objs.size + 1, [s1.heap.objs.size + 1, s1.heap.objs.size], _, _, H1, rfl, I2, turn_enum a (s1.heap.objs.size + 1) s1.heap.objs.size, ⟨⟨.none, he⟩, hit, Nat.succ_ne_self _⟩, fun b hb => I1.fpOk (hle2 b hb) (I1.hok.fresh (hle2 b hb)), q⟩
    · obtain ⟨its, rv, p', hz⟩ := I1.tuple hq
      have hal : a < s1.heap.objs.size := by
        obtain ⟨o, ho, _⟩ := id p'
        exact Heap.lt_size ho
      refine call_enumT p' fun h' he hit hsz hk => wpAny_pyIter_enum he ?_
      have I2 : Inv X pins σ H1 { s1 with heap := h' } := I1.kept (t' := s1.toks) hk
      exact ⟨s1.heap.objs.size + 1, [s1.heap.objs.size + 1, s1.heap.objs.size], _, _, H1, rfl, I2, turn_enumT a (s1.heap.objs.size + 1) s1.heap.objs.size, ⟨⟨.none, he⟩, hit, Nat.succ_ne_self _, Nat.ne_of_lt hal, Nat.ne_of_lt (Nat.lt_succ_of_lt hal)⟩, fun b hb => I1.fpOk (hle2 b hb) (I1.hok.fresh (hle2 b hb)), q⟩
def seqX (d : DV) (st : Sto) : Option (List DV × List (Nat × DO)) := match d with
  | .tup xs => some (xs, [])
  | .ktp xs => some (xs, [])
  | d => seqOf d st
def iEnX (ms : List Ex) : Sl → M Wk := fun ss => bnd (eArgs ms ss) fun ds st => match ds with
  | [d] => match seqX d st with
    | some (xs, g) => .ok ⟨(List.range xs.length).zipWith (fun i x => .tup [.int (i : Nat), x]) xs, g⟩ st
    | none => .bad
  | _ => .bad
theorem en_walk {K : PySem.W.Frag} {mg : Str → Option Value} {ads : List Addr} {H1 : Hp} {a : Addr} {xs : List DV} {g : List (Nat × DO)} (fut : ∀ ads' H' st', Fut ads H1 ads' H' → RSt K mg ads' H' st' → okG g st' → ∃ ws, SqL K H' a ws ∧ RVs K ads' H' xs ws) :
    Walks K mg ⟨(List.range xs.length).zipWith (fun i x => DV.tup [.int (i : Nat), x]) xs, g⟩ (Ite K a) ads H1 := by
  refine ⟨fun i d' ads' H' st' hi f R' ok => ?_, fun i ads' H' st' hi f R' ok => ?_⟩
  · obtain ⟨ws, hw, rw'⟩ := fut ads' H' st' f R' ok
    rw [List.getElem?_zipWith] at hi
    cases hx : xs[i]? with
    | none => rw [hx] at hi; cases h5 : (List.range xs.length)[i]? <;> rw [h5] at hi <;> cases hi
    | some x =>
      have hil : i < xs.length := (List.getElem?_eq_some_iff.mp hx).1
      rw [hx, List.getElem?_range hil] at hi
      cases hi
      obtain ⟨w, h1, h2⟩ := rw'.get hx
      refine ⟨⟨ws, w, hw, h1⟩, fun y H2 ⟨T, z, e1, hT, e2, e3⟩ => ?_⟩
      subst e1 e2
      have e4 := e3 ws hw
      rw [h1] at e4
      cases e4
      exact new_pair R' hT (.int _) h2
  · obtain ⟨ws, hw, rw'⟩ := fut ads' H' st' f R' ok
    refine ⟨ws, hw, ?_⟩
    rw [← rw'.length]
    simpa using hi
theorem en_walkT {K : PySem.W.Frag} {mg : Str → Option Value} {ads : List Addr} {H1 : Hp} {a : Addr} {xs : List DV} {vs : List V} (hs : SqT K H1 a vs) (rs : RVs K ads H1 xs vs) :
    Walks K mg ⟨(List.range xs.length).zipWith (fun i x => DV.tup [.int (i : Nat), x]) xs, []⟩ (IteT K a) ads H1 := by
  refine ⟨fun i d' ads' H' st' hi f R' ok => ?_, fun i ads' H' st' hi f R' ok => ?_⟩
  · have rw' := rs.mono f
    have hw := f.kp.sqT hs
    rw [List.getElem?_zipWith] at hi
    cases hx : xs[i]? with
    | none => rw [hx] at hi; cases h5 : (List.range xs.length)[i]? <;> rw [h5] at hi <;> cases hi
    | some x =>
      have hil : i < xs.length := (List.getElem?_eq_some_iff.mp hx).1
      rw [hx, List.getElem?_range hil] at hi
      cases hi
      obtain ⟨w, h1, h2⟩ := rw'.get hx
      refine ⟨⟨vs, w, hw, h1⟩, fun y H2 ⟨T, z, e1, hT, e2, e3⟩ => ?_⟩
      subst e1 e2
      have e4 := e3 vs hw
      rw [h1] at e4
      cases e4
      exact new_pair R' hT (.int _) h2
  · refine ⟨vs, f.kp.sqT hs, ?_⟩
    rw [← rs.length]
    simpa using hi
section
variable {X : Cx} {W : WX} {pos : Pos}
theorem ri_enumX {e : Expr} {ms : List Ex} {p tpos : Pos} {elts : List Expr} {kk : Nat} (hg : Gl X "enumerate") (hm : X.mg "enumerate" = none) (ha : RA X W [e] ms) (hs : starEach [e] X.env = [(false, eval e X.env)] := by rfl) :
    RI X W (.Tuple elts kk tpos) (.Call (.Name "enumerate" p) [e] [] pos) (iEnX ms) := ⟨fun pins s σ H R I h => (pi_enumA hg hm ha hs).run pins s σ H R I (by
  refine (tM.bind (R := rVs X.K) h).imp fun vs H1 ⟨ads, ss, ds, st, Rs, L, rv, p⟩ => ?_
  match ds, rv, p with
  | [d], rv, p =>
    obtain ⟨u, rfl, r⟩ := rv.one
    simp only at p
    split at p
    · rename_i xs g e0
      cases r with
      | @tup a ys vs hs rs =>
        cases e0
        exact ⟨a, vs, rfl, .inr ⟨.of hs, p ads H1 _ .refl Rs (en_walkT (.of hs) rs)⟩⟩
      | @ktp a ys vs hs rs =>
        cases e0
        exact ⟨a, vs, rfl, .inr ⟨hs, p ads H1 _ .refl Rs (en_walkT hs rs)⟩⟩
      | @ref k a hk =>
        obtain ⟨a, vs, h1, hs, rs, fut⟩ := seqOf_at (d := .ref k) Rs (.ref hk) e0
        exact ⟨a, vs, by rw [h1], .inl ⟨hs, p ads H1 _ .refl Rs (en_walk fut)⟩⟩
      | @fzl a ys vs hq rs =>
        obtain ⟨a, vs, h1, hs, rs, fut⟩ := seqOf_at (d := .fzl ys) Rs (.fzl hq rs) e0
        exact ⟨a, vs, by rw [h1], .inl ⟨hs, p ads H1 _ .refl Rs (en_walk fut)⟩⟩
      | _ => cases e0
    · exact p.elim
  | [], _, p => exact (p : False).elim
  | _ :: _ :: _, _, p => exact (p : False).elim)⟩
end
end ML

/-! ML19: an int times a bool. -/
namespace ML
open PySem PySem.Spec PyProof.Rows L2
open Sem (wp)
section
variable {M : Model} {prog : Program} {w : World} {A : Around} {E : Value → Shared → Prop} {s : Shared} {a : Int} {t : Tok} {b : Bool}
theorem same_reflected_mul : reflectedDiffers (.type "int") (.type "bool") "mul" = pure false := by
  unfold reflectedDiffers
  show (typeLookup (.type "bool") (dunderR "mul") >>= fun rb => typeLookup (.type "int") (dunderR "mul") >>= fun ra => pure (rb.isSome && rb != ra)) = pure false
  rw [typeLookup_type, typeLookup_type, builtinLookup_eq_fast]; kernel_rfl
theorem mul_int_bool {Q : Value → Shared → Prop} (h : Q (.int (a * if b = true then (1 : Int) else 0) s.toks) { s with toks := s.toks + 1 }) : wpAny (model prog w) A (binaryOp .Mult (.int a t) (.bool b)) Q E s :=
  binaryOp_sub_gives (op := .Mult) (T := "int") (U := "bool") (by decide) (typeIs_int s a t) rfl F.fills_int_mul F.fills_bool_mul isSubtype_bool_int same_reflected_mul F.slot_int_mul F.entry_int_mul (F.args_int_mul_2 _ _)
    (AutoIntG9.int___mul___int_bool_0 a t b) trivial h
end
def mulX : DV → DV → M DV
  | .int i, .bl b => pur (.int (i * if b = true then (1 : Int) else 0))
  | _, _ => stuck
section
variable {X : Cx} {W : WX}
theorem opm_mulX : OpM X (binaryOp .Mult) mulX := by
  intro pins s σ H x y v u Q ads dx dy st W I R hx hy rx ry h
  cases hx with
  | int i =>
    cases hy with
    | bl b =>
      obtain ⟨t, rfl⟩ := rx
      obtain rfl : u = Value.bool b := ry
      exact mul_int_bool ⟨.int (i * if b = true then (1 : Int) else 0), H, I.tok _, ⟨_, rfl⟩, h.ok R (.int _)⟩
    | _ => exact (h : False).elim
  | _ => cases hy <;> exact (h : False).elim
end
end ML

/-! ML20: min and max of a tuple of ints. -/
namespace ML
open PySem PySem.Spec PyProof.Rows L2
open Sem (wp)
theorem readsI {h : Heap} : ∀ {vs : List Value} {ns : List Int}, PyProof.Rows.IntsAre vs ns → ReadsAll h vs (ns.map .int) []
  | [], [], _ => .nil
  | v :: vs, n :: ns, hi => by
    have q := hi
    cases q
    rename_i t r
    exact ReadsAll.cons (as := []) (bs := []) (.int n t) (readsI r)
def min1X : List DV → M DV
  | [.tup xs] => fun st => match intsD xs with
    | some (n :: ns) => .ok (.int (ns.foldl min n)) st
    | _ => .bad
  | as => min1M as
def max1X : List DV → M DV
  | [.tup xs] => fun st => match intsD xs with
    | some (n :: ns) => .ok (.int (ns.foldl max n)) st
    | _ => .bad
  | as => max1M as
theorem alikeI (ns : List Int) : PySem.W.AlikeAll (ns.map PyData.int) := by
  refine ⟨fun x hx y hy => ?_, fun x hx => ?_⟩
  · obtain ⟨a, _, rfl⟩ := List.mem_map.mp hx
    obtain ⟨b, _, rfl⟩ := List.mem_map.mp hy
    rfl
  · obtain ⟨a, _, rfl⟩ := List.mem_map.mp hx
    simp
theorem depthI : ∀ ns : List Int, PyData.depthAll (ns.map PyData.int) = 0
  | [] => rfl
  | n :: ns => by
    rw [List.map_cons]
    show max _ _ = 0
    rw [depthI ns]
    rfl
section
variable {X : Cx} {W : WX}
theorem cm_min1X (hc : X.calm = true) (hu : X.A.units + 64 < cLine) : CallM X (.builtin "min") min1X := by
  intro pins s σ H vs us Q ads as st W I R rv r h
  unfold min1X at h
  split at h
  · obtain ⟨v, rfl, hv⟩ := rv.one
    split at h
    · rename_i n ns e
      cases hv with
      | @tup a _ vs' hs rs =>
        have hv := ints_vs rs e
        subst hv
        obtain ⟨its, rv2, hl, _⟩ := I.tuple (.inl (.inl hs))
        rw [Vals.ref1 r]
        refine PySem.W.min_tuple_data (x := .int n) (xs := ns.map .int) (I.ok.hd hc) hl (readsI (ns := n :: ns) rv2.ints) (alikeI (n :: ns)) ?_ fun i w h' tk bs hw rd hk => ?_
        · have := depthI (n :: ns)
          rw [List.map_cons] at this
          rw [this]
          omega
        · rw [PySem.W.minD_ints] at rd
          cases rd
          exact ⟨.int _, H, I.kept hk, ⟨_, rfl⟩, h.ok R (.int _)⟩
    · exact h.elim
  · exact cm_min1 hc pins s σ H vs us Q ads as st W I R rv r h
theorem cm_max1X (hc : X.calm = true) (hu : X.A.units + 64 < cLine) : CallM X (.builtin "max") max1X := by
  intro pins s σ H vs us Q ads as st W I R rv r h
  unfold max1X at h
  split at h
  · obtain ⟨v, rfl, hv⟩ := rv.one
    split at h
    · rename_i n ns e
      cases hv with
      | @tup a _ vs' hs rs =>
        have hv := ints_vs rs e
        subst hv
        obtain ⟨its, rv2, hl, _⟩ := I.tuple (.inl (.inl hs))
        rw [Vals.ref1 r]
        refine PySem.W.max_tuple_data (x := .int n) (xs := ns.map .int) (I.ok.hd hc) hl (readsI (ns := n :: ns) rv2.ints) (alikeI (n :: ns)) ?_ fun i w h' tk bs hw rd hk => ?_
        · have := depthI (n :: ns)
          rw [List.map_cons] at this
          rw [this]
          omega
        · rw [PySem.W.maxD_ints] at rd
          cases rd
          exact ⟨.int _, H, I.kept hk, ⟨_, rfl⟩, h.ok R (.int _)⟩
    · exact h.elim
  · exact cm_max1 hc pins s σ H vs us Q ads as st W I R rv r h
end
end ML

/-! ML21: dicts whose keys are nested tuples of whole numbers and None. -/
namespace ML
open PySem PySem.Spec PyProof.Rows L2
mutual
theorem dOf_kOf : ∀ {d : DV} {h : HK}, kOf d = some h → dOf h = d
  | .non, h, e => by cases e; rfl
  | .int i, h, e => by cases e; rfl
  | .str x, h, e => by cases e; rfl
  | .tup ks, h, e => by
    simp only [kOf, Option.map_eq_some_iff] at e
    obtain ⟨hs, e1, e2⟩ := e
    subst e2
    show DV.tup (dOfs hs) = _
    rw [dOfs_kOfs e1]
  | .bl b, h, e => by cases e
  | .fzl xs, h, e => by cases e
  | .ktp xs, h, e => by cases e
  | .ref k, h, e => by cases e
  | .ty n, h, e => by cases e
  | .exn _ _ _ _, h, e => by cases e
theorem dOfs_kOfs : ∀ {ds : List DV} {hs : List HK}, kOfs ds = some hs → dOfs hs = ds
  | [], hs, e => by cases e; rfl
  | d :: ds, hs, e => by
    simp only [kOfs] at e
    obtain ⟨h0, e1, e⟩ := Option.bind_eq_some_iff.mp e
    obtain ⟨hs', e2, e⟩ := Option.map_eq_some_iff.mp e
    subst e
    show dOf h0 :: dOfs hs' = _
    rw [dOf_kOf e1, dOfs_kOfs e2]
end
mutual
theorem nk_inj : ∀ {a b : HK}, nk a = nk b → a = b
  | .non, b, e => by cases b <;> simp [nk] at e ⊢
  | .int i, b, e => by cases b <;> simp [nk] at e ⊢; exact e
  | .str i, b, e => by cases b <;> simp [nk] at e ⊢; exact e
  | .tup xs, b, e => by
    cases b with
    | tup ys =>
      simp only [nk, NestedKey.tup.injEq] at e
      rw [nks_inj e]
    | _ => simp [nk] at e
theorem nks_inj : ∀ {a b : List HK}, nks a = nks b → a = b
  | [], b, e => by cases b <;> simp [nks] at e ⊢
  | x :: xs, b, e => by
    cases b with
    | nil => simp [nks] at e
    | cons y ys =>
      simp only [nks, List.cons.injEq] at e
      rw [nk_inj e.1, nks_inj e.2]
end
mutual
theorem hash_any {w w' : World} : ∀ {k : HK}, numT k = true → (nk k).hash w = (nk k).hash w'
  | .non, _ => rfl
  | .int i, _ => rfl
  | .str x, e => by cases e
  | .tup ks, e => by
    have e : numTs ks = true := e
    show (NestedKey.tup (nks ks)).hash w = (NestedKey.tup (nks ks)).hash w'
    simp only [NestedKey.hash]
    rw [hashes_any (w := w) (w' := w') e]
theorem hashes_any {w w' : World} : ∀ {ks : List HK}, numTs ks = true → NestedKey.hashes w (nks ks) = NestedKey.hashes w' (nks ks)
  | [], _ => rfl
  | k :: ks, e => by
    simp only [numTs, Bool.and_eq_true] at e
    show (nk k).hash w :: NestedKey.hashes w (nks ks) = (nk k).hash w' :: NestedKey.hashes w' (nks ks)
    rw [hash_any (w := w) (w' := w') e.1, hashes_any (w := w) (w' := w') e.2]
end
theorem keyN_num {h : HK} (k : keyN h = true) : numT h = true ∧ (nk h).depth ≤ 8 := by
  cases h with
  | tup ks =>
    simp only [keyN, Bool.and_eq_true, decide_eq_true_eq] at k
    exact k
  | _ => cases k
section
variable {P : Program} {w : World} {h : Heap} {K : PySem.W.Frag} {mg : Str → Option Value} {ads : List Addr} {H : Hp}
mutual
theorem nested_of (ok : HOk P w H h) : ∀ {d : DV} {k : HK} {v : V} {u : Value}, kOf d = some k → RV K ads H d v → RelV v u → NestedIs h (nk k) u
  | .non, k, _, u, e, .non, r => by
    cases e
    cases (show u = Value.none from r)
    exact .none
  | .int i, k, _, u, e, .int _, r => by
    cases e
    obtain ⟨t, rfl⟩ := (show ∃ t, u = Value.int i t from r)
    exact .int i t
  | .str x, k, _, u, e, .str _, r => by
    cases e
    obtain ⟨t, rfl⟩ := (show ∃ t, u = Value.str x t from r)
    exact .text x t
  | .tup ks, k, _, u, e, @RV.tup _ _ _ a _ vs hs rs, r => by
    simp only [kOf, Option.map_eq_some_iff] at e
    obtain ⟨ks', e1, e2⟩ := e
    subst e2
    cases (show u = Value.ref a from r)
    obtain ⟨_, its, rv, o, h1, h2, n, h3⟩ := (show ObjOk P w H h a (.tup vs) from ok a _ hs)
    exact .tup h1 h2 h3 (by simpa using nesteds_of ok e1 rs rv)
  | .bl b, k, _, u, e, _, r => by cases e
  | .fzl xs, k, _, u, e, _, r => by cases e
  | .ktp xs, k, _, u, e, _, r => by cases e
  | .ref j, k, _, u, e, _, r => by cases e
  | .ty n, k, _, u, e, _, r => by cases e
  | .exn _ _ _ _, k, _, u, e, _, r => by cases e
theorem nesteds_of (ok : HOk P w H h) : ∀ {ds : List DV} {ks : List HK} {vs : List V} {us : List Value}, kOfs ds = some ks → RVs K ads H ds vs → Vals vs us → NestedAll h (nks ks) us
  | [], ks, _, _, e, .nil, .nil => by cases e; exact .nil
  | d :: ds, ks, _, _, e, .cons hd r, .cons hv rv => by
    simp only [kOfs] at e
    obtain ⟨h0, e1, e⟩ := Option.bind_eq_some_iff.mp e
    obtain ⟨hs', e2, e⟩ := Option.map_eq_some_iff.mp e
    subst e
    exact .cons (nested_of ok e1 hd hv) (nesteds_of ok e2 r rv)
end
theorem kOf_dOf : ∀ {k : HK}, kOf (dOf k) = some k := by
  have both : (∀ k : HK, kOf (dOf k) = some k) := by
    intro k
    refine HK.rec (motive_1 := fun k => kOf (dOf k) = some k) (motive_2 := fun ks => kOfs (dOfs ks) = some ks) rfl (fun _ => rfl) (fun _ => rfl) (fun ks ih => ?_) rfl (fun a as h1 h2 => ?_) k
    · show (kOfs (dOfs ks)).map HK.tup = _
      rw [ih]
      rfl
    · show ((kOf (dOf a)).bind fun h => (kOfs (dOfs as)).map (h :: ·)) = _
      rw [h1, h2]
      rfl
  exact fun {k} => both k
/-- a dict's keys and values beside the model's entries -/
def TN (K : PySem.W.Frag) (ads : List Addr) (H : Hp) : List (HK × DV) → List (NestedKey × Addr × Value) → Prop := Paired fun (p : HK × DV) (q : NestedKey × Addr × Value) => keyN p.1 = true ∧ q.1 = nk p.1 ∧ RV K ads H (dOf p.1) (.ref q.2.1) ∧ ∃ v, RV K ads H p.2 v ∧ RelV v q.2.2
theorem TN.mono2 {ads' : List Addr} {H' : Hp} (f : Ext ads ads') (k : Kp H H') {ds : List (HK × DV)} {vs : List (NestedKey × Addr × Value)} (x : TN K ads H ds vs) : TN K ads' H' ds vs :=
  Paired.mapP x fun _ _ ⟨q1, q2, q3, v, q4, q5⟩ => ⟨q1, q2, q3.mono2 f k, v, q4.mono2 f k, q5⟩
abbrev PN : List (NestedKey × Addr × V) → List (NestedKey × Addr × Value) → Prop := Paired fun (p : NestedKey × Addr × V) (q : NestedKey × Addr × Value) => p.1 = q.1 ∧ p.2.1 = q.2.1 ∧ RelV p.2.2 q.2.2
theorem TN.of : ∀ {kvs : List (HK × DV)} {vs : List (NestedKey × Addr × V)} {xs : List (NestedKey × Addr × Value)}, RNs K ads H kvs vs → PN vs xs → TN K ads H kvs xs
  | _, _, _, .nil, .nil => .nil
  | _, _, _, .cons ⟨a1, a2, a3, a4⟩ r, .cons ⟨b1, b2, b3⟩ t => .cons ⟨a1, b1.symm.trans a2, by rw [← b2]; exact a3, _, a4, b3⟩ (TN.of r t)
theorem TN.split : ∀ {kvs : List (HK × DV)} {xs : List (NestedKey × Addr × Value)}, TN K ads H kvs xs → ∃ vs, RNs K ads H kvs vs ∧ PN vs xs
  | _, _, .nil => ⟨[], .nil, .nil⟩
  | _, (k, b, u) :: xs, .cons ⟨a1, a2, a3, v, a4, a5⟩ r => by
    obtain ⟨vs, h1, h2⟩ := TN.split r
    exact ⟨(k, b, v) :: vs, .cons ⟨a1, a2, a3, a4⟩ h1, .cons ⟨rfl, rfl, a5⟩ h2⟩
/-- what is found -/
def RelN (K : PySem.W.Frag) (ads : List Addr) (H : Hp) : Option DV → Option (Addr × Value) → Prop
  | some d, some p => ∃ v, RV K ads H d v ∧ RelV v p.2
  | none, none => True
  | _, _ => False
theorem atKey_cons {k k' : NestedKey} {p : Addr × Value} {xs : List (NestedKey × Addr × Value)} : atKey ((k', p) :: xs) k = if k' = k then some p else atKey xs k := by
  unfold atKey
  rw [List.find?_cons]
  by_cases e : k' = k
  · rw [decide_eq_true (show (k', p).1 = k from e), if_pos e]
    rfl
  · rw [decide_eq_false (show ¬ (k', p).1 = k from e), if_neg e]
theorem TN.get {hk : HK} : ∀ {kvs : List (HK × DV)} {xs : List (NestedKey × Addr × Value)}, TN K ads H kvs xs → RelN K ads H (hGet kvs hk) (atKey xs (nk hk))
  | _, _, .nil => True.intro
  | (k, d) :: kvs, (k', b, u) :: xs, .cons ⟨a1, a2, a3, v, a4, a5⟩ r => by
    have a2 : k' = nk k := a2
    subst a2
    rw [atKey_cons]
    unfold hGet
    by_cases e : k = hk
    · subst e
      rw [if_pos rfl, if_pos rfl]
      exact ⟨v, a4, a5⟩
    · rw [if_neg e, if_neg (fun z => e (nk_inj z))]
      exact TN.get r
theorem putAt_id {k : NestedKey} {u : Value} {xs : List (NestedKey × Addr × Value)} (h : k ∉ xs.map (·.1)) : xs.map (putAt k u) = xs := by
  have : ∀ p ∈ xs, putAt k u p = p := fun p hp => by
    unfold putAt
    rw [if_neg]
    intro e
    exact h (by rw [← e]; exact List.mem_map_of_mem hp)
  rw [List.map_congr_left this, List.map_id']
theorem storedH_cons {k k' : NestedKey} {b b' : Addr} {u u' : Value} {xs : List (NestedKey × Addr × Value)} (nd : k' ∉ xs.map (·.1)) : storedH ((k', b', u') :: xs) k b u = if k' = k then (k', b', u) :: xs else (k', b', u') :: storedH xs k b u := by
  unfold storedH
  rw [atKey_cons]
  by_cases e : k' = k
  · subst e
    rw [if_pos rfl, if_pos rfl, if_pos (by rfl), List.map_cons, putAt_id nd]
    unfold putAt
    rw [if_pos rfl]
  · rw [if_neg e, if_neg e]
    split
    · rw [List.map_cons]
      congr 1
      unfold putAt
      rw [if_neg (show ¬ (k', b', u').1 = k from e)]
    · rfl
theorem TN.put {hk : HK} {d : DV} {b : Addr} {v : V} {u : Value} (ko : keyN hk = true) (rb : RV K ads H (dOf hk) (.ref b)) (rv : RV K ads H d v) (ru : RelV v u) : ∀ {kvs : List (HK × DV)} {xs : List (NestedKey × Addr × Value)}, (xs.map (·.1)).Nodup → TN K ads H kvs xs → TN K ads H (hSet kvs hk d) (storedH xs (nk hk) b u)
  | _, _, _, .nil => .cons ⟨ko, rfl, rb, v, rv, ru⟩ .nil
  | (k, d') :: kvs, (k', b', u') :: xs, nd, .cons ⟨a1, a2, a3, v', a4, a5⟩ r => by
    have a2 : k' = nk k := a2
    subst a2
    have nd2 := List.nodup_cons.mp nd
    rw [storedH_cons nd2.1]
    unfold hSet
    by_cases e : k = hk
    · subst e
      rw [if_pos rfl, if_pos rfl]
      exact .cons ⟨a1, rfl, a3, v, rv, ru⟩ r
    · rw [if_neg e, if_neg (fun z => e (nk_inj z))]
      exact .cons ⟨a1, rfl, a3, v', a4, a5⟩ (TN.put ko rb rv ru nd2.2 r)
theorem TN.len {kvs : List (HK × DV)} {xs : List (NestedKey × Addr × Value)} (x : TN K ads H kvs xs) : kvs.length = xs.length := Paired.length x
theorem entries_any {w' : World} : ∀ {kvs : List (HK × DV)} {xs : List (NestedKey × Addr × Value)}, TN K ads H kvs xs → xs.map (fun x => (⟨x.1.hash w', .ref x.2.1, x.2.2⟩ : DictEntry)) = xs.map (entryOfKey (nestedKind P w))
  | _, _, .nil => rfl
  | (k, d') :: kvs, (k', b', u') :: xs, .cons ⟨a1, a2, a3, v', a4, a5⟩ r => by
    have a2 : k' = nk k := a2
    subst a2
    rw [List.map_cons, List.map_cons, entries_any r]
    congr 1
    show (⟨(nk k).hash w', .ref b', u'⟩ : DictEntry) = ⟨(nk k).hash w, .ref b', u'⟩
    rw [hash_any (w := w') (w' := w) (keyN_num a1).1]
theorem TN.is (ok : HOk P w H h) : ∀ {kvs : List (HK × DV)} {xs : List (NestedKey × Addr × Value)}, TN K ads H kvs xs → ∀ x ∈ xs, (nestedKind P w).is h x.1 x.2.1
  | _, _, .nil => fun x hx => by simp at hx
  | (k, d') :: kvs, (k', b', u') :: xs, .cons ⟨a1, a2, a3, v', a4, a5⟩ r => fun x hx => by
    rcases List.mem_cons.mp hx with e | hx
    · subst e
      have a2 : k' = nk k := a2
      subst a2
      exact ⟨nested_of ok kOf_dOf a3 rfl, (keyN_num a1).2⟩
    · exact TN.is ok r x hx
/-- the dict behind a handle -/
theorem dn_of {a : Addr} {kvs : List (HK × DV)} (ok : HOk P w H h) (ro : RO K mg ads H a (.dcn kvs)) : kvs.length ≤ sizeLine ∧ (a == sysModules) = false ∧ ∃ xs, TN K ads H kvs xs ∧ h.DictOfH (nestedKind P w) a xs ∧ (xs.map (·.1)).Nodup := by
  obtain ⟨w', vs, e, rn⟩ := ro
  have x : ObjOk P w H h a (DN w' a vs) := ok a _ e
  unfold DN at x
  obtain ⟨⟨z, hd, xs, pn, o, es, ep, h1, h2, h3, h4, h5⟩, -, -⟩ := x
  have t := TN.of rn pn
  exact ⟨by rw [Paired.length rn]; exact z, hd, xs, t, ⟨o, es, ep, h1, h2, h3, by rw [h4, entries_any t], t.is ok, h5⟩, h5⟩
/-- and the other way -/
theorem dn_ok {a : Addr} {vs : List (NestedKey × Addr × V)} {xs : List (NestedKey × Addr × Value)} {H' : Hp} (z : xs.length ≤ sizeLine) (hd : (a == sysModules) = false) (pn : PN vs xs) (dd : h.DictOfH (nestedKind P w) a xs) : ObjOk P w H' h a (DN w a vs) := by
  obtain ⟨o, es, ep, h1, h2, h3, h4, _, h5⟩ := dd
  unfold DN
  refine ⟨⟨by rw [Paired.length pn]; exact z, hd, xs, pn, o, es, ep, h1, h2, h3, h4, h5⟩, ⟨o, h1⟩, ?_⟩
  rintro g1 g2 ⟨z', hd', ys, pn', o', es', ep', k1, k2, k3, k4, k5⟩ st
  exact ⟨z', hd', ys, pn', o', es', ep', st _ k1, k2, k3, k4, k5⟩
end
theorem room_nk {A : Around} {P : Program} {w : World} (hu : A.units + 64 < cLine) : (nestedKind P w).room A.in1 := by
  show A.in1.units + 8 < cLine
  have : A.in1.units = A.units + 1 := rfl
  omega
section
variable {X : Cx}
/-- a handle's dict at a key -/
theorem dn_at {pins : List (Addr × Obj)} {σ : L2.St} {H : Hp} {s : Shared} {ads : List Addr} {st : Sto} {k : Nat} {a : Addr} {kvs : List (HK × DV)} {dy : DV} {y : V} {h : HK} (I : Inv X pins σ H s) (R : RSt X.K X.mg ads H st) (hk : ads[k]? = some a) (e1 : st[k]? = some (.dcn kvs)) (ry : RV X.K ads H dy y) (e2 : kOf dy = some h) (ko : keyN h = true) :
    ∃ b xs, y = .ref b ∧ (nestedKind X.prog X.w).is s.heap (nk h) b ∧ RV X.K ads H (dOf h) (.ref b) ∧ kvs.length ≤ sizeLine ∧ (a == sysModules) = false ∧ TN X.K ads H kvs xs ∧ s.heap.DictOfH (nestedKind X.prog X.w) a xs ∧ (xs.map (·.1)).Nodup ∧ RelN X.K ads H (hGet kvs h) (atKey xs (nk h)) := by
  obtain ⟨z, hd, xs, t, dd, nd⟩ := dn_of I.hok (R.ob k a _ hk e1)
  have n := keyN_num ko
  have rb : RV X.K ads H (dOf h) y := by rw [dOf_kOf e2]; exact ry
  cases dy with
  | tup ks =>
    cases ry with
    | @tup b _ vs hs rs => exact ⟨b, xs, rfl, ⟨nested_of I.hok e2 (.tup hs rs) rfl, n.2⟩, rb, z, hd, t, dd, nd, t.get⟩
  | _ => first | (cases e2; done) | (cases e2; cases ko)
noncomputable def inN (x y : DV) : M DV := fun st => match y with
  | .ref k => match st[k]? with
    | some (.dcn kvs) => match kOf x with
      | some h => if keyN h = true then .ok (.bl (hGet kvs h).isSome) st else .bad
      | none => .bad
    | _ => .bad
  | _ => .bad
noncomputable def ninN (x y : DV) : M DV := fun st => match y with
  | .ref k => match st[k]? with
    | some (.dcn kvs) => match kOf x with
      | some h => if keyN h = true then .ok (.bl (!(hGet kvs h).isSome)) st else .bad
      | none => .bad
    | _ => .bad
  | _ => .bad
theorem RelN.isSome {K : PySem.W.Frag} {ads : List Addr} {H : Hp} {a : Option DV} {b : Option (Addr × Value)} (r : RelN K ads H a b) : a.isSome = b.isSome := by
  cases a <;> cases b <;> first | rfl | exact r.elim
theorem opm_inN (hu : X.A.units + 65 < cLine) : OpM X (compareOp .In) inN := by
  intro pins s σ H x y v u Q ads dx dy st W I R hx hy rx ry h
  unfold inN at h
  split at h
  · rename_i k
    cases hy with
    | @ref _ a hk =>
      split at h
      · rename_i kvs e1
        split at h
        · rename_i hh e2
          split at h
          · rename_i ko
            obtain ⟨b, xs, rfl, is, rb, z, hd, t, dd, nd, rn⟩ := dn_at I R hk e1 hx e2 ko
            cases (show u = Value.ref a from ry)
            cases (show v = Value.ref b from rx)
            refine wpAny_in_heap (room_nk (by omega)) is hd dd ?_
            rw [← rn.isSome]
            exact ⟨.bl _, H, I.tok _, rfl, h ads H _ .refl R (.bl _)⟩
          · exact h.elim
        · exact h.elim
      · exact h.elim
  · exact h.elim
theorem opm_ninN (hu : X.A.units + 65 < cLine) : OpM X (compareOp .NotIn) ninN := by
  intro pins s σ H x y v u Q ads dx dy st W I R hx hy rx ry h
  unfold ninN at h
  split at h
  · rename_i k
    cases hy with
    | @ref _ a hk =>
      split at h
      · rename_i kvs e1
        split at h
        · rename_i hh e2
          split at h
          · rename_i ko
            obtain ⟨b, xs, rfl, is, rb, z, hd, t, dd, nd, rn⟩ := dn_at I R hk e1 hx e2 ko
            cases (show u = Value.ref a from ry)
            cases (show v = Value.ref b from rx)
            refine wpAny_notIn_heap (room_nk (by omega)) is hd dd ?_
            rw [← rn.isSome]
            exact ⟨.bl _, H, I.tok _, rfl, h ads H _ .refl R (.bl _)⟩
          · exact h.elim
        · exact h.elim
      · exact h.elim
  · exact h.elim
/-- d[k] -/
def ixN' (x y : DV) : M DV := fun st => match x with
  | .ref k => match st[k]? with
    | some (.dcn kvs) => match kOf y with
      | some h => if keyN h = true then optD (hGet kvs h) st else .bad
      | none => .bad
    | _ => .bad
  | _ => .bad
theorem ixmN (hu : X.A.units + 65 < cLine) : IxM X ixN' := by
  intro value slice pins s σ H x y v u Q ads dx dy st W I R hx hy rx ry h hs
  unfold ixN' at h
  split at h
  · rename_i k
    cases hx with
    | @ref _ a hk =>
      split at h
      · rename_i kvs e1
        split at h
        · rename_i hh e2
          split at h
          · rename_i ko
            obtain ⟨d, e, h⟩ := optD_ok h
            obtain ⟨b, xs, rfl, is, rb, z, hd, t, dd, nd, rn⟩ := dn_at I R hk e1 hy e2 ko
            cases (show v = Value.ref a from rx)
            cases (show u = Value.ref b from ry)
            rw [e] at rn
            cases ea : atKey xs (nk hh) with
            | none => rw [ea] at rn; exact rn.elim
            | some p =>
              rw [ea] at rn
              obtain ⟨v', r1, r2⟩ := rn
              exact tail_any (show s.TypeIs (.ref a) "dict" from dd.typeIs) PySem.F.slot_dict_getitem.lookup (wpAny_getItem_heap (room_nk (by omega)) is dd ea ⟨v', H, I.tok _, r2, h.ok R r1⟩) hs
          · exact h.elim
        · exact h.elim
      · exact h.elim
  · exact h.elim
/-- behind a store -/
theorem dn_put {pins : List (Addr × Obj)} {σ : L2.St} {H : Hp} {s : Shared} {ads : List Addr} {st : Sto} {k : Nat} {a b : Addr} {kvs : List (HK × DV)} {h : HK} {d : DV} {v : V} {u : Value} {xs : List (NestedKey × Addr × Value)} {h' : Heap} {t' : Nat} (I : Inv X pins σ H s) (R : RSt X.K X.mg ads H st) (hk : ads[k]? = some a) (e1 : st[k]? = some (.dcn kvs)) (ko : keyN h = true)
    (rb : RV X.K ads H (dOf h) (.ref b)) (z : kvs.length < sizeLine) (hd : (a == sysModules) = false) (t : TN X.K ads H kvs xs) (nd : (xs.map (·.1)).Nodup) (rv : RV X.K ads H d v) (ru : RelV v u) (dd' : h'.DictOfH (nestedKind X.prog X.w) a (storedH xs (nk h) b u)) (hs : Heap.SameBut a s.heap h') :
    ∃ H2, Inv X pins σ H2 { s with heap := h', toks := t' } ∧ Fut ads H ads H2 ∧ RSt X.K X.mg ads H2 (st.set k (.dcn (hSet kvs h d))) := by
  have t2 := t.put ko rb rv ru nd
  obtain ⟨vs, rn, pn⟩ := t2.split
  have hl : (hSet kvs h d).length ≤ kvs.length + 1 := by
    clear t2 rn e1 t z
    induction kvs with
    | nil => exact Nat.le_refl _
    | cons p r ih =>
      obtain ⟨k', d'⟩ := p
      unfold hSet
      split
      · simp
      · simp only [List.length_cons]
        omega
  obtain ⟨w', vs0, e0, _⟩ := (R.ob k a _ hk e1)
  have fw := R.write (o := DN X.w a vs) hk
  refine ⟨upd H a (DN X.w a vs), d_write I (by rw [e0]; exact True.intro) hs (let ⟨q, _, _, hq, _⟩ := dd'; ⟨q, hq⟩) (dn_ok (by rw [← t2.len]; omega) hd pn dd'), fw, R.set hk ⟨X.w, vs, upd_same, rn.mono2 fw.pre fw.kp⟩⟩
def setN (o i v : DV) : M Unit := fun st => match o with
  | .ref k => match st[k]? with
    | some (.dcn kvs) => match kOf i with
      | some h => if keyN h = true ∧ kvs.length < sizeLine then .ok () (st.set k (.dcn (hSet kvs h v))) else .bad
      | none => .bad
    | _ => .bad
  | _ => .bad
theorem setN_ok (hu : X.A.units + 65 < cLine) {pins : List (Addr × Obj)} {s : Shared} {σ : L2.St} {H : Hp} {o i v : V} {ov iv u : Value} {ads : List Addr} {dO dI dV : DV} {st st' : Sto} {Q : Hp → Prop} (I : Inv X pins σ H s) (R : RSt X.K X.mg ads H st) (rO : RV X.K ads H dO o) (rI : RV X.K ads H dI i) (rV' : RV X.K ads H dV v)
    (r1 : RelV o ov) (r2 : RelV i iv) (r3 : RelV v u) (e : setN dO dI dV st = .ok () st') (hq : ∀ H', Fut ads H ads H' → RSt X.K X.mg ads H' st' → Q H') :
    wpAny (model X.prog X.w) X.A (setItem ov iv u) (fun _ s' => ∃ H', Inv X pins σ H' s' ∧ Q H') X.xe s := by
  unfold setN at e
  split at e
  · rename_i k
    cases rO with
    | @ref _ a hk =>
      split at e
      · rename_i kvs e1
        split at e
        · rename_i h e2
          split at e
          · rename_i hc
            cases e
            obtain ⟨b, xs, rfl, is, rb, z, hd, t, dd, nd, rn⟩ := dn_at I R hk e1 rI e2 hc.1
            cases (show ov = Value.ref a from r1)
            cases (show iv = Value.ref b from r2)
            refine wpAny_setItem_heap (hsz := by rw [← t.len]; exact z) (room_nk (by omega)) is dd fun h' dd' hs => ?_
            obtain ⟨H2, I2, f2, R2⟩ := dn_put (t' := _) I R hk e1 hc.1 rb hc.2 hd t nd rV' r3 dd' hs
            exact ⟨H2, I2, hq H2 f2 R2⟩
          · cases e
        · cases e
      · cases e
  · cases e
def gSubN (mo mi : Ex) : Tg := fun d ss => bnd (mo ss) fun o => bnd (mi ss) fun i => bnd (setN o i d) fun _ => pur ss
theorem rg_subN {W : WX} {o i : Expr} {mo mi : Ex} {pos : Pos} (hu : X.A.units + 65 < cLine) (ho : RE X W o mo) (hi : RE X W i mi)
    (ha : ∀ v, assign (.Subscript o i pos) X.env v = (do
      let ov ← holding [v] (eval o X.env)
      let iv ← holding [v, ov] (eval i X.env)
      standAt pos
      holding [v, ov, iv] (setItem ov iv v)
      release [v, ov, iv] []) := by intro _; rfl) : RG X (.Subscript o i pos) (gSubN mo mi) := by
  refine ⟨fun pins s σ H v u Q I r h => ?_⟩
  obtain ⟨ads, ss, d, st, R, L, rv, p⟩ := h
  cases e : gSubN mo mi d ss st with
  | exc _ _ => rw [e] at p; exact p.elim
  | bad => rw [e] at p; exact p.elim
  | ok ss' st' =>
  rw [e] at p
  obtain ⟨dO, st1, e1, e⟩ := bnd_ok e
  obtain ⟨dI, st2, e2, e⟩ := bnd_ok e
  obtain ⟨un, st3, e3, e⟩ := bnd_ok e
  cases e
  rw [ha]
  refine wpAny_bind (wpAny_holding (thn (ho.run pins s σ H _ I (okP (Q := fun x H1 => ∃ ads1, Fut ads H ads1 H1 ∧ RSt X.K X.mg ads1 H1 st1 ∧ RV X.K ads1 H1 dO x) R L e1 fun ads1 H1 b f1 R1 r1 => ⟨ads1, f1, R1, r1⟩)) fun ov s1 ⟨x, H1, I1, r1, ads1, f1, R1, rO⟩ => ?_))
  refine wpAny_bind (wpAny_holding (thn (hi.run pins s1 σ H1 _ I1 (okP (Q := fun x H2 => ∃ ads2, Fut ads1 H1 ads2 H2 ∧ RSt X.K X.mg ads2 H2 st2 ∧ RV X.K ads2 H2 dI x) R1 (L.mono f1) e2 fun ads2 H2 b f2 R2 r2 => ⟨ads2, f2, R2, r2⟩)) fun iv s2 ⟨y, H2, I2, r2, ads2, f2, R2, rI⟩ => ?_))
  refine wpAny_bind (wpAny_standAt (wpAny_bind (wpAny_holding (thn (setN_ok hu I2 R2 (rO.mono f2) rI (rv.mono (f1.trans f2)) r1 r2 r e3 (Q := Q σ) fun H' f3 R3 => p ads2 H' σ ((f1.trans f2).trans f3) R3 (L.mono ((f1.trans f2).trans f3))) fun _ s3 ⟨H3, I3, q3⟩ => ?_))))
  exact wpAny_release ⟨σ, H3, I3, q3⟩
/-- d.setdefault(k, x) -/
def setdefN (d : DV) (as : List DV) : M DV := match as with
  | [y, z] => fun st => match d with
    | .ref k => match st[k]? with
      | some (.dcn kvs) => match kOf y with
        | some h => if keyN h = true then (match hGet kvs h with
          | some w => .ok w st
          | none => if kvs.length < sizeLine then .ok z (st.set k (.dcn (hSet kvs h z))) else .bad) else .bad
        | none => .bad
      | _ => .bad
    | _ => .bad
  | _ => stuck
theorem mm_setdefN (hu : X.A.units + 65 < cLine) : MtMM X "dict" "dict.setdefault" setdefN := by
  intro pins s σ H x vs v us Q ads d as st W I R rd ra rx rs h
  unfold setdefN at h
  split at h
  · rename_i y zz
    split at h
    · rename_i k
      obtain ⟨w, w2, rfl, hw, hw2⟩ := ra.two
      cases rd with
      | @ref _ a hk =>
        split at h
        · rename_i kvs e1
          split at h
          · rename_i hh e2
            split at h
            · rename_i ko
              obtain ⟨b, xs, rfl, is, rb, z, hd, t, dd, nd, rn⟩ := dn_at I R hk e1 hw e2 ko
              obtain ⟨u1, u2, rfl, r1, r2⟩ := vals2 rs
              cases (show v = Value.ref a from rx)
              cases (show u1 = Value.ref b from r1)
              refine call_setdefault_heap (hsz := by rw [← t.len]; exact z) (room_nk (by omega)) is hd dd (fun q hq => ?_) fun hn h' dd' hs => ?_
              · rw [hq] at rn
                cases hg : hGet kvs hh with
                | none => rw [hg] at rn; exact rn.elim
                | some bb =>
                  rw [hg] at rn h
                  obtain ⟨v', q1, q2⟩ := rn
                  exact (⟨v', H, I.tok _, q2, h.ok R q1⟩ : EP X pins σ Q _ _)
              · rw [hn] at rn
                cases hg : hGet kvs hh with
                | some bb => rw [hg] at rn; exact rn.elim
                | none =>
                  rw [hg] at h
                  by_cases hl : kvs.length < sizeLine
                  · simp only [if_pos hl] at h
                    obtain ⟨H2, I2, f2, R2⟩ := dn_put (t' := _) I R hk e1 ko rb hl hd t nd hw2 r2 dd' hs
                    exact (⟨w2, H2, I2, r2, h ads H2 w2 f2 R2 (hw2.mono f2)⟩ : EP X pins σ Q _ _)
                  · simp only [if_neg hl] at h
                    exact h.elim
            · exact h.elim
          · exact h.elim
        · exact h.elim
    · exact h.elim
  · exact (h : False).elim
/-- d.get(k, x) -/
def dgetN (d : DV) (as : List DV) : M DV := match as with
  | [y, z] => fun st => match d with
    | .ref k => match st[k]? with
      | some (.dcn kvs) => match kOf y with
        | some h => if keyN h = true then .ok ((hGet kvs h).getD z) st else .bad
        | none => .bad
      | _ => .bad
    | _ => .bad
  | _ => stuck
/-- len(d) -/
def lenN (as : List DV) : M DV := match as with
  | [.ref k] => fun st => match st[k]? with
    | some (.dcn kvs) => .ok (.int kvs.length) st
    | _ => .bad
  | _ => stuck
theorem cm_lenN : CallM X (.builtin "len") lenN := by
  intro pins s σ H vs us Q ads as st W I R rv r h
  unfold lenN at h
  split at h
  · obtain ⟨v, rfl, hv⟩ := rv.one
    cases hv with
    | @ref k a hk =>
      split at h
      · rename_i kvs e1
        obtain ⟨z, hd, xs, t, dd, nd⟩ := dn_of I.hok (R.ob _ _ _ hk e1)
        obtain ⟨u, rfl, rx⟩ := vals1 r
        obtain rfl : u = .ref a := rx
        refine call_len_dictH hd dd (by rw [← t.len]; rw [sizeLine_eq] at z; omega) ?_
        rw [← t.len]
        exact ⟨.int ((kvs.length : Nat) : Int), H, I.tok _, ⟨_, rfl⟩, h ads H _ .refl R (.int _)⟩
      · exact h.elim
  · exact (h : False).elim
/-- {} -/
def eDicN : Ex := fun _ => alloc (.dcn [])
theorem Inv.toN {pins : List (Addr × Obj)} {σ : L2.St} {H : Hp} {s : Shared} {a : Addr} (I : Inv X pins σ H s) (e : H a = some (.dK [])) : Inv X pins σ (upd H a (DN X.w a [])) s := by
  obtain ⟨z, hd, vs, rel, dd⟩ := dk_of I.hok e
  cases rel
  obtain ⟨o, es, ep, h1, h2, h3, h4, h5, _⟩ := dd
  have hes : es.toList = [] := by
    cases q : es.toList with
    | nil => rfl
    | cons x r => rw [q] at h5; cases h5
  exact d_write (t' := s.toks) I (by rw [e]; exact True.intro) ⟨rfl, fun _ _ => rfl⟩ ⟨o, h1⟩ (dn_ok (xs := []) (Nat.zero_le _) hd .nil ⟨o, es, ep, h1, h2, h3, by rw [hes]; rfl, fun x hx => by simp at hx, List.nodup_nil⟩)
theorem upd_twice {H : Hp} {a : Addr} {o u : HO} : upd (upd H a o) a u = upd H a u := upd_upd
theorem re_dicN {W : WX} {pos : Pos} : RE X W (.Dict [] [] pos) eDicN := ⟨fun pins s σ H Q I h => by
  obtain ⟨ads, ss, st, R, L, p⟩ := h
  refine wpAny_mono (pe_dnewK.run pins s σ H (fun x H' => ∃ q, x = .ref q ∧ H q = none ∧ H' = upd H q (.dK [])) I fun q hq => ⟨q, rfl, hq, rfl⟩) (fun v s' => ?_) fun _ _ z => z
  rintro ⟨x, H', I', rx, q, rfl, hq, rfl⟩
  have I2 := Inv.toN I' upd_same
  rw [upd_twice] at I2
  exact ⟨.ref q, _, I2, rx, p _ _ _ (Fut.alloc hq) (R.alloc hq ⟨X.w, [], upd_same, .nil⟩) (.ref (alloc_at R))⟩⟩
end
end ML

/-! ML22: methods of dicts whose keys are nested tuples. -/
namespace ML
open PySem PySem.Spec PyProof.Rows L2
def isN (d : DV) (st : Sto) : Bool := match d with
  | .ref k => match st[k]? with
    | some (.dcn _) => true
    | _ => false
  | _ => false
def eMtN (g : DV → List DV → M DV) (m : Ex) (ms : List Ex) : Ex := fun ss => bnd (m ss) fun d st => if isN d st = true then bnd (eArgs ms ss) (g d) st else .bad
section
variable {X : Cx} {W : WX} {o e : Expr} {es : List Expr} {m : Ex} {ms : List Ex} {name : Str} {apos cpos : Pos} {id : String} {g : DV → List DV → M DV}
theorem re_mtN (pa : PlainAttrs "dict") (slot : Slot "dict" name id) (hty : typeOf (.builtin id) = pure (.type "method_descriptor")) (hm : MtMM X "dict" id g) (ho : RE X W o m) (ha : RA X W (e :: es) ms)
    (hbase : attributeBase o name X.env (eval o X.env) = eval o X.env := by rfl)
    (hfew : ((backTo cpos (starEach (e :: es) X.env)).all (fun x => !x.1) && (backToKw cpos (keywordEach [] X.env)).all (fun x => x.1.isSome)
      && decide ((e :: es).length + ([] : List Keyword).length + (if ([] : List Keyword).isEmpty then 0 else 1) < 30)) = true := by rfl)
    (hline : (apos.endLine == cpos.line) = true := by rfl) (hs : starEach (e :: es) X.env = (false, eval e X.env) :: starEach es X.env := by rfl) (hplain : (backTo cpos (starEach es X.env)).any (·.1) = false := by rfl) :
    RE X W (.Call (.Attribute o name apos) (e :: es) [] cpos) (eMtN g m ms) := ⟨fun pins s σ H Q I h => by
  obtain ⟨ads, ss, st, R, L, p⟩ := h
  refine wpAny_Call_method_late hbase hfew hline rfl (thn (ho.run pins s σ H _ I ⟨ads, ss, st, R, L, post.bind (R := rV X.K) p⟩) fun v s1 ⟨x, H1, I1, r1, ads1, d, st1, fu1, R1, rd, p1⟩ => ?_)
  by_cases ht : isN d st1 = true
  case neg => rw [if_neg ht] at p1; exact p1.elim
  rw [if_pos ht] at p1
  have ty : s1.TypeIs v "dict" ∧ ∀ a, v = .ref a → ∃ ob, s1.heap.get? a = some ob ∧ ob.dict = none := by
    unfold isN at ht
    cases rd with
    | @ref k a hk =>
      simp only at ht
      split at ht
      · rename_i kvs e1
        cases (show v = Value.ref a from r1)
        obtain ⟨z, hd, xs, t, dd, nd⟩ := dn_of I1.hok (R1.ob _ _ _ hk e1)
        refine ⟨dd.typeIs, fun a' ea => ?_⟩
        cases ea
        obtain ⟨ob, es', ep, h1, h2, _⟩ := dd
        exact ⟨ob, h1, h2.2.1⟩
      · cases ht
    | _ => cases ht
  refine ⟨"dict", id, pa, slot, hty, ty.1, ty.2, ?_⟩
  have hA := ha.run cpos pins s1 σ H1 _ I1 ⟨ads1, ss, st1, R1, L.mono fu1, post.bind (R := rVs X.K) p1⟩
  rw [hs] at hA ⊢
  refine Calls.callWith_builtin (by show (false || (backTo cpos (starEach es X.env)).any (·.1)) = false; rw [hplain] <;> rfl) (Calls.evalArgs_plain ?_)
  exact thn hA fun us s2 ⟨vs, H2, I2, r2, ads2, as, st2, fu2, R2, ra, p2⟩ => hm pins s2 σ H2 x vs v us Q ads2 d as st2 (fun cls d _ H => W cls d σ H) I2 R2 (rd.mono fu2) ra r1 r2 (p2.wish fun _ _ _ z => z)⟩
end
end ML

/-! ML23: chains of three comparisons; xs[i] op= e. -/
namespace ML
open PySem PySem.Spec PyProof.Rows L2
section
variable {X : Cx} {W : WX} {a b c d : Expr} {ma mb mc md : Ex} {pos : Pos}
def eChain3 (g g' g'' : DV → DV → M DV) (a b c d : Ex) : Ex := fun ss => bnd (a ss) fun x => bnd (b ss) fun y => bnd (g x y) fun z => bnd (asB z) fun k => if k = true then bnd (c ss) fun w => bnd (g' y w) fun z => bnd (asB z) fun k => if k = true then bnd (d ss) fun u => g'' w u else pur (.bl false) else pur (.bl false)
theorem re_chain3 {op op' op'' : CmpOp} {g g' g'' : DV → DV → M DV} (ho : OpM X (compareOp op) g) (ho' : OpM X (compareOp op') g') (ho'' : OpM X (compareOp op'') g'') (ha : RE X W a ma) (hb : RE X W b mb) (hc : RE X W c mc) (hd : RE X W d md) (hm : lastMarks [op, op', op''] [b, c, d] = false := by with_unfolding_all rfl) :
    RE X W (.Compare a [op, op', op''] [b, c, d] pos) (eChain3 g g' g'' ma mb mc md) := by
  refine ⟨fun pins s σ H Q I h => ?_⟩
  obtain ⟨ads, ss, st, R, L, p⟩ := h
  refine Compare_chain (thn (ha.run pins s σ H _ I ⟨ads, ss, st, R, L, post.bind (R := rV X.K) p⟩) fun v s1 ⟨x, H1, I1, r1, ads1, dx, st1, f1, R1, rx, p1⟩ => ?_) hm
  have L1 := L.mono f1
  refine chain_link (thn (hb.run pins s1 σ H1 _ I1 ⟨ads1, ss, st1, R1, L1, post.bind (R := rV X.K) p1⟩) fun u s2 ⟨y, H2, I2, r2, ads2, dy, st2, f2, R2, ry, p2⟩ => ?_)
  have L2 := L1.mono f2
  refine thn (ho pins s2 σ H2 x y v u _ ads2 dx dy st2 W I2 R2 (rx.mono f2) ry r1 r2 (post.bind (R := rV X.K) p2)) fun z s3 ⟨zv, H3, I3, r3, ads3, dz, st3, f3, R3, rz, p3⟩ => ?_
  cases rz with
  | bl k =>
    cases r3
    refine wpAny_truthy_bool ?_
    cases k with
    | false => exact ite_ff ⟨.bl false, H3, I3, rfl, post.ok p3 R3 (.bl _)⟩
    | true =>
      refine ite_tt ?_
      have p3 : post X.K X.mg W (rV X.K) σ ads3 H3 (bnd (mc ss) (fun w => bnd (g' dy w) fun z => bnd (asB z) fun k => if k = true then bnd (md ss) fun u => g'' w u else pur (.bl false)) st3) Q := p3
      have L3 := L2.mono f3
      refine chain_link (thn (hc.run pins s3 σ H3 _ I3 ⟨ads3, ss, st3, R3, L3, post.bind (R := rV X.K) p3⟩) fun w' s4 ⟨wv, H4, I4, r4, ads4, dw, st4, f4, R4, rw4, p4⟩ => ?_)
      have L4 := L3.mono f4
      refine thn (ho' pins s4 σ H4 y wv u w' _ ads4 dy dw st4 W I4 R4 ((ry.mono f3).mono f4) rw4 r2 r4 (post.bind (R := rV X.K) p4)) fun z5 s5 ⟨z5v, H5, I5, r5, ads5, dz5, st5, f5, R5, rz5, p5⟩ => ?_
      cases rz5 with
      | bl k5 =>
        cases r5
        refine wpAny_truthy_bool ?_
        cases k5 with
        | false => exact ite_ff ⟨.bl false, H5, I5, rfl, post.ok p5 R5 (.bl _)⟩
        | true =>
          refine ite_tt ?_
          have p5 : post X.K X.mg W (rV X.K) σ ads5 H5 (bnd (md ss) (fun u => g'' dw u) st5) Q := p5
          have L5 := L4.mono f5
          exact chain_last (thn (hd.run pins s5 σ H5 _ I5 ⟨ads5, ss, st5, R5, L5, post.bind (R := rV X.K) p5⟩) fun w6 s6 ⟨z6, H6, I6, r6, ads6, d6, st6, f6, R6, rd6, p6⟩ => ho'' pins s6 σ H6 wv z6 w' w6 Q ads6 dw d6 st6 W I6 R6 ((rw4.mono f5).mono f6) rd6 r4 r6 p6)
      | _ => exact (p5 : False).elim
  | _ => exact (p3 : False).elim
end
def getLM (o i : DV) : M DV := fun st => match o with
  | .ref k => match st[k]? with
    | some (.lst xs) => match i with
      | .int j => if 0 ≤ j then optD (L2.atI xs j) st else .bad
      | _ => .bad
    | _ => .bad
  | _ => .bad
theorem opm_getL {X : Cx} : OpM X getItem getLM := by
  intro pins s σ H x y v u Q ads dx dy st W I R hx hy rx ry h
  unfold getLM at h
  split at h
  · rename_i k
    cases hx with
    | @ref _ a hk =>
      split at h
      · rename_i xs e1
        obtain ⟨vs, hv, rs⟩ := R.list hk e1
        split at h
        · rename_i j
          cases hy
          by_cases h0 : 0 ≤ j
          · rw [if_pos h0] at h
            obtain ⟨d, e, h⟩ := optD_ok h
            obtain ⟨z, he, h2⟩ := rs.atI e
            cases rx
            obtain ⟨t, rfl⟩ := ry
            obtain ⟨its, r, pl, hz⟩ := I.list (.of hv)
            obtain ⟨j', q1, q2, q3, q4, q5⟩ := atI_get he
            obtain ⟨w, ew, rw'⟩ := r.get q2
            have hn := line63
            have hj : j.toNat = j' := by
              rw [seqIndex_of h0 q5] at q1
              exact Option.some.inj q1
            exact wpAny_getItem_list pl.isList h0 (by omega) (by rw [hj]; simpa using ew) ⟨z, H, I, rw', h.ok R h2⟩
          · rw [if_neg h0] at h
            exact h.elim
        · exact h.elim
      · exact h.elim
  · exact h.elim
section
variable {X : Cx} {W : WX} {o i e : Expr} {mo mi me : Ex} {pos tpos : Pos}
/-- o[i] op= e, o a list -/
def sAugL (mo mi : Ex) (g : DV → DV → M DV) (m : Ex) : Stt := fun ss => lft ss (mo ss) fun o => lft ss (mi ss) fun i => lft ss (getLM o i) fun x => lft ss (m ss) fun y => lft ss (g x y) fun z st => match setM o i z st with
  | .ok _ st' => .ok (.nx ss) st'
  | _ => .bad
theorem rs_augL {op : Operator} {g : DV → DV → M DV} (hu : X.A.units + 1 < cLine) (ho : RE X W o mo) (hi : RE X W i mi) (he : RE X W e me) (hp : OpM X (inplaceOp op) g)
    (ha : ∀ ov iv new, augStore i ov iv new = (do holding [new, ov, iv] (setItem ov iv new); release [new, ov, iv] []; pure .next) := by intros; rfl) : RS X W (.AugAssign (.Subscript o i tpos) op e pos) (sAugL mo mi g me) := ⟨fun pins s σ H D I h => by
  obtain ⟨ads, ss, st, R, L, p⟩ := h
  refine wpAny_AugAssign_SubscriptAny (thn (ho.run pins s σ H _ I ⟨ads, ss, st, R, L, postS.lft (R := rV X.K) L p⟩) fun ov s1 ⟨x1, H1, I1, r1, ads1, d1, st1, f1, R1, rd1, p1⟩ => ?_) ha
  have L1 := L.mono f1
  refine thn (hi.run pins s1 σ H1 _ I1 ⟨ads1, ss, st1, R1, L1, postS.lft (R := rV X.K) L1 p1⟩) fun iv s2 ⟨x2, H2, I2, r2, ads2, d2, st2, f2, R2, rd2, p2⟩ => ?_
  have L2 := L1.mono f2
  refine thn (opm_getL pins s2 σ H2 x1 x2 ov iv _ ads2 d1 d2 st2 W I2 R2 (rd1.mono f2) rd2 r1 r2 (postS.lft (R := rV X.K) L2 p2)) fun old s3 ⟨x3, H3, I3, r3, ads3, d3, st3, f3, R3, rd3, p3⟩ => ?_
  have L3 := L2.mono f3
  refine thn (he.run pins s3 σ H3 _ I3 ⟨ads3, ss, st3, R3, L3, postS.lft (R := rV X.K) L3 p3⟩) fun v s4 ⟨x4, H4, I4, r4, ads4, d4, st4, f4, R4, rd4, p4⟩ => ?_
  have L4 := L3.mono f4
  refine thn (hp pins s4 σ H4 x3 x4 old v _ ads4 d3 d4 st4 W I4 R4 (rd3.mono f4) rd4 r3 r4 (postS.lft (R := rV X.K) L4 p4)) fun new s5 ⟨x5, H5, I5, r5, ads5, d5, st5, f5, R5, rd5, p5⟩ => ?_
  have L5 := L4.mono f5
  cases ee : setM d1 d2 d5 st5 with
  | exc _ _ => rw [ee] at p5; exact p5.elim
  | bad => rw [ee] at p5; exact p5.elim
  | ok un st6 =>
    cases un
    rw [ee] at p5
    exact thn (setM_ok hu I5 R5 ((((rd1.mono f2).mono f3).mono f4).mono f5) (((rd2.mono f3).mono f4).mono f5) rd5 r1 r2 r5 ee (Q := fun H' => D.nx σ H') fun H' f6 R6 => p5 ads5 H' σ f6 R6 (L5.mono f6)) fun _ s6 ⟨H6, I6, q6⟩ => ⟨σ, H6, I6, q6⟩⟩
end
end ML

/-! ML24: texts parted, put in capitals, written with values. -/
namespace ML
open PySem PySem.Spec PyProof.Rows L2
theorem RVs.strs {K : PySem.W.Frag} {ads : List Addr} {H : Hp} : ∀ ys : List Str, RVs K ads H (ys.map DV.str) (ys.map V.str)
  | [] => .nil
  | y :: ys => .cons (.str y) (RVs.strs ys)
/-! a.split(b) -/
def splitM (d : DV) (as : List DV) : M DV := match d, as with
  | .str a, [.str b] => fun st => if (b.length == 0) = false ∧ a.length + 2 ≤ sizeLine then alloc (.lst ((Txt.split a b).map DV.str)) st else .bad
  | _, _ => stuck
theorem mm_split {X : Cx} : MtMM X "str" "str.split" splitM := by
  intro pins s σ H x vs v us Q ads d as st W I R rx rs r1 r2 h
  cases rx with
  | str a =>
    match as, rs, h with
    | [y], rs, h =>
      obtain ⟨u, rfl, ry⟩ := rs.one
      cases ry with
      | str b =>
        have h : post X.K X.mg W (rV X.K) σ ads H (if (b.length == 0) = false ∧ a.length + 2 ≤ sizeLine then alloc (.lst ((Txt.split a b).map DV.str)) st else .bad) Q := h
        by_cases hz : (b.length == 0) = false ∧ a.length + 2 ≤ sizeLine
        case neg => rw [if_neg hz] at h; exact (h : False).elim
        rw [if_pos hz] at h
        exact mt_split pins s σ H _ _ v us Q I r1 r2 ⟨a, b, rfl, rfl, hz.1, hz.2, fun p hp => post.newL R (RVs.strs _) h hp⟩
      | _ => exact (h : False).elim
    | [], _, h => exact (h : False).elim
    | y :: _ :: _, _, h => cases y <;> exact (h : False).elim
  | _ => exact (h : False).elim
/-! a.partition(b) -/
def partM (d : DV) (as : List DV) : M DV := match d, as with
  | .str a, [.str b] => fun st => if (b.length == 0) = false ∧ a.length ≤ sizeLine then .ok (.tup [.str (Txt.partition a b).1, .str (Txt.partition a b).2.1, .str (Txt.partition a b).2.2]) st else .bad
  | _, _ => stuck
theorem mm_part {X : Cx} : MtMM X "str" "str.partition" partM := by
  intro pins s σ H x vs v us Q ads d as st W I R rx rs r1 r2 h
  cases rx with
  | str a =>
    match as, rs, h with
    | [y], rs, h =>
      obtain ⟨u, rfl, ry⟩ := rs.one
      cases ry with
      | str b =>
        have h : post X.K X.mg W (rV X.K) σ ads H (if (b.length == 0) = false ∧ a.length ≤ sizeLine then .ok (.tup [.str (Txt.partition a b).1, .str (Txt.partition a b).2.1, .str (Txt.partition a b).2.2]) st else .bad) Q := h
        by_cases hz : (b.length == 0) = false ∧ a.length ≤ sizeLine
        case neg => rw [if_neg hz] at h; exact (h : False).elim
        rw [if_pos hz] at h
        exact mt_partition pins s σ H _ _ v us Q I r1 r2 ⟨a, b, rfl, rfl, hz.1, hz.2, fun p hp => post.newT R (.cons (.str _) (.cons (.str _) (.cons (.str _) .nil))) h hp⟩
      | _ => exact (h : False).elim
    | [], _, h => exact (h : False).elim
    | y :: _ :: _, _, h => cases y <;> exact (h : False).elim
  | _ => exact (h : False).elim
/-! a.upper() -/
def upperM (d : DV) (as : List DV) : M DV := match d, as with
  | .str a, [] => fun st => if a.length ≤ 5592405 then .ok (.str (Txt.upper a)) st else .bad
  | _, _ => stuck
theorem mm_upper {X : Cx} : MtMM X "str" "str.upper" upperM := by
  intro pins s σ H x vs v us Q ads d as st W I R rx rs r1 r2 h
  cases rx with
  | str a =>
    match as, rs, h with
    | [], rs, h =>
      cases rs
      have h : post X.K X.mg W (rV X.K) σ ads H (if a.length ≤ 5592405 then .ok (.str (Txt.upper a)) st else .bad) Q := h
      by_cases hz : a.length ≤ 5592405
      case neg => rw [if_neg hz] at h; exact (h : False).elim
      rw [if_pos hz] at h
      exact mt_upper pins s σ H _ _ v us Q I r1 r2 ⟨a, rfl, rfl, hz, h.ok R (.str _)⟩
    | _ :: _, _, h => exact (h : False).elim
  | _ => exact (h : False).elim
/-! texts with values in them -/
def fmtM : DV → M DV
  | .str y => fun st => if y.length ≤ sizeLine then .ok (.str y) st else .bad
  | .int i => fun st => if i.natAbs.log2 < 1920 then .ok (.str (toString i)) st else .bad
  | _ => stuck
def eFmt (m : Ex) : Ex := fun ss => bnd (m ss) fmtM
def jsG : List Ex → Str → Sl → M Str
  | [], acc, _ => pur acc
  | m :: ms, acc, ss => bnd (m ss) fun d => match d with
    | .str y => fun st => if (acc ++ y).length ≤ sizeLine then jsG ms (acc ++ y) ss st else .bad
    | _ => stuck
def eJs (ms : List Ex) : Ex := fun ss => bnd (jsG ms Str.empty ss) fun s => pur (.str s)
section
variable {X : Cx} {W : WX} {e : Expr} {m : Ex} {pos : Pos}
theorem re_fmt (he : RE X W e m) : RE X W (.FormattedValue e (-1) none pos) (eFmt m) := by
  refine ⟨fun pins s σ H Q I h => (pe_fmt he).run pins s σ H Q I ?_⟩
  obtain ⟨ads, ss, st, R, L, p⟩ := h
  refine ⟨ads, ss, st, R, L, (post.bind p).mono fun x H1 ⟨ads1, d, st1, fu, R1, r1, p1⟩ => ?_⟩
  unfold fmtM at p1
  split at p1
  · rename_i y
    cases r1
    split at p1
    · rename_i hz
      exact .inl ⟨y, rfl, hz, p1.ok R1 (.str _)⟩
    · exact (p1 : False).elim
  · rename_i i
    cases r1
    split at p1
    · rename_i hz
      exact .inr ⟨i, rfl, hz, p1.ok R1 (.str _)⟩
    · exact (p1 : False).elim
  · exact (p1 : False).elim
inductive RJ (X : Cx) (W : WX) : List Expr → List Ex → Prop where
  | nil : RJ X W [] []
  | cons {e : Expr} {m : Ex} {es : List Expr} {ms : List Ex} (h : RE X W e m) (r : RJ X W es ms) : RJ X W (e :: es) (m :: ms)
theorem RJ.pj {es : List Expr} {ms : List Ex} (h : RJ X W es ms) : PJ X es (ms.map fun m => tM X.K X.mg W (rV X.K) m) := by
  induction h with
  | nil => exact .nil
  | cons h _ ih => exact .cons h ih
theorem js_run {K : PySem.W.Frag} {mg : Str → Option Value} {σ : L2.St} {Q : VK} : ∀ (ms : List Ex) (acc : Str) (ads : List Addr) (ss : Sl) (st : Sto) (H : Hp), RSt K mg ads H st → RSl K ads H ss σ → post K mg W (rV K) σ ads H (bnd (jsG ms acc ss) (fun s => pur (.str s)) st) Q →
    tJs (ms.map fun m => tM K mg W (rV K) m) acc σ H fun out H1 => Q (.str out) H1
  | [], acc, ads, ss, st, H, R, L, p => post.ok p R (.str acc)
  | m :: ms, acc, ads, ss, st, H, R, L, p => by
    have e : bnd (jsG (m :: ms) acc ss) (fun s => pur (DV.str s)) st = bnd (m ss) (fun d => bnd (match d with
      | .str y => fun st => if (acc ++ y).length ≤ sizeLine then jsG ms (acc ++ y) ss st else .bad
      | _ => stuck) (fun s => pur (DV.str s))) st := by
      show bnd (bnd (m ss) _) _ st = _
      unfold bnd
      cases m ss st <;> rfl
    rw [e] at p
    refine ⟨ads, ss, st, R, L, (post.bind p).mono fun x H1 ⟨ads1, d, st1, fu, R1, r1, p1⟩ => ?_⟩
    cases r1 with
    | str y =>
      by_cases hz : (acc ++ y).length ≤ sizeLine
      · have e2 : bnd (fun st => if (acc ++ y).length ≤ sizeLine then jsG ms (acc ++ y) ss st else Out.bad) (fun s => pur (DV.str s)) st1 = bnd (jsG ms (acc ++ y) ss) (fun s => pur (DV.str s)) st1 := by
          unfold bnd
          simp only [if_pos hz]
        have p1 : post K mg W (rV K) σ ads1 H1 (bnd (fun st => if (acc ++ y).length ≤ sizeLine then jsG ms (acc ++ y) ss st else Out.bad) (fun s => pur (DV.str s)) st1) Q := p1
        rw [e2] at p1
        exact ⟨y, rfl, hz, js_run ms _ ads1 ss st1 H1 R1 (L.mono fu) p1⟩
      · have e2 : bnd (fun st => if (acc ++ y).length ≤ sizeLine then jsG ms (acc ++ y) ss st else Out.bad) (fun s => pur (DV.str s)) st1 = .bad := by
          unfold bnd
          simp only [if_neg hz]
        have p1 : post K mg W (rV K) σ ads1 H1 (bnd (fun st => if (acc ++ y).length ≤ sizeLine then jsG ms (acc ++ y) ss st else Out.bad) (fun s => pur (DV.str s)) st1) Q := p1
        rw [e2] at p1
        exact (p1 : False).elim
    | _ => exact (p1 : False).elim
theorem re_js {v1 v2 : Expr} {rest : List Expr} {ms : List Ex} (h : RJ X W (v1 :: v2 :: rest) ms) : RE X W (.JoinedStr (v1 :: v2 :: rest) pos) (eJs ms) := by
  refine ⟨fun pins s σ H Q I hq => (pe_joined h.pj).run pins s σ H Q I ?_⟩
  obtain ⟨ads, ss, st, R, L, p⟩ := hq
  exact js_run ms Str.empty ads ss st H R L p
theorem re_js1 (h : RE X W e m) : RE X W (.JoinedStr [e] pos) m := ⟨fun pins s σ H Q I hq => (pe_joined1 h).run pins s σ H Q I hq⟩
end
end ML

/-! ML25: lists of numbers in order; targets in targets. -/
namespace ML
open PySem PySem.Spec PyProof.Rows L2
section
open PySem.SeqAt
open PySem.AutoSeq1 (wpAny_loadPart')
open PySem.MeetsSeq PySem.MeetsSeq2 PySem.MeetsSeq3
theorem lt_loopAt (l b : Addr) (items items2 : Array Value) (n n2 : Nat) (dd dd2 : Option Addr) (sl sl2 : Array (Option Value)) (hsz : items.size = items2.size) (k : Nat) :
    ∀ (i : Nat) (ns ms : List Int), items.size - i = k → IntsAre (items.toList.drop i) ns → IntsAre (items2.toList.drop i) ms → Meets (Builtin.«list.__eq__.loop» ⟨[.ref l, .ref b, rawInt i, rawInt 0], []⟩)
      (fun A R s => s.heap.get? l = some { cls := .type "list", dict := dd, data := .seq items n, slots := sl } ∧ s.heap.get? b = some { cls := .type "list", dict := dd2, data := .seq items2 n2, slots := sl2 } ∧
        R (.ok (.ret (.bool (HT.lexLt ns ms)))) s) := by
  induction k with
  | zero =>
    intro i ns ms hk hi hj prog w A R s h
    obtain ⟨hp, g, d, tk, os⟩ := s; obtain ⟨hl, hb, h⟩ := h
    wp_walk using wpAny_loadPart' hl, wpAny_loadPart' hb
    have hi1 : items[((i : Nat) : Int).toNat]? = none := by simp; omega
    have hi2 : items2[((i : Nat) : Int).toNat]? = none := by simp; omega
    rw [List.drop_eq_nil_of_le (by simp; omega)] at hi hj
    cases hi
    cases hj
    rw [hi1, hi2]
    wp_walk using wpAny_loadPart' hl, wpAny_loadPart' hb
    show R (.ok (.ret (.bool (decide (items.size < items2.size))))) _
    rw [hsz]
    simpa [HT.lexLt] using h
  | succ k ih =>
    intro i ns ms hk hi hj prog w A R s h
    obtain ⟨hp, g, d, tk, os⟩ := s; obtain ⟨hl, hb, h⟩ := h
    wp_walk using wpAny_loadPart' hl, wpAny_loadPart' hb
    have hlt : i < items.size := by omega
    have hlt2 : i < items2.size := by omega
    have hi1 : items[((i : Nat) : Int).toNat]? = some items[i] := by simp [hlt]
    have hi2 : items2[((i : Nat) : Int).toNat]? = some items2[i] := by simp [hlt2]
    have hd : items.toList.drop i = items[i] :: items.toList.drop (i + 1) := by simp [List.drop_eq_getElem_cons, hlt]
    have hd2 : items2.toList.drop i = items2[i] :: items2.toList.drop (i + 1) := by simp [List.drop_eq_getElem_cons, hlt2]
    have hc : ((i : Int) + 1) = ((i + 1 : Nat) : Int) := by push_cast; rfl
    rw [hi1, hi2]
    rw [hd] at hi
    rw [hd2] at hj
    generalize hx : items[i] = x at hi
    generalize hy : items2[i] = y at hj
    rw [hx] at hi1
    rw [hy] at hi2
    cases hi with
    | @cons a t _ ns' hi' =>
    cases hj with
    | @cons c u _ ms' hj' =>
    obtain ⟨e, he, hiff⟩ := HT.eqAt_int A.in1 ⟨hp, g, d, tk, os⟩ a t c u
    refine wpAny_bind (he prog w _ _ ?_)
    rw [HT.lexLt_cons] at h
    cases e with
    | true =>
      rw [if_pos (hiff.mp rfl)] at h
      wp_walk
      rw [hc]
      exact ⟨plainId_quiet plain_eq_loop _, codeAny_builtin entry_eq_loop (by
        rw [Around.under_plainId plain_eq_loop _]
        exact ih (i + 1) _ _ (by omega) hi' hj' prog w A R _ ⟨hl, hb, h⟩)⟩
    | false =>
      rw [if_neg (fun q => absurd (hiff.mpr q) Bool.false_ne_true)] at h
      have hri := HT.rcLt_int A.in1 ⟨hp, g, d, tk, os⟩ a t c u prog w
      wp_walk using wpAny_loadPart' hl, wpAny_loadPart' hb
      rw [hi1, hi2]
      wp_walk using hri
      simpa using h
theorem list_ltAt (l b : Addr) (items items2 : Array Value) (n n2 : Nat) (dd dd2 : Option Addr) (sl sl2 : Array (Option Value)) (hsz : items.size = items2.size) (ns ms : List Int) (hi : IntsAre items.toList ns) (hj : IntsAre items2.toList ms) :
    Meets (Builtin.«list.__lt__» ⟨[.ref l, .ref b], []⟩)
      (fun A R s => s.heap.get? l = some { cls := .type "list", dict := dd, data := .seq items n, slots := sl } ∧ s.heap.get? b = some { cls := .type "list", dict := dd2, data := .seq items2 n2, slots := sl2 } ∧
        R (.ok (.ret (.bool (HT.lexLt ns ms)))) s) := by
  intro prog w A R s h
  obtain ⟨hp, g, d, tk, os⟩ := s; obtain ⟨hl, hb, h⟩ := h
  have f3 := AutoSeq1.sub_list_list
  wp_walk using wpAny_loadPart' hl, wpAny_loadPart' hb
  exact ⟨plainId_quiet plain_eq_loop _, codeAny_builtin entry_eq_loop (by
    rw [Around.under_plainId plain_eq_loop _]
    exact lt_loopAt l b items items2 n n2 dd dd2 sl sl2 hsz _ 0 ns ms rfl (by simpa using hi) (by simpa using hj) prog w A R _ ⟨hl, hb, h⟩)⟩
end
section
variable {prog : Program} {w : World} {A : Around} {E : Value → Shared → Prop} {s : Shared}
theorem lt_listInts {l b : Addr} {items items2 : Array Value} {ns ms : List Int} {Q : Value → Shared → Prop} (hl : s.heap.IsList l items) (hb : s.heap.IsList b items2) (hsz : items.size = items2.size) (hi : IntsAre items.toList ns) (hj : IntsAre items2.toList ms)
    (hu : A.units < cLine) (h : Q (.bool (HT.lexLt ns ms)) s) : wpAny (model prog w) A (compareOp .Lt (.ref l) (.ref b)) Q E s := by
  obtain ⟨⟨cls, dd, data, sl⟩, ho, hc, n, hd⟩ := id hl
  obtain ⟨⟨cls2, dd2, data2, sl2⟩, ho2, hc2, n2, hd2⟩ := id hb
  simp only at hc hd hc2 hd2
  subst hc hd hc2 hd2
  exact richCompare_meets_room (op := .Lt) ⟨_, ho, rfl⟩ ⟨_, ho2, rfl⟩ PySem.F.slot_list_lt PySem.F.entry_list_lt (PySem.F.args_list_lt_2 _ _) (list_ltAt l b items items2 n n2 dd dd2 sl sl2 hsz ns ms hi hj)
    ⟨ho, ho2, show Value.bool (HT.lexLt ns ms) ≠ Value.notImplemented ∧ Q (.bool (HT.lexLt ns ms)) s from ⟨(fun x => nomatch x), h⟩⟩ hu
end
/-- the numbers of a row of numbers -/
def intsOf : List DV → Option (List Int)
  | [] => some []
  | .int i :: xs => (intsOf xs).map (i :: ·)
  | _ => none
theorem intsOf_rvs {K : PySem.W.Frag} {ads : List Addr} {H : Hp} : ∀ {xs : List DV} {vs : List V} {ns : List Int}, RVs K ads H xs vs → intsOf xs = some ns → vs = ns.map V.int
  | [], _, _, .nil, h => by cases h; rfl
  | x :: xs, _, ns, .cons r rs, h => by
    cases x with
    | int i =>
      cases e : intsOf xs with
      | none => simp [intsOf, e] at h
      | some ms =>
        simp [intsOf, e] at h
        subst h
        cases r
        simp [intsOf_rvs rs e]
    | _ => simp [intsOf] at h
def ltlM : DV → DV → M DV
  | .ref k, .ref l => fun st => match st[k]?, st[l]? with
    | some (.lst xs), some (.lst ys) => match intsOf xs, intsOf ys with
      | some ns, some ms => if ns.length = ms.length then .ok (.bl (HT.lexLt ns ms)) st else .bad
      | _, _ => .bad
    | _, _ => .bad
  | _, _ => stuck
section
variable {X : Cx}
theorem opm_ltl (hu : X.A.units < cLine) : OpM X (compareOp .Lt) ltlM := by
  intro pins s σ H x y v u Q ads dx dy st W I R hx hy rx ry h
  cases hx with
  | @ref k a hk =>
    cases hy with
    | @ref l b hl =>
      cases rx
      cases ry
      simp only [ltlM] at h
      split at h
      · rename_i xs ys e1 e2
        split at h
        · rename_i ns ms e3 e4
          split at h
          · rename_i e5
            obtain ⟨vs, hv, rs⟩ := R.list hk e1
            obtain ⟨us, hu', rs'⟩ := R.list hl e2
            have z1 := intsOf_rvs rs e3
            have z2 := intsOf_rvs rs' e4
            subst z1 z2
            obtain ⟨its, r1, p1, _⟩ := I.list (.of hv)
            obtain ⟨its2, r2, p2, _⟩ := I.list (.of hu')
            have i1 : IntsAre its.toArray.toList ns := intsAre_of r1
            have i2 : IntsAre its2.toArray.toList ms := intsAre_of r2
            exact lt_listInts p1.isList p2.isList (by have := r1.length; have := r2.length; simp at *; omega) i1 i2 hu ⟨.bl (HT.lexLt ns ms), H, I, rfl, (post.ok h R (.bl _))⟩
          · exact h.elim
        · exact h.elim
      · exact h.elim
    | _ => exact (h : False).elim
  | _ => cases hy <;> exact (h : False).elim
end

/-! ### targets in targets -/
def tgsM : List Tg → List DV → Sl → M Sl
  | [], [], ss => pur ss
  | g :: gs, d :: ds, ss => fun st => match g d ss st with
    | .ok ss' st' => tgsM gs ds ss' st'
    | _ => .bad
  | _, _, _ => stuck
def gTgs (gs : List Tg) : Tg := fun d ss st => match d with
  | .tup xs => tgsM gs xs ss st
  | .ktp xs => tgsM gs xs ss st
  | .fzl xs => tgsM gs xs ss st
  | .ref k => match st[k]? with
    | some (.lst xs) => tgsM gs xs ss st
    | _ => .bad
  | _ => .bad
def tgsT (K : PySem.W.Frag) (mg : Str → Option Value) : List Tg → TGs
  | [] => gNil
  | g :: gs => gCons (tG K mg g) (tgsT K mg gs)
theorem tgsM_len : ∀ {gs : List Tg} {ds : List DV} {ss : Sl} {st : Sto} {r : Sl} {st' : Sto}, tgsM gs ds ss st = .ok r st' → ds.length = gs.length
  | [], [], _, _, _, _, _ => rfl
  | [], _ :: _, _, _, _, _, h => by cases h
  | _ :: _, [], _, _, _, _, h => by cases h
  | g :: gs, d :: ds, ss, st, r, st', h => by
    simp only [tgsM] at h
    split at h
    · simpa using tgsM_len h
    · cases h
theorem tgsT_of {K : PySem.W.Frag} {mg : Str → Option Value} : ∀ {gs : List Tg} {ds : List DV} {vs : List V} {ss : Sl} {σ : L2.St} {ads : List Addr} {H : Hp} {st : Sto} {r : Sl} {st' : Sto} {Q : L2.St → Hp → Prop},
    RSt K mg ads H st → RSl K ads H ss σ → RVs K ads H ds vs → tgsM gs ds ss st = .ok r st' → (∀ ads' H' σ', Fut ads H ads' H' → RSt K mg ads' H' st' → RSl K ads' H' r σ' → Q σ' H') → tgsT K mg gs vs σ H Q
  | [], [], _, ss, σ, ads, H, st, r, st', Q, R, L, .nil, h, q => by
    cases h
    exact ⟨rfl, q ads H σ .refl R L⟩
  | [], _ :: _, _, _, _, _, _, _, _, _, _, _, _, _, h, _ => by cases h
  | _ :: _, [], _, _, _, _, _, _, _, _, _, _, _, _, h, _ => by cases h
  | g :: gs, d :: ds, _, ss, σ, ads, H, st, r, st', Q, R, L, .cons rv rs, h, q => by
    refine ⟨_, _, rfl, ads, ss, d, st, R, L, rv, ?_⟩
    simp only [tgsM] at h
    cases e : g d ss st with
    | ok ss1 st1 =>
      rw [e] at h
      exact fun ads1 H1 σ1 f1 R1 L1 => tgsT_of R1 L1 (rs.mono f1) h fun ads2 H2 σ2 f2 R2 L2 => q ads2 H2 σ2 (f1.trans f2) R2 L2
    | exc _ _ => rw [e] at h; cases h
    | bad => rw [e] at h; cases h
/-- several targets, one after another -/
inductive RGs (X : Cx) : List Expr → List Tg → Prop
  | nil : RGs X [] []
  | cons {e : Expr} {es : List Expr} {g : Tg} {gs : List Tg} (h : RG X e g) (r : RGs X es gs) (hs : (assignEach (e :: es) X.env) = (false, assign e X.env) :: (assignEach es X.env) := by rfl) : RGs X (e :: es) (g :: gs)
theorem RGs.each {X : Cx} : ∀ {es : List Expr} {gs : List Tg}, RGs X es gs → (assignEach es X.env).length = gs.length ∧ (assignEach es X.env).findIdx? (·.1) = none ∧ PGs X es (tgsT X.K X.mg gs)
  | _, _, .nil => ⟨rfl, rfl, pgs_nil⟩
  | _, _, .cons h r hs => by
    obtain ⟨h1, h2, h3⟩ := RGs.each r
    refine ⟨?_, ?_, pgs_cons h h3 (by rw [hs]; rfl)⟩
    · rw [hs]; exact congrArg (· + 1) h1
    · rw [hs, List.findIdx?_cons, h2]
      rfl
section
variable {X : Cx} {W : WX} {pos : Pos}
theorem tgs_run {es : List Expr} {k : Nat} {gs : List Tg} (hc : X.calm = true) (h : RGs X es gs) {pins : List (Addr × Obj)} {s : Shared} {σ : L2.St} {H : Hp} {a : Addr} {vs : List V} {Q : L2.St → Hp → Prop}
    (I : Inv X pins σ H s) (hs : SqT X.K H a vs ∨ SqL X.K H a vs) (hl : vs.length = gs.length) (q : tgsT X.K X.mg gs vs σ H Q) : wpAny (model X.prog X.w) X.A (assign (.Tuple es k pos) X.env (.ref a)) (fun _ s' => ∃ σ' H', Inv X pins σ' H' s' ∧ Q σ' H') X.xe s := by
  obtain ⟨h1, h2, h3⟩ := h.each
  rcases hs with hs | hs
  · exact (pg_tup hc h3 h1 h2).run pins s σ H (.ref a) (.ref a) Q I rfl ⟨a, vs, rfl, hs, hl, q⟩
  · obtain ⟨its, rv, p, hz⟩ := I.list hs
    refine assign_Tuple_list (I.ok.hd hc) p.isList (by simp [h1, ← hl, rv.length]) h2 fun h' hx => ?_
    have I1 : Inv X pins σ H { s with heap := h' } := I.kept (t' := s.toks) fun b o e => hx b o (Nat.ne_of_lt (Heap.lt_size e)) e
    exact h3.run pins _ σ H vs _ Q I1 (by simpa using rv) q
theorem rg_tgs {es : List Expr} {k : Nat} {gs : List Tg} (hc : X.calm = true) (h : RGs X es gs) : RG X (.Tuple es k pos) (gTgs gs) := by
  refine ⟨fun pins s σ H v u Q I r hq => ?_⟩
  obtain ⟨ads, ss, d, st, R, L, rv, p⟩ := hq
  cases rv with
  | @tup a xs vs hs rs =>
    cases r
    simp only [gTgs] at p
    cases e : tgsM gs xs ss st with
    | ok ss' st' =>
      rw [e] at p
      exact tgs_run hc h I (.inl (.of hs)) (by rw [← rs.length]; exact tgsM_len e) (tgsT_of R L rs e p)
    | exc _ _ => rw [e] at p; exact p.elim
    | bad => rw [e] at p; exact p.elim
  | @ktp a xs vs hs rs =>
    cases r
    simp only [gTgs] at p
    cases e : tgsM gs xs ss st with
    | ok ss' st' =>
      rw [e] at p
      exact tgs_run hc h I (.inl hs) (by rw [← rs.length]; exact tgsM_len e) (tgsT_of R L rs e p)
    | exc _ _ => rw [e] at p; exact p.elim
    | bad => rw [e] at p; exact p.elim
  | @fzl a xs vs hs rs =>
    cases r
    simp only [gTgs] at p
    cases e : tgsM gs xs ss st with
    | ok ss' st' =>
      rw [e] at p
      exact tgs_run hc h I (.inr hs.sq) (by rw [← rs.length]; exact tgsM_len e) (tgsT_of R L rs e p)
    | exc _ _ => rw [e] at p; exact p.elim
    | bad => rw [e] at p; exact p.elim
  | @ref k a hk =>
    cases r
    simp only [gTgs] at p
    cases e : st[k]? with
    | none => rw [e] at p; exact p.elim
    | some o =>
      rw [e] at p
      cases o with
      | lst xs =>
        obtain ⟨vs, hv, rs⟩ := R.list hk e
        simp only at p
        cases e : tgsM gs xs ss st with
        | ok ss' st' =>
          rw [e] at p
          exact tgs_run hc h I (.inr (.of hv)) (by rw [← rs.length]; exact tgsM_len e) (tgsT_of R L rs e p)
        | exc _ _ => rw [e] at p; exact p.elim
        | bad => rw [e] at p; exact p.elim
      | _ => exact (p : False).elim
  | _ => exact (p : False).elim
/-- an attribute as a target -/
def gFld (c : Str) (lay : List Str) (i : Nat) (mo : Ex) : Tg := fun v ss st => match mo ss st with
  | .ok (.ref k) st1 => match st1[k]? with
    | some (.ins c' lay' xs) => if c' = c ∧ lay' = lay then match putI i v xs with
        | some ws => .ok ss (st1.set k (.ins c lay ws))
        | none => .bad
      else .bad
    | _ => .bad
  | _ => .bad
theorem rg_fld {o : Expr} {mo : Ex} {c f : Str} {lay : List Str} {i : Nat} (ho : RE X W o mo) (kf : KF X.K X.mg c f) (hnd : lay.Nodup) (hi : lay[i]? = some f) (hll : lay.length < 1000) : RG X (.Attribute o f pos) (gFld c lay i mo) := by
  refine ⟨fun pins s σ H v u Q I r h => ?_⟩
  obtain ⟨ads, ss, dv, st, R, L, rv, p⟩ := h
  simp only [gFld] at p
  cases e : mo ss st with
  | exc _ _ => rw [e] at p; exact p.elim
  | bad => rw [e] at p; exact p.elim
  | ok d st1 =>
  rw [e] at p
  have hv : ∀ ads' H' x, Fut ads H ads' H' → RSt X.K X.mg ads' H' st1 → RV X.K ads' H' d x → ∃ a C dx vs, x = V.ref a ∧ H' a = some (.ins C dx vs) ∧ Cls X.K C ∧ NoAttr X.K C f ∧ vs.length < 1000 ∧ Q σ (upd H' a (.ins C dx (putF f v vs))) := by
    intro ads2 H2 x f2 R2 rd
    cases rd with
    | @ref k a hk =>
      simp only at p
      split at p
      · rename_i ss1 st2 e0
        split at e0
        · rename_i c' lay' xs e1
          by_cases hcc : c' = c ∧ lay' = lay
          case neg => rw [if_neg hcc] at e0; cases e0
          rw [if_pos hcc] at e0
          obtain ⟨rfl, rfl⟩ := hcc
          obtain ⟨C, dx, vs, h0, h1, hl, h2⟩ := R2.ob k a _ hk e1
          obtain ⟨k1, k2⟩ := kf C h0
          have lvs : vs.length ≤ lay'.length := by rw [← RFs.length h2, List.length_zip]; omega
          refine ⟨a, C, dx, vs, rfl, h1, k1, k2, by omega, ?_⟩
          split at e0
          · rename_i ws e2
            cases e0
            have fw := R2.write (o := .ins C dx (putF f v vs)) hk
            refine p ads2 _ σ (f2.trans fw) (R2.set hk ⟨C, dx, _, h0, upd_same, ?_⟩) ((L.mono f2).mono fw)
            have h2' := h2.mono fw
            have rv' := (rv.mono f2).mono fw
            unfold putI at e2
            split at e2
            · cases e2
              exact ⟨by rw [List.length_set]; exact hl, zip_put rv' hnd hi (by assumption) h2'⟩
            · split at e2
              · rename_i hn
                cases e2
                have hi' : lay'[xs.length]? = some f := by rw [← hn]; exact hi
                exact ⟨by have := (List.getElem?_eq_some_iff.mp hi').1; rw [List.length_append, List.length_singleton]; omega, zip_app rv' hnd hi' h2'⟩
              · cases e2
          · cases e0
        · cases e0
      · exact p.elim
    | _ => exact (p : False).elim
  rw [assign_Attribute]
  refine wpAny_bind (wpAny_holding (thn (ho.run pins s σ H _ I (okP R L e fun ads' H' b f2 R2 rd => hv ads' H' b f2 R2 rd)) fun ov s1 ⟨x, H1, I1, rx, a, C, dx, vs, ex, h1, k1, k2, hl, q⟩ => ?_))
  subst ex
  obtain rfl : ov = Value.ref a := rx
  refine wpAny_bind (wpAny_standAt (wpAny_bind (wpAny_holding ?_)))
  exact setattr_ok I1 h1 k1 k2 hl r fun s3 I3 => wpAny_release ⟨σ, _, I3, q⟩
end

/-! ### lists of dicts that are the same -/
def sameDV (st : Sto) : DV → DV → Bool
  | .ref k, .ref l => match st[k]?, st[l]? with
    | some (.dic a), some (.dic b) => sameD a b
    | _, _ => false
  | _, _ => false
def neLDM : DV → DV → M DV
  | .ref k, .ref l => fun st => match st[k]?, st[l]? with
    | some (.lst xs), some (.lst ys) => if xs.length = ys.length ∧ (xs.zip ys).all (fun p => sameDV st p.1 p.2) = true then .ok (.bl false) st else .bad
    | _, _ => .bad
  | _, _ => stuck
/-- the same by ==, in one world -/
def EqW (prog : Program) (w : World) (A : Around) (s : Shared) (y x : Value) : Prop :=
  ∀ (E : Value → Shared → Prop) (Q : Bool → Shared → Prop), Q true s → wpAny (model prog w) A (eqBool y x) Q E s
section
open PySem.SeqAt
open PySem.AutoSeq1 (wpAny_loadPart')
open PySem.MeetsSeq PySem.MeetsSeq2 PySem.MeetsSeq3
theorem ne_loopW (prog : Program) (w : World) (l b : Addr) (items items2 : Array Value) (n n2 : Nat) (dd dd2 : Option Addr) (sl sl2 : Array (Option Value)) (hsz : items.size = items2.size) (k : Nat) :
    ∀ i : Nat, items.size - i = k → ∀ (A : Around) (R : Result → Shared → Prop) (s : Shared), s.heap.get? l = some { cls := .type "list", dict := dd, data := .seq items n, slots := sl } ∧ s.heap.get? b = some { cls := .type "list", dict := dd2, data := .seq items2 n2, slots := sl2 } ∧
        (∀ j (h1 : j < items.size) (h2 : j < items2.size), EqW prog w A.in1 s items[j] items2[j]) ∧ R (.ok (.ret (.bool false))) s →
      wpAny (model prog w) A.in1 (Builtin.«list.__eq__.loop» ⟨[.ref l, .ref b, rawInt i, rawInt 3], []⟩) (fun fin s' => match fin with | .done f => R (.ok f) s' | .again c' => c'.quiet = true ∧ codeAny (model prog w) A c' R s') (fun e s' => R (.error e) s') s := by
  induction k with
  | zero =>
    intro i hk A R s h
    obtain ⟨hp, g, d, tk, os⟩ := s; obtain ⟨hl, hb, he, h⟩ := h
    wp_walk using wpAny_loadPart' hl, wpAny_loadPart' hb
    have hi1 : items[((i : Nat) : Int).toNat]? = none := by simp; omega
    have hi2 : items2[((i : Nat) : Int).toNat]? = none := by simp; omega
    rw [hi1, hi2]
    wp_walk using wpAny_loadPart' hl, wpAny_loadPart' hb
    show R (.ok (.ret (.bool (items.size != items2.size)))) _
    rw [hsz]
    simpa using h
  | succ k ih =>
    intro i hk A R s h
    obtain ⟨hp, g, d, tk, os⟩ := s; obtain ⟨hl, hb, he, h⟩ := h
    wp_walk using wpAny_loadPart' hl, wpAny_loadPart' hb
    have hlt : i < items.size := by omega
    have hlt2 : i < items2.size := by omega
    have hi1 : items[((i : Nat) : Int).toNat]? = some items[i] := by simp [hlt]
    have hi2 : items2[((i : Nat) : Int).toNat]? = some items2[i] := by simp [hlt2]
    have hc : ((i : Int) + 1) = ((i + 1 : Nat) : Int) := by push_cast; rfl
    rw [hi1, hi2]
    refine wpAny_bind (he i hlt hlt2 _ _ ?_)
    wp_walk
    rw [hc]
    exact ⟨plainId_quiet plain_eq_loop _, codeAny_builtin entry_eq_loop (by
      rw [Around.under_plainId plain_eq_loop _]
      exact ih (i + 1) (by omega) A R _ ⟨hl, hb, he, h⟩)⟩
theorem list_neW (prog : Program) (w : World) (l b : Addr) (items items2 : Array Value) (n n2 : Nat) (dd dd2 : Option Addr) (sl sl2 : Array (Option Value)) (hsz : items.size = items2.size) (A : Around) (R : Result → Shared → Prop) (s : Shared)
    (h : s.heap.get? l = some { cls := .type "list", dict := dd, data := .seq items n, slots := sl } ∧ s.heap.get? b = some { cls := .type "list", dict := dd2, data := .seq items2 n2, slots := sl2 } ∧
        (∀ j (h1 : j < items.size) (h2 : j < items2.size), EqW prog w A.in1 s items[j] items2[j]) ∧ R (.ok (.ret (.bool false))) s) :
      wpAny (model prog w) A.in1 (Builtin.«list.__ne__» ⟨[.ref l, .ref b], []⟩) (fun fin s' => match fin with | .done f => R (.ok f) s' | .again c' => c'.quiet = true ∧ codeAny (model prog w) A c' R s') (fun e s' => R (.error e) s') s := by
  obtain ⟨hp, g, d, tk, os⟩ := s; obtain ⟨hl, hb, he, h⟩ := h
  have f3 := AutoSeq1.sub_list_list
  have hne : ¬ (items.size != items2.size) = true := by simp [hsz]
  wp_walk using wpAny_loadPart' hl, wpAny_loadPart' hb
  exact ⟨plainId_quiet plain_eq_loop _, codeAny_builtin entry_eq_loop (by
    rw [Around.under_plainId plain_eq_loop _]
    exact ne_loopW prog w l b items items2 n n2 dd dd2 sl sl2 hsz _ 0 rfl A R _ ⟨hl, hb, he, h⟩)⟩
theorem ne_listW {prog : Program} {w : World} {A : Around} {E : Value → Shared → Prop} {s : Shared} {l b : Addr} {items items2 : Array Value} {Q : Value → Shared → Prop} (hl : s.heap.IsList l items) (hb : s.heap.IsList b items2) (hsz : items.size = items2.size)
    (hu : A.units < cLine) (he : ∀ j (h1 : j < items.size) (h2 : j < items2.size), EqW prog w A.in1 s items[j] items2[j]) (h : Q (.bool false) s) : wpAny (model prog w) A (compareOp .NotEq (.ref l) (.ref b)) Q E s := by
  obtain ⟨⟨cls, dd, data, sl⟩, ho, hc, n, hd⟩ := id hl
  obtain ⟨⟨cls2, dd2, data2, sl2⟩, ho2, hc2, n2, hd2⟩ := id hb
  simp only at hc hd hc2 hd2
  subst hc hd hc2 hd2
  refine wpAny_richCompare_same_room (op := .NotEq) (T := "list") ⟨_, ho, rfl⟩ ⟨_, ho2, rfl⟩ PySem.F.slot_list_ne (wpAny_call (codeAny_call_builtin PySem.F.slot_list_ne.plain PySem.F.entry_list_ne (PySem.F.slot_list_ne.check _ _ _ _ _ _ _ _ ⟨_, ho, rfl⟩ (PySem.F.args_list_ne_2 _ _)
    (list_neW prog w l b items items2 n n2 dd dd2 sl sl2 hsz A (wants (fun v s' => v ≠ Value.notImplemented ∧ Q v s') E) s ⟨ho, ho2, he, ⟨(fun x => nomatch x), h⟩⟩)))) hu
end
section
variable {X : Cx}
theorem sameDV_eqAt {pins : List (Addr × Obj)} {s : Shared} {σ : L2.St} {H : Hp} {ads : List Addr} {st : Sto} {x y : DV} {v u : V} {v' u' : Value} (hu : X.A.units + 64 < cLine) (I : Inv X pins σ H s) (R : RSt X.K X.mg ads H st) (hx : RV X.K ads H x v) (hy : RV X.K ads H y u) (rx : RelV v v') (ry : RelV u u') (h : sameDV st x y = true) :
    EqW X.prog X.w X.A.in1 s v' u' := by
  cases hx with
  | @ref k a hk =>
    cases hy with
    | @ref l b hl =>
      have h : (match st[k]?, st[l]? with
        | some (.dic a), some (.dic b) => sameD a b
        | _, _ => false) = true := h
      cases e1 : st[k]? with
      | none => rw [e1] at h; cases h
      | some o1 =>
        cases o1 with
        | dic ka =>
          cases e2 : st[l]? with
          | none => rw [e1, e2] at h; cases h
          | some o2 =>
            cases o2 with
            | dic kb =>
              rw [e1, e2] at h
              have hd : sameD ka kb = true := h
              unfold sameD at hd
              simp only [Bool.and_eq_true] at hd
              obtain ⟨⟨⟨d1, d2⟩, d3⟩, d4⟩ := hd
              rcases R.ob k a _ hk e1 with ⟨ks, ha, ra⟩ | ⟨ks, ha, ra⟩
              · rcases R.ob l b _ hl e2 with ⟨ls, hb, rb⟩ | ⟨ls, hb, rb⟩
                · cases (show v' = Value.ref a from rx)
                  cases (show u' = Value.ref b from ry)
                  by_cases hab : a = b
                  · subst hab
                    exact fun E Q hq => SeqAt.EqAt.same _ X.prog X.w E Q hq
                  obtain ⟨_, ya, va, qa, da⟩ := dk_of I.hok ha
                  obtain ⟨_, yb, vb, qb, db⟩ := dk_of I.hok hb
                  have ll : va.length = vb.length := by
                    rw [← Paired.length qa, ← Paired.length qb, ← Paired.length ra, ← Paired.length rb]
                    simpa using d1
                  have hu1 : X.A.in1.units < cLine := by show X.A.units + 1 < cLine; omega
                  intro E Q hq
                  unfold eqBool
                  refine wpAny_holding ?_
                  refine wpAny_ite_split (fun hab' => absurd (by have := eq_of_beq hab'; injection this) hab) (fun _ => ?_)
                  refine wpAny_bind (PySem.W.keq_eq (A := X.A.in1) (knd := mixKind X.prog X.w) (r := true) ya yb da db hu1 (fun _ => hits_D rb qb ra qa d4) (wpAny_truthy_bool ?_) : wpAny (model X.prog X.w) X.A.in1 (richCompare .Eq (.ref a) (.ref b)) _ E s)
                  rw [show (va.length == vb.length && true) = true from by rw [ll]; simp]
                  exact hq
                · rw [RTs.noflat rb] at d3
                  cases d3
              · rw [RTs.noflat ra] at d2
                cases d2
            | _ => rw [e1, e2] at h; cases h
        | _ => rw [e1] at h; cases h
    | _ => exact absurd h (by unfold sameDV; simp)
  | _ => cases hy <;> exact absurd h (by unfold sameDV; simp)
theorem opm_neLD (hu : X.A.units + 64 < cLine) : OpM X (compareOp .NotEq) neLDM := by
  intro pins s σ H x y v u Q ads dx dy st W I R hx hy rx ry h
  cases hx with
  | @ref k a hk =>
    cases hy with
    | @ref l b hl =>
      cases rx
      cases ry
      simp only [neLDM] at h
      split at h
      · rename_i xs ys e1 e2
        split at h
        · rename_i hc
          obtain ⟨hlen, hall⟩ := hc
          obtain ⟨vs, hv, rs⟩ := R.list hk e1
          obtain ⟨us, hu', rs'⟩ := R.list hl e2
          obtain ⟨its, r1, p1, _⟩ := I.list (.of hv)
          obtain ⟨its2, r2, p2, _⟩ := I.list (.of hu')
          have z1 := r1.length
          have z2 := r2.length
          have z3 := rs.length
          have z4 := rs'.length
          refine ne_listW p1.isList p2.isList (by simp; omega) (by omega) (fun j h1 h2 => ?_) ?_
          · have j1 : j < its.length := by simpa using h1
            have j2 : j < its2.length := by simpa using h2
            have q1 := List.getElem?_eq_getElem (show j < xs.length by omega)
            have q2 := List.getElem?_eq_getElem (show j < ys.length by omega)
            obtain ⟨w1, a1, b1⟩ := rs.get q1
            obtain ⟨w2, a2, b2⟩ := rs'.get q2
            obtain ⟨w1', a1', b1'⟩ := r1.get a1
            obtain ⟨w2', a2', b2'⟩ := r2.get a2
            have hs : sameDV st xs[j] ys[j] = true := by
              refine List.all_eq_true.mp hall (xs[j], ys[j]) (List.mem_of_getElem? (i := j) ?_)
              rw [List.getElem?_zip_eq_some]
              exact ⟨q1, q2⟩
            rw [List.getElem?_eq_getElem j1] at a1'
            rw [List.getElem?_eq_getElem j2] at a2'
            cases a1'
            cases a2'
            simpa using sameDV_eqAt hu I R b1 b2 b1' b2' hs
          · exact ⟨.bl false, H, I, rfl, post.ok h R (.bl false)⟩
        · exact h.elim
      · exact h.elim
    | _ => exact (h : False).elim
  | _ => cases hy <;> exact (h : False).elim
end

/-- a text taken once or not at all -/
def mulSM : DV → DV → M DV
  | .str x, .int n => if n = 0 then pur (.str ⟨#[]⟩) else if n = 1 then pur (.str x) else stuck
  | _, _ => stuck
section
variable {X : Cx}
theorem opm_mulS : OpM X (binaryOp .Mult) mulSM := by
  intro pins s σ H x y v u Q ads dx dy st W I R hx hy rx ry h
  cases hx with
  | str x =>
    cases hy with
    | int n =>
      obtain ⟨t, rfl⟩ := rx
      obtain ⟨t', rfl⟩ := ry
      simp only [mulSM] at h
      split at h
      · rename_i e
        subst e
        exact P.mul_str_none (by decide) (by decide) ⟨.str ⟨#[]⟩, H, I.tok _, ⟨_, rfl⟩, post.ok h R (.str _)⟩
      · split at h
        · rename_i e
          subst e
          refine P.mul_str (by decide) (fun _ h => by simp at h) (fun _ h => by simp at h) ?_
          rw [if_neg (by decide), if_pos (by simp)]
          exact ⟨.str x, H, I, ⟨_, rfl⟩, post.ok h R (.str _)⟩
        · exact (h : False).elim
    | _ => exact (h : False).elim
  | _ => cases hy <;> exact (h : False).elim
end

/-! ### isinstance by several types -/
def tysOf : List DV → Option (List String)
  | [] => some []
  | .ty n :: r => if knownTy n = true then (tysOf r).map (n :: ·) else none
  | _ => none
def isiTM : List DV → M DV
  | [d, .tup cs] => fun st => match tyD d st, tysOf cs with
    | some t, some ns => .ok (.bl (ns.any (isTy t))) st
    | _, _ => .bad
  | _ => stuck
theorem tysOf_rvs {K : PySem.W.Frag} {ads : List Addr} {H : Hp} {d : DV} {st : Sto} {t : String} (ht : tyD d st = some t) : ∀ {cs : List DV} {vs : List V} {ns : List String}, RVs K ads H cs vs → tysOf cs = some ns →
    ∃ us, Paired ClsV vs us ∧ PySem.W.kitAny K (.type t) us = some (ns.any (isTy t))
  | [], _, _, .nil, h => by cases h; exact ⟨[], .nil, rfl⟩
  | c :: cs, _, ns, .cons r rs, h => by
    cases c with
    | ty n =>
      cases r
      unfold tysOf at h
      split at h
      · rename_i kn
        cases e : tysOf cs with
        | none => rw [e] at h; cases h
        | some ms =>
          rw [e] at h
          cases h
          obtain ⟨us, p, q⟩ := tysOf_rvs ht rs e
          have e2 : kitB t n = some (isTy t n) := by
            have z := List.all_eq_true.mp (List.all_eq_true.mp kit_all t (tyD_mem ht)) n (by simpa [knownTy] using kn)
            exact eq_of_beq z
          refine ⟨.type n :: us, .cons (.ty n) p, ?_⟩
          have e3 := kit_ty (K := K) e2
          unfold PySem.W.kitAny
          rw [e3, List.any_cons]
          cases isTy t n with
          | true => rfl
          | false => exact q
      · cases h
    | _ => cases h
section
variable {X : Cx}
theorem cm_isiT : CallM X (.builtin "isinstance") isiTM := by
  intro pins s σ H vs us Q ads as st W I R rv r h
  unfold isiTM at h
  split at h
  · rename_i d cs
    obtain ⟨v, v', rfl, hv, hv'⟩ := rv.two
    split at h
    · rename_i t ns e1 e2
      cases hv' with
      | @tup a xs ws hs rs =>
        obtain ⟨us', p, q⟩ := tysOf_rvs e1 rs e2
        exact call_isiT pins s σ H _ us Q I r ⟨v, a, ws, _, us', _, rfl, hs, p, tyD_tyX R hv e1, q, h.ok R (.bl _)⟩
    · exact h.elim
  · exact (h : False).elim
end
end ML

/-! ML26: a dict walked by its keys while it is locked. -/
namespace ML
open PySem PySem.Spec PyProof.Rows L2
theorem RSl.mono2 {K : PySem.W.Frag} {ads ads' : List Addr} {H H' : Hp} {ss : Sl} {σ : L2.St} (h : RSl K ads H ss σ) (f : Ext ads ads') (k : Kp H H') : RSl K ads' H' ss σ :=
  ⟨h.1, fun i d e => let ⟨v, h1, h2⟩ := h.2 i d e; ⟨v, h1, h2.mono2 f k⟩⟩
/-- the lock is taken off -/
def unlk (k : Nat) : Out Fl → Out Fl
  | .ok (.rs _ _) _ => .bad
  | .ok fl st => match st[k]? with
    | some (.fdc kvs) => .ok fl (st.set k (.dic kvs))
    | _ => .bad
  | .exc _ _ => .bad
  | .bad => .bad
/-- a statement while the dict that a name holds is locked -/
def sLock (i : Nat) (m : Stt) : Stt := fun ss st => match ss[i]? with
  | some (some (.ref k)) => match st[k]? with
    | some (.dic kvs) => unlk k (m ss (st.set k (.fdc kvs)))
    | _ => .bad
  | _ => .bad
theorem RO.dic_u {K : PySem.W.Frag} {mg : Str → Option Value} {ads : List Addr} {H : Hp} {a : Addr} {kvs : List (HK × DV)} (h : RO K mg ads H a (.dic kvs)) :
    ∃ u, H a = some u ∧ kU u = false ∧ Mut (some u) ∧ (∀ xs, u ≠ .tup xs) ∧ (∀ o z, u ≠ .frz o z) ∧ ∀ {ads' : List Addr} {H' : Hp} {o : Obj}, Ext ads ads' → Kp H H' → H' a = some (.frz o u) → RO K mg ads' H' a (.fdc kvs) := by
  rcases h with ⟨vs, e, r⟩ | ⟨vs, e, r⟩
  · exact ⟨_, e, rfl, True.intro, (fun _ z => by cases z), (fun _ _ z => by cases z), fun f k e' => ⟨_, .inl ⟨vs, e', r.mono2 f k⟩⟩⟩
  · exact ⟨_, e, rfl, True.intro, (fun _ z => by cases z), (fun _ _ z => by cases z), fun f k e' => ⟨_, .inr ⟨vs, e', r.mono2 f k⟩⟩⟩
theorem RO.fdc_u {K : PySem.W.Frag} {mg : Str → Option Value} {ads : List Addr} {H : Hp} {a : Addr} {kvs : List (HK × DV)} {o : Obj} {u : HO} (h : RO K mg ads H a (.fdc kvs)) (e : H a = some (.frz o u)) {H' : Hp} (k : Kp H H') (e' : H' a = some u) : RO K mg ads H' a (.dic kvs) := by
  obtain ⟨o', ⟨vs, q, r⟩ | ⟨vs, q, r⟩⟩ := h
  · rw [e] at q
    cases q
    exact .inl ⟨vs, e', r.mono2 (.refl _) k⟩
  · rw [e] at q
    cases q
    exact .inr ⟨vs, e', r.mono2 (.refl _) k⟩
section
variable {K : PySem.W.Frag} {mg : Str → Option Value} {W : WX}
theorem lock_read {i : Nat} {m : Stt} {D : Ends} {σ : L2.St} {H : Hp} (h : tS K mg W (sLock i m) D σ H) : tLock (tS K mg W m) D σ H := by
  obtain ⟨ads, ss, st, R, L, p⟩ := h
  unfold sLock at p
  split at p
  case h_2 => exact p.elim
  rename_i k es
  split at p
  case h_2 => exact p.elim
  rename_i kvs e1
  obtain ⟨v, ev, rv⟩ := L.2 i _ es
  cases rv with
  | @ref _ a hk =>
  have ro := R.ob k a _ hk e1
  obtain ⟨u, hu, ku, mu, nt, nf, mk⟩ := ro.dic_u
  refine ⟨a, u, hu, mu, fun od => ?_⟩
  have fw : Fut ads H ads (upd H a (.frz od u)) := R.write hk
  refine ⟨ads, ss, st.set k (.fdc kvs), R.set hk (mk (.refl _) fw.kp upd_same), L.mono fw, ?_⟩
  have ma : a ∈ ads := List.mem_of_getElem? hk
  -- what the end of the lock keeps
  have back : ∀ {ads' : List Addr} {H' : Hp} {st' : Sto} {kvs' : List (HK × DV)}, Fut ads (upd H a (.frz od u)) ads' H' → RSt K mg ads' H' st' → st'[k]? = some (.fdc kvs') →
      H' a = some (.frz od u) ∧ Kp H' (upd H' a u) ∧ Fut ads H ads' (upd H' a u) ∧ RSt K mg ads' (upd H' a u) (st'.set k (.dic kvs')) := by
    intro ads' H' st' kvs' f R' e'
    have ha : H' a = some (.frz od u) := f.fz a od u upd_same
    have kw : Kp H' (upd H' a u) := .writeU ha (fun _ z => by cases z) (fun o' z kz q => by
      have q := HO.frz.inj q
      rw [← q.2, ku] at kz
      cases kz)
    have ne : ∀ {b : Addr} {w : HO}, H b = some w → w ≠ u → b ≠ a := fun hb hw q => by
      subst q
      rw [hu] at hb
      exact hw (Option.some.inj hb).symm
    refine ⟨ha, kw, ⟨f.pre, ⟨fun b xs hb => ?_, fun b o' z kz hb => ?_, fun b fs hb => ?_⟩, fun b o' nb hb => ?_, fun b o' z hb => ?_⟩, R'.set (Ext.get f.pre hk) ((R'.ob k a _ (Ext.get f.pre hk) e').fdc_u ha kw upd_same)⟩
    · have n := ne hb fun q => nt xs q.symm
      rw [upd_ne n]
      exact f.kp.tup b xs (by rw [upd_ne n]; exact hb)
    · have n := ne hb fun q => nf o' z q.symm
      rw [upd_ne n]
      exact f.fz b o' z (by rw [upd_ne n]; exact hb)
    · have n := ne hb fun q => ro.noxd fs (hu.trans (congrArg some q.symm))
      rw [upd_ne n]
      exact f.kp.xd b fs (by rw [upd_ne n]; exact hb)
    · have n : b ≠ a := fun q => nb (q ▸ ma)
      obtain ⟨h1, h2⟩ := f.oth b o' nb (by rw [upd_ne n]; exact hb)
      exact ⟨h1, by rw [upd_ne n]; exact h2⟩
    · have n := ne hb fun q => nf o' z q.symm
      rw [upd_ne n]
      exact f.fz b o' z (by rw [upd_ne n]; exact hb)
  cases e : m ss (st.set k (.fdc kvs)) with
  | exc x st' => rw [e] at p; exact p.elim
  | bad => rw [e] at p; exact p.elim
  | ok fl st' =>
    rw [e] at p
    cases e2 : st'[k]? with
    | none => cases fl <;> (simp only [unlk, e2] at p; exact p.elim)
    | some o =>
      cases o with
      | fdc kvs' =>
        cases fl with
        | nx ss' =>
          simp only [unlk, e2] at p
          intro ads' H' σ' f R' L'
          obtain ⟨a1, a2, a3, a4⟩ := back f R' e2
          exact ⟨a1, p ads' _ σ' a3 a4 (L'.mono2 (.refl _) a2)⟩
        | bk ss' =>
          simp only [unlk, e2] at p
          intro ads' H' σ' f R' L'
          obtain ⟨a1, a2, a3, a4⟩ := back f R' e2
          exact ⟨a1, p ads' _ σ' a3 a4 (L'.mono2 (.refl _) a2)⟩
        | ct ss' =>
          simp only [unlk, e2] at p
          intro ads' H' σ' f R' L'
          obtain ⟨a1, a2, a3, a4⟩ := back f R' e2
          exact ⟨a1, p ads' _ σ' a3 a4 (L'.mono2 (.refl _) a2)⟩
        | rt d =>
          simp only [unlk, e2] at p
          intro ads' H' v' f R' r'
          obtain ⟨a1, a2, a3, a4⟩ := back f R' e2
          exact ⟨a1, p ads' _ v' a3 a4 (r'.mono2 (.refl _) a2)⟩
        | rs x ss' => simp only [unlk] at p; exact p.elim
      | _ => cases fl <;> (simp only [unlk, e2] at p; exact p.elim)
end
section
variable {X : Cx} {W : WX}
theorem rs_lock {s : Stmt} {m : Stt} {i : Nat} (h : RS X W s m) : RS X W s (sLock i m) := ⟨fun pins s σ H D I hw => (ps_lock h).run pins s σ H D I (lock_read hw)⟩
end

/-! ### the keys of a locked dict -/
def iKy (m : Ex) : Sl → M Wk := fun ss => bnd (m ss) fun d st => match d with
  | .ref k => match st[k]? with
    | some (.fdc kvs) => if kvs.all (fun p => flatH p.1) = true then .ok ⟨kvs.map fun p => dOf p.1, [(k, .fdc kvs)]⟩ st else .bad
    | _ => .bad
  | _ => .bad
section
variable {X : Cx} {W : WX} {tg : Expr}
theorem ri_keys {l : Expr} {m : Ex} (hl : RE X W l m) : RI X W tg l (iKy m) := ⟨fun pins s σ H R I h => (pi_keys hl).run pins s σ H R I (by
  refine (tM.bind (R := rV X.K) h).imp fun x H1 ⟨ads, ss, d, st, Rs, L, rv, p⟩ => ?_
  cases rv with
  | @ref k a hk =>
    simp only at p
    split at p
    · rename_i kvs e
      split at p
      · rename_i hf
        obtain ⟨o, ⟨vs, e1, r⟩ | ⟨vs, e1, r⟩⟩ := Rs.ob k a _ hk e
        · refine ⟨a, o, rfl, .inl ⟨vs, e1, p ads H1 _ .refl Rs ⟨fun i d ads' H' st' hi f R' ok => ?_, fun i ads' H' st' hi f R' ok => ?_⟩⟩⟩
          · have h1 := f.fz a o _ e1
            have kv := keysV (r.mono2 f.pre f.kp)
            obtain ⟨w, q1, q2⟩ := kv.get hi
            rw [List.getElem?_map] at q1
            cases q3 : vs[i]? with
            | none => rw [q3] at q1; cases q1
            | some p =>
              rw [q3] at q1
              cases q1
              refine ⟨⟨h1, (List.getElem?_eq_some_iff.mp q3).1⟩, fun x H2 ⟨e2, k', v', e3, e4⟩ => ?_⟩
              subst e2
              rw [q3] at e3
              cases e3
              subst e4
              exact ⟨.refl, R', q2⟩
          · refine ⟨f.fz a o _ e1, ?_⟩
            have := Paired.length r
            have hi : (kvs.map fun p => dOf p.1).length ≤ i := hi
            rw [List.length_map] at hi
            omega
        · have e0 : kvs = [] := by
            have nf := RTs.noflat r
            cases kvs with
            | nil => rfl
            | cons q t =>
              rw [List.all_cons, Bool.and_eq_true] at hf
              rw [List.any_cons, hf.1] at nf
              cases nf
          subst e0
          cases r
          refine ⟨a, o, rfl, .inr ⟨[], e1, p ads H1 _ .refl Rs ⟨fun i d ads' H' st' hi f R' ok => ?_, fun i ads' H' st' hi f R' ok => ?_⟩⟩⟩
          · simp at hi
          · exact ⟨f.fz a o _ e1, Nat.zero_le _⟩
      · exact p.elim
    · exact p.elim
  | _ => exact (p : False).elim)⟩
end
/-- at a key, of a locked dict too -/
def ixF : DV → DV → M DV := fun x y st => match x with
  | .ref k => match st[k]? with
    | some (.fdc kvs) => match kOf y with
      | some h => if flatH h = true then optD (hGet kvs h) st else .bad
      | none => .bad
    | _ => ixM (.ref k) y st
  | _ => ixM x y st
theorem RTs.getN {K : PySem.W.Frag} {ads : List Addr} {H : Hp} {k : HK} (hf : flatH k = true) : ∀ {vs : List (List Key × V)} {kvs : List (HK × DV)}, RTs K ads H kvs vs → hGet kvs k = none
  | _, _, .nil => rfl
  | (j, v) :: vs, (h, d) :: kvs, .cons q r => by
    have h1 : h = _ := q.1
    subst h1
    unfold hGet
    rw [if_neg fun e => by rw [← e] at hf; cases hf]
    exact RTs.getN hf r
theorem ixmF {X : Cx} (hu : X.A.units + 1 < cLine) : IxM X ixF := by
  intro value slice pins s σ H x y v u Q ads dx dy st W I R hx hy rx ry h hs
  unfold ixF at h
  cases hx with
  | @ref k a hk =>
    simp only at h
    split at h
    · rename_i kvs e1
      split at h
      · rename_i hh e2
        split at h
        · rename_i ff
          obtain ⟨d, e3, h2⟩ := optD_ok h
          obtain ⟨kk, rfl, rfl⟩ := kOf_flat e2 hy ff
          obtain ⟨o, ⟨vs, q1, r⟩ | ⟨vs, q1, r⟩⟩ := R.ob k a _ hk e1
          · have g := r.get (k := kk)
            rw [e3] at g
            cases e4 : valV vs kk with
            | none => rw [e4] at g; exact g.elim
            | some w =>
              rw [e4] at g
              have dg : DGet H a (kV kk) (some w) := .inl ⟨vs, kk, .inr ⟨o, q1⟩, rfl, e4.symm⟩
              cases (show v = Value.ref a from rx)
              exact tail_any (dict_typeIs I dg) PySem.F.slot_dict_getitem.lookup (d_getItem hu I dg ry fun w' s' I' r' => ⟨w, H, I', r', h2 ads H w .refl R g⟩) hs
          · rw [RTs.getN ff r] at e3
            cases e3
        · exact h.elim
      · exact h.elim
    · exact ixm hu value slice pins s σ H _ _ v u Q ads _ dy st W I R (.ref hk) hy rx ry h hs
  | non => exact ixm hu value slice pins s σ H _ _ v u Q ads _ dy st W I R .non hy rx ry h hs
  | bl b => exact ixm hu value slice pins s σ H _ _ v u Q ads _ dy st W I R (.bl b) hy rx ry h hs
  | int b => exact ixm hu value slice pins s σ H _ _ v u Q ads _ dy st W I R (.int b) hy rx ry h hs
  | str b => exact ixm hu value slice pins s σ H _ _ v u Q ads _ dy st W I R (.str b) hy rx ry h hs
  | tup a b => exact ixm hu value slice pins s σ H _ _ v u Q ads _ dy st W I R (.tup a b) hy rx ry h hs
  | ktp a b => exact ixm hu value slice pins s σ H _ _ v u Q ads _ dy st W I R (.ktp a b) hy rx ry h hs
  | fzl a b => exact ixm hu value slice pins s σ H _ _ v u Q ads _ dy st W I R (.fzl a b) hy rx ry h hs
  | ty n => exact ixm hu value slice pins s σ H _ _ v u Q ads _ dy st W I R (.ty n) hy rx ry h hs
  | exn0 n => exact ixm hu value slice pins s σ H _ _ v u Q ads _ dy st W I R (.exn0 n) hy rx ry h hs
  | exn1 a b c => exact ixm hu value slice pins s σ H _ _ v u Q ads _ dy st W I R (.exn1 a b c) hy rx ry h hs
end ML

/-! ML30: raise, try, what a suite asks of its exception. -/
namespace ML
open PySem PySem.Spec PyProof.Rows L2
/-- D is T, or under it -/
def isX (D T : Str) : Bool := decide (D = T) || decide (T = "ForgeError") || decide (T = "ValueError")
def NamesV (mg : Str → Option Value) (T : Str) (c : Value) : Prop := (T == ("__debug__" : Str)) = false ∧ (mg T = some c ∨ (mg T = none ∧ bootBuiltins T = some c ∧ T ≠ "__name__"))
theorem NamesV.eq {mg : Str → Option Value} {T : Str} {c c' : Value} (h : NamesV mg T c) (h' : NamesV mg T c') : c = c' := by
  obtain ⟨_, h | ⟨h, b, _⟩⟩ := h <;> obtain ⟨_, h' | ⟨h', b', _⟩⟩ := h'
  · rw [h] at h'; exact Option.some.inj h'
  · rw [h] at h'; cases h'
  · rw [h] at h'; cases h'
  · rw [b] at b'; exact Option.some.inj b'
def xfl : List Str := ["part", "name", "names", "where", "at"]
/-- the class D at C -/
structure XC (K : PySem.W.Frag) (mg : Str → Option Value) (D : Str) (ts : List Str) (C : Addr) : Prop where
  g : mg D = some (.ref C)
  hg : PySem.W.findIn K (.ref C) "__getattribute__" = some (some (.builtin "BaseException.__getattribute__"))
  hk : PySem.W.findIn K (.ref C) "__getattr__" = some none
  hs : PySem.W.subIn K (.ref C) (.type "BaseException") = some true
  hd : PySem.W.hasDictIn K C = true
  ha : PySem.W.findIn K (.ref C) "__class__" = some (some (.builtin "object.__class__"))
  hn : PySem.W.specialIn K (.builtin "object.__class__") "__get__" = some (some (.builtin "getset_descriptor.__get__"))
  ht : PySem.W.takesIn K (.builtin "object.__class__") = some true
  hm : PySem.W.mroIn K C (.type "object") = some true
  ty : PySem.W.typeIn K (.ref C) = some (.type "type")
  kp : PySem.W.keepIn K (.ref C) = true
  hc : (PySem.W.clsIn K C).isSome = true
  fl : ∀ f ∈ xfl, PySem.W.findIn K (.ref C) f = some none
  sub : ∀ T ∈ ts, ∀ c, NamesV mg T c → PySem.W.kitOne K (.ref C) c = some (isX D T) ∧ PySem.W.exmOne K (.ref C) c = some (isX D T)
structure XA (K : PySem.W.Frag) (mg : Str → Option Value) (ds ts : List Str) : Prop where
  nm : ∀ T ∈ ts, ∃ v c, NamesV mg T c ∧ ClsV v c
  cl : ∀ D ∈ ds, ∃ C, XC K mg D ts C
def xcB (K : PySem.W.Frag) (C : Addr) (D : Str) (ts : List (Str × Value)) : Bool :=
  decide (PySem.W.findIn K (.ref C) "__getattribute__" = some (some (.builtin "BaseException.__getattribute__"))) && (decide (PySem.W.findIn K (.ref C) "__getattr__" = some none) && (decide (PySem.W.subIn K (.ref C) (.type "BaseException") = some true) && (PySem.W.hasDictIn K C &&
  (decide (PySem.W.findIn K (.ref C) "__class__" = some (some (.builtin "object.__class__"))) && (decide (PySem.W.specialIn K (.builtin "object.__class__") "__get__" = some (some (.builtin "getset_descriptor.__get__"))) && (decide (PySem.W.takesIn K (.builtin "object.__class__") = some true) &&
  (decide (PySem.W.mroIn K C (.type "object") = some true) && (decide (PySem.W.typeIn K (.ref C) = some (.type "type")) && (PySem.W.keepIn K (.ref C) && ((PySem.W.clsIn K C).isSome && ((xfl.all fun f => decide (PySem.W.findIn K (.ref C) f = some none)) &&
  ts.all fun p => decide (PySem.W.kitOne K (.ref C) p.2 = some (isX D p.1)) && decide (PySem.W.exmOne K (.ref C) p.2 = some (isX D p.1)))))))))))))
theorem xc_of {K : PySem.W.Frag} {mg : Str → Option Value} {D : Str} {ts : List (Str × Value)} {C : Addr} (g : mg D = some (.ref C)) (h : xcB K C D ts = true) (hn : ∀ p ∈ ts, NamesV mg p.1 p.2) : XC K mg D (ts.map (·.1)) C := by
  unfold xcB at h
  simp only [Bool.and_eq_true, decide_eq_true_eq, List.all_eq_true] at h
  obtain ⟨h1, h2, h3, h4, h5, h6, h7, h8, h9, h10, h11, h12, h13⟩ := h
  refine ⟨g, h1, h2, h3, h4, h5, h6, h7, h8, h9, h10, h11, h12, fun T hT c hc => ?_⟩
  obtain ⟨p, hp, rfl⟩ := List.mem_map.mp hT
  obtain rfl := hc.eq (hn p hp)
  exact h13 p hp

/-! ### the mirror of try -/
structure Hd where
  t : Str
  i : Option Nat
  su : Addr → Option Addr → Str → Stt
open Classical in
/-- the answer that does not hang on where the exception lies -/
noncomputable def uni (f : Addr → Option Addr → Out Fl) : Out Fl := if h : ∃ o, ∀ a d, f a d = o then h.choose else .bad
theorem uni_eq {f : Addr → Option Addr → Out Fl} {o : Out Fl} (h : ∀ a d, f a d = o) : uni f = o := by
  unfold uni
  have hx : ∃ o, ∀ a d, f a d = o := ⟨o, h⟩
  rw [dif_pos hx]
  exact (hx.choose_spec 0 none).symm.trans (h 0 none)
theorem uni_at {f : Addr → Option Addr → Out Fl} (a : Addr) (d : Option Addr) : uni f = .bad ∨ f a d = uni f := by
  unfold uni
  by_cases hx : ∃ o, ∀ a d, f a d = o
  · rw [dif_pos hx]
    exact .inr (hx.choose_spec a d)
  · rw [dif_neg hx]
    exact .inl rfl
def wipeX (i : Option Nat) (ss : Sl) : Sl := match i with
  | none => ss
  | some j => ss.set j none
def gone (i : Option Nat) : Out Fl → Out Fl
  | .ok (.nx ss) st => .ok (.nx (wipeX i ss)) st
  | .ok (.bk ss) st => .ok (.bk (wipeX i ss)) st
  | .ok (.ct ss) st => .ok (.ct (wipeX i ss)) st
  | .ok (.rt v) st => .ok (.rt v) st
  | _ => .bad
def slX (i : Option Nat) (a : Addr) (d : Option Addr) (e : DX) (ss : Sl) : Sl := match i with
  | none => ss
  | some j => ss.set j (some (.exn a d (e.fs.map (·.1)) (e.fs.map (·.2))))
noncomputable def hdl (ds : List Str) (e : DX) (ss : Sl) (st : Sto) : List Hd → Out Fl
  | [] => .ok (.rs e ss) st
  | h :: r => if e.c ∈ ds then (if isX e.c h.t = true then uni fun a d => gone h.i (h.su a d e.c (slX h.i a d e ss) st) else hdl ds e ss st r) else .bad
noncomputable def sTry (ds : List Str) (b : Stt) (hs : List Hd) : Stt := fun ss st => match b ss st with
  | .ok (.rs e ss') st' => hdl ds e ss' st' hs
  | o => o
theorem RX.exn {K : PySem.W.Frag} {mg : Str → Option Value} {ads : List Addr} {H : Hp} {e : DX} {cls : Value} {d : Option Addr} (h : RX K mg ads H e cls d) (a : Addr) : RV K ads H (.exn a d (e.fs.map (·.1)) (e.fs.map (·.2))) (.ref a) := by
  obtain ⟨C, _, _, ⟨h1, h2⟩ | ⟨dx, vs, h1, h2, h3⟩⟩ := h
  · rw [h1, h2]
    exact .exn0 a
  · rw [h1]
    have z : ∀ {fs : List (Str × DV)} {vs : List (Str × V)}, RFs K ads H fs vs → vs = (fs.map (·.1)).zip (vs.map (·.2)) ∧ (fs.map (·.1)).length = (vs.map (·.2)).length ∧ RVs K ads H (fs.map (·.2)) (vs.map (·.2)) := by
      intro fs vs r
      induction r with
      | nil => exact ⟨rfl, rfl, .nil⟩
      | @cons p q fs vs hq r ih =>
        obtain ⟨i1, i2, i3⟩ := ih
        obtain ⟨q1, q2⟩ := hq
        refine ⟨?_, by simpa using i2, .cons q2 i3⟩
        rw [List.map_cons, List.map_cons, List.zip_cons_cons, ← i1, q1]
    obtain ⟨z1, z2, z3⟩ := z h3
    exact .exn1 (by rw [← z1]; exact h2) z2 z3
section
variable {X : Cx} {W : WX} {ds ts : List Str}
/-- what a suite is asked -/
def SuOk (X : Cx) (ds : List Str) (su : Addr → Option Addr → Str → Stt) (b : List Stmt) : Prop :=
  ∀ (a : Addr) (oe : Obj) (D : Str) (C : Addr) (d : Option Addr) (pn : List (Addr × Obj)), D ∈ ds → X.mg D = some (.ref C) → Zc (.ref C) d oe → (∃ vs, oe.data = .fields vs) → RSs (X.suite a ((a, oe) :: pn)) WF b (su a d D)
/-- a suite's reading: of one of the classes ds -/
def tSu (X : Cx) (ds : List Str) (su : Addr → Option Addr → Str → Stt) : Addr → Value → Option Addr → TS := fun a cls d D σ H => ∃ (Dn : Str) (C : Addr), Dn ∈ ds ∧ X.mg Dn = some (.ref C) ∧ cls = .ref C ∧ tS X.K X.mg WF (su a d Dn) D σ H
theorem SuOk.pss {su : Addr → Option Addr → Str → Stt} {b : List Stmt} (h : SuOk X ds su b) {a : Addr} {oe : Obj} {cls : Value} {d : Option Addr} {pn : List (Addr × Obj)} (hz : Zc cls d oe) (hf : ∃ vs, oe.data = .fields vs) : PSs (X.suite a ((a, oe) :: pn)) b (tSu X ds su a cls d) := by
  refine ⟨fun pins s σ H D I r => ?_⟩
  obtain ⟨Dn, C, r1, r2, rfl, r3⟩ := r
  exact (h a oe Dn C d pn r1 r2 hz hf).run pins s σ H D I r3
/-- the ends of a suite whose name goes behind it -/
def endX (i : Nat) (D : Ends) : Ends := { nx := fun σ' H' => D.nx (σ'.set i none) H', rt := D.rt, bk := fun σ' H' => D.bk (σ'.set i none) H', ct := fun σ' H' => D.ct (σ'.set i none) H' }
theorem gone0 {K : PySem.W.Frag} {mg : Str → Option Value} {D : Ends} {ads : List Addr} {H : Hp} {o : Out Fl} (h : postS K mg W D ads H (gone none o)) : postS K mg WF D ads H o := by
  rcases o with ⟨fl, st⟩ | ⟨e, st⟩ | _
  · cases fl <;> first | exact h | exact (h : False).elim
  · exact h
  · exact h
theorem gone1 {K : PySem.W.Frag} {mg : Str → Option Value} {D : Ends} {ads : List Addr} {H : Hp} {i : Nat} {o : Out Fl} (h : postS K mg W D ads H (gone (some i) o)) : postS K mg WF (endX i D) ads H o := by
  rcases o with ⟨fl, st⟩ | ⟨e, st⟩ | _
  · rcases fl with ss | ss | ss | d | ⟨e, ss⟩
    · exact fun a2 H2 σ2 f R L => h a2 H2 _ f R (L.forget2 i)
    · exact fun a2 H2 σ2 f R L => h a2 H2 _ f R (L.forget2 i)
    · exact fun a2 H2 σ2 f R L => h a2 H2 _ f R (L.forget2 i)
    · exact h
    · exact (h : False).elim
  · exact h
  · exact h
/-- the class of what flies, by its name -/
theorem XA.of (A : XA X.K X.mg ds ts) {ads : List Addr} {H : Hp} {e : DX} {cls : Value} {d : Option Addr} (hm : e.c ∈ ds) (xx : RX X.K X.mg ads H e cls d) : ∃ C, XC X.K X.mg e.c ts C ∧ cls = .ref C := by
  obtain ⟨C, xc⟩ := A.cl _ hm
  obtain ⟨C', g', e', _⟩ := xx
  rw [xc.g] at g'
  cases g'
  exact ⟨C, xc, e'⟩
/-- one clause, what it comes to -/
theorem hdl_one {D : Ends} {ads : List Addr} {H : Hp} {ss : Sl} {st : Sto} {e : DX} {h : Hd} (p : postS X.K X.mg W D ads H (hdl ds e ss st [h])) :
    e.c ∈ ds ∧ (isX e.c h.t = true → ∀ a d, postS X.K X.mg W D ads H (gone h.i (h.su a d e.c (slX h.i a d e ss) st))) ∧ (isX e.c h.t = false → postS X.K X.mg W D ads H (.ok (.rs e ss) st)) := by
  unfold hdl at p
  by_cases hm : e.c ∈ ds
  case neg => rw [if_neg hm] at p; exact (p : False).elim
  rw [if_pos hm] at p
  refine ⟨hm, fun hb a d => ?_, fun hb => ?_⟩
  · rw [if_pos hb] at p
    rcases uni_at (f := fun a d => gone h.i (h.su a d e.c (slX h.i a d e ss) st)) a d with z | z
    · rw [z] at p; exact (p : False).elim
    · rw [← z] at p; exact p
  · rw [if_neg (by rw [hb]; exact Bool.false_ne_true)] at p
    exact p
/-- what flies out of the body meets the clause -/
theorem body_flies {mb : Stt} {hs : List Hd} {D : Ends} {σ : L2.St} {H : Hp} {W' : WX} (h : tS X.K X.mg W (sTry ds mb hs) D σ H)
    (hw : ∀ (ads : List Addr) (H : Hp) (ss : Sl) (st : Sto) (σ : L2.St) (e : DX) (cls : Value) (d : Option Addr), RSt X.K X.mg ads H st → RSl X.K ads H ss σ → RX X.K X.mg ads H e cls d → postS X.K X.mg W D ads H (hdl ds e ss st hs) → W' cls d σ H) : tS X.K X.mg W' mb D σ H := by
  obtain ⟨ads, ss, st, R, L, p⟩ := h
  refine ⟨ads, ss, st, R, L, ?_⟩
  unfold sTry at p
  generalize mb ss st = o at p ⊢
  rcases o with ⟨fl, st'⟩ | ⟨e, st'⟩ | _
  · rcases fl with s2 | s2 | s2 | d | ⟨e, s2⟩
    · exact p
    · exact p
    · exact p
    · exact p
    · exact fun a2 H2 σ2 cls d f R2 L2 x => hw a2 H2 s2 st' σ2 e cls d R2 L2 x (p.from f)
  · exact p
  · exact p
section
variable {body suite : List Stmt} {b₀ : Stmt} {x n : Str} {i : Nat} {np pos pos' : Pos} {mb : Stt} {su : Addr → Option Addr → Str → Stt}
/-- try: body, except x as n: suite -/
theorem rs_try1 (A : XA X.K X.mg ds ts) (hs : X.stack = X.env :: X.outer) (hf : X.env.frame = some X.env.locals) (tk : Takes X W)
    (hb : ∀ (W : WX) (pn : List (Addr × Obj)) (xe : Value → Shared → Prop), Takes (X.tr pn xe) W → PassesOwn (model X.prog X.w) X.A X.env xe → RSs (X.tr pn xe) W body mb)
    (hx : x ∈ ts) (hg : Gl X x) (hN : X.N.Nodup) (hi : X.N[i]? = some n) (hln : X.env.kindOf n = some .local) (hsu : SuOk X ds su (b₀ :: suite)) :
    RS X W (.Try body [.ExceptHandler (some (.Name x np)) (some n) (b₀ :: suite) pos'] [] [] pos) (sTry ds mb [⟨x, some i, su⟩]) := by
  obtain ⟨v, c, hn, hcl⟩ := A.nm _ hx
  refine ⟨fun pins s σ H D I h => (ps_try_as (tb := fun W => tS X.K X.mg W mb) (ts := tSu X ds su) hs hf hN hi hln ⟨hg, hn.1, hn.2⟩ tk hb (fun a oe cls d pn hz hd => hsu.pss hz hd)).run pins s σ H D I (body_flies h fun ads H ss st σ e cls d R L xx p => ?_)⟩
  obtain ⟨hm, h1, h2⟩ := hdl_one p
  obtain ⟨C, xc, rfl⟩ := A.of hm xx
  refine ⟨isX e.c x, (xc.sub _ hx _ hn).2, fun hy a ha => ⟨e.c, C, hm, xc.g, rfl, ads, _, st, R, L.set i (xx.exn a), gone1 (h1 hy a d)⟩, fun hy => ?_⟩
  exact h2 hy _ _ _ _ _ .refl R L xx
/-- try: body, except x: suite -/
theorem rs_try0 (A : XA X.K X.mg ds ts) (hs : X.stack = X.env :: X.outer) (hf : X.env.frame = some X.env.locals) (tk : Takes X W)
    (hb : ∀ (W : WX) (pn : List (Addr × Obj)) (xe : Value → Shared → Prop), Takes (X.tr pn xe) W → PassesOwn (model X.prog X.w) X.A X.env xe → RSs (X.tr pn xe) W body mb)
    (hx : x ∈ ts) (hg : Gl X x) (hsu : SuOk X ds su (b₀ :: suite)) :
    RS X W (.Try body [.ExceptHandler (some (.Name x np)) none (b₀ :: suite) pos'] [] [] pos) (sTry ds mb [⟨x, none, su⟩]) := by
  obtain ⟨v, c, hn, hcl⟩ := A.nm _ hx
  refine ⟨fun pins s σ H D I h => (ps_try_only (tb := fun W => tS X.K X.mg W mb) (ts := tSu X ds su) hs hf ⟨hg, hn.1, hn.2⟩ tk hb (fun a oe cls d pn hz hd => hsu.pss hz hd)).run pins s σ H D I (body_flies h fun ads H ss st σ e cls d R L xx p => ?_)⟩
  obtain ⟨hm, h1, h2⟩ := hdl_one p
  obtain ⟨C, xc, rfl⟩ := A.of hm xx
  refine ⟨isX e.c x, (xc.sub _ hx _ hn).2, fun hy a ha => ⟨e.c, C, hm, xc.g, rfl, ads, _, st, R, L, gone0 (h1 hy a d)⟩, fun hy => ?_⟩
  exact h2 hy _ _ _ _ _ .refl R L xx
end
end
end ML

/-! ML31: raise; isinstance and fields of the exception that a suite holds; own exceptions' __init__. -/
namespace ML
open PySem PySem.Spec PyProof.Rows L2
def sRai (x : Str) : Stt := fun ss => pur (.rs ⟨x, []⟩ ss)
/-- e.g. NoPaper(words, where, at) -/
def sRaiF (x : Str) (fs : List Str) (ms : List Ex) : Stt := fun ss => lft ss (eArgs ms ss) fun xs => match fs, xs with
  | [f1], [_, x1] => pur (.rs ⟨x, [(f1, x1)]⟩ ss)
  | [f1, f2], [_, x1, x2] => pur (.rs ⟨x, [(f2, x2), (f1, x1)]⟩ ss)
  | _, _ => stuck
def isOne (c : Str) (ts : List Str) : Bool := ts.any (isX c)
def eIsX (i : Nat) (a : Addr) (d : Option Addr) (c : Str) (ts : List Str) : Ex := fun ss st => match ss[i]? with
  | some (some (.exn b d' _ _)) => if b = a ∧ d' = d then .ok (.bl (isOne c ts)) st else .bad
  | _ => .bad
def eXf (i : Nat) (a : Addr) (d : Option Addr) (f : Str) : Ex := fun ss st => match ss[i]? with
  | some (some (.exn b d' ns xs)) => if b = a ∧ d' = d then (match (ns.zip xs).lookup f with
    | some v => .ok v st
    | none => .bad) else .bad
  | _ => .bad
section
variable {X : Cx} {W : WX} {ts ds : List Str}
theorem rs_raise0 {x m : Str} {j : Nat} {p p2 pos pos' : Pos} {C : Addr} {bmB : List Value} {B newId initId : String} (F : ExcBaseFacts B newId initId bmB) (hc : X.calm = true) (tk : Takes X W) (c : XC X.K X.mg x ts C) (q : PySem.W.excIn X.K C bmB newId = true) (hg : Gl X x)
    (hdb : (x == ("__debug__" : Str)) = false := by decide) : RS X W (.Raise (some (.Call (.Name x p) [.Constant (.str m) j p2] [] pos)) none pos') (sRai x) :=
  ⟨fun pins s σ H D I h => (ps_raise hc tk (pmk_own F q c.g c.kp (raises_own c.hs c.ty) hg hdb)).run pins s σ H D I (by
    obtain ⟨ads, ss, st, R, L, p⟩ := h
    exact p ads H σ (.ref C) none .refl R L ⟨C, c.g, rfl, .inl ⟨rfl, rfl⟩⟩)⟩
/-! own __init__ -/
def spX1 (K : PySem.W.Frag) (C : Addr) (f1 : Str) : Sp := fun vs H Q _ => ∃ (a : Addr) (w x1 : V), vs = [.ref a, w, x1] ∧ H a = some (exo a C none) ∧ ∀ dx, H dx = none → dx ≠ a → Q .non (upd (upd H dx (exd dx [(f1, x1)])) a (exo a C (some dx)))
def spX2 (K : PySem.W.Frag) (C : Addr) (f1 f2 : Str) : Sp := fun vs H Q _ => ∃ (a : Addr) (w x1 x2 : V), vs = [.ref a, w, x1, x2] ∧ H a = some (exo a C none) ∧ ∀ dx, H dx = none → dx ≠ a → Q .non (upd (upd (upd H dx (exd dx [(f1, x1)])) a (exo a C (some dx))) dx (exd dx [(f2, x2), (f1, x1)]))
structure FeI (K : PySem.W.Frag) (mg : Str → Option Value) : Prop where
  ex : ∃ CF mc, mg "ForgeError" = some (.ref CF) ∧ PySem.W.specialIn K (.ref CF) "__getattribute__" = some (some (.builtin "type.__getattribute__")) ∧ PySem.W.readsIn K CF mc = true ∧
    PySem.W.findCls K (.ref CF) mc "__init__" = some (.val (.builtin "ValueError.__init__"))
theorem pe_feinit {e : Expr} {es : List Expr} {ta : TA} {p1 p2 pos : Pos} {pl : Sem Bool} (FE : FeI X.K X.mg) (hg : Gl X "ForgeError") (ha : PA X (e :: es) ta)
    (hc : eval (.Call (.Attribute (.Name "ForgeError" p1) "__init__" p2) (e :: es) [] pos) X.env = (do
      let ov ← eval (.Name "ForgeError" p1) X.env
      standAt p2.atName
      let (f, first) ← holding [ov] (getMethod ov "__init__" pl)
      callWith pos f first (backTo pos (starEach (e :: es) X.env)) (backToKw pos (keywordEach [] X.env))) := by rfl)
    (he : starEach (e :: es) X.env = (false, eval e X.env) :: starEach es X.env := by rfl) (hpl : (backTo pos (starEach es X.env)).any (·.1) = false := by rfl) :
    PE X (.Call (.Attribute (.Name "ForgeError" p1) "__init__" p2) (e :: es) [] pos) (tVeI X.K ta) := by
  obtain ⟨CF, mc, g1, g2, g3, g4⟩ := FE.ex
  refine ⟨fun pins s σ H Q I h => ?_⟩
  refine PySem.W.methodCall_KW (ld_glob I hg g1 ?_) hc
  refine PySem.W.method_cls I.kIn g2 (PySem.W.cls_value I.kIn g3 g4 (by decide +kernel) ?_)
  show wpAny _ _ (callWith pos (Value.builtin "ValueError.__init__") [] (backTo pos (starEach (e :: es) X.env)) []) _ _ _
  refine PyProof.Rows.callWith_method1 (thn (ha.run pos pins _ σ H _ (I.tok _) h) fun us s1 ⟨vs, H1, I1, r1, a, C, ws, ev, hl, T, ea, q⟩ => ?_) he hpl
  subst ev
  cases r1 with
  | @cons _ u0 _ ur ra rw' =>
    obtain rfl : u0 = Value.ref a := ra
    have hlen : ur.length ≤ sizeLine := by
      rw [← Paired.length rw', sizeLine_eq]
      omega
    exact oinit_ok T I1 ea hlen fun s' J => ⟨.non, H1, J, rfl, q⟩
end
section
variable {P : Program} {w : World} {K : PySem.W.Frag} {mg : Str → Option Value} {base : Heap}
theorem init1_ok {f1 p1 : Str} {qual : Str} {st : Stmt} {f C : Addr} {fd : FuncData} {k : Nat} {a1 a2 a3 a4 a5 a6 a7 a8 a9 a10 : Pos} (F : Fun K "__init__" qual st f fd) (S : FnScope ["self", "words", p1] ["self", "words", p1] (defScope st))
    (hb : defBody st = [.Expr (.Call (.Attribute (.Name "ForgeError" a1) "__init__" a2) [.Name "self" a3, .Name "words" a4] [] a5) a6, .Assign [.Attribute (.Name "self" a7) f1 a8] (.Name p1 a9) a10])
    (hca : ∀ (cdv : Value) (A : Around) (outer : List Env) (s : Shared) (H : Hp) (E : XK), PE (cxOf (L2.CX P w) P w K mg base ["self", "words", p1] qual (defScope st) f cdv A outer s H E) (.Call (.Attribute (.Name "ForgeError" a1) "__init__" a2) [.Name "self" a3, .Name "words" a4] [] a5) (tVeI K (tCons (tVar 0) (tCons (tVar 1) tNil))))
    (hs : (defScope st).names.lookup ("self" : Str) = some .local) (h1 : (defScope st).names.lookup p1 = some .local)
    (d1 : (p1 == ("__debug__" : Str)) = false) (d2 : (p1 == ("__classdict__" : Str)) = false)
    (T : OexC K C) (hno : PySem.W.findIn K (.ref C) f1 = some none) : FnOk P w K mg base (L2.CX P w) (k + 1) f fd ["self", "words", p1] (spX1 K C f1) := by
  refine F.okX S (fun vs H Q E h => ?_) fun cdv A outer s H vs Q E hr h => ?_
  · obtain ⟨a, w', x1, rfl, _⟩ := h
    rfl
  · rw [hb]
    refine ⟨_, pss_cons (ps_expr (hca cdv A outer s H E)) (pss_one (ps_ost (pe_var (i := 0) rfl (.inl hs)) (pe_var (i := 2) rfl (.inl h1) d1 d2))), ?_⟩
    obtain ⟨a, w', x1, rfl, ha, hq⟩ := h
    refine ⟨_, rfl, _, rfl, a, C, _, rfl, by simp, T, ha, ?_⟩
    refine ⟨_, rfl, _, rfl, a, C, rfl, T, hno, .inl ⟨ha, fun dx n ne => hq dx n ne⟩⟩
theorem init2_ok {f1 p1 f2 p2 : Str} {qual : Str} {st : Stmt} {f C : Addr} {fd : FuncData} {k : Nat} {a1 a2 a3 a4 a5 a6 a7 a8 a9 a10 b7 b8 b9 b10 : Pos} (F : Fun K "__init__" qual st f fd) (S : FnScope ["self", "words", p1, p2] ["self", "words", p1, p2] (defScope st))
    (hb : defBody st = [.Expr (.Call (.Attribute (.Name "ForgeError" a1) "__init__" a2) [.Name "self" a3, .Name "words" a4] [] a5) a6, .Assign [.Attribute (.Name "self" a7) f1 a8] (.Name p1 a9) a10, .Assign [.Attribute (.Name "self" b7) f2 b8] (.Name p2 b9) b10])
    (hca : ∀ (cdv : Value) (A : Around) (outer : List Env) (s : Shared) (H : Hp) (E : XK), PE (cxOf (L2.CX P w) P w K mg base ["self", "words", p1, p2] qual (defScope st) f cdv A outer s H E) (.Call (.Attribute (.Name "ForgeError" a1) "__init__" a2) [.Name "self" a3, .Name "words" a4] [] a5) (tVeI K (tCons (tVar 0) (tCons (tVar 1) tNil))))
    (hs : (defScope st).names.lookup ("self" : Str) = some .local) (h1 : (defScope st).names.lookup p1 = some .local) (h2 : (defScope st).names.lookup p2 = some .local)
    (d1 : (p1 == ("__debug__" : Str)) = false) (d2 : (p1 == ("__classdict__" : Str)) = false) (e1 : (p2 == ("__debug__" : Str)) = false) (e2 : (p2 == ("__classdict__" : Str)) = false)
    (T : OexC K C) (hno : PySem.W.findIn K (.ref C) f1 = some none) (hno2 : PySem.W.findIn K (.ref C) f2 = some none) : FnOk P w K mg base (L2.CX P w) (k + 1) f fd ["self", "words", p1, p2] (spX2 K C f1 f2) := by
  refine F.okX S (fun vs H Q E h => ?_) fun cdv A outer s H vs Q E hr h => ?_
  · obtain ⟨a, w', x1, x2, rfl, _⟩ := h
    rfl
  · rw [hb]
    refine ⟨_, pss_cons (ps_expr (hca cdv A outer s H E)) (pss_cons (ps_ost (pe_var (i := 0) rfl (.inl hs)) (pe_var (i := 2) rfl (.inl h1) d1 d2)) (pss_one (ps_ost (pe_var (i := 0) rfl (.inl hs)) (pe_var (i := 3) rfl (.inl h2) e1 e2)))), ?_⟩
    obtain ⟨a, w', x1, x2, rfl, ha, hq⟩ := h
    refine ⟨_, rfl, _, rfl, a, C, _, rfl, by simp, T, ha, ?_⟩
    refine ⟨_, rfl, _, rfl, a, C, rfl, T, hno, .inl ⟨ha, fun dx n ne => ?_⟩⟩
    refine ⟨_, rfl, _, rfl, a, C, rfl, T, hno2, .inr ⟨dx, _, upd_same, ?_, by show 1 ≤ 900; decide, hq dx n ne⟩⟩
    rw [upd_ne ne, upd_same]
end
/-- an own class with its own __init__ of one field -/
structure XI1 (P : Program) (w : World) (K : PySem.W.Frag) (mg : Str → Option Value) (base : Heap) (x : Str) (f1 : Str) (k : Nat) (C : Addr) : Prop where
  T : OexC K C
  fn : ∃ fI fd ps, PySem.W.findIn K (.ref C) "__init__" = some (some (.ref fI)) ∧ PySem.W.typeIn K (.ref fI) = some (.type "function") ∧ FnOk P w K mg base (L2.CX P w) k fI fd ps (spX1 K C f1) ∧ Binds K fd ps []
structure XI2 (P : Program) (w : World) (K : PySem.W.Frag) (mg : Str → Option Value) (base : Heap) (x : Str) (f1 f2 : Str) (k : Nat) (C : Addr) : Prop where
  T : OexC K C
  fn : ∃ fI fd ps, PySem.W.findIn K (.ref C) "__init__" = some (some (.ref fI)) ∧ PySem.W.typeIn K (.ref fI) = some (.type "function") ∧ FnOk P w K mg base (L2.CX P w) k fI fd ps (spX2 K C f1 f2) ∧ Binds K fd ps []
section
variable {X : Cx} {W : WX} {ts ds : List Str}
theorem heap_eq {H : Hp} {a dx : Addr} {H2 : Hp} {fs : List (Str × V)} (ha : H a = none) (h : ∀ b, b ≠ a → b ≠ dx → H2 b = H b) (hne : dx ≠ a) : upd (del H2 a) dx (.xd fs) = upd H dx (.xd fs) := by
  funext b
  by_cases hb : b = dx
  · rw [hb, upd_same, upd_same]
  · rw [upd_ne hb, upd_ne hb]
    by_cases hc : b = a
    · rw [hc, del_same, ha]
    · rw [del_ne hc, h b hc hb]
theorem rs_raise1 {x f1 : Str} {e : Expr} {es : List Expr} {ms : List Ex} {p pos pos' : Pos} {C : Addr} {k : Nat} (hc : X.calm = true) (tk : Takes X W) (c : XC X.K X.mg x ts C) (I1 : XI1 X.prog X.w X.K X.mg X.base x f1 k C) (hr : Room (k + 1) X.A) (hg : Gl X x) (ha : RA X W (e :: es) ms)
    (hdb : (x == ("__debug__" : Str)) = false := by decide) (he : starEach (e :: es) X.env = (false, eval e X.env) :: starEach es X.env := by rfl) (hpl : (backTo pos (starEach es X.env)).any (·.1) = false := by rfl) :
    RS X W (.Raise (some (.Call (.Name x p) (e :: es) [] pos)) none pos') (sRaiF x [f1] ms) := by
  obtain ⟨fI, fd, ps, i1, i2, F1, hb⟩ := I1.fn
  refine ⟨fun pins s σ H D I h => (ps_raise hc tk (pmk_oex I1.T i1 i2 F1 hr hb .nil passL hg c.g ha hdb he hpl)).run pins s σ H D I ?_⟩
  refine (tS.lft (R := rVs X.K) (k := fun ss xs => match ([f1] : List Str), xs with
    | [f1], [_, x1] => pur (.rs ⟨x, [(f1, x1)]⟩ ss)
    | [f1, f2], [_, x1, x2] => pur (.rs ⟨x, [(f2, x2), (f1, x1)]⟩ ss)
    | _, _ => stuck) h).imp fun vs H1 ⟨ads, ss, ds, st, R, L, r, p⟩ => ?_
  match ds, r, p with
  | [d1, d2], r, p =>
    obtain ⟨u1, u2, rfl, r1, r2⟩ := r.two
    refine ⟨by simp, fun a na => ⟨a, u1, u2, rfl, upd_same, fun dx n ne => ⟨rfl, dx, [(f1, u2)], upd_same, ?_, ?_, ?_⟩⟩⟩
    · rw [upd_ne ne, upd_same]
    · rw [upd_ne ne] at n
      exact n
    · rw [upd_ne ne] at n
      rw [heap_eq na (fun b h1 h2 => by rw [upd_ne h1, upd_ne h2, upd_ne h1]) ne]
      exact p ads _ σ _ _ (.newU n) (R.newU n) (L.mono (.newU n)) ⟨C, c.g, rfl, .inr ⟨dx, _, rfl, upd_same, .cons ⟨rfl, r2.mono (.newU n)⟩ .nil⟩⟩
  | [], _, p => exact (p : False).elim
  | [_], _, p => exact (p : False).elim
  | _ :: _ :: _ :: _, _, p => exact (p : False).elim
theorem rs_raise2 {x f1 f2 : Str} {e : Expr} {es : List Expr} {ms : List Ex} {p pos pos' : Pos} {C : Addr} {k : Nat} (hc : X.calm = true) (tk : Takes X W) (c : XC X.K X.mg x ts C) (I1 : XI2 X.prog X.w X.K X.mg X.base x f1 f2 k C) (hr : Room (k + 1) X.A) (hg : Gl X x) (ha : RA X W (e :: es) ms)
    (hdb : (x == ("__debug__" : Str)) = false := by decide) (he : starEach (e :: es) X.env = (false, eval e X.env) :: starEach es X.env := by rfl) (hpl : (backTo pos (starEach es X.env)).any (·.1) = false := by rfl) :
    RS X W (.Raise (some (.Call (.Name x p) (e :: es) [] pos)) none pos') (sRaiF x [f1, f2] ms) := by
  obtain ⟨fI, fd, ps, i1, i2, F1, hb⟩ := I1.fn
  refine ⟨fun pins s σ H D I h => (ps_raise hc tk (pmk_oex I1.T i1 i2 F1 hr hb .nil passL hg c.g ha hdb he hpl)).run pins s σ H D I ?_⟩
  refine (tS.lft (R := rVs X.K) (k := fun ss xs => match ([f1, f2] : List Str), xs with
    | [f1], [_, x1] => pur (.rs ⟨x, [(f1, x1)]⟩ ss)
    | [f1, f2], [_, x1, x2] => pur (.rs ⟨x, [(f2, x2), (f1, x1)]⟩ ss)
    | _, _ => stuck) h).imp fun vs H1 ⟨ads, ss, ds, st, R, L, r, p⟩ => ?_
  match ds, r, p with
  | [d1, d2, d3], r, p =>
    obtain ⟨u1, u2, u3, rfl, r1, r2, r3⟩ := r.three
    refine ⟨by simp, fun a na => ⟨a, u1, u2, u3, rfl, upd_same, fun dx n ne => ⟨rfl, dx, [(f2, u3), (f1, u2)], ?_, upd_same, ?_, ?_⟩⟩⟩
    · rw [upd_ne (Ne.symm ne), upd_same]
    · rw [upd_ne ne] at n
      exact n
    · rw [upd_ne ne] at n
      rw [heap_eq na (fun b h1 h2 => by rw [upd_ne h2, upd_ne h1, upd_ne h2, upd_ne h1]) ne]
      exact p ads _ σ _ _ (.newU n) (R.newU n) (L.mono (.newU n)) ⟨C, c.g, rfl, .inr ⟨dx, _, rfl, upd_same, .cons ⟨rfl, r3.mono (.newU n)⟩ (.cons ⟨rfl, r2.mono (.newU n)⟩ .nil)⟩⟩
  | [], _, p => exact (p : False).elim
  | [_], _, p => exact (p : False).elim
  | [_, _], _, p => exact (p : False).elim
  | _ :: _ :: _ :: _ :: _, _, p => exact (p : False).elim

/-! ### in a suite -/
theorem exn_at {K : PySem.W.Frag} {ads : List Addr} {H : Hp} {a : Addr} {d : Option Addr} {ns : List Str} {xs : List DV} {v : V} (r : RV K ads H (.exn a d ns xs) v) : v = .ref a ∧ ((d = none ∧ ns = [] ∧ xs = []) ∨ ∃ dx vs, d = some dx ∧ H dx = some (.xd (ns.zip vs)) ∧ ns.length = vs.length ∧ RVs K ads H xs vs) := by
  cases r with
  | exn0 a => exact ⟨rfl, .inl ⟨rfl, rfl, rfl⟩⟩
  | exn1 h l r => exact ⟨rfl, .inr ⟨_, _, rfl, h, l, r⟩⟩
def DxOk (d : Option Addr) (H : Hp) : Prop := d = none ∨ ∃ dx fs, d = some dx ∧ H dx = some (.xd fs)
theorem inst_of {pn : List (Addr × Obj)} {pins : List (Addr × Obj)} {s : Shared} {σ : L2.St} {H : Hp} {a C : Addr} {oe : Obj} {d : Option Addr} (hz : Zc (.ref C) d oe) (hf : ∃ vs, oe.data = .fields vs) (I : Inv (X.suite a ((a, oe) :: pn)) pins σ H s) (hd : DxOk d H) : ∃ od, PySem.W.InstAt s.heap a oe C od := by
  obtain ⟨hget, _⟩ := I.pin (a, oe) (List.mem_append.mpr (.inl List.mem_cons_self))
  obtain ⟨vs, hv⟩ := hf
  have hn : PySem.W.notCls oe = true := by unfold PySem.W.notCls; rw [hv] <;> rfl
  rcases hd with rfl | ⟨dx, fs, rfl, hx⟩
  · exact ⟨none, hget, hz.1, hn, by rw [hz.2]; trivial⟩
  · obtain ⟨_, ⟨o, _, _, ho, _⟩, _⟩ := (show ObjOk X.prog X.w H s.heap dx (.xd fs) from I.hok dx _ hx)
    exact ⟨some o, hget, hz.1, hn, by rw [hz.2]; exact ho⟩
theorem kit_x {a C : Addr} {D : Str} {ox : Obj} {od : Option Obj} (c : XC X.K X.mg D ts C) : PySem.W.KitX X.K (.ref a) (.ref C) (fun h => PySem.W.InstAt h a ox C od) :=
  PySem.W.kitx_exc c.hc c.hg c.hk c.hs c.ha c.hn c.ht c.hm
def rIsO (K : PySem.W.Frag) (C a : Addr) (d : Option Addr) : List V → Hp → VK → Prop := fun xs H Q => ∃ (c : V) (u : Value) (b : Bool), xs = [.ref a, c] ∧ ClsV c u ∧ DxOk d H ∧ PySem.W.kitOne K (.ref C) u = some b ∧ Q (.bl b) H
def rIsT (K : PySem.W.Frag) (C a : Addr) (d : Option Addr) : List V → Hp → VK → Prop := fun xs H Q => ∃ (tp : Addr) (cs : List V) (us : List Value) (b : Bool), xs = [.ref a, .ref tp] ∧ H tp = some (.tup cs) ∧ Paired ClsV cs us ∧ DxOk d H ∧ PySem.W.kitAny K (.ref C) us = some b ∧ Q (.bl b) H
theorem call_isO {a C : Addr} {D : Str} {oe : Obj} {d : Option Addr} {pn : List (Addr × Obj)} (c : XC X.K X.mg D ts C) (hz : Zc (.ref C) d oe) (hf : ∃ vs, oe.data = .fields vs) : CallR (X.suite a ((a, oe) :: pn)) (.builtin "isinstance") (rIsO X.K C a d) := by
  intro pins s σ H xs us Q I r h
  obtain ⟨cl, u, b, rfl, k, hd, e, q⟩ := h
  obtain ⟨u1, u2, rfl, r1, r2⟩ := vals2 r
  have e2 := k.eq r2
  subst e2
  cases (show u1 = Value.ref a from r1)
  obtain ⟨od, J⟩ := inst_of hz hf I hd
  exact PySem.W.kia_one (kit_x c) I.kIn J e (fun z => nomatch z) fun tk => ⟨.bl b, H, I.tok tk, rfl, q⟩
theorem call_isT {a C : Addr} {D : Str} {oe : Obj} {d : Option Addr} {pn : List (Addr × Obj)} (c : XC X.K X.mg D ts C) (hz : Zc (.ref C) d oe) (hf : ∃ vs, oe.data = .fields vs) : CallR (X.suite a ((a, oe) :: pn)) (.builtin "isinstance") (rIsT X.K C a d) := by
  intro pins s σ H xs us Q I r h
  obtain ⟨tp, cs, ws, b, rfl, hT, k, hd, e, q⟩ := h
  obtain ⟨u1, u2, rfl, r1, r2⟩ := vals2 r
  cases (show u2 = Value.ref tp from r2)
  cases (show u1 = Value.ref a from r1)
  obtain ⟨od, J⟩ := inst_of hz hf I hd
  obtain ⟨_, its, rv, o, h1, h2, n, h3⟩ := (show ObjOk X.prog X.w H s.heap tp (.tup cs) from I.hok tp _ hT)
  have e3 := ClsV.all k rv
  subst e3
  obtain ⟨oc, od', dt, sl⟩ := o
  simp only at h2 h3
  subst h2 h3
  exact PySem.W.kia_tup (kit_x c) I.kIn J h1 e (fun z => nomatch z) fun tk => ⟨.bl b, H, I.tok tk, rfl, q⟩
theorem clsv_rel {v : V} {c : Value} (h : ClsV v c) : RelV v c := by
  cases h with
  | ty n => exact rfl
  | own C => exact rfl
/-- the class that an expression names -/
theorem pe_cls {T : Str} {v : V} {c : Value} {pT : Pos} (hn : NamesV X.mg T c) (hv : ClsV v c) (hg : Gl X T) : PE X (.Name T pT) (tC v) := by
  obtain ⟨hd, hm | ⟨hm, hb, hnn⟩⟩ := hn
  · exact pe_glob hg hm (clsv_rel hv) hd
  · exact pe_bltn hg hm hb (clsv_rel hv) hnn hd
theorem re_isO {i : Nat} {x T : Str} {p px pT pos : Pos} {a : Addr} {oe : Obj} {D : Str} {C : Addr} {d : Option Addr} {pn : List (Addr × Obj)} (A : XA X.K X.mg ds ts) (hD : D ∈ ds) (hC : X.mg D = some (.ref C)) (hz : Zc (.ref C) d oe) (hf : ∃ vs, oe.data = .fields vs) (hgI : Gl X "isinstance") (hmI : X.mg "isinstance" = none)
    (hN : X.N[i]? = some x) (hv : Vis X.env.scope x) (hT : T ∈ ts) (hgT : Gl X T) (hd1 : (x == ("__debug__" : Str)) = false := by decide) (hd2 : (x == ("__classdict__" : Str)) = false := by decide) :
    RE (X.suite a ((a, oe) :: pn)) W (.Call (.Name "isinstance" p) [.Name x px, .Name T pT] [] pos) (eIsX i a d D [T]) := by
  obtain ⟨C', c⟩ := A.cl _ hD
  obtain rfl : C' = C := by
    have z := c.g.symm.trans hC
    cases z
    rfl
  obtain ⟨v, u, hn, hcl⟩ := A.nm _ hT
  have hx : PE (X.suite a ((a, oe) :: pn)) (.Name x px) (tVar i) := pe_var hN hv hd1 hd2
  have ht : PE (X.suite a ((a, oe) :: pn)) (.Name T pT) (tC v) := pe_cls hn hcl hgT
  refine ⟨fun pins s σ H Q I h => (pe_callB (call_isO c hz hf) hgI hmI PyProof.Rows.Boot.«isinstance» (pa_cons hx (pa_cons ht pa_nil))).run pins s σ H Q I ?_⟩
  obtain ⟨ads, ss, st, R, L, q⟩ := h
  unfold eIsX at q
  split at q
  case h_2 => exact q.elim
  rename_i b d' ns xs e
  by_cases hh : b = a ∧ d' = d
  case neg => rw [if_neg hh] at q; exact q.elim
  obtain ⟨rfl, rfl⟩ := hh
  rw [if_pos ⟨rfl, rfl⟩] at q
  obtain ⟨v', e1, r⟩ := L.2 i _ e
  obtain ⟨rfl, hdx⟩ := exn_at r
  refine ⟨_, e1, v, u, isX D T, rfl, hcl, ?_, (c.sub _ hT _ hn).1, ?_⟩
  · rcases hdx with ⟨h1, _⟩ | ⟨dx, vs, h1, h2, _⟩
    · exact .inl h1
    · exact .inr ⟨dx, _, h1, h2⟩
  · have e9 : isOne D [T] = isX D T := by simp [isOne]
    rw [e9] at q
    exact q.ok R (.bl _)
/-- names of classes, in a tuple -/
inductive NmsX (X : Cx) (ts : List Str) : List Expr → List Str → Prop
  | nil : NmsX X ts [] []
  | cons {T : Str} {pT : Pos} {es : List Expr} {ns : List Str} (hT : T ∈ ts) (hg : Gl X T) (r : NmsX X ts es ns) : NmsX X ts (.Name T pT :: es) (T :: ns)
theorem NmsX.pa (A : XA X.K X.mg ds ts) {D : Str} {C : Addr} (c : XC X.K X.mg D ts C) : ∀ {es : List Expr} {ns : List Str}, NmsX X ts es ns → ∃ (vs : List V) (us : List Value) (t : TA), PA X es t ∧ Paired ClsV vs us ∧ vs.length = ns.length ∧ PySem.W.kitAny X.K (.ref C) us = some (isOne D ns) ∧ ∀ (σ : L2.St) (H : Hp) (Q : List V → Hp → Prop), Q vs H → t σ H Q
  | _, _, .nil => ⟨[], [], _, pa_nil, .nil, rfl, rfl, fun σ H Q q => q⟩
  | _, _, .cons (T := T) (ns := ns) hT hg r => by
    obtain ⟨vs, us, t, h1, h2, h2l, h3, h4⟩ := NmsX.pa A c r
    obtain ⟨v, u, hn, hcl⟩ := A.nm _ hT
    refine ⟨v :: vs, u :: us, _, pa_cons (pe_cls hn hcl hg) h1, .cons hcl h2, congrArg (· + 1) h2l, ?_, fun σ H Q q => h4 σ H _ q⟩
    have e := (c.sub _ hT _ hn).1
    unfold PySem.W.kitAny
    rw [e]
    have e9 : isOne D (T :: ns) = (isX D T || isOne D ns) := by simp [isOne]
    rw [e9]
    cases isX D T with
    | true => rfl
    | false => exact h3
theorem re_isT {i k : Nat} {x : Str} {es : List Expr} {ns : List Str} {p px pT pos : Pos} {a : Addr} {oe : Obj} {D : Str} {C : Addr} {d : Option Addr} {pn : List (Addr × Obj)} (A : XA X.K X.mg ds ts) (hD : D ∈ ds) (hC : X.mg D = some (.ref C)) (hz : Zc (.ref C) d oe) (hf : ∃ vs, oe.data = .fields vs) (hgI : Gl X "isinstance") (hmI : X.mg "isinstance" = none)
    (hN : X.N[i]? = some x) (hv : Vis X.env.scope x) (hns : NmsX (X.suite a ((a, oe) :: pn)) ts es ns) (hl : ns.length ≤ 1000 := by decide) (hd1 : (x == ("__debug__" : Str)) = false := by decide) (hd2 : (x == ("__classdict__" : Str)) = false := by decide) :
    RE (X.suite a ((a, oe) :: pn)) W (.Call (.Name "isinstance" p) [.Name x px, .Tuple es k pT] [] pos) (eIsX i a d D ns) := by
  obtain ⟨C', c⟩ := A.cl _ hD
  obtain rfl : C' = C := by
    have z := c.g.symm.trans hC
    cases z
    rfl
  have hx : PE (X.suite a ((a, oe) :: pn)) (.Name x px) (tVar i) := pe_var hN hv hd1 hd2
  obtain ⟨vs, us, t, h1, h2, h2l, h3, h4⟩ := NmsX.pa (X := X.suite a ((a, oe) :: pn)) A c hns
  refine ⟨fun pins s σ H Q I h => (pe_callB (call_isT c hz hf) hgI hmI PyProof.Rows.Boot.«isinstance» (pa_cons hx (pa_cons (pe_tup h1) pa_nil))).run pins s σ H Q I ?_⟩
  obtain ⟨ads, ss, st, R, L, q⟩ := h
  unfold eIsX at q
  split at q
  case h_2 => exact q.elim
  rename_i b d' ns' xs e
  by_cases hh : b = a ∧ d' = d
  case neg => rw [if_neg hh] at q; exact q.elim
  obtain ⟨rfl, rfl⟩ := hh
  rw [if_pos ⟨rfl, rfl⟩] at q
  obtain ⟨v', e1, r⟩ := L.2 i _ e
  obtain ⟨rfl, hdx⟩ := exn_at r
  refine ⟨_, e1, h4 _ _ _ ⟨by rw [h2l, sizeLine_eq]; omega, fun pp hp => ?_⟩⟩
  refine ⟨pp, vs, us, _, rfl, upd_same, h2, ?_, h3, ?_⟩
  · rcases hdx with ⟨h1, _⟩ | ⟨dx, vs, h1, h2, _⟩
    · exact .inl h1
    · exact .inr ⟨dx, _, h1, by rw [upd_ne (ne_of_none h2 hp)]; exact h2⟩
  · exact q ads _ _ (.newU hp) (R.newU hp) (.bl _)
theorem re_xf {i : Nat} {x f : Str} {px pos : Pos} {a : Addr} {oe : Obj} {D : Str} {C : Addr} {d : Option Addr} {pn : List (Addr × Obj)} (A : XA X.K X.mg ds ts) (hD : D ∈ ds) (hC : X.mg D = some (.ref C)) (hz : Zc (.ref C) d oe) (hf : ∃ vs, oe.data = .fields vs) (hff : f ∈ xfl)
    (hN : X.N[i]? = some x) (hv : Vis X.env.scope x) (hd1 : (x == ("__debug__" : Str)) = false := by decide) (hd2 : (x == ("__classdict__" : Str)) = false := by decide) (hb : attributeBase (.Name x px) f X.env (eval (.Name x px) X.env) = eval (.Name x px) X.env := by rfl) :
    RE (X.suite a ((a, oe) :: pn)) W (.Attribute (.Name x px) f pos) (eXf i a d f) := by
  obtain ⟨C', c⟩ := A.cl _ hD
  obtain rfl : C' = C := by
    have z := c.g.symm.trans hC
    cases z
    rfl
  have hx : PE (X.suite a ((a, oe) :: pn)) (.Name x px) (tVar i) := pe_var hN hv hd1 hd2
  refine ⟨fun pins s σ H Q I h => (pe_xf ⟨c.hg, c.hk, c.hs, c.hd⟩ (c.fl f hff) hz hf hx hb).run pins s σ H Q I ?_⟩
  obtain ⟨ads, ss, st, R, L, q⟩ := h
  unfold eXf at q
  split at q
  case h_2 => exact q.elim
  rename_i b d' ns xs e
  by_cases hh : b = a ∧ d' = d
  case neg => rw [if_neg hh] at q; exact q.elim
  obtain ⟨rfl, rfl⟩ := hh
  rw [if_pos ⟨rfl, rfl⟩] at q
  obtain ⟨v', e1, r⟩ := L.2 i _ e
  obtain ⟨rfl, hdx⟩ := exn_at r
  split at q
  case h_2 => exact q.elim
  rename_i v el
  rcases hdx with ⟨h1, h2, h3⟩ | ⟨dx, vs, h1, h2, h3, h4⟩
  · rw [h2] at el
    cases el
  · have z : ∀ {ns : List Str} {xs : List DV} {vs : List V}, RVs X.K ads H xs vs → (ns.zip xs).lookup f = some v → ∃ w, (ns.zip vs).lookup f = some w ∧ RV X.K ads H v w := by
      intro ns
      induction ns with
      | nil => intro xs vs _ h; cases h
      | cons n ns ih =>
        intro xs vs r h
        cases r with
        | nil => cases h
        | @cons x' v' xs' vs' r1 r2 =>
          rw [List.zip_cons_cons, List.lookup_cons] at h ⊢
          cases hq : f == n with
          | true => rw [hq] at h; cases h; exact ⟨v', rfl, r1⟩
          | false => rw [hq] at h; exact ih r2 h
    obtain ⟨w, hw, rw'⟩ := z h4 el
    exact ⟨_, e1, rfl, rfl, dx, _, w, h1, h2, hw, q.ok R rw'⟩
end

/-! ### for the walk's text -/
theorem NamesV.own {mg : Str → Option Value} {T : Str} {c : Value} (h : (T == ("__debug__" : Str)) = false) (g : mg T = some c) : NamesV mg T c := ⟨h, .inl g⟩
theorem NamesV.blt {mg : Str → Option Value} {T : Str} {c : Value} (h : (T == ("__debug__" : Str)) = false) (g : mg T = none) (b : bootBuiltins T = some c) (n : T ≠ "__name__") : NamesV mg T c := ⟨h, .inr ⟨g, b, n⟩⟩
abbrev veM : List Value := [.type "ValueError", .type "Exception", .type "BaseException", .type "object"]
structure XR0 (K : PySem.W.Frag) (mg : Str → Option Value) (x : Str) : Prop where
  ex : ∃ ts C, XC K mg x ts C ∧ PySem.W.excIn K C veM "ValueError.__new__" = true
structure XR1 (P : Program) (w : World) (K : PySem.W.Frag) (mg : Str → Option Value) (base : Heap) (x f1 : Str) (k : Nat) : Prop where
  ex : ∃ ts C, XC K mg x ts C ∧ XI1 P w K mg base x f1 k C
structure XR2 (P : Program) (w : World) (K : PySem.W.Frag) (mg : Str → Option Value) (base : Heap) (x f1 f2 : Str) (k : Nat) : Prop where
  ex : ∃ ts C, XC K mg x ts C ∧ XI2 P w K mg base x f1 f2 k C
section
variable {X : Cx} {W : WX} {ts ds : List Str}
theorem rs_rai0 {x m : Str} {j : Nat} {p p2 pos pos' : Pos} (r : XR0 X.K X.mg x) (hc : X.calm = true) (tk : Takes X W) (hg : Gl X x)
    (hdb : (x == ("__debug__" : Str)) = false := by decide) : RS X W (.Raise (some (.Call (.Name x p) [.Constant (.str m) j p2] [] pos)) none pos') (sRai x) := by
  obtain ⟨ts, C, c, q⟩ := r.ex
  exact rs_raise0 PySem.F.excBase_ValueError hc tk c q hg hdb
theorem rs_rai1 {x f1 : Str} {e : Expr} {es : List Expr} {ms : List Ex} {p pos pos' : Pos} {k : Nat} (r : XR1 X.prog X.w X.K X.mg X.base x f1 k) (hc : X.calm = true) (tk : Takes X W) (hr : Room (k + 1) X.A) (hg : Gl X x) (ha : RA X W (e :: es) ms)
    (hdb : (x == ("__debug__" : Str)) = false := by decide) (he : starEach (e :: es) X.env = (false, eval e X.env) :: starEach es X.env := by rfl) (hpl : (backTo pos (starEach es X.env)).any (·.1) = false := by rfl) :
    RS X W (.Raise (some (.Call (.Name x p) (e :: es) [] pos)) none pos') (sRaiF x [f1] ms) := by
  obtain ⟨ts, C, c, q⟩ := r.ex
  exact rs_raise1 hc tk c q hr hg ha hdb he hpl
theorem rs_rai2 {x f1 f2 : Str} {e : Expr} {es : List Expr} {ms : List Ex} {p pos pos' : Pos} {k : Nat} (r : XR2 X.prog X.w X.K X.mg X.base x f1 f2 k) (hc : X.calm = true) (tk : Takes X W) (hr : Room (k + 1) X.A) (hg : Gl X x) (ha : RA X W (e :: es) ms)
    (hdb : (x == ("__debug__" : Str)) = false := by decide) (he : starEach (e :: es) X.env = (false, eval e X.env) :: starEach es X.env := by rfl) (hpl : (backTo pos (starEach es X.env)).any (·.1) = false := by rfl) :
    RS X W (.Raise (some (.Call (.Name x p) (e :: es) [] pos)) none pos') (sRaiF x [f1, f2] ms) := by
  obtain ⟨ts, C, c, q⟩ := r.ex
  exact rs_raise2 hc tk c q hr hg ha hdb he hpl
end
def oexB (K : PySem.W.Frag) (C : Addr) : Bool := match K.lookup C with
  | some ⟨.type "type", _, .cls cd, sl⟩ => (match cd.mro, sl.toList with
    | .ref C' :: bm, [_, _, _, _, some (.builtin n), _] => C' == C && n == "ValueError.__new__" && !cd.hasDel && cd.hasDict && PySem.HandSPX.refsVE bm && decide (PySem.W.findIn K (.ref C) "__setattr__" = some (some (.builtin "object.__setattr__")))
    | _, _ => false)
  | _ => false
theorem oex_of {K : PySem.W.Frag} {mg : Str → Option Value} {D : Str} {ts : List Str} {C : Addr} (c : XC K mg D ts C) (h : oexB K C = true) : OexC K C := by
  unfold oexB at h
  split at h
  · rename_i dd cd sl ho
    split at h
    · rename_i C' bm k0 k1 k2 k3 n k5 hm hs
      simp only [Bool.and_eq_true, beq_iff_eq, Bool.not_eq_true', decide_eq_true_eq] at h
      obtain ⟨⟨⟨⟨⟨rfl, rfl⟩, hdel⟩, hdct⟩, hv⟩, hsa⟩ := h
      obtain ⟨nm, bs, mro, ns, qn, hd, sn, sub, ab, col, del⟩ := cd
      dsimp only at hm hdel hdct
      subst hm hdel hdct
      have hsl : sl = #[k0, k1, k2, k3, some (.builtin "ValueError.__new__"), k5] := by
        obtain ⟨l⟩ := sl
        simp only at hs
        rw [hs]
      subst hsl
      exact ⟨⟨nm, qn, ns, bs, bm, sn, sub, ab, col, dd, k0, k1, k2, k3, k5, ho, hv⟩, hsa, c.hs, c.ty, c.kp⟩
    · cases h
  · cases h
end ML

/-! ML32: the law's own frame, where it is known that nothing is being shown: repr. -/
namespace ML
open PySem PySem.Spec PyProof.Rows L2
/-- a def that is only asked where no repr is under way -/
structure FnG (P : Program) (w : World) (K : PySem.W.Frag) (mg : Str → Option Value) (base : Heap) (CX : CXT) (k : Nat) (f : Addr) (ps : List Str) (fd : FuncData) (sp : Sp) : Prop where
  go : ∀ {A : Around} {outer : List Env} {s : Shared} {H : Hp} {args : Args} {us : List Value} {vs : List V} {Q : VK} {E : XK}, A.guards = some [] → Room k A → Env0 P w K mg base A outer s H → BindsTo s fd args (ps.zip us) → Vals vs us →
    sp vs H Q E → codeAny (model P w) A (.call (.ref f) args) (CR CX outer P w H s Q E) s
section
variable {P : Program} {w : World} {K : PySem.W.Frag} {mg : Str → Option Value} {CX : CXT} {k : Nat}
theorem fnG_of {base : Heap} {f : Addr} {name qual : Str} {params : Arguments} {body : List Stmt} {scope : Scope} {dV kV doc pm cdv ct oc : Value} {an od : Option Addr} {osl : Array (Option Value)} {N ps : List Str} {sp : Sp}
    (lk : K.lookup f = some ⟨oc, od, .func (PySem.W.fnOf name qual params body scope dV kV doc pm an cdv ct), osl⟩) (hcd : PySem.W.codeIn K cdv qual = true) (S : FnScope N ps scope)
    (hl : ∀ {vs : List V} {H : Hp} {Q : VK} {E : XK}, sp vs H Q E → vs.length = ps.length)
    (hb : ∀ {A : Around} {outer : List Env} {s : Shared} {H : Hp} {vs : List V} {Q : VK} {E : XK}, A.guards = some [] → Room k (A.deeper (envOfC qual scope s.heap.objs.size f cdv)) → sp vs H Q E →
      ∃ t, PSs (cxOf CX P w K mg base N qual scope f cdv A outer s H E) body t ∧ t { nx := fun _ H' => Q .non H', rt := Q } (start N vs) H) :
    FnG P w K mg base CX (k + 1) f ps (PySem.W.fnOf name qual params body scope dV kV doc pm an cdv ct) sp := by
  constructor
  intro A outer s H args us vs Q E hgd room env binds rel spec
  obtain ⟨t, walk, begin_⟩ := hb hgd (room.deeper (envOfC qual scope s.heap.objs.size f cdv)) spec
  have kin := env.mod.kin.keeps (h' := s.heap) fun b o e => (env.bs b o e).1
  have kinds : ∀ y ∈ ps.zip us, scope.names.lookup y.1 = some .local ∨ (scope.names.lookup y.1 = some .cell ∧ ((cellsFrom (s.heap.objs.size + 1) scope.names []).lookup y.1).isSome = true) := by
    rintro ⟨n, v⟩ hy
    exact (S.par n (List.of_mem_zip hy).1).imp id fun q => ⟨q, PySem.W.cellsFrom_some _ _ _ (.inl q)⟩
  refine codeAny_call_function room.depth (kin _ _ lk) rfl S.co S.gen rfl (PySem.W.codeRec_of kin hcd) (binds _ _ _ _ (wpAny_newFunctionEnv_cells S.kind kinds fun e he s1 x => ?_))
  cases he
  refine ⟨(env.mod.nolimit.keeps fun b o e => (env.bs b o e).1).keeps x.toInCall.keep, codeAny_func (wpAny_mono (walk.run [] s1 (start N vs) H _ (inv_start S room.hd env (hl spec) rel x) begin_) (fun fl s' done => ?_) fun _ _ z => z)⟩
  match fl, done with
  | .ret u, ⟨v, σ', H', J, rv, q⟩ => exact ⟨v, H', J.os, J.bare, J.base, J.hok, rv, q⟩
  | .next, ⟨σ', H', J, q⟩ => exact ⟨.non, H', J.os, J.bare, J.base, J.hok, rfl, q⟩
  | .brk, ⟨_, _, _, q⟩ => exact q.elim
  | .cont, ⟨_, _, _, q⟩ => exact q.elim
/-- where the law begins: only its script is tracked, if it is no object of the text -/
theorem law_ground {mb : Str → Option Value} {a : Addr} {s : Shared} {vs : List Value} {ns : List Int} (KX : K.In s.heap) (hns : s.heap.Ns mainGlobals mg) (hb : s.heap.Ns builtinsNs mb) (hbb : ∀ x : Str, x ≠ "__name__" → mb x = bootBuiltins x) (hlim : s.heap.NoLimit) (hg : s.gens = #[])
    (ha : s.heap.get? a = some { cls := .type "list", data := .seq vs.toArray }) (hi : IntsAre vs ns) (hl : ns.length ≤ sizeLine) :
    ∃ H : Hp, Only H ∧ SqL K H a (ns.map V.int) ∧ Env0 P w K mg (hidT s.heap H) callerA [] s H ∧ ∀ b u, H b = some u → ∃ o xs, u = .frz o (.lst xs) ∧ s.heap.get? b = some o := by
  obtain ⟨H, only, sq, ok, own⟩ : ∃ H : Hp, Only H ∧ SqL K H a (ns.map V.int) ∧ HOk P w H s.heap ∧ ∀ b u, H b = some u → b = a ∧ K.lookup a = none ∧ ∃ xs, u = .frz { cls := .type "list", data := .seq vs.toArray } (.lst xs) := by
    cases hk : K.lookup a with
    | some o =>
      have e := KX a o hk
      rw [ha] at e
      cases e
      exact ⟨fun _ => none, fun _ => .inl rfl, .inr ⟨_, vs.toArray, _, hk, rfl, rfl, rfl, by rw [List.size_toArray, hi.length]; exact hl, by simpa using vals_ints hi⟩, (fun b u z => by cases z), fun b u z => by cases z⟩
    | none =>
      have at_ : ∀ b u, (if b = a then some (HO.frz { cls := .type "list", data := .seq vs.toArray } (.lst (ns.map V.int))) else none) = some u → b = a ∧ u = .frz { cls := .type "list", data := .seq vs.toArray } (.lst (ns.map V.int)) := by
        intro b u z
        split at z
        · exact ⟨by assumption, (Option.some.inj z).symm⟩
        · cases z
      refine ⟨fun b => if b = a then some (.frz { cls := .type "list", data := .seq vs.toArray } (.lst (ns.map V.int))) else none, fun b => ?_, .inl (.inr ⟨_, if_pos rfl⟩), fun b u z => ?_, fun b u z => ?_⟩
      · by_cases q : b = a
        · exact .inr ⟨_, _, if_pos q⟩
        · exact .inl (if_neg q)
      · obtain ⟨rfl, rfl⟩ := at_ b u z
        exact ⟨ha, by rw [List.length_map]; exact hl, vs, _, vals_ints hi, ha⟩
      · obtain ⟨q, rfl⟩ := at_ b u z
        exact ⟨q, rfl, _, rfl⟩
  have stays : ∀ {b : Addr} {o : Obj}, s.heap.get? b = some o → (b = a → o ≠ { cls := .type "list", data := .seq vs.toArray } ∨ K.lookup a ≠ none) → (hidT s.heap H).get? b = some o := fun {b o} e h => hidT_get e (by
    cases q : H b with
    | none => rfl
    | some u =>
      obtain ⟨rfl, nk, _⟩ := own b u q
      rw [ha] at e
      rcases h rfl with h | h
      · exact absurd (Option.some.inj e).symm h
      · exact absurd nk h)
  have nsH : ∀ {b : Addr} {m : Str → Option Value}, s.heap.Ns b m → (hidT s.heap H).Ns b m := fun {b m} ⟨o, es, ep, e, d, r⟩ => ⟨o, es, ep, stays e fun _ => .inl fun z => (by rw [z] at d; cases d), d, r⟩
  have kin : K.In (hidT s.heap H) := fun b o e => stays (KX b o e) fun q => .inr (by rw [← q, e]; exact fun z => nomatch z)
  refine ⟨H, only, sq, ⟨rfl, ⟨kin, nsH hns, ⟨mb, nsH hb, hbb⟩, ?_⟩, fun b o e => of_hidT e, Nat.le_of_eq (hidT_size _ _), trivial, fun b hb => absurd hb List.not_mem_nil, ok, .of_eq hg⟩, fun b u z => ?_⟩
  · obtain ⟨mc, h1, h2⟩ := hlim
    exact ⟨mc, nsH h1, h2⟩
  · obtain ⟨rfl, _, xs, rfl⟩ := own b u z
    exact ⟨_, xs, rfl, ha⟩
theorem law_callG {mb : Str → Option Value} {fa a : Addr} {fd : FuncData} {x : Str} {sp : Sp} {s : Shared} {vs : List Value} {ns : List Int} (KX : K.In s.heap) (hns : s.heap.Ns mainGlobals mg) (hb : s.heap.Ns builtinsNs mb) (hbb : ∀ x : Str, x ≠ "__name__" → mb x = bootBuiltins x) (hlim : s.heap.NoLimit) (hg : s.gens = #[])
    (ha : s.heap.get? a = some { cls := .type "list", data := .seq vs.toArray }) (hi : IntsAre vs ns) (hl : ns.length ≤ sizeLine) (room : Room k callerA) (F : ∀ base : Heap, K.In base → base.Ns mainGlobals mg → FnG P w K mg base CX k fa [x] fd sp) (binds : ∀ (s : Shared) (u : Value), BindsTo s fd ⟨[u], []⟩ [(x, u)])
    (hsp : ∀ H : Hp, Only H → SqL K H a (ns.map V.int) → sp [.ref a] H (fun v _ => v = .bl true) fun _ _ _ => False) (hx : ∀ H e s', CX [] H s (fun _ _ _ => False) e s' → False) :
    codeAny (model P w) callerA (.call (.ref fa) ⟨[.ref a], []⟩) (fun r s' => r = .ok (.ret (.bool true)) ∧ OldK s.heap s'.heap ∧ s'.os = s.os ∧ AllBare s'.gens) s := by
  obtain ⟨H, only, sq, env, own⟩ := law_ground (P := P) (w := w) KX hns hb hbb hlim hg ha hi hl
  refine codeAny_mono ((F _ env.mod.kin env.mod.glob).go rfl room env (binds s (.ref a)) (us := [.ref a]) (vs := [.ref a]) (.cons rfl .nil) (hsp H only sq)) fun r s' end_ => ?_
  match r, end_ with
  | .error e, z => exact (hx H e s' z).elim
  | .ok .next, z => exact z.elim
  | .ok .brk, z => exact z.elim
  | .ok .cont, z => exact z.elim
  | .ok (.ret u), ⟨v, H', os, bare, un, ok', rv, ev⟩ =>
    have ev : v = .bl true := ev
    subst ev
    cases (show u = Value.bool true from rv)
    refine ⟨rfl, OldK.of_keep fun b o e => ?_, os, bare⟩
    cases q : H b with
    | none => exact un.keep b o e q (fun z => absurd z List.not_mem_nil) List.not_mem_nil
    | some u =>
      obtain ⟨o', xs, rfl, e'⟩ := own b u q
      rw [e] at e'
      cases e'
      exact (ok' b _ (un.frzs b o _ q)).1
end
/-- from the law's promise, where its def is only asked in the first frame -/
theorem walk_ofG {l : PySem.W.OpenLaw} {n k : Nat} {q : Program} {loose : List Str} {XP : (Str → Option Value) → Heap → Prop} {YP : World → Heap → Prop} {d : DefRec} {K : Params → PySem.W.Frag} {CX : World → CXT} {sp : World → Sp} {x : Str}
    (hn : l.most = some n) (hn2 : n ≤ sizeLine) (hdf : d.params.defaults = []) (hr : Room k callerA) (hY : ∀ (w : World) (h : Heap), YP w h → (K w.params).In h)
    (F : ∀ (w : World) (mg : Str → Option Value) (fa : Addr) (h : Heap), (K w.params).In h → h.Ns mainGlobals mg → mg d.name = some (.ref fa) →
      ∃ fd : FuncData, (∀ (s : Shared) (u : Value), BindsTo s fd ⟨[u], []⟩ [(x, u)]) ∧ ∀ base : Heap, (K w.params).In base → base.Ns mainGlobals mg → FnG l.prog w (K w.params) mg base (CX w) k fa [x] fd (sp w))
    (hsp : ∀ (w : World) (H : Hp) (a : Addr) (ns : List Int), ns.length ≤ n → Only H → SqL (K w.params) H a (ns.map V.int) → sp w [.ref a] H (fun v _ => v = .bl true) fun _ _ _ => False)
    (hCX : ∀ (w : World) (H : Hp) (s : Shared) (e : Value) (s' : Shared), CX w [] H s (fun _ _ _ => False) e s' → False) : PySem.W.WalkO q loose XP YP l.row.toRowW d [] (fun f vs => PySem.call f vs) :=
  Att.attach_call hn hdf fun w _ s₁ mg _ fa _ _ _ _ a _ ns G Y _ _ _ hmg obj are len gens => by
    obtain ⟨fd, binds, go⟩ := F w mg fa _ (hY w _ Y) G.T.g hmg
    exact law_callG (hY w _ Y) G.T.g G.T.b G.T.builtins G.T.nolimit gens obj are (Nat.le_trans len hn2) hr go binds (fun H o q => hsp w H a ns len o q) fun H e s' => hCX w H s₁ e s'

/-! ### repr -/
/-- what can be shown -/
def Shw (d : PyData) : Prop := d.showable = true ∧ d.hasDict = false ∧ d.depth ≤ 60 ∧ d.shown.length ≤ 16777216
open Classical in
noncomputable def reprM : List DV → M DV
  | [x] => fun st => if h : ∃ d, Rd st x d ∧ Shw d then .ok (.str h.choose.shown) st else .bad
  | _ => stuck
open Classical in
theorem reprM_of {st : Sto} {x : DV} {d : PyData} (h : Rd st x d) (s : Shw d) : reprM [x] st = .ok (.str d.shown) st := by
  have q : ∃ d, Rd st x d ∧ Shw d := ⟨d, h, s⟩
  show (if h : ∃ d, Rd st x d ∧ Shw d then Out.ok (DV.str h.choose.shown) st else .bad) = _
  rw [dif_pos q, q.choose_spec.1.inj h]
open Classical in
theorem cm_repr {X : Cx} (hg : X.A.guards = some []) (hu : X.A.units + 64 < cLine) : CallM X (.builtin "repr") reprM := by
  intro pins s σ H vs us Q ads as st W I R rv r p
  match as, rv, p with
  | [], _, p => exact (p : False).elim
  | _ :: _ :: _, _, p => exact (p : False).elim
  | [x], rv, p =>
    obtain ⟨v, rfl, hv⟩ := rv.one
    obtain ⟨u, rfl, ru⟩ := vals1 r
    have p : post X.K X.mg W (rV X.K) σ ads H (if h : ∃ d, Rd st x d ∧ Shw d then .ok (.str h.choose.shown) st else .bad) Q := p
    by_cases h : ∃ d, Rd st x d ∧ Shw d
    case neg => rw [dif_neg h] at p; exact (p : False).elim
    rw [dif_pos h] at p
    obtain ⟨hr, h1, h2, h3, h4⟩ := h.choose_spec
    revert p hr h1 h2 h3 h4
    generalize h.choose = d
    intro p hr h1 h2 h3 h4
    have q := p.ok R (.str _)
    have hz : d.shown.length ≤ sizeLine := by rw [sizeLine_eq]; exact h4
    obtain ⟨as, rd⟩ := Dp.reads I d v u (hr.dp R hv) ru
    have fin : ∀ (h' : Heap) (tk tk' : Tok), (∀ b o, s.heap.get? b = some o → h'.get? b = some o) → EP X pins σ Q (.str d.shown tk) { s with heap := h', toks := tk' } := fun h' tk tk' k => ⟨.str _, H, I.kept (t' := tk') k, ⟨_, rfl⟩, q⟩
    cases rd with
    | none => exact PySem.P.repr_of_none (fin _ _ _ fun _ _ e => e)
    | bool b => exact PySem.P.repr_of_bool (fin _ _ _ fun _ _ e => e)
    | int i t => exact PySem.P.repr_of_int (of_decide_eq_true h1) (fin _ _ _ fun _ _ e => e)
    | str z t => exact PySem.P.repr_of_str (fin _ _ _ fun _ _ e => e) hz
    | list e1 e2 e3 e4 => exact repr_of_reads' (.list e1 e2 e3 e4) h1 (PyData.noDict_hsm h2) hg (by omega) (fun _ _ e => e) (fun h' tk tk' k => fin h' tk tk' k) hz
    | tuple e1 e2 e3 e4 => exact repr_of_reads' (.tuple e1 e2 e3 e4) h1 (PyData.noDict_hsm h2) hg (by omega) (fun _ _ e => e) (fun h' tk tk' k => fin h' tk tk' k) hz
    | dict => cases h2

/-! ### the law's def -/
section
variable {P : Program} {w : World} {K : PySem.W.Frag} {mg : Str → Option Value} {base : Heap}
theorem fn_okG {x qual : Str} {st : Stmt} {f : Addr} {fd : FuncData} {N ps : List Str} {k : Nat} {body : Stt} (F : Fun K x qual st f fd) (S : FnScope N ps (defScope st))
    (hbody : ∀ (cdv : Value) (A : Around) (outer : List Env) (s : Shared) (H : Hp) (E : XK), A.guards = some [] → Room k (A.deeper (envOfC qual (defScope st) s.heap.objs.size f cdv)) →
      RSs (cxOf (L2.CX P w) P w K mg base N qual (defScope st) f cdv A outer s H E) (fun cls d _ H => E cls d H) (defBody st) body) : FnG P w K mg base (L2.CX P w) (k + 1) f ps fd (spM K mg (fnM ps.length N.length body)) := by
  obtain ⟨oc, od, kV, doc, pm, an, cdv, ct, osl, rfl, lk, hcd⟩ := F.ex
  refine fnG_of lk hcd S (fun {vs H Q E} h => ?_) fun {A outer s H vs Q E} hgd hr h => ⟨_, hbody cdv A outer s H E hgd hr, ?_⟩
  · obtain ⟨ads, as, st, R, rv, p⟩ := h
    unfold fnM at p
    by_cases hl : as.length = ps.length
    · rw [← rv.length, hl]
    · rw [if_neg hl] at p
      exact p.elim
  · obtain ⟨ads, as, st0, R, rv, p⟩ := h
    unfold fnM at p
    by_cases hl : as.length = ps.length
    case neg => rw [if_neg hl] at p; exact p.elim
    rw [if_pos hl] at p
    refine ⟨ads, as.map some ++ List.replicate (N.length - ps.length) none, st0, R, ⟨?_, fun i d hi => ?_⟩, ?_⟩
    · unfold L2.start
      simp [rv.length, ← hl]
    · by_cases hi' : i < as.length
      · rw [List.getElem?_append_left (by simpa using hi'), List.getElem?_map] at hi
        cases e : as[i]? with
        | none => rw [e] at hi; cases hi
        | some d' =>
          rw [e] at hi
          cases hi
          obtain ⟨v, h1, h2⟩ := rv.get e
          refine ⟨v, ?_, h2⟩
          unfold L2.start
          rw [List.getElem?_append_left (by rw [List.length_map, ← rv.length]; exact hi'), List.getElem?_map, h1]
          rfl
      · rw [List.getElem?_append_right (by simpa using hi'), List.getElem?_replicate] at hi
        split at hi <;> cases hi
    · revert p
      generalize body (as.map some ++ List.replicate (N.length - ps.length) none) st0 = o
      intro p
      cases o with
      | ok fl st' =>
        cases fl with
        | nx ss => exact fun ads' H' σ' f R' L' => p ads' H' .non f R' .non
        | bk ss => exact (p : False).elim
        | ct ss => exact (p : False).elim
        | rt d => exact fun ads' H' v f R' r => p ads' H' v f R' r
        | rs e ss => exact fun ads' H' σ' c d f R' L' x => p ads' H' c d f R' x
      | exc e st' => exact (p : False).elim
      | bad => exact (p : False).elim
theorem law_okG {k n : Nat} {f : Addr} {fd : FuncData} {ps : List Str} {g : List DV → M DV} (F : FnG P w K mg base (L2.CX P w) k f ps fd (spM K mg g))
    (hg : ∀ ns : List Int, ns.length ≤ n → ∃ st, g [.fzl (ns.map DV.int)] [] = .ok (.bl true) st) : FnG P w K mg base (L2.CX P w) k f ps fd (spL K n) := by
  refine ⟨fun {A outer s H args us vs Q E} a b c d r h => F.go a b c d r ?_⟩
  obtain ⟨a, ns, e, hl, ho, hs, hq⟩ := h
  subst e
  obtain ⟨st, e⟩ := hg ns hl
  have fz : FzL K H a (ns.map V.int) := by
    rcases hs with (h | ⟨o, h⟩) | h
    · rcases ho a with h' | ⟨o, xs, h'⟩
      · rw [h] at h'; cases h'
      · rw [h] at h'; cases h'
    · exact .inl ⟨o, h⟩
    · exact .inr h
  refine ⟨[], [.fzl (ns.map DV.int)], [], .nil, .cons (.fzl fz (rvs_ints ns)) .nil, ?_⟩
  rw [e]
  intro ads' H' b _ _ r
  cases r
  exact hq H'
end
end ML

/-! ML33: int(text). -/
namespace ML
open PySem PySem.Spec PyProof.Rows L2
def intSM : List DV → M DV
  | [.str a] => fun st => match PySem.intText? a with
    | some n => if a.length ≤ 640 then .ok (.int n) st else .bad
    | none => .bad
  | _ => stuck
theorem cm_intS {X : Cx} : CallM X (.type "int") intSM := by
  intro pins s σ H vs us Q ads as st W I R rv r p
  match as, rv, p with
  | [], _, p => exact (p : False).elim
  | x :: _ :: _, _, p => cases x <;> exact (p : False).elim
  | [x], rv, p =>
    obtain ⟨v, rfl, hv⟩ := rv.one
    cases hv with
    | str a =>
      have p : post X.K X.mg W (rV X.K) σ ads H (match PySem.intText? a with
        | some n => if a.length ≤ 640 then .ok (.int n) st else .bad
        | none => .bad) Q := p
      cases e : PySem.intText? a with
      | none => rw [e] at p; exact (p : False).elim
      | some n =>
        rw [e] at p
        have p : post X.K X.mg W (rV X.K) σ ads H (if a.length ≤ 640 then .ok (.int n) st else .bad) Q := p
        by_cases hz : a.length ≤ 640
        · rw [if_pos hz] at p
          exact call_int_str pins s σ H _ us Q I r ⟨a, n, rfl, e, hz, p.ok R (.int _)⟩
        · rw [if_neg hz] at p
          exact (p : False).elim
    | _ => exact (p : False).elim
end ML

/-! the head's facts, looked at by one Bool -/
namespace ML
open PySem PySem.Spec PyProof.Rows L2
/-- what these name -/
def lvA (g : Addr → Option Obj) (as : List Addr) : List Addr := as.flatMap fun a => match g a with
  | some o => He.refsD o
  | none => []
def asM (g : Addr → Option Obj) : List Addr := mainGlobals :: (lvA g [mainGlobals] ++ (lvA g (lvA g [mainGlobals]) ++ (lvA g (lvA g (lvA g [mainGlobals])) ++ lvA g (lvA g (lvA g (lvA g [mainGlobals]))))))
def obsM (ck : PySem.W.Frag → Bool) (fn : List He.FnD) (K : PySem.W.Frag) : He.Al := (ck K && fn.all fun d => (He.Fa.code d.at_ d.qual).ok K, fn.map fun d => He.fnObs K d.at_)
def SaysM (ck : PySem.W.Frag → Bool) (fn : List He.FnD) (K : PySem.W.Frag) : Prop := obsM ck fn K = He.valE fn
def obsMG (ck : PySem.W.Frag → Bool) (fn : List He.FnD) (g : Addr → Option Obj) : He.Al := obsM ck fn (He.frG g (asM g))
def hookM (ck : PySem.W.Frag → Bool) (fn : List He.FnD) : PySem.W.Hook where
  α := He.Al
  obs s := obsMG ck fn s.heap.get?
  val _ := He.valE fn
  says _ h := ∃ K : PySem.W.Frag, K.In h ∧ SaysM ck fn K
  of _ s e := ⟨He.frG s.heap.get? (asM s.heap.get?), He.frG_in, e⟩
  keeps _ _ _ z k := by
    obtain ⟨K, hK, c⟩ := z
    exact ⟨K, PySem.W.Frag.In.keeps hK k, c⟩
theorem obsMG_eq {ck : PySem.W.Frag → Bool} {fn : List He.FnD} {g : Addr → Option Obj} {s : Shared} (h : ∀ a, g a = s.heap.get? a) : obsMG ck fn g = (hookM ck fn).obs s := by
  obtain rfl : g = s.heap.get? := funext h
  rfl
section
variable {ck : PySem.W.Frag → Bool} {fn : List He.FnD} {K : PySem.W.Frag}
theorem SaysM.ck_ (c : SaysM ck fn K) : ck K = true := (Bool.and_eq_true_iff.mp (show (ck K && fn.all fun d => (He.Fa.code d.at_ d.qual).ok K) = true from congrArg Prod.fst c)).1
theorem SaysM.def_ (c : SaysM ck fn K) (i : Nat) {d : He.FnD} (h : fn[i]? = some d) :
    ∃ oc od osl kV doc pm an cdv ct, K.lookup (He.fAd K d.at_) = some ⟨oc, od, .func (PySem.W.fnOf d.name d.qual d.params d.body d.scope .none kV doc pm an cdv ct), osl⟩ ∧ PySem.W.codeIn K cdv d.qual = true := by
  have a := (Bool.and_eq_true_iff.mp (show (ck K && fn.all fun d => (He.Fa.code d.at_ d.qual).ok K) = true from congrArg Prod.fst c)).2
  have b : fn.map (fun d => He.fnObs K d.at_) = fn.map He.FnD.val := congrArg Prod.snd c
  have e := congrArg (fun l : List He.FnV => l[i]?) b
  simp only [List.getElem?_map, h, Option.map_some, Option.some.injEq] at e
  exact He.fn_ok e (List.all_eq_true.mp a d (List.mem_of_getElem? h))
end
/-! constants -/
def tokI (K : PySem.W.Frag) (x : Str) (i : Int) : Bool := match PySem.W.nsIn K mainGlobals x with
  | some (some (.int j _)) => decide (j = i)
  | _ => false
theorem tokI_ok {K : PySem.W.Frag} {x : Str} {i : Int} (h : tokI K x i = true) : ∃ t, PySem.W.nsIn K mainGlobals x = some (some (.int i t)) := by
  unfold tokI at h
  split at h
  · next j t e =>
    rw [e, of_decide_eq_true h]
    exact ⟨t, rfl⟩
  · cases h
def tokS (K : PySem.W.Frag) (x i : Str) : Bool := match PySem.W.nsIn K mainGlobals x with
  | some (some (.str j _)) => decide (j = i)
  | _ => false
theorem tokS_ok {K : PySem.W.Frag} {x i : Str} (h : tokS K x i = true) : ∃ t, PySem.W.nsIn K mainGlobals x = some (some (.str i t)) := by
  unfold tokS at h
  split at h
  · next j t e =>
    rw [e, of_decide_eq_true h]
    exact ⟨t, rfl⟩
  · cases h
def tupC (K : PySem.W.Frag) (x : Str) (vs : List V) : Bool := match K.lookup (He.ga K x) with
  | some ⟨.type c, _, .seq its _, _⟩ => decide (c = "tuple") && (decide (its.size ≤ 1000) && He.relAll vs its.toList)
  | _ => false
theorem tupC_ok {K : PySem.W.Frag} {x : Str} {vs : List V} (h : tupC K x vs = true) : ∃ od its n sl, K.lookup (He.ga K x) = some ⟨.type "tuple", od, .seq its n, sl⟩ ∧ Vals vs its.toList ∧ its.size ≤ 1000 := by
  unfold tupC at h
  split at h
  · next c od its n sl e =>
    simp only [Bool.and_eq_true, decide_eq_true_eq] at h
    obtain ⟨rfl, h2, h3⟩ := h
    exact ⟨od, its, n, sl, e, He.relAll_ok h3, h2⟩
  · cases h
theorem ok_G {P : Program} {w : World} {K : PySem.W.Frag} {mg : Str → Option Value} {base : Heap} {CX : CXT} {k : Nat} {f : Addr} {fd : FuncData} {ps : List Str} {sp : Sp} (F : FnOk P w K mg base CX k f fd ps sp) : FnG P w K mg base CX k f ps fd sp :=
  ⟨fun {A outer s H args us vs Q E} _ r e b v q => F.run A outer s H args us vs Q E r e b v q⟩
/-- from the law's promise, over a head by such a look -/
theorem walk_ofH {l : PySem.W.OpenLaw} {n k : Nat} {q : Program} {loose : List Str} {XP : (Str → Option Value) → Heap → Prop} {YP : World → Heap → Prop} {d : DefRec} {CX : World → CXT} {x : Str}
    (hn : l.most = some n) (hn2 : n ≤ sizeLine) (hdf : d.params.defaults = []) (hr : Room k callerA)
    (F : ∀ (w : World) (mg : Str → Option Value) (fa : Addr) (h : Heap), YP w h → h.Ns mainGlobals mg → mg d.name = some (.ref fa) → ∃ K : PySem.W.Frag, K.In h ∧
      ∃ fd : FuncData, (∀ (s : Shared) (u : Value), BindsTo s fd ⟨[u], []⟩ [(x, u)]) ∧ ∀ base : Heap, K.In base → base.Ns mainGlobals mg → FnG l.prog w K mg base (CX w) k fa [x] fd (spL K n))
    (hCX : ∀ (w : World) (H : Hp) (s : Shared) (e : Value) (s' : Shared), CX w [] H s (fun _ _ _ => False) e s' → False) : PySem.W.WalkO q loose XP YP l.row.toRowW d [] (fun f vs => PySem.call f vs) :=
  Att.attach_call hn hdf fun w _ s₁ mg _ fa _ _ _ _ a ns0 ns G Y _ _ _ hmg obj are len gens => by
    obtain ⟨K, KX, fd, binds, go⟩ := F w mg fa _ Y G.T.g hmg
    exact law_callG KX G.T.g G.T.b G.T.builtins G.T.nolimit gens obj are (Nat.le_trans len hn2) hr go binds (fun H o q => ⟨a, ns, rfl, len, o, q, fun _ => rfl⟩) fun H e s' => hCX w H s₁ e s'
end ML

/-! MP1: what a mirror's run comes to. -/
namespace ML
open PySem PySem.Spec PyProof.Rows L2
theorem nd {a b : Prop} (h : a = b) : a = b := h
abbrev PQ (A : Type) := A → Sto → Prop
abbrev XQ := DX → Sto → Prop
def Wp {A : Type} (o : Out A) (Q : PQ A) (E : XQ) : Prop := match o with
  | .ok a st => Q a st
  | .exc e st => E e st
  | .bad => False
def tB {A B : Type} (f : A → M B) (Q : PQ B) (E : XQ) : PQ A := fun a st => Wp (f a st) Q E
def NX : XQ := fun _ _ => False
section
variable {A B : Type} {m : M A} {f : A → M B} {st : Sto} {ss : Sl} {Q : PQ A} {QB : PQ B} {QD : PQ DV} {QF : PQ Fl} {QT : PQ Bool} {E : XQ}
theorem Wp.imp {o : Out A} {Q Q' : PQ A} {E E' : XQ} (h : Wp o Q E) (hq : ∀ a st, Q a st → Q' a st) (he : ∀ e st, E e st → E' e st) : Wp o Q' E' := by
  cases o with
  | ok a st => exact hq _ _ h
  | exc e st => exact he _ _ h
  | bad => exact h
theorem Wp.mono {o : Out A} {Q Q' : PQ A} {E : XQ} (h : Wp o Q NX) (hq : ∀ a st, Q a st → Q' a st) : Wp o Q' E := h.imp hq fun _ _ z => z.elim
theorem Wp.ex {o : Out A} {Q : PQ A} (h : Wp o Q NX) : ∃ a st, o = .ok a st ∧ Q a st := by
  cases o with
  | ok a st => exact ⟨a, st, rfl, h⟩
  | exc e st => exact h.elim
  | bad => exact h.elim
theorem tB_app {a : A} : tB f QB E a st = Wp (f a st) QB E := nd rfl
theorem wp_ok {a : A} : Wp (.ok a st) Q E = Q a st := nd rfl
theorem wp_bad : Wp (.bad : Out A) Q E = False := nd rfl
theorem wp_pur {a : A} : Wp (pur a st) Q E = Q a st := nd rfl
theorem wp_bnd : Wp (bnd m f st) QB E = Wp (m st) (tB f QB E) E := by
  unfold bnd
  cases m st <;> rfl
theorem wp_ite {c : Prop} [Decidable c] {m m' : M A} : Wp ((if c then m else m') st) Q E = if c then Wp (m st) Q E else Wp (m' st) Q E := by split <;> rfl
theorem wp_ite' {c : Prop} [Decidable c] {o o' : Out A} : Wp (if c then o else o') Q E = if c then Wp o Q E else Wp o' Q E := by split <;> rfl
theorem ite_bad {c : Prop} [Decidable c] {P : Prop} : (if c then P else False) = (c ∧ P) := by
  split <;> simp [*]
/-! expressions -/
theorem wp_var {i : Nat} : Wp (eVar i ss st) QD E = (match ss[i]? with
  | some (some d) => QD d st
  | _ => False) := by
  unfold eVar
  cases ss[i]? with
  | none => rfl
  | some o => cases o <;> rfl
theorem wp_c {d : DV} : Wp (eC d ss st) QD E = QD d st := nd rfl
theorem wp_un {g : DV → M DV} {a : Ex} : Wp (eUn g a ss st) QD E = Wp (a ss st) (tB g QD E) E := wp_bnd
def tOp (g : DV → DV → M DV) (b : Ex) (ss : Sl) (Q : PQ DV) (E : XQ) : PQ DV := fun x st => Wp (b ss st) (tB (g x) Q E) E
theorem wp_op {g : DV → DV → M DV} {a b : Ex} : Wp (eOp g a b ss st) QD E = Wp (a ss st) (tOp g b ss QD E) E := by
  unfold eOp
  rw [wp_bnd]
  congr 1
  funext x st
  exact wp_bnd
theorem tOp_app {g : DV → DV → M DV} {b : Ex} {x : DV} : tOp g b ss QD E x st = Wp (b ss st) (tB (g x) QD E) E := nd rfl
def tArg (ms : List Ex) (ss : Sl) (Q : PQ (List DV)) (E : XQ) : PQ DV := fun x st => Wp (eArgs ms ss st) (fun xs st => Q (x :: xs) st) E
theorem wp_nil {Q : PQ (List DV)} : Wp (eArgs [] ss st) Q E = Q [] st := nd rfl
theorem wp_cons {Q : PQ (List DV)} {a : Ex} {ms : List Ex} : Wp (eArgs (a :: ms) ss st) Q E = Wp (a ss st) (tArg ms ss Q E) E := by
  show Wp (bnd (a ss) _ st) Q E = _
  rw [wp_bnd]
  congr 1
  funext x st
  show Wp (bnd _ _ st) Q E = _
  rw [wp_bnd]
  rfl
theorem tArg_app {Q : PQ (List DV)} {ms : List Ex} {x : DV} : tArg ms ss Q E x st = Wp (eArgs ms ss st) (fun xs st => Q (x :: xs) st) E := nd rfl
theorem wp_call {f : List DV → M DV} {ms : List Ex} : Wp (eCall f ms ss st) QD E = Wp (eArgs ms ss st) (tB f QD E) E := wp_bnd
theorem wp_tup {ms : List Ex} : Wp (eTup ms ss st) QD E = Wp (eArgs ms ss st) (fun xs st => QD (.tup xs) st) E := by
  unfold eTup
  rw [wp_bnd]
  rfl
theorem wp_lst {ms : List Ex} : Wp (eLst ms ss st) QD E = Wp (eArgs ms ss st) (tB (fun xs => alloc (.lst xs)) QD E) E := wp_bnd
theorem wp_val {a : Ex} : Wp (tVal a ss st) QT E = Wp (a ss st) (tB asB QT E) E := wp_bnd
theorem wp_tru {a : Ex} : Wp (tTru a ss st) QT E = Wp (a ss st) (tB truM QT E) E := wp_bnd
theorem wp_asB {b : Bool} : Wp (asB (.bl b) st) QT E = QT b st := nd rfl
theorem wp_truB {b : Bool} : Wp (truM (.bl b) st) QT E = QT b st := nd rfl
theorem wp_truI {i : Int} : Wp (truM (.int i) st) QT E = QT (i != 0) st := nd rfl
theorem wp_truN : Wp (truM .non st) QT E = QT false st := nd rfl
def tA (b : Sl → M Bool) (ss : Sl) (Q : PQ Bool) (E : XQ) : PQ Bool := fun c st => if c = true then Wp (b ss st) Q E else Q false st
def tO (b : Sl → M Bool) (ss : Sl) (Q : PQ Bool) (E : XQ) : PQ Bool := fun c st => if c = true then Q true st else Wp (b ss st) Q E
theorem wp_and {a b : Sl → M Bool} : Wp (tAnd a b ss st) QT E = Wp (a ss st) (tA b ss QT E) E := by
  unfold tAnd
  rw [wp_bnd]
  congr 1
  funext x st
  cases x <;> rfl
theorem wp_or {a b : Sl → M Bool} : Wp (tOr a b ss st) QT E = Wp (a ss st) (tO b ss QT E) E := by
  unfold tOr
  rw [wp_bnd]
  congr 1
  funext x st
  cases x <;> rfl
theorem tA_app {b : Sl → M Bool} {c : Bool} : tA b ss QT E c st = if c = true then Wp (b ss st) QT E else QT false st := nd rfl
theorem tO_app {b : Sl → M Bool} {c : Bool} : tO b ss QT E c st = if c = true then QT true st else Wp (b ss st) QT E := nd rfl
theorem wp_not {a : Sl → M Bool} : Wp (tNot a ss st) QT E = Wp (a ss st) (fun c st => QT (!c) st) E := by
  unfold tNot
  rw [wp_bnd]
  rfl
def tEA (b : Ex) (ss : Sl) (Q : PQ DV) (E : XQ) : PQ DV := fun x st => match x with
  | .bl true => Wp (b ss st) Q E
  | .bl false => Q (.bl false) st
  | _ => False
def tEO (b : Ex) (ss : Sl) (Q : PQ DV) (E : XQ) : PQ DV := fun x st => match x with
  | .bl false => Wp (b ss st) Q E
  | .bl true => Q (.bl true) st
  | _ => False
theorem wp_eand {a b : Ex} : Wp (eAnd a b ss st) QD E = Wp (a ss st) (tEA b ss QD E) E := by
  unfold eAnd
  rw [wp_bnd]
  congr 1
  funext x st
  cases x with
  | bl c => cases c <;> rfl
  | _ => rfl
theorem wp_eor {a b : Ex} : Wp (eOr a b ss st) QD E = Wp (a ss st) (tEO b ss QD E) E := by
  unfold eOr
  rw [wp_bnd]
  congr 1
  funext x st
  cases x with
  | bl c => cases c <;> rfl
  | _ => rfl
theorem tEA_app {b : Ex} {c : Bool} : tEA b ss QD E (.bl c) st = if c = true then Wp (b ss st) QD E else QD (.bl false) st := nd (by cases c <;> rfl)
theorem tEO_app {b : Ex} {c : Bool} : tEO b ss QD E (.bl c) st = if c = true then QD (.bl true) st else Wp (b ss st) QD E := nd (by cases c <;> rfl)
def tEN (Q : PQ DV) : PQ DV := fun x st => match x with
  | .bl c => Q (.bl (!c)) st
  | _ => False
theorem wp_enot {a : Ex} : Wp (eNot a ss st) QD E = Wp (a ss st) (tEN QD) E := by
  unfold eNot
  rw [wp_bnd]
  congr 1
  funext x st
  cases x <;> rfl
theorem tEN_app {c : Bool} : tEN QD (.bl c) st = QD (.bl (!c)) st := nd rfl
def tIt (a b : Ex) (ss : Sl) (Q : PQ DV) (E : XQ) : PQ Bool := fun c st => if c = true then Wp (a ss st) Q E else Wp (b ss st) Q E
theorem wp_eif {t : Sl → M Bool} {a b : Ex} : Wp (eIf t a b ss st) QD E = Wp (t ss st) (tIt a b ss QD E) E := by
  unfold eIf
  rw [wp_bnd]
  congr 1
  funext x st
  cases x <;> rfl
theorem tIt_app {a b : Ex} {c : Bool} : tIt a b ss QD E c st = if c = true then Wp (a ss st) QD E else Wp (b ss st) QD E := nd rfl
def tCh2 (g g' : DV → DV → M DV) (c : Ex) (ss : Sl) (x y : DV) (Q : PQ DV) (E : XQ) : PQ DV := fun z st => match z with
  | .bl true => Wp (c ss st) (tB (g' y) Q E) E
  | .bl false => Q (.bl false) st
  | _ => False
def tCh (g g' : DV → DV → M DV) (b c : Ex) (ss : Sl) (Q : PQ DV) (E : XQ) : PQ DV := fun x st => Wp (b ss st) (fun y st => Wp (g x y st) (tCh2 g g' c ss x y Q E) E) E
theorem wp_chain {g g' : DV → DV → M DV} {a b c : Ex} : Wp (eChain g g' a b c ss st) QD E = Wp (a ss st) (tCh g g' b c ss QD E) E := by
  unfold eChain
  rw [wp_bnd]
  congr 1
  funext x st
  show Wp (bnd _ _ st) QD E = _
  rw [wp_bnd]
  show _ = Wp _ _ E
  congr 1
  funext y st
  show Wp (bnd _ _ st) QD E = _
  rw [wp_bnd]
  congr 1
  funext z st
  cases z with
  | bl k =>
    cases k with
    | true =>
      show Wp (bnd (c ss) _ st) QD E = _
      rw [wp_bnd]
      rfl
    | false => rfl
  | _ => rfl
theorem tCh_app {g g' : DV → DV → M DV} {b c : Ex} {x : DV} : tCh g g' b c ss QD E x st = Wp (b ss st) (fun y st => Wp (g x y st) (tCh2 g g' c ss x y QD E) E) E := nd rfl
theorem tCh2_app {g g' : DV → DV → M DV} {c : Ex} {x y : DV} {k : Bool} : tCh2 g g' c ss x y QD E (.bl k) st = if k = true then Wp (c ss st) (tB (g' y) QD E) E else QD (.bl false) st := by cases k <;> rfl
/-! ints -/
theorem wp_add {i j : Int} : Wp (addM (.int i) (.int j) st) QD E = QD (.int (i + j)) st := nd rfl
theorem wp_sub {i j : Int} : Wp (subM (.int i) (.int j) st) QD E = QD (.int (i - j)) st := nd rfl
theorem wp_mul {i j : Int} : Wp (mulM (.int i) (.int j) st) QD E = (mulOk i j ∧ QD (.int (i * j)) st) := by
  show Wp (if mulOk i j then _ else _) QD E = _
  rw [wp_ite', wp_bad, ite_bad]
  rfl
theorem wp_fdiv {i j : Int} : Wp (fdivM (.int i) (.int j) st) QD E = (divOk j ∧ QD (.int (i / j)) st) := by
  show Wp (if divOk j then _ else _) QD E = _
  rw [wp_ite', wp_bad, ite_bad]
  rfl
theorem wp_mod {i j : Int} : Wp (modM (.int i) (.int j) st) QD E = (0 < j ∧ QD (.int (i % j)) st) := by
  show Wp (if 0 < j then _ else _) QD E = _
  rw [wp_ite', wp_bad, ite_bad]
  rfl
theorem wp_pow {i j : Int} : Wp (powM (.int i) (.int j) st) QD E = (powOk i j ∧ QD (.int (i ^ j.toNat)) st) := by
  show Wp (if powOk i j then _ else _) QD E = _
  rw [wp_ite', wp_bad, ite_bad]
  rfl
theorem wp_shl {i j : Int} : Wp (shlM (.int i) (.int j) st) QD E = (powOk i j ∧ QD (.int (i * 2 ^ j.toNat)) st) := by
  show Wp (if powOk i j then _ else _) QD E = _
  rw [wp_ite', wp_bad, ite_bad]
  rfl
theorem wp_shr {i j : Int} : Wp (shrM (.int i) (.int j) st) QD E = (0 ≤ j ∧ QD (.int (i / 2 ^ j.toNat)) st) := by
  show Wp (if 0 ≤ j then _ else _) QD E = _
  rw [wp_ite', wp_bad, ite_bad]
  rfl
theorem wp_iand {i j : Int} : Wp (andM (.int i) (.int j) st) QD E = QD (.int (Builtin.bitAnd i j)) st := nd rfl
theorem wp_ior {i j : Int} : Wp (orM (.int i) (.int j) st) QD E = QD (.int (Builtin.bitOr i j)) st := nd rfl
theorem wp_ixor {i j : Int} : Wp (xorM (.int i) (.int j) st) QD E = QD (.int (Builtin.bitXor i j)) st := nd rfl
theorem wp_neg {i : Int} : Wp (negM (.int i) st) QD E = QD (.int (-i)) st := nd rfl
theorem wp_eqI {i j : Int} : Wp (eqM (.int i) (.int j) st) QD E = QD (.bl (decide (i = j))) st := nd rfl
theorem wp_neI {i j : Int} : Wp (neM (.int i) (.int j) st) QD E = QD (.bl (!decide (i = j))) st := nd rfl
theorem wp_eqB {i j : Bool} : Wp (eqM (.bl i) (.bl j) st) QD E = QD (.bl (decide (i = j))) st := nd rfl
theorem wp_neB {i j : Bool} : Wp (neM (.bl i) (.bl j) st) QD E = QD (.bl (!decide (i = j))) st := nd rfl
theorem wp_eqS {i j : Str} : Wp (eqM (.str i) (.str j) st) QD E = QD (.bl (decide (i = j))) st := nd rfl
theorem wp_neS {i j : Str} : Wp (neM (.str i) (.str j) st) QD E = QD (.bl (!decide (i = j))) st := nd rfl
theorem wp_lt {i j : Int} : Wp (ltM (.int i) (.int j) st) QD E = QD (.bl (decide (i < j))) st := nd rfl
theorem wp_gt {i j : Int} : Wp (gtM (.int i) (.int j) st) QD E = QD (.bl (decide (j < i))) st := nd rfl
theorem wp_le {i j : Int} : Wp (leM (.int i) (.int j) st) QD E = QD (.bl (decide (i ≤ j))) st := nd rfl
theorem wp_ge {i j : Int} : Wp (geM (.int i) (.int j) st) QD E = QD (.bl (decide (j ≤ i))) st := nd rfl
theorem wp_isB {i j : Bool} : Wp (isM (.bl i) (.bl j) st) QD E = QD (.bl (decide (i = j))) st := nd rfl
theorem wp_isnB {i j : Bool} : Wp (isnM (.bl i) (.bl j) st) QD E = QD (.bl (!decide (i = j))) st := nd rfl
theorem wp_abs {i : Int} : Wp (absM [.int i] st) QD E = QD (.int (if i < 0 then -i else i)) st := nd rfl
theorem wp_max2 {i j : Int} : Wp (max2M [.int i, .int j] st) QD E = QD (.int (if j > i then j else i)) st := nd rfl
theorem wp_min2 {i j : Int} : Wp (min2M [.int i, .int j] st) QD E = QD (.int (if j < i then j else i)) st := nd rfl
theorem wp_intI {i : Int} : Wp (intM [.int i] st) QD E = QD (.int i) st := nd rfl
theorem wp_intB {b : Bool} : Wp (intM [.bl b] st) QD E = QD (.int (if b then 1 else 0)) st := nd rfl
/-! sequences -/
theorem wp_optD {o : Option DV} : Wp (optD o st) QD E = (match o with
  | some d => QD d st
  | none => False) := by cases o <;> rfl
theorem wp_ixT {xs : List DV} {i : Int} : Wp (ixM (.tup xs) (.int i) st) QD E = Wp (optD (atI xs i) st) QD E := nd rfl
theorem wp_ixF {xs : List DV} {i : Int} : Wp (ixM (.fzl xs) (.int i) st) QD E = Wp (optD (atI xs i) st) QD E := nd rfl
theorem wp_ixR {k : Nat} {i : Int} {xs : List DV} (h : st[k]? = some (.lst xs)) : Wp (ixM (.ref k) (.int i) st) QD E = Wp (optD (atI xs i) st) QD E := by
  show Wp (match st[k]? with
    | some (.lst xs) => _
    | some (.dic kvs) => _
    | _ => _) QD E = _
  rw [h]
theorem wp_lenT {xs : List DV} : Wp (lenM [.tup xs] st) QD E = QD (.int xs.length) st := nd rfl
theorem wp_lenF {xs : List DV} : Wp (lenM [.fzl xs] st) QD E = QD (.int xs.length) st := nd rfl
theorem wp_lenR {k : Nat} {xs : List DV} (h : st[k]? = some (.lst xs)) : Wp (lenM [.ref k] st) QD E = QD (.int xs.length) st := by
  show Wp (match st[k]? with
    | some (.lst xs) => _
    | some (.dic kvs) => _
    | _ => _) QD E = _
  rw [h]
  rfl
theorem at0 {a : DV} {r : List DV} : atI (a :: r) 0 = some a := by
  simp [atI, ixN]
theorem at1 {a b : DV} {r : List DV} : atI (a :: b :: r) 1 = some b := by
  simp [atI, ixN]
  rw [if_pos (by omega)]
  rfl
theorem at2 {a b c : DV} {r : List DV} : atI (a :: b :: c :: r) 2 = some c := by
  simp [atI, ixN]
  rw [if_pos (by omega)]
  rfl
theorem at3 {a b c d : DV} {r : List DV} : atI (a :: b :: c :: d :: r) 3 = some d := by
  simp [atI, ixN]
  rw [if_pos (by omega)]
  rfl
theorem atN {xs : List DV} {i : Int} {d : DV} (h0 : 0 ≤ i) (h : xs[i.toNat]? = some d) : atI xs i = some d := by
  obtain ⟨j, rfl⟩ := Int.eq_ofNat_of_zero_le h0
  rw [Int.toNat_natCast] at h
  exact atI_nat h
/-! statements -/
def tF (b : Stt) (Q : PQ Fl) (E : XQ) : PQ Fl := fun fl st => match fl with
  | .nx ss => Wp (b ss st) Q E
  | fl => Q fl st
theorem wp_seq {a b : Stt} : Wp (sSeq a b ss st) QF E = Wp (a ss st) (tF b QF E) E := by
  unfold sSeq
  cases a ss st with
  | ok fl st' => cases fl <;> rfl
  | exc e st' => rfl
  | bad => rfl
theorem tF_nx {b : Stt} : tF b QF E (.nx ss) st = Wp (b ss st) QF E := nd rfl
theorem tF_rt {b : Stt} {v : DV} : tF b QF E (.rt v) st = QF (.rt v) st := nd rfl
theorem tF_bk {b : Stt} : tF b QF E (.bk ss) st = QF (.bk ss) st := nd rfl
theorem tF_ct {b : Stt} : tF b QF E (.ct ss) st = QF (.ct ss) st := nd rfl
theorem tF_rs {b : Stt} {e : DX} : tF b QF E (.rs e ss) st = QF (.rs e ss) st := nd rfl
def tX (ss : Sl) (Q : PQ Fl) : XQ := fun e st => Q (.rs e ss) st
theorem tX_app {e : DX} : tX ss QF e st = QF (.rs e ss) st := nd rfl
theorem wp_lft {k : A → M Fl} : Wp (lft ss m k st) QF E = Wp (m st) (tB k QF E) (tX ss QF) := by
  unfold lft
  cases m st <;> rfl
theorem wp_skip : Wp (sSkip ss st) QF E = QF (.nx ss) st := nd rfl
theorem wp_expr {a : Ex} : Wp (sExpr a ss st) QF E = Wp (a ss st) (fun _ st => QF (.nx ss) st) (tX ss QF) := by
  unfold sExpr
  rw [wp_lft]
  rfl
theorem wp_ret {a : Ex} : Wp (sRet a ss st) QF E = Wp (a ss st) (fun v st => QF (.rt v) st) (tX ss QF) := by
  unfold sRet
  rw [wp_lft]
  rfl
theorem wp_retN : Wp (sRetN ss st) QF E = QF (.rt .non) st := nd rfl
theorem wp_brk : Wp (sBrk ss st) QF E = QF (.bk ss) st := nd rfl
theorem wp_cont : Wp (sCont ss st) QF E = QF (.ct ss) st := nd rfl
def tS2 (i : Nat) (ss : Sl) (Q : PQ Fl) : PQ DV := fun v st => Q (.nx (ss.set i (some v))) st
theorem wp_set {i : Nat} {a : Ex} : Wp (sSet i a ss st) QF E = Wp (a ss st) (tS2 i ss QF) (tX ss QF) := by
  unfold sSet
  rw [wp_lft]
  rfl
theorem tS2_app {i : Nat} {v : DV} : tS2 i ss QF v st = QF (.nx (ss.set i (some v))) st := nd rfl
def tI2 (a b : Stt) (ss : Sl) (Q : PQ Fl) (E : XQ) : PQ Bool := fun c st => if c = true then Wp (a ss st) Q E else Wp (b ss st) Q E
theorem wp_if {c : Sl → M Bool} {a b : Stt} : Wp (sIf c a b ss st) QF E = Wp (c ss st) (tI2 a b ss QF E) (tX ss QF) := by
  unfold sIf
  rw [wp_lft]
  congr 1
  funext x st
  cases x <;> rfl
theorem tI2_app {a b : Stt} {c : Bool} : tI2 a b ss QF E c st = if c = true then Wp (a ss st) QF E else Wp (b ss st) QF E := nd rfl
theorem wp_par {i j : Nat} {ms : List Ex} : Wp (sPar i j ms ss st) QF E = Wp (eArgs ms ss st) (fun xs st => match xs with
  | [x, y] => QF (.nx ((ss.set i (some x)).set j (some y))) st
  | _ => False) (tX ss QF) := by
  unfold sPar
  rw [wp_lft]
  congr 1
  funext xs st
  rcases xs with _ | ⟨x, _ | ⟨y, _ | ⟨z, r⟩⟩⟩ <;> rfl
def tG2 (g : Tg) (ss : Sl) (Q : PQ Fl) : PQ DV := fun v st => match g v ss st with
  | .ok ss' st' => Q (.nx ss') st'
  | _ => False
theorem wp_asg {g : Tg} {a : Ex} : Wp (sAsg g a ss st) QF E = Wp (a ss st) (tG2 g ss QF) (tX ss QF) := by
  unfold sAsg
  rw [wp_lft]
  congr 1
  funext v st
  show Wp (gK _ _ st) QF E = _
  unfold gK tG2
  cases g v ss st <;> rfl
theorem tG2_T {is : List Nat} {xs : List DV} (h : xs.length = is.length) : tG2 (gTpL is) ss QF (.tup xs) st = QF (.nx (setAll is xs ss)) st := by
  unfold tG2
  simp only [gTpL, if_pos h]
theorem tG2_R {is : List Nat} {xs : List DV} {k : Nat} (hk : st[k]? = some (.lst xs)) (h : xs.length = is.length) : tG2 (gTpL is) ss QF (.ref k) st = QF (.nx (setAll is xs ss)) st := by
  unfold tG2
  simp only [gTpL, hk, if_pos h]
theorem wp_aug {i : Nat} {g : DV → DV → M DV} {a : Ex} : Wp (sAug i g a ss st) QF E = Wp (eVar i ss st) (fun x st => Wp (a ss st) (tB (g x) (tS2 i ss QF) (tX ss QF)) (tX ss QF)) (tX ss QF) := by
  unfold sAug
  rw [wp_lft]
  congr 1
  funext x st
  show Wp (lft _ _ _ st) QF E = _
  rw [wp_lft]
  congr 1
  funext y st
  show Wp (lft _ _ _ st) QF E = _
  rw [wp_lft]
  rfl
theorem wp_iadd {i j : Int} : Wp (iaddM (.int i) (.int j) st) QD E = QD (.int (i + j)) st := nd rfl
/-! defs -/
def tR (Q : PQ DV) (E : XQ) : PQ Fl := fun fl st => match fl with
  | .nx _ => Q .non st
  | .rt v => Q v st
  | .rs e _ => E e st
  | _ => False
theorem wp_fn {n N : Nat} {body : Stt} {vs : List DV} (h : vs.length = n) : Wp (fnM n N body vs st) QD E = Wp (body (vs.map some ++ List.replicate (N - n) none) st) (tR QD E) NX := by
  unfold fnM
  rw [if_pos h]
  cases body (vs.map some ++ List.replicate (N - n) none) st with
  | ok fl st => cases fl <;> rfl
  | exc e st => rfl
  | bad => rfl
theorem tR_rt {v : DV} : tR QD E (.rt v) st = QD v st := nd rfl
theorem tR_nx : tR QD E (.nx ss) st = QD .non st := nd rfl
theorem tR_rs {e : DX} : tR QD E (.rs e ss) st = E e st := nd rfl
/-! loops -/
def tLp (I : Sl → Sto → Prop) (Q : PQ Fl) : PQ Fl := fun fl st => match fl with
  | .nx ss => I ss st
  | .ct ss => I ss st
  | .bk ss => Q (.nx ss) st
  | fl => Q fl st
theorem tLp_nx {I : Sl → Sto → Prop} : tLp I QF (.nx ss) st = I ss st := nd rfl
theorem tLp_ct {I : Sl → Sto → Prop} : tLp I QF (.ct ss) st = I ss st := nd rfl
theorem tLp_bk {I : Sl → Sto → Prop} : tLp I QF (.bk ss) st = QF (.nx ss) st := nd rfl
theorem tLp_rt {I : Sl → Sto → Prop} {v : DV} : tLp I QF (.rt v) st = QF (.rt v) st := nd rfl
theorem tLp_rs {I : Sl → Sto → Prop} {e : DX} : tLp I QF (.rs e ss) st = QF (.rs e ss) st := nd rfl
theorem for_rule {g : List (Nat × DO)} {tg : Tg} {b : Stt} {items : List DV} (I : Nat → Sl → Sto → Prop) (h0 : I 0 ss st)
    (hg : ∀ i ss st, i ≤ items.length → I i ss st → okG g st)
    (hs : ∀ i x ss st, items[i]? = some x → I i ss st → ∃ ss' st', tg x ss st = .ok ss' st' ∧ Wp (b ss' st') (tLp (I (i + 1)) QF) E)
    (he : ∀ ss st, I items.length ss st → QF (.nx ss) st) : Wp (forL g tg b items ss st) QF E := by
  have key : ∀ (n i : Nat) (ss : Sl) (st : Sto), i + n = items.length → I i ss st → Wp (forL g tg b (items.drop i) ss st) QF E := by
    intro n
    induction n with
    | zero =>
      intro i ss st hi hI
      have : i = items.length := by omega
      subst this
      rw [List.drop_eq_nil_of_le (Nat.le_refl _)]
      simp only [forL]
      rw [if_pos (hg _ _ _ (Nat.le_refl _) hI)]
      exact he _ _ hI
    | succ n ih =>
      intro i ss st hi hI
      have hl : i < items.length := by omega
      rw [List.drop_eq_getElem_cons hl]
      simp only [forL]
      rw [if_pos (hg _ _ _ (Nat.le_of_lt hl) hI)]
      obtain ⟨ss', st', e1, w⟩ := hs i _ ss st (List.getElem?_eq_getElem hl) hI
      unfold gK
      rw [e1]
      show Wp (match b ss' st' with
        | .ok (.nx ss2) st2 => forL g tg b (items.drop (i + 1)) ss2 st2
        | .ok (.ct ss2) st2 => forL g tg b (items.drop (i + 1)) ss2 st2
        | .ok (.bk ss2) st2 => .ok (.nx ss2) st2
        | o => o) QF E
      revert w
      cases b ss' st' with
      | ok fl st2 =>
        cases fl with
        | nx ss2 => exact fun w => ih _ _ _ (by omega) w
        | ct ss2 => exact fun w => ih _ _ _ (by omega) w
        | bk ss2 => exact fun w => w
        | rt v => exact fun w => w
        | rs e ss2 => exact fun w => w
      | exc e st2 => exact fun w => w
      | bad => exact fun w => w
  have := key items.length 0 ss st (by omega) h0
  rwa [List.drop_zero] at this
def tFr (tg : Tg) (b : Stt) (ss : Sl) (Q : PQ Fl) (E : XQ) : PQ Wk := fun wk st => Wp (forL wk.g tg b wk.items ss st) Q E
theorem wp_for {mi : Sl → M Wk} {tg : Tg} {b : Stt} : Wp (sFor mi tg b ss st) QF E = Wp (mi ss st) (tFr tg b ss QF E) (tX ss QF) := by
  unfold sFor
  rw [wp_lft]
  rfl
theorem tFr_app {tg : Tg} {b : Stt} {wk : Wk} : tFr tg b ss QF E wk st = Wp (forL wk.g tg b wk.items ss st) QF E := nd rfl
theorem wp_rg1 {ms : List Ex} {QW : PQ Wk} : Wp (iRg1 ms ss st) QW E = Wp (eArgs ms ss st) (fun ds st => match ds with
  | [.int j] => small62 j ∧ QW ⟨irange 0 j.toNat, []⟩ st
  | _ => False) E := by
  unfold iRg1
  rw [wp_bnd]
  congr 1
  funext ds st
  rcases ds with _ | ⟨d, _ | ⟨d', r⟩⟩
  · rfl
  · cases d with
    | int j =>
      show Wp (if small62 j then _ else _) QW E = _
      rw [wp_ite', wp_bad, ite_bad]
      rfl
    | _ => rfl
  · cases d <;> rfl
theorem wp_rg2 {ms : List Ex} {QW : PQ Wk} : Wp (iRg2 ms ss st) QW E = Wp (eArgs ms ss st) (fun ds st => match ds with
  | [.int i, .int j] => (small62 i ∧ small62 j) ∧ QW ⟨irange i (j - i).toNat, []⟩ st
  | _ => False) E := by
  unfold iRg2
  rw [wp_bnd]
  congr 1
  funext ds st
  rcases ds with _ | ⟨d, _ | ⟨d', _ | ⟨d2, r⟩⟩⟩
  · rfl
  · cases d <;> rfl
  · cases d with
    | int i =>
      cases d' with
      | int j =>
        show Wp (if small62 i ∧ small62 j then _ else _) QW E = _
        rw [wp_ite', wp_bad, ite_bad]
        rfl
      | _ => rfl
    | _ => rfl
  · cases d <;> cases d' <;> rfl
def tIy (Q : PQ Wk) : PQ DV := fun d st => match wkOf d st with
  | some w => Q w st
  | none => False
theorem wp_any {m : Ex} {QW : PQ Wk} : Wp (iAny m ss st) QW E = Wp (m ss st) (tIy QW) E := by
  unfold iAny
  rw [wp_bnd]
  congr 1
  funext d st
  show Wp (optW (wkOf d st) st) QW E = _
  unfold tIy optW
  cases wkOf d st <;> rfl
theorem tIy_R {k : Nat} {xs : List DV} {QW : PQ Wk} (h : st[k]? = some (.lst xs)) : tIy QW (.ref k) st = QW ⟨xs, [(k, .lst xs)]⟩ st := by
  unfold tIy
  simp only [wkOf, h]
theorem tIy_T {xs : List DV} {QW : PQ Wk} : tIy QW (.tup xs) st = QW ⟨xs, []⟩ st := nd rfl
theorem tIy_F {xs : List DV} {QW : PQ Wk} : tIy QW (.fzl xs) st = QW ⟨xs, []⟩ st := nd rfl
theorem wh_rule {c : Sl → M Bool} {b : Stt} (I : Nat → Sl → Sto → Prop) {n : Nat} (hn : n < FUEL) (h0 : I n ss st)
    (hs : ∀ n ss st, I n ss st → Wp (c ss st) (fun t st => if t = true then Wp (b ss st) (tLp (fun ss st => ∃ m, m < n ∧ I m ss st) QF) E else QF (.nx ss) st) (tX ss QF)) : Wp (sWhile c b ss st) QF E := by
  have key : ∀ (f n : Nat) (ss : Sl) (st : Sto), n < f → I n ss st → Wp (wh c b f ss st) QF E := by
    intro f
    induction f with
    | zero => intro n _ _ h; omega
    | succ f ih =>
      intro n ss st h hI
      simp only [wh]
      rw [wp_lft]
      refine (hs n ss st hI).imp (fun t st1 q => ?_) fun e st1 q => q
      cases t with
      | false => exact q
      | true =>
        have q : Wp (b ss st1) (tLp (fun ss st => ∃ m, m < n ∧ I m ss st) QF) E := q
        show Wp (match b ss st1 with
          | .ok (.nx ss') st' => wh c b f ss' st'
          | .ok (.ct ss') st' => wh c b f ss' st'
          | .ok (.bk ss') st' => .ok (.nx ss') st'
          | o => o) QF E
        revert q
        cases b ss st1 with
        | ok fl st2 =>
          cases fl with
          | nx ss2 => exact fun ⟨m, hm, q⟩ => ih m _ _ (by omega) q
          | ct ss2 => exact fun ⟨m, hm, q⟩ => ih m _ _ (by omega) q
          | bk ss2 => exact fun w => w
          | rt v => exact fun w => w
          | rs e ss2 => exact fun w => w
        | exc e st2 => exact fun w => w
        | bad => exact fun w => w
  exact key FUEL n ss st hn h0
end
end ML

/-! MP2: lists in the store; comprehensions; equalities. -/
namespace ML
open PySem PySem.Spec PyProof.Rows L2
theorem mulOk_l {i j : Int} (h : -(2 ^ 64) < i) (h' : i < 2 ^ 64) : mulOk i j := .inl ⟨h, h'⟩
theorem mulOk_r {i j : Int} (h : -(2 ^ 64) < j) (h' : j < 2 ^ 64) : mulOk i j := .inr (.inl ⟨h, h'⟩)
theorem sl_eq : sizeLine = 16777216 := sizeLine_eq
/-- what is there stays -/
def Sub (st st' : Sto) : Prop := ∀ (k : Nat) (o : DO), st[k]? = some o → st'[k]? = some o
theorem Sub.refl {st : Sto} : Sub st st := fun _ _ h => h
theorem Sub.trans {a b c : Sto} (h : Sub a b) (h' : Sub b c) : Sub a c := fun k o e => h' k o (h k o e)
theorem Sub.app {st l : Sto} : Sub st (st ++ l) := fun k o e => by
  have hk := (List.getElem?_eq_some_iff.mp e).1
  rw [List.getElem?_append_left hk]
  exact e
theorem Sub.len {a b : Sto} (h : Sub a b) : a.length ≤ b.length := by
  cases Nat.lt_or_ge b.length a.length with
  | inr h' => exact h'
  | inl h' =>
    have e := h b.length _ (List.getElem?_eq_getElem h')
    have := (List.getElem?_eq_some_iff.mp e).1
    omega
theorem Sub.set {a b : Sto} {k : Nat} {o : DO} (h : Sub a b) (hk : a.length ≤ k) : Sub a (b.set k o) := fun j o' e => by
  have hj := (List.getElem?_eq_some_iff.mp e).1
  rw [List.getElem?_set_ne (by omega)]
  exact h j o' e
theorem get_new {st : Sto} {o : DO} : (st ++ [o])[st.length]? = some o := List.getElem?_concat_length ..
theorem set_new {st : Sto} {o o' : DO} : (st ++ [o]).set st.length o' = st ++ [o'] := by
  rw [List.set_append_right _ _ (Nat.le_refl _), Nat.sub_self]
  rfl
theorem get_set {st : Sto} {k : Nat} {o o' : DO} (h : st[k]? = some o) : (st.set k o')[k]? = some o' := by
  rw [List.getElem?_set_self (List.getElem?_eq_some_iff.mp h).1]
theorem get_lt {st : Sto} {k : Nat} {o : DO} (h : st[k]? = some o) : k < st.length := (List.getElem?_eq_some_iff.mp h).1
section
variable {A B : Type} {m : M A} {f : A → M B} {st : Sto} {ss : Sl} {Q : PQ A} {QB : PQ B} {QD : PQ DV} {QF : PQ Fl} {QT : PQ Bool} {E : XQ}
theorem wp_alloc {o : DO} : Wp (alloc o st) QD E = QD (.ref st.length) (st ++ [o]) := nd rfl
/-! methods of lists -/
def tMt (T : String) (g : DV → List DV → M DV) (ms : List Ex) (ss : Sl) (Q : PQ DV) (E : XQ) : PQ DV := fun d st => isT T d st = true ∧ Wp (eArgs ms ss st) (tB (g d) Q E) E
theorem wp_mt {T : String} {g : DV → List DV → M DV} {a : Ex} {ms : List Ex} : Wp (eMt T g a ms ss st) QD E = Wp (a ss st) (tMt T g ms ss QD E) E := by
  unfold eMt
  rw [wp_bnd]
  congr 1
  funext d st
  show Wp (if isT T d st = true then _ else _) QD E = _
  rw [wp_ite', wp_bad, ite_bad, wp_bnd]
  rfl
theorem tMt_R {k : Nat} {xs : List DV} {g : DV → List DV → M DV} {ms : List Ex} (h : st[k]? = some (.lst xs)) : tMt "list" g ms ss QD E (.ref k) st = Wp (eArgs ms ss st) (tB (g (.ref k)) QD E) E := by
  have : isT "list" (.ref k) st = true := by
    unfold isT tyD
    simp only [h]
    rfl
  unfold tMt
  simp only [this, true_and]
theorem tMt_D {k : Nat} {xs : List (HK × DV)} {g : DV → List DV → M DV} {ms : List Ex} (h : st[k]? = some (.dic xs)) : tMt "dict" g ms ss QD E (.ref k) st = Wp (eArgs ms ss st) (tB (g (.ref k)) QD E) E := by
  have : isT "dict" (.ref k) st = true := by
    unfold isT tyD
    simp only [h]
    rfl
  unfold tMt
  simp only [this, true_and]
theorem wp_append {k : Nat} {xs : List DV} {y : DV} (h : st[k]? = some (.lst xs)) : Wp (appendM (.ref k) [y] st) QD E = (xs.length < sizeLine ∧ QD .non (st.set k (.lst (xs ++ [y])))) := by
  show Wp (match st[k]? with
    | some (.lst xs) => _
    | _ => _) QD E = _
  rw [h]
  simp only
  split
  · rename_i h'
    split at h'
    · cases h'; rename_i hl; simp only [hl, true_and]; rfl
    · cases h'
  · rename_i h'
    split at h'
    · cases h'
    · rename_i hl; simp only [hl, false_and]; rfl
theorem wp_clear {k : Nat} {xs : List DV} (h : st[k]? = some (.lst xs)) : Wp (clearM (.ref k) [] st) QD E = QD .non (st.set k (.lst [])) := by
  show Wp (match st[k]? with
    | some (.lst xs) => _
    | _ => _) QD E = _
  rw [h]
  rfl
theorem wp_reverse {k : Nat} {xs : List DV} (h : st[k]? = some (.lst xs)) : Wp (reverseM (.ref k) [] st) QD E = QD .non (st.set k (.lst xs.reverse)) := by
  show Wp (match st[k]? with
    | some (.lst xs) => _
    | _ => _) QD E = _
  rw [h]
  rfl
theorem wp_addR {k l : Nat} {xs ys : List DV} (h : st[k]? = some (.lst xs)) (h' : st[l]? = some (.lst ys)) : Wp (addM (.ref k) (.ref l) st) QD E = (xs.length + ys.length ≤ sizeLine ∧ QD (.ref st.length) (st ++ [.lst (xs ++ ys)])) := by
  show Wp (match st[k]?, st[l]? with
    | some (.lst a), some (.lst b) => _
    | _, _ => _) QD E = _
  rw [h, h']
  simp only
  rw [wp_ite', wp_bad, ite_bad]
  rfl
theorem wp_listR {k : Nat} {xs : List DV} (h : st[k]? = some (.lst xs)) : Wp (listM [.ref k] st) QD E = QD (.ref st.length) (st ++ [.lst xs]) := by
  show Wp (match st[k]? with
    | some (.lst xs) => _
    | _ => _) QD E = _
  rw [h]
  rfl
theorem wp_listF {xs : List DV} : Wp (listM [.fzl xs] st) QD E = QD (.ref st.length) (st ++ [.lst xs]) := nd rfl
def tSl (lo hi : Sl → M (Option Int)) (ss : Sl) (Q : PQ DV) (E : XQ) : PQ DV := fun d st => Wp (lo ss st) (fun l st => Wp (hi ss st) (fun h st => Wp (slM d l h st) Q E) E) E
theorem wp_sl {a : Ex} {lo hi : Sl → M (Option Int)} : Wp (eSl a lo hi ss st) QD E = Wp (a ss st) (tSl lo hi ss QD E) E := by
  unfold eSl
  rw [wp_bnd]
  congr 1
  funext d st
  show Wp (bnd _ _ st) QD E = _
  rw [wp_bnd]
  show _ = Wp _ _ E
  congr 1
  funext l st
  show Wp (bnd _ _ st) QD E = _
  rw [wp_bnd]
  rfl
theorem tSl_app {lo hi : Sl → M (Option Int)} {d : DV} : tSl lo hi ss QD E d st = Wp (lo ss st) (fun l st => Wp (hi ss st) (fun h st => Wp (slM d l h st) QD E) E) E := nd rfl
theorem wp_pNo {Q : PQ (Option Int)} : Wp (pNo ss st) Q E = Q none st := nd rfl
def tPs (Q : PQ (Option Int)) : PQ DV := fun d st => match d with
  | .int i => Q (some i) st
  | _ => False
theorem wp_pSm {a : Ex} {Q : PQ (Option Int)} : Wp (pSm a ss st) Q E = Wp (a ss st) (tPs Q) E := by
  unfold pSm
  rw [wp_bnd]
  congr 1
  funext d st
  cases d <;> rfl
theorem tPs_I {Q : PQ (Option Int)} {i : Int} : tPs Q (.int i) st = Q (some i) st := nd rfl
theorem wp_slT {xs : List DV} {lo hi : Option Int} : Wp (slM (.tup xs) lo hi st) QD E = QD (.tup (cutD xs lo hi)) st := nd rfl
theorem wp_slR {k : Nat} {xs : List DV} {lo hi : Option Int} (h : st[k]? = some (.lst xs)) : Wp (slM (.ref k) lo hi st) QD E = QD (.ref st.length) (st ++ [.lst (cutD xs lo hi)]) := by
  show Wp (match st[k]? with
    | some (.lst xs) => _
    | _ => _) QD E = _
  rw [h]
  rfl
theorem cut_tail {x : DV} {xs : List DV} : cutD (x :: xs) (some 1) none = xs := by
  unfold cutD
  rw [show HT.sIx (x :: xs).length 0 (some 1) = min 1 (x :: xs).length from HT.sIx_nat (x :: xs).length 0 1, HT.sIx_none]
  rw [show min 1 (x :: xs).length = 1 by
    rw [List.length_cons]
    omega]
  show List.take ((x :: xs).length - 1) xs = xs
  rw [List.length_cons, Nat.add_sub_cancel, List.take_length]
/-- the tail from n on -/
theorem cut_from {xs : List DV} {n : Nat} (h : n ≤ xs.length) : cutD xs (some (n : Int)) none = xs.drop n := by
  unfold cutD
  rw [show HT.sIx xs.length 0 (some (n : Int)) = min n xs.length from HT.sIx_nat xs.length 0 n, HT.sIx_none, Nat.min_eq_left h]
  rw [List.take_of_length_le]
  rw [List.length_drop]
  exact Nat.le_refl _
theorem cut_to {xs : List DV} {n : Nat} (h : n ≤ xs.length) : cutD xs none (some (n : Int)) = xs.take n := by
  unfold cutD
  rw [show HT.sIx xs.length xs.length (some (n : Int)) = min n xs.length from HT.sIx_nat xs.length xs.length n, HT.sIx_none, Nat.min_eq_left h, List.drop_zero, Nat.sub_zero]
/-! isinstance -/
theorem wp_isi {d : DV} {n : String} : Wp (isiM [d, .ty n] st) QD E = (match tyD d st with
  | some t => knownTy n = true ∧ QD (.bl (isTy t n)) st
  | none => False) := by
  show Wp (match tyD d st with
    | some t => if knownTy n = true then _ else _
    | none => _) QD E = _
  cases tyD d st with
  | none => rfl
  | some t =>
    show Wp (if knownTy n = true then _ else _) QD E = _
    rw [wp_ite', wp_bad, ite_bad]
    rfl
theorem ty_I {i : Int} : tyD (.int i) st = some "int" := rfl
theorem ty_B {i : Bool} : tyD (.bl i) st = some "bool" := rfl
theorem ty_N : tyD .non st = some "NoneType" := rfl
theorem ty_S {i : Str} : tyD (.str i) st = some "str" := rfl
theorem ty_T {xs : List DV} : tyD (.tup xs) st = some "tuple" := rfl
theorem ty_R {k : Nat} {xs : List DV} (h : st[k]? = some (.lst xs)) : tyD (.ref k) st = some "list" := by
  unfold tyD
  simp only [h]
/-! all, sum -/
theorem wp_allR {k : Nat} {bs : List Bool} (h : st[k]? = some (.lst (bs.map DV.bl))) : Wp (allM [.ref k] st) QD E = QD (.bl (bs.all id)) st := by
  have e : ∀ bs : List Bool, blsD (bs.map DV.bl) = some bs := fun bs => by
    induction bs with
    | nil => rfl
    | cons b bs ih => simp only [List.map_cons, blsD, ih, Option.map_some]
  show Wp (match (itemsM (.ref k) st).bind blsD with
    | some bs => _
    | none => _) QD E = _
  have : itemsM (.ref k) st = some (bs.map DV.bl) := by
    unfold itemsM
    simp only [h]
  rw [this, Option.bind_some, e]
  rfl
/-! comprehensions -/
def tLc (own : List Nat) (tg : Tg) (c : Sl → M Bool) (e : Ex) (ss : Sl) (Q : PQ DV) (E : XQ) : PQ Wk := fun wk st => wk.items.length ≤ sizeLine ∧ Wp (lcL wk.g own tg c e wk.items ss st) (fun ys st => Q (.ref st.length) (st ++ [.lst ys])) NX
theorem wp_lc {mi : Sl → M Wk} {own : List Nat} {tg : Tg} {c : Sl → M Bool} {e : Ex} : Wp (eLc mi own tg c e ss st) QD E = Wp (mi ss st) (tLc own tg c e ss QD E) E := by
  unfold eLc
  rw [wp_bnd]
  congr 1
  funext wk st
  show Wp ((if _ then _ else _ : M DV) st) QD E = _
  rw [wp_ite]
  have : ∀ p : Prop, [Decidable p] → ∀ a : Prop, (if p then a else Wp ((stuck : M DV) st) QD E) = (p ∧ a) := fun p _ a => ite_bad
  rw [this]
  unfold tLc
  congr 1
  rw [wp_bnd]
  unfold noX
  cases lcL wk.g own tg c e wk.items ss st <;> rfl
theorem tLc_app {own : List Nat} {tg : Tg} {c : Sl → M Bool} {e : Ex} {wk : Wk} : tLc own tg c e ss QD E wk st = (wk.items.length ≤ sizeLine ∧ Wp (lcL wk.g own tg c e wk.items ss st) (fun ys st => QD (.ref st.length) (st ++ [.lst ys])) NX) := nd rfl
/-- by an invariant over what is gathered -/
theorem lc_rule {g : List (Nat × DO)} {own : List Nat} {tg : Tg} {c : Sl → M Bool} {e : Ex} {items : List DV} {QL : PQ (List DV)} (I : Nat → List DV → Sto → Prop) (h0 : I 0 [] st)
    (hg : ∀ i ys st, i ≤ items.length → I i ys st → okG g st)
    (hs : ∀ i x ys st, items[i]? = some x → I i ys st → ∃ ss' st', tg x (wipeD ss own) st = .ok ss' st' ∧ Wp (c ss' st') (fun t st => if t = true then Wp (e ss' st) (fun y st => I (i + 1) (ys ++ [y]) st) NX else I (i + 1) ys st) NX)
    (he : ∀ ys st, I items.length ys st → QL ys st) : Wp (lcL g own tg c e items ss st) QL NX := by
  have key : ∀ (n i : Nat) (ys : List DV) (st : Sto), i + n = items.length → I i ys st → Wp (lcL g own tg c e (items.drop i) ss st) (fun zs st => I items.length (ys ++ zs) st) NX := by
    intro n
    induction n with
    | zero =>
      intro i ys st hi hI
      have : i = items.length := by omega
      subst this
      rw [List.drop_eq_nil_of_le (Nat.le_refl _)]
      simp only [lcL]
      rw [if_pos (hg _ _ _ (Nat.le_refl _) hI)]
      rw [wp_ok, List.append_nil]
      exact hI
    | succ n ih =>
      intro i ys st hi hI
      have hl : i < items.length := by omega
      rw [List.drop_eq_getElem_cons hl]
      simp only [lcL]
      rw [if_pos (hg _ _ _ (Nat.le_of_lt hl) hI)]
      obtain ⟨ss', st', e1, w⟩ := hs i _ ys st (List.getElem?_eq_getElem hl) hI
      rw [wp_bnd, e1]
      rw [wp_ok, tB_app, wp_bnd]
      refine w.mono fun t st2 q => ?_
      rw [tB_app]
      cases t with
      | true =>
        have q : Wp (e ss' st2) (fun y st => I (i + 1) (ys ++ [y]) st) NX := q
        rw [if_pos rfl, wp_bnd]
        refine q.mono fun y st3 q => ?_
        rw [tB_app, wp_bnd]
        refine (ih (i + 1) _ st3 (by omega) q).mono fun zs st4 q => ?_
        show I items.length (ys ++ y :: zs) st4
        rw [List.append_assoc] at q
        exact q
      | false =>
        rw [if_neg Bool.false_ne_true]
        exact ih (i + 1) ys st2 (by omega) q
  have := key items.length 0 [] st (by omega) h0
  rw [List.drop_zero] at this
  exact this.mono fun zs st q => he zs st q
/-- one thing for each item, the store growing -/
theorem lc_map {g : List (Nat × DO)} {own : List Nat} {tg : Tg} {e : Ex} {items : List DV} {QL : PQ (List DV)} (f : Nat → DV)
    (hs : ∀ i x st', items[i]? = some x → Sub st st' → okG g st' ∧ ∃ ss', tg x (wipeD ss own) st' = .ok ss' st' ∧ Wp (e ss' st') (fun y st2 => y = f i ∧ Sub st' st2) NX)
    (hg : ∀ st', Sub st st' → okG g st')
    (he : ∀ st', Sub st st' → QL ((List.range items.length).map f) st') : Wp (lcL g own tg tTrue e items ss st) QL NX := by
  refine lc_rule (fun i ys st' => ys = (List.range i).map f ∧ Sub st st') ⟨rfl, .refl⟩ (fun i ys st' _ h => hg _ h.2) (fun i x ys st' hx h => ?_) fun ys st' h => ?_
  · obtain ⟨rfl, sub⟩ := h
    obtain ⟨_, ss', e1, w⟩ := hs i x st' hx sub
    refine ⟨ss', st', e1, ?_⟩
    show Wp (e ss' st') _ NX
    refine w.mono fun y st2 ⟨ey, s2⟩ => ⟨?_, sub.trans s2⟩
    rw [List.range_succ, List.map_append, ey]
    rfl
  · obtain ⟨rfl, sub⟩ := h
    exact he _ sub
theorem okG_nil {st : Sto} : okG [] st := fun p hp => by simp at hp
theorem okG_one {st : Sto} {k : Nat} {o : DO} (h : st[k]? = some o) : okG [(k, o)] st := fun p hp => by
  have : p = (k, o) := by simpa using hp
  subst this
  exact h
end
/-! equality at any depth -/
mutual
theorem Rd.mono {st st' : Sto} (s : Sub st st') : ∀ {d : DV} {t : PyData}, Rd st d t → Rd st' d t
  | _, _, .non => .non
  | _, _, .bl b => .bl b
  | _, _, .int i => .int i
  | _, _, .str x => .str x
  | _, _, .tup h => .tup (RdAll.mono s h)
  | _, _, .ktp h => .ktp (RdAll.mono s h)
  | _, _, .fzl h => .fzl (RdAll.mono s h)
  | _, _, .ref e h => .ref (s _ _ e) (RdAll.mono s h)
theorem RdAll.mono {st st' : Sto} (s : Sub st st') : ∀ {d : List DV} {t : List PyData}, RdAll st d t → RdAll st' d t
  | _, _, .nil => .nil
  | _, _, .cons h r => .cons (Rd.mono s h) (RdAll.mono s r)
end
/-- small enough to be compared -/
def Sh (n : Nat) (d : PyData) : Prop := d.canLay0 = true ∧ d.depth ≤ n
theorem Sh.mono {n m : Nat} {d : PyData} (h : Sh n d) (l : n ≤ m) : Sh m d := ⟨h.1, Nat.le_trans h.2 l⟩
theorem Sh.int {n : Nat} (i : Int) : Sh n (.int i) := ⟨rfl, Nat.zero_le _⟩
theorem Sh.bl {n : Nat} (i : Bool) : Sh n (.bool i) := ⟨rfl, Nat.zero_le _⟩
theorem Sh.non {n : Nat} : Sh n .none := ⟨rfl, Nat.zero_le _⟩
theorem shAll {n : Nat} : ∀ {ds : List PyData}, (∀ d ∈ ds, Sh n d) → PyData.canLayAll0 ds = true ∧ PyData.depthAll ds ≤ n
  | [], _ => ⟨rfl, Nat.zero_le _⟩
  | d :: ds, h => by
    obtain ⟨h1, h2⟩ := h d List.mem_cons_self
    obtain ⟨h3, h4⟩ := shAll (ds := ds) fun e he => h e (List.mem_cons_of_mem _ he)
    refine ⟨?_, ?_⟩
    · unfold PyData.canLayAll0
      rw [h1, h3]
      rfl
    · unfold PyData.depthAll
      exact Nat.max_le.mpr ⟨h2, h4⟩
theorem Sh.list {n : Nat} {ds : List PyData} (h : ∀ d ∈ ds, Sh n d) : Sh (n + 1) (.list ds) := by
  obtain ⟨h1, h2⟩ := shAll h
  refine ⟨?_, ?_⟩
  · unfold PyData.canLay0; exact h1
  · unfold PyData.depth; omega
theorem Sh.tuple {n : Nat} {ds : List PyData} (h : ∀ d ∈ ds, Sh n d) : Sh (n + 1) (.tuple ds) := by
  obtain ⟨h1, h2⟩ := shAll h
  refine ⟨?_, ?_⟩
  · unfold PyData.canLay0; exact h1
  · unfold PyData.depth; omega
theorem Sh.ok {n : Nat} {d : PyData} (h : Sh n d) (hn : n ≤ 64) : SeqAt.shaped d = true := by
  unfold SeqAt.shaped
  rw [h.1, Bool.true_and]
  exact decide_eq_true (Nat.le_trans h.2 hn)
section
variable {st : Sto} {QD : PQ DV} {E : XQ}
theorem wp_eqD {x y : DV} {d e : PyData} {n m : Nat} (h1 : Rd st x d) (h2 : Rd st y e) (h3 : Sh n d) (h4 : Sh m e) (hn : n ≤ 64) (hm : m ≤ 64) : Wp (eqM x y st) QD E = QD (.bl (PyData.eqv d e)) st := by
  have gen : Wp (optM (deepEq st x y) st) QD E = QD (.bl (PyData.eqv d e)) st := by
    rw [deepEq_of h1 h2 (h3.ok hn) (h4.ok hm)]
    rfl
  cases h1 <;> cases h2 <;> first
    | exact gen
    | (rw [wp_eqI]; simp only [PyData.eqv]; exact congrArg (fun b => QD (.bl b) st) (by rw [Bool.eq_iff_iff]; simp))
    | (rw [wp_eqS]; simp only [PyData.eqv]; exact congrArg (fun b => QD (.bl b) st) (by rw [Bool.eq_iff_iff]; simp))
    | (rw [wp_eqB]; simp only [PyData.eqv]; exact congrArg (fun b => QD (.bl b) st) (by rw [Bool.eq_iff_iff]; simp))
theorem wp_neD {x y : DV} {d e : PyData} {n m : Nat} (h1 : Rd st x d) (h2 : Rd st y e) (h3 : Sh n d) (h4 : Sh m e) (hn : n ≤ 64) (hm : m ≤ 64) : Wp (neM x y st) QD E = QD (.bl (!PyData.eqv d e)) st := by
  have gen : Wp (optM ((deepEq st x y).map (!·)) st) QD E = QD (.bl (!PyData.eqv d e)) st := by
    rw [deepEq_of h1 h2 (h3.ok hn) (h4.ok hm)]
    rfl
  cases h1 <;> cases h2 <;> first
    | exact gen
    | (rw [wp_neI]; simp only [PyData.eqv]; exact congrArg (fun b => QD (.bl (!b)) st) (by rw [Bool.eq_iff_iff]; simp))
    | (rw [wp_neS]; simp only [PyData.eqv]; exact congrArg (fun b => QD (.bl (!b)) st) (by rw [Bool.eq_iff_iff]; simp))
    | (rw [wp_neB]; simp only [PyData.eqv]; exact congrArg (fun b => QD (.bl (!b)) st) (by rw [Bool.eq_iff_iff]; simp))
theorem wp_eqT {x y : DV} {d : PyData} {n : Nat} (h1 : Rd st x d) (h2 : Rd st y d) (h3 : Sh n d) (hn : n ≤ 64) : Wp (eqM x y st) QD E = QD (.bl true) st := by
  rw [wp_eqD h1 h2 h3 h3 hn hn, SeqAt.eqv_refl d h3.1]
theorem wp_neT {x y : DV} {d : PyData} {n : Nat} (h1 : Rd st x d) (h2 : Rd st y d) (h3 : Sh n d) (hn : n ≤ 64) : Wp (neM x y st) QD E = QD (.bl false) st := by
  rw [wp_neD h1 h2 h3 h3 hn hn, SeqAt.eqv_refl d h3.1]
  rfl
theorem rdAll_map {A : Type} {f : A → DV} {g : A → PyData} (h : ∀ a, Rd st (f a) (g a)) : ∀ xs : List A, RdAll st (xs.map f) (xs.map g)
  | [] => .nil
  | x :: xs => .cons (h x) (rdAll_map h xs)
end
end ML
namespace ML
open PySem PySem.Spec PyProof.Rows L2
section
variable {st : Sto} {QD : PQ DV} {E : XQ} {N : Nat} {body : Stt} {a b c d e f g h : DV}
theorem wp_fn0 : Wp (fnM 0 N body [] st) QD E = Wp (body (List.replicate (N - 0) none) st) (tR QD E) NX := wp_fn rfl
theorem wp_fn1 : Wp (fnM 1 N body [a] st) QD E = Wp (body (some a :: List.replicate (N - 1) none) st) (tR QD E) NX := wp_fn rfl
theorem wp_fn2 : Wp (fnM 2 N body [a, b] st) QD E = Wp (body (some a :: some b :: List.replicate (N - 2) none) st) (tR QD E) NX := wp_fn rfl
theorem wp_fn3 : Wp (fnM 3 N body [a, b, c] st) QD E = Wp (body (some a :: some b :: some c :: List.replicate (N - 3) none) st) (tR QD E) NX := wp_fn rfl
theorem wp_fn4 : Wp (fnM 4 N body [a, b, c, d] st) QD E = Wp (body (some a :: some b :: some c :: some d :: List.replicate (N - 4) none) st) (tR QD E) NX := wp_fn rfl
theorem wp_fn5 : Wp (fnM 5 N body [a, b, c, d, e] st) QD E = Wp (body (some a :: some b :: some c :: some d :: some e :: List.replicate (N - 5) none) st) (tR QD E) NX := wp_fn rfl
theorem wp_fn6 : Wp (fnM 6 N body [a, b, c, d, e, f] st) QD E = Wp (body (some a :: some b :: some c :: some d :: some e :: some f :: List.replicate (N - 6) none) st) (tR QD E) NX := wp_fn rfl
end
end ML
namespace ML
open PySem PySem.Spec PyProof.Rows L2
theorem divOk_of {j : Int} (h : 0 < j) (h2 : j < 2 ^ 64) : divOk j := by
  refine ⟨h, ?_⟩
  have hn : j.natAbs ≠ 0 := by omega
  exact Nat.lt_of_lt_of_le ((Nat.log2_lt hn).mpr (show j.natAbs < 2 ^ 64 by omega)) (by decide)
theorem powOk_of {i j : Int} (h : 0 ≤ j) (h2 : j ≤ 1000000) (h3 : i.natAbs < 2 ^ 64) : powOk i j := ⟨h, h2, h3⟩
end ML
namespace ML
open PySem PySem.Spec PyProof.Rows L2
theorem ite2_neg {p q : Prop} [Decidable p] [Decidable q] {X Y : Prop} (h : ¬ (p ∧ q)) : (if p then (if q then X else Y) else Y) = Y := by
  split
  · split
    · exact absurd ⟨by assumption, by assumption⟩ h
    · rfl
  · rfl
theorem ite2_pos {p q : Prop} [Decidable p] [Decidable q] {X Y : Prop} (h : p ∧ q) : (if p then (if q then X else Y) else Y) = X := by
  rw [if_pos h.1, if_pos h.2]
end ML
namespace ML
open PySem PySem.Spec PyProof.Rows L2
theorem at_map {A : Type} (f : A → DV) (xs : List A) {i : Int} (d : A) (h0 : 0 ≤ i) (h : i < xs.length) : atI (xs.map f) i = some (f (xs.getD i.toNat d)) := by
  obtain ⟨j, rfl⟩ := Int.eq_ofNat_of_zero_le h0
  have hj : j < xs.length := by omega
  refine atI_nat ?_
  rw [List.getElem?_map, Int.toNat_natCast, List.getD_eq_getElem?_getD, List.getElem?_eq_getElem hj]
  rfl
theorem getD_mem {A : Type} {xs : List A} {i : Nat} {d : A} (h : i < xs.length) : xs.getD i d ∈ xs := by
  rw [List.getD_eq_getElem?_getD, List.getElem?_eq_getElem h]
  exact List.getElem_mem h
/-- pairs of numbers -/
def pr (p : Int × Int) : DV := .tup [.int p.1, .int p.2]
def pdI (i : Int) : PyData := .int i
def pdP (p : Int × Int) : PyData := .tuple [.int p.1, .int p.2]
theorem rd_I {st : Sto} (i : Int) : Rd st (.int i) (pdI i) := .int i
theorem rd_P {st : Sto} (p : Int × Int) : Rd st (pr p) (pdP p) := .tup (.cons (.int _) (.cons (.int _) .nil))
theorem rd_LI {st : Sto} {k : Nat} {L : List Int} (h : st[k]? = some (.lst (L.map DV.int))) : Rd st (.ref k) (.list (L.map pdI)) := .ref h (rdAll_map rd_I L)
theorem rd_LP {st : Sto} {k : Nat} {L : List (Int × Int)} (h : st[k]? = some (.lst (L.map pr))) : Rd st (.ref k) (.list (L.map pdP)) := .ref h (rdAll_map rd_P L)
theorem sh_I {n : Nat} (i : Int) : Sh n (pdI i) := .int i
theorem sh_P {n : Nat} (p : Int × Int) : Sh (n + 1) (pdP p) := .tuple fun d hd => by
  simp at hd
  rcases hd with rfl | rfl <;> exact .int _
theorem sh_map {A : Type} {n : Nat} {g : A → PyData} (h : ∀ a, Sh n (g a)) (L : List A) : Sh (n + 1) (.list (L.map g)) := .list fun d hd => by
  obtain ⟨a, _, rfl⟩ := List.mem_map.mp hd
  exact h a
/-- a work: doors in, boxes, gates, ends told -/
structure Work where
  ins : Int
  boxes : List (Int × Int)
  gates : List (Int × Int)
  outs : List Int
def Work.pd (W : Work) : PyData := .tuple [.int W.ins, .list (W.boxes.map pdP), .list (W.gates.map pdP), .list (W.outs.map pdI)]
structure IsW (st : Sto) (W : Work) (kb kg ko : Nat) : Prop where
  b : st[kb]? = some (.lst (W.boxes.map pr))
  g : st[kg]? = some (.lst (W.gates.map pr))
  o : st[ko]? = some (.lst (W.outs.map DV.int))
def Work.dv (W : Work) (kb kg ko : Nat) : DV := .tup [.int W.ins, .ref kb, .ref kg, .ref ko]
theorem IsW.mono {st st' : Sto} {W : Work} {kb kg ko : Nat} (h : IsW st W kb kg ko) (s : Sub st st') : IsW st' W kb kg ko := ⟨s _ _ h.b, s _ _ h.g, s _ _ h.o⟩
theorem IsW.rd {st : Sto} {W : Work} {kb kg ko : Nat} (h : IsW st W kb kg ko) : Rd st (W.dv kb kg ko) W.pd := .tup (.cons (.int _) (.cons (rd_LP h.b) (.cons (rd_LP h.g) (.cons (rd_LI h.o) .nil))))
theorem Work.sh (W : Work) : Sh 3 W.pd := .tuple fun d hd => by
  simp at hd
  rcases hd with rfl | rfl | rfl | rfl
  · exact .int _
  · exact sh_map (sh_P (n := 0)) _
  · exact sh_map (sh_P (n := 0)) _
  · exact (sh_map (sh_I (n := 0)) _).mono (by decide)
structure Good (W : Work) (nb ng no : Nat) : Prop where
  i0 : 0 ≤ W.ins
  i1 : W.ins < 72
  nb : W.boxes.length ≤ nb
  ng : W.gates.length ≤ ng
  no : W.outs.length ≤ no
  bx : ∀ p ∈ W.boxes, 0 ≤ p.1 ∧ p.1 < 2 ∧ 0 ≤ p.2 ∧ p.2 < 2 * (1 + W.ins + W.boxes.length + W.gates.length)
  gt : ∀ (i : Nat) (p : Int × Int), W.gates[i]? = some p → 0 ≤ p.1 ∧ p.1 < 2 * (1 + W.ins + W.boxes.length + i) ∧ 0 ≤ p.2 ∧ p.2 < 2 * (1 + W.ins + W.boxes.length + i)
  ot : ∀ e ∈ W.outs, 0 ≤ e ∧ e < 2 * (1 + W.ins + W.boxes.length + W.gates.length)
end ML
namespace ML
open PySem PySem.Spec PyProof.Rows L2
section
variable {st : Sto} {QD : PQ DV} {E : XQ}
theorem wp_mull {i j : Int} (h : -18446744073709551616 < i) (h' : i < 18446744073709551616) : Wp (mulM (.int i) (.int j) st) QD E = QD (.int (i * j)) st := by
  rw [wp_mul]
  simp only [mulOk_l h h', true_and]
theorem wp_mulr {i j : Int} (h : -18446744073709551616 < j) (h' : j < 18446744073709551616) : Wp (mulM (.int i) (.int j) st) QD E = QD (.int (i * j)) st := by
  rw [wp_mul]
  simp only [mulOk_r h h', true_and]
theorem wp_fdivc {i j : Int} (h : 0 < j) (h' : j < 18446744073709551616) : Wp (fdivM (.int i) (.int j) st) QD E = QD (.int (i / j)) st := by
  rw [wp_fdiv]
  simp only [divOk_of h h', true_and]
theorem wp_modc {i j : Int} (h : 0 < j) : Wp (modM (.int i) (.int j) st) QD E = QD (.int (i % j)) st := by
  rw [wp_mod]
  simp only [h, true_and]
theorem wp_powc {i j : Int} (h : 0 ≤ j) (h2 : j ≤ 1000000) (h3 : i.natAbs < 18446744073709551616) : Wp (powM (.int i) (.int j) st) QD E = QD (.int (i ^ j.toNat)) st := by
  rw [wp_pow]
  simp only [powOk_of h h2 h3, true_and]
theorem wp_shlc {i j : Int} (h : 0 ≤ j) (h2 : j ≤ 1000000) (h3 : i.natAbs < 18446744073709551616) : Wp (shlM (.int i) (.int j) st) QD E = QD (.int (i * 2 ^ j.toNat)) st := by
  rw [wp_shl]
  simp only [powOk_of h h2 h3, true_and]
theorem wp_shrc {i j : Int} (h : 0 ≤ j) : Wp (shrM (.int i) (.int j) st) QD E = QD (.int (i / 2 ^ j.toNat)) st := by
  rw [wp_shr]
  simp only [h, true_and]
end
theorem at_int {xs : List Int} {i : Int} (h0 : 0 ≤ i) (h : i < xs.length) : atI (xs.map DV.int) i = some (.int (xs.getD i.toNat 0)) := at_map DV.int xs 0 h0 h
theorem at_pr {xs : List (Int × Int)} {i : Int} (h0 : 0 ≤ i) (h : i < xs.length) : atI (xs.map pr) i = some (pr (xs.getD i.toNat (0, 0))) := at_map pr xs (0, 0) h0 h
end ML
namespace ML
open PySem PySem.Spec PyProof.Rows L2
theorem wp_appendc {st : Sto} {QD : PQ DV} {E : XQ} {k : Nat} {xs : List DV} {y : DV} (h : st[k]? = some (.lst xs)) (hl : xs.length < 16777216) : Wp (appendM (.ref k) [y] st) QD E = QD .non (st.set k (.lst (xs ++ [y]))) := by
  rw [wp_append h, sl_eq]
  simp only [hl, true_and]
theorem wp_addRc {st : Sto} {QD : PQ DV} {E : XQ} {k l : Nat} {xs ys : List DV} (h : st[k]? = some (.lst xs)) (h' : st[l]? = some (.lst ys)) (hl : xs.length + ys.length ≤ 16777216) : Wp (addM (.ref k) (.ref l) st) QD E = QD (.ref st.length) (st ++ [.lst (xs ++ ys)]) := by
  rw [wp_addR h h', sl_eq]
  simp only [hl, true_and]
end ML
namespace ML
open PySem PySem.Spec PyProof.Rows L2
section
variable {st : Sto} {ss : Sl} {QD : PQ DV} {QW : PQ Wk} {E : XQ}
def tLn (Q : PQ DV) : PQ (List DV) := fun ys st => Q (.ref st.length) (st ++ [.lst ys])
def tRg1 (Q : PQ Wk) : PQ (List DV) := fun ds st => match ds with
  | [.int j] => small62 j ∧ Q ⟨irange 0 j.toNat, []⟩ st
  | _ => False
def tRg2 (Q : PQ Wk) : PQ (List DV) := fun ds st => match ds with
  | [.int i, .int j] => (small62 i ∧ small62 j) ∧ Q ⟨irange i (j - i).toNat, []⟩ st
  | _ => False
theorem wp_rg1t {ms : List Ex} : Wp (iRg1 ms ss st) QW E = Wp (eArgs ms ss st) (tRg1 QW) E := wp_rg1
theorem wp_rg2t {ms : List Ex} : Wp (iRg2 ms ss st) QW E = Wp (eArgs ms ss st) (tRg2 QW) E := wp_rg2
theorem tRg1_app {j : Int} (h : -4611686018427387904 ≤ j) (h' : j < 4611686018427387904) : tRg1 QW [.int j] st = QW ⟨irange 0 j.toNat, []⟩ st := by
  have : small62 j := ⟨h, h'⟩
  unfold tRg1
  simp only [this, true_and]
theorem tRg2_app {i j : Int} (h : -4611686018427387904 ≤ i) (h' : i < 4611686018427387904) (g : -4611686018427387904 ≤ j) (g' : j < 4611686018427387904) : tRg2 QW [.int i, .int j] st = QW ⟨irange i (j - i).toNat, []⟩ st := by
  have h1 : small62 i := ⟨h, h'⟩
  have h2 : small62 j := ⟨g, g'⟩
  unfold tRg2
  simp only [h1, h2, true_and]
theorem tLc_rg {own : List Nat} {tg : Tg} {c : Sl → M Bool} {e : Ex} {lo : Int} {n : Nat} {g : List (Nat × DO)} (h : n ≤ 16777216) : tLc own tg c e ss QD E ⟨irange lo n, g⟩ st = Wp (lcL g own tg c e (irange lo n) ss st) (tLn QD) NX := by
  rw [tLc_app, sl_eq]
  simp only [irange_length, h, true_and]
  rfl
theorem tLc_mp {A : Type} {f : A → DV} {L : List A} {own : List Nat} {tg : Tg} {c : Sl → M Bool} {e : Ex} {g : List (Nat × DO)} (h : L.length ≤ 16777216) : tLc own tg c e ss QD E ⟨L.map f, g⟩ st = Wp (lcL g own tg c e (L.map f) ss st) (tLn QD) NX := by
  rw [tLc_app, sl_eq]
  simp only [List.length_map, h, true_and]
  rfl
end
/-- over a list, one thing for each -/
theorem lc_mapL {A : Type} {f : A → DV} {L : List A} {st : Sto} {ss : Sl} {g : List (Nat × DO)} {own : List Nat} {tg : Tg} {e : Ex} {QL : PQ (List DV)} (F : A → DV)
    (hs : ∀ a st', a ∈ L → Sub st st' → ∃ ss', tg (f a) (wipeD ss own) st' = .ok ss' st' ∧ Wp (e ss' st') (fun y st2 => y = F a ∧ Sub st' st2) NX)
    (hg : ∀ st', Sub st st' → okG g st')
    (he : ∀ st', Sub st st' → QL (L.map F) st') : Wp (lcL g own tg tTrue e (L.map f) ss st) QL NX := by
  refine lc_rule (fun i ys st' => ys = (L.take i).map F ∧ Sub st st') ⟨by simp, .refl⟩ (fun i ys st' _ h => hg _ h.2) (fun i x ys st' hx h => ?_) fun ys st' h => ?_
  · obtain ⟨rfl, sub⟩ := h
    rw [List.getElem?_map] at hx
    cases hL : L[i]? with
    | none => rw [hL] at hx; cases hx
    | some a =>
      rw [hL] at hx
      cases hx
      obtain ⟨ss', e1, w⟩ := hs a st' (List.mem_of_getElem? hL) sub
      refine ⟨ss', st', e1, ?_⟩
      show Wp (e ss' st') _ NX
      refine w.mono fun y st2 ⟨ey, s2⟩ => ⟨?_, sub.trans s2⟩
      rw [List.take_add_one, hL, List.map_append, ey]
      rfl
  · obtain ⟨rfl, sub⟩ := h
    rw [List.length_map, List.take_length]
    exact he _ sub
/-- over a range -/
theorem lc_rg {lo : Int} {n : Nat} {st : Sto} {ss : Sl} {g : List (Nat × DO)} {own : List Nat} {tg : Tg} {e : Ex} {QL : PQ (List DV)} (F : Nat → DV)
    (hs : ∀ i st', i < n → Sub st st' → ∃ ss', tg (.int (lo + (i : Nat))) (wipeD ss own) st' = .ok ss' st' ∧ Wp (e ss' st') (fun y st2 => y = F i ∧ Sub st' st2) NX)
    (hg : ∀ st', Sub st st' → okG g st')
    (he : ∀ st', Sub st st' → QL ((List.range n).map F) st') : Wp (lcL g own tg tTrue e (irange lo n) ss st) QL NX := by
  unfold irange
  exact lc_mapL (L := List.range n) F (fun a st' ha s => hs a st' (List.mem_range.mp ha) s) hg he
end ML
namespace ML
open PySem PySem.Spec PyProof.Rows L2
theorem for_nil {g : List (Nat × DO)} {tg : Tg} {b : Stt} {ss : Sl} {st : Sto} {QF : PQ Fl} {E : XQ} (hg : okG g st) (h : QF (.nx ss) st) : Wp (forL g tg b [] ss st) QF E := by
  simp only [forL]
  rw [if_pos hg]
  exact h
theorem for_cons {g : List (Nat × DO)} {tg : Tg} {b : Stt} {x : DV} {xs : List DV} {ss ss' : Sl} {st st' : Sto} {QF : PQ Fl} {E : XQ} (hg : okG g st) (ht : tg x ss st = .ok ss' st') (h : Wp (b ss' st') (tLp (fun ss st => Wp (forL g tg b xs ss st) QF E) QF) E) : Wp (forL g tg b (x :: xs) ss st) QF E := by
  simp only [forL]
  rw [if_pos hg]
  unfold gK
  rw [ht]
  show Wp (match b ss' st' with
    | .ok (.nx ss2) st2 => forL g tg b xs ss2 st2
    | .ok (.ct ss2) st2 => forL g tg b xs ss2 st2
    | .ok (.bk ss2) st2 => .ok (.nx ss2) st2
    | o => o) QF E
  revert h
  cases b ss' st' with
  | ok fl st2 => cases fl <;> exact fun w => w
  | exc e st2 => exact fun w => w
  | bad => exact fun w => w
/-- over a list, one thing of a kind for each -/
theorem lc_mapG {A B : Type} {f : A → DV} {L : List A} {st : Sto} {ss : Sl} {g : List (Nat × DO)} {own : List Nat} {tg : Tg} {e : Ex} {QL : PQ (List DV)} (G : B → DV) (F : A → B)
    (hs : ∀ a st', a ∈ L → Sub st st' → ∃ ss', tg (f a) (wipeD ss own) st' = .ok ss' st' ∧ Wp (e ss' st') (fun y st2 => y = G (F a) ∧ Sub st' st2) NX)
    (hg : ∀ st', Sub st st' → okG g st')
    (he : ∀ st', Sub st st' → QL ((L.map F).map G) st') : Wp (lcL g own tg tTrue e (L.map f) ss st) QL NX :=
  lc_mapL (fun a => G (F a)) hs hg fun st' s => by
    have := he st' s
    rw [List.map_map] at this
    exact this
theorem lc_rgG {B : Type} {lo : Int} {n : Nat} {st : Sto} {ss : Sl} {g : List (Nat × DO)} {own : List Nat} {tg : Tg} {e : Ex} {QL : PQ (List DV)} (G : B → DV) (F : Nat → B)
    (hs : ∀ i st', i < n → Sub st st' → ∃ ss', tg (.int (lo + (i : Nat))) (wipeD ss own) st' = .ok ss' st' ∧ Wp (e ss' st') (fun y st2 => y = G (F i) ∧ Sub st' st2) NX)
    (hg : ∀ st', Sub st st' → okG g st')
    (he : ∀ st', Sub st st' → QL (((List.range n).map F).map G) st') : Wp (lcL g own tg tTrue e (irange lo n) ss st) QL NX :=
  lc_rg (fun a => G (F a)) hs hg fun st' s => by
    have := he st' s
    rw [List.map_map] at this
    exact this
/-- an end of a row: the row's number, turned by the end's sign -/
def endL (R : List Int) (e : Int) : Int := Builtin.bitXor (R.getD (e / 2).toNat 0) (Builtin.bitAnd e 1)
theorem xor_end (x e : Int) : Builtin.bitXor x (Builtin.bitAnd e 1) = if e % 2 = 0 then x else x + 1 - 2 * (x % 2) := by
  rw [bitAnd_m1]
  split
  · rename_i h
    rw [h, bitXor_zero]
  · rename_i h
    have h1 : e % 2 = 1 := by omega
    rw [h1, bitXor_and, bitAnd_m1]
theorem xor_even (k e : Int) : Builtin.bitXor (2 * k) (Builtin.bitAnd e 1) = 2 * k + e % 2 := by
  rw [xor_end]
  split <;> omega
end ML
namespace ML
open PySem PySem.Spec PyProof.Rows L2
section
variable {st : Sto} {ss : Sl} {QD : PQ DV} {E : XQ}
/-- what holds of a new list -/
def New (st : Sto) (xs : List DV) (Q : PQ DV) : Prop := ∀ st' k, Sub st st' → st.length ≤ k → k < st'.length → st'[k]? = some (.lst xs) → Q (.ref k) st'
theorem New.at {st1 : Sto} {xs : List DV} (h : New st xs QD) (s : Sub st st1) : QD (.ref st1.length) (st1 ++ [.lst xs]) := h _ _ (s.trans .app) s.len (by simp) get_new
theorem lcn_mapG {A B : Type} {f : A → DV} {L : List A} {g : List (Nat × DO)} {own : List Nat} {tg : Tg} {e : Ex} (G : B → DV) (F : A → B)
    (hs : ∀ a st', a ∈ L → Sub st st' → ∃ ss', tg (f a) (wipeD ss own) st' = .ok ss' st' ∧ Wp (e ss' st') (fun y st2 => y = G (F a) ∧ Sub st' st2) NX)
    (hg : ∀ st', Sub st st' → okG g st')
    (he : New st ((L.map F).map G) QD) : Wp (lcL g own tg tTrue e (L.map f) ss st) (tLn QD) NX :=
  lc_mapG G F hs hg fun _ s => he.at s
theorem lcn_rgG {B : Type} {lo : Int} {n : Nat} {g : List (Nat × DO)} {own : List Nat} {tg : Tg} {e : Ex} (G : B → DV) (F : Nat → B)
    (hs : ∀ i st', i < n → Sub st st' → ∃ ss', tg (.int (lo + (i : Nat))) (wipeD ss own) st' = .ok ss' st' ∧ Wp (e ss' st') (fun y st2 => y = G (F i) ∧ Sub st' st2) NX)
    (hg : ∀ st', Sub st st' → okG g st')
    (he : New st (((List.range n).map F).map G) QD) : Wp (lcL g own tg tTrue e (irange lo n) ss st) (tLn QD) NX :=
  lc_rgG G F hs hg fun _ s => he.at s
theorem wp_addN {k l : Nat} {xs ys : List DV} (h : st[k]? = some (.lst xs)) (h' : st[l]? = some (.lst ys)) (hl : xs.length + ys.length ≤ 16777216) (hq : New st (xs ++ ys) QD) : Wp (addM (.ref k) (.ref l) st) QD E := by
  rw [wp_addRc h h' hl]
  exact hq.at .refl
theorem wp_addNG {B : Type} {G : B → DV} {k l : Nat} {xs ys : List B} (h : st[k]? = some (.lst (xs.map G))) (h' : st[l]? = some (.lst (ys.map G))) (hl : xs.length + ys.length ≤ 16777216) (hq : New st ((xs ++ ys).map G) QD) : Wp (addM (.ref k) (.ref l) st) QD E := by
  refine wp_addN h h' (by rw [List.length_map, List.length_map]; exact hl) ?_
  rw [List.map_append] at hq
  exact hq
theorem wp_listN {k : Nat} {xs : List DV} (h : st[k]? = some (.lst xs)) (hq : New st xs QD) : Wp (listM [.ref k] st) QD E := by
  rw [wp_listR h]
  exact hq.at .refl
theorem wp_allocN {xs : List DV} (hq : New st xs QD) : Wp (alloc (.lst xs) st) QD E := by
  rw [wp_alloc]
  exact hq.at .refl
end
end ML
namespace ML
theorem kt_int : knownTy "int" = true := by decide
theorem kt_bool : knownTy "bool" = true := by decide
theorem kt_str : knownTy "str" = true := by decide
theorem kt_tuple : knownTy "tuple" = true := by decide
theorem kt_list : knownTy "list" = true := by decide
theorem kt_dict : knownTy "dict" = true := by decide
theorem it_NoneType_int : isTy "NoneType" "int" = false := by decide
theorem it_NoneType_bool : isTy "NoneType" "bool" = false := by decide
theorem it_NoneType_str : isTy "NoneType" "str" = false := by decide
theorem it_NoneType_tuple : isTy "NoneType" "tuple" = false := by decide
theorem it_NoneType_list : isTy "NoneType" "list" = false := by decide
theorem it_NoneType_dict : isTy "NoneType" "dict" = false := by decide
theorem it_bool_int : isTy "bool" "int" = true := by decide
theorem it_bool_bool : isTy "bool" "bool" = true := by decide
theorem it_bool_str : isTy "bool" "str" = false := by decide
theorem it_bool_tuple : isTy "bool" "tuple" = false := by decide
theorem it_bool_list : isTy "bool" "list" = false := by decide
theorem it_bool_dict : isTy "bool" "dict" = false := by decide
theorem it_int_int : isTy "int" "int" = true := by decide
theorem it_int_bool : isTy "int" "bool" = false := by decide
theorem it_int_str : isTy "int" "str" = false := by decide
theorem it_int_tuple : isTy "int" "tuple" = false := by decide
theorem it_int_list : isTy "int" "list" = false := by decide
theorem it_int_dict : isTy "int" "dict" = false := by decide
theorem it_str_int : isTy "str" "int" = false := by decide
theorem it_str_bool : isTy "str" "bool" = false := by decide
theorem it_str_str : isTy "str" "str" = true := by decide
theorem it_str_tuple : isTy "str" "tuple" = false := by decide
theorem it_str_list : isTy "str" "list" = false := by decide
theorem it_str_dict : isTy "str" "dict" = false := by decide
theorem it_tuple_int : isTy "tuple" "int" = false := by decide
theorem it_tuple_bool : isTy "tuple" "bool" = false := by decide
theorem it_tuple_str : isTy "tuple" "str" = false := by decide
theorem it_tuple_tuple : isTy "tuple" "tuple" = true := by decide
theorem it_tuple_list : isTy "tuple" "list" = false := by decide
theorem it_tuple_dict : isTy "tuple" "dict" = false := by decide
theorem it_list_int : isTy "list" "int" = false := by decide
theorem it_list_bool : isTy "list" "bool" = false := by decide
theorem it_list_str : isTy "list" "str" = false := by decide
theorem it_list_tuple : isTy "list" "tuple" = false := by decide
theorem it_list_list : isTy "list" "list" = true := by decide
theorem it_list_dict : isTy "list" "dict" = false := by decide
theorem it_dict_int : isTy "dict" "int" = false := by decide
theorem it_dict_bool : isTy "dict" "bool" = false := by decide
theorem it_dict_str : isTy "dict" "str" = false := by decide
theorem it_dict_tuple : isTy "dict" "tuple" = false := by decide
theorem it_dict_list : isTy "dict" "list" = false := by decide
theorem it_dict_dict : isTy "dict" "dict" = true := by decide
end ML
namespace ML
open PySem PySem.Spec PyProof.Rows L2
section
variable {st : Sto} {ss : Sl} {QD : PQ DV} {QF : PQ Fl} {E : XQ} {W : Work} {kb kg ko : Nat}
theorem wp_ixW0 : Wp (ixM (W.dv kb kg ko) (.int 0) st) QD E = QD (.int W.ins) st := nd rfl
theorem wp_ixW1 : Wp (ixM (W.dv kb kg ko) (.int 1) st) QD E = QD (.ref kb) st := by
  unfold Work.dv
  rw [wp_ixT, at1]
  rfl
theorem wp_ixW2 : Wp (ixM (W.dv kb kg ko) (.int 2) st) QD E = QD (.ref kg) st := by
  unfold Work.dv
  rw [wp_ixT, at2]
  rfl
theorem wp_ixW3 : Wp (ixM (W.dv kb kg ko) (.int 3) st) QD E = QD (.ref ko) st := by
  unfold Work.dv
  rw [wp_ixT, at3]
  rfl
theorem ty_W : tyD (W.dv kb kg ko) st = some "tuple" := rfl
theorem wp_lenW : Wp (lenM [W.dv kb kg ko] st) QD E = QD (.int 4) st := nd rfl
theorem wp_slW {lo hi : Option Int} : Wp (slM (W.dv kb kg ko) lo hi st) QD E = QD (.tup (cutD [.int W.ins, .ref kb, .ref kg, .ref ko] lo hi)) st := nd rfl
theorem tG2_W {a b c d : Nat} : tG2 (gTpL [a, b, c, d]) ss QF (W.dv kb kg ko) st = QF (.nx (setAll [a, b, c, d] [.int W.ins, .ref kb, .ref kg, .ref ko] ss)) st := nd rfl
theorem wp_ixP0 {p : Int × Int} : Wp (ixM (pr p) (.int 0) st) QD E = QD (.int p.1) st := nd rfl
theorem wp_ixP1 {p : Int × Int} : Wp (ixM (pr p) (.int 1) st) QD E = QD (.int p.2) st := by
  unfold pr
  rw [wp_ixT, at1]
  rfl
theorem tG2_P {a b : Nat} {p : Int × Int} : tG2 (gTpL [a, b]) ss QF (pr p) st = QF (.nx (setAll [a, b] [.int p.1, .int p.2] ss)) st := nd rfl
theorem dv_fold {i : Int} {bs gs : List (Int × Int)} {os : List Int} : DV.tup [.int i, .ref kb, .ref kg, .ref ko] = Work.dv ⟨i, bs, gs, os⟩ kb kg ko := rfl
end
end ML
namespace ML
open PySem PySem.Spec PyProof.Rows L2
theorem rg_up {i j c : Int} (hi : -1099511627776 ≤ i) (hi' : i ≤ 1099511627776) (hj : -1099511627776 ≤ j) (hj' : j ≤ 1099511627776) (hc : 0 < c) (hc' : c < 1048576) : Builtin.Range.small i j c = true ∧ Builtin.Range.rangeSize i j c = (((if i < j then (j - i - 1) / c + 1 else 0 : Int).toNat : Nat) : Int) := by
  have e : Builtin.Range.rangeSize i j c = if i < j then (j - i - 1) / c + 1 else 0 := by
    unfold Builtin.Range.rangeSize
    rw [if_pos hc]
  have hb : 0 ≤ (if i < j then (j - i - 1) / c + 1 else 0) ∧ (if i < j then (j - i - 1) / c + 1 else 0) ≤ 4398046511104 := by
    split
    · rename_i h
      have h1 : 0 ≤ j - i - 1 := by omega
      have h2 := Int.ediv_nonneg h1 (Int.le_of_lt hc)
      have h3 := Int.ediv_le_self c h1
      omega
    · omega
  refine ⟨?_, by rw [e]; omega⟩
  unfold Builtin.Range.small
  rw [e]
  simp only [Builtin.Range.rangeFitsLong, Bool.and_eq_true, Bool.or_eq_true, decide_eq_true_eq, beq_iff_eq, show c > 0 from hc, if_true]
  omega
section
variable {st : Sto} {ss : Sl} {QW : PQ Wk} {E : XQ}
def tRg3 (Q : PQ Wk) : PQ (List DV) := fun ds st => match ds with
  | [.int i, .int j, .int c] => (c ≠ 0 ∧ c.natAbs < 1073741824 ∧ Builtin.Range.small i j c = true ∧ Builtin.Range.rangeSize i j c = ((Builtin.Range.rangeSize i j c).toNat : Int)) ∧ Q ⟨rsteps i c (Builtin.Range.rangeSize i j c).toNat, []⟩ st
  | _ => False
theorem wp_rg3 {ms : List Ex} : Wp (iRg3 ms ss st) QW E = Wp (eArgs ms ss st) (tRg3 QW) E := by
  unfold iRg3
  rw [wp_bnd]
  congr 1
  funext ds st
  rcases ds with _ | ⟨d, _ | ⟨d', _ | ⟨d2, _ | ⟨d3, r⟩⟩⟩⟩
  · rfl
  · cases d <;> rfl
  · cases d <;> cases d' <;> rfl
  · cases d with
    | int i =>
      cases d' with
      | int j =>
        cases d2 with
        | int c =>
          show Wp (if _ then _ else _) QW E = _
          rw [wp_ite', wp_bad, ite_bad]
          rfl
        | _ => rfl
      | _ => rfl
    | _ => rfl
  · cases d <;> cases d' <;> cases d2 <;> rfl
theorem tRg3_app {i j c : Int} (hi : -1099511627776 ≤ i) (hi' : i ≤ 1099511627776) (hj : -1099511627776 ≤ j) (hj' : j ≤ 1099511627776) (hc : 0 < c) (hc' : c < 1048576) : tRg3 QW [.int i, .int j, .int c] st = QW ⟨rsteps i c (if i < j then (j - i - 1) / c + 1 else 0 : Int).toNat, []⟩ st := by
  obtain ⟨h1, h2⟩ := rg_up hi hi' hj hj' hc hc'
  have h3 : (Builtin.Range.rangeSize i j c).toNat = (if i < j then (j - i - 1) / c + 1 else 0 : Int).toNat := by rw [h2, Int.toNat_natCast]
  show ((_ ∧ _) ∧ _) = _
  rw [h3]
  have h4 : c ≠ 0 := by omega
  have h5 : c.natAbs < 1073741824 := by omega
  simp only [h1, h2, h4, h5, true_and, ne_eq, not_false_eq_true]
theorem tRg3_dn {i j : Int} (ha : -4611686018427387904 ≤ i) (ha' : i < 4611686018427387904) (hb : -4611686018427387904 ≤ j) (hb' : j < 4611686018427387904) : tRg3 QW [.int i, .int j, .int (-1)] st = QW ⟨rsteps i (-1) (i - j).toNat, []⟩ st := by
  have h1 := PySem.W.small_down ha ha' hb hb'
  have h2 := PySem.W.rangeSize_downNat i j
  have h3 : (Builtin.Range.rangeSize i j (-1)).toNat = (i - j).toNat := by rw [h2, Int.toNat_natCast]
  show ((_ ∧ _) ∧ _) = _
  rw [h3]
  have h4 : (-1 : Int) ≠ 0 := by omega
  have h5 : (-1 : Int).natAbs < 1073741824 := by omega
  simp only [h1, h2, h4, h5, true_and, ne_eq, not_false_eq_true]
end
theorem rsteps_get {i c : Int} {n k : Nat} {d : DV} (h : (rsteps i c n)[k]? = some d) : k < n ∧ d = .int (i + k * c) := by
  unfold rsteps at h
  rw [List.getElem?_map] at h
  by_cases hk : k < n
  · rw [List.getElem?_range hk] at h
    cases h
    exact ⟨hk, rfl⟩
  · rw [List.getElem?_eq_none (by simpa using hk)] at h
    cases h
theorem rsteps_len {i c : Int} {n : Nat} : (rsteps i c n).length = n := by unfold rsteps; rw [List.length_map, List.length_range]
end ML
namespace ML
open PySem PySem.Spec PyProof.Rows L2
section
variable {st : Sto} {QD : PQ DV} {E : XQ}
theorem wp_isTN {xs : List DV} : Wp (isM (.tup xs) .non st) QD E = QD (.bl false) st := nd rfl
theorem wp_isnTN {xs : List DV} : Wp (isnM (.tup xs) .non st) QD E = QD (.bl true) st := nd rfl
theorem wp_isRN {k : Nat} : Wp (isM (.ref k) .non st) QD E = QD (.bl false) st := nd rfl
theorem wp_isnRN {k : Nat} : Wp (isnM (.ref k) .non st) QD E = QD (.bl true) st := nd rfl
theorem wp_isNN : Wp (isM .non .non st) QD E = QD (.bl true) st := nd rfl
theorem wp_isnNN : Wp (isnM .non .non st) QD E = QD (.bl false) st := nd rfl
theorem wp_isIN {i : Int} : Wp (isM (.int i) .non st) QD E = QD (.bl false) st := nd rfl
theorem wp_isnIN {i : Int} : Wp (isnM (.int i) .non st) QD E = QD (.bl true) st := nd rfl
end
theorem sh_LI {L : List Int} : Sh 1 (.list (L.map pdI)) := sh_map (sh_I (n := 0)) L
theorem sh_LP {L : List (Int × Int)} : Sh 2 (.list (L.map pdP)) := sh_map (sh_P (n := 0)) L
end ML
namespace ML
open PySem PySem.Spec PyProof.Rows L2
theorem cut_init {xs : List DV} {x : DV} : cutD (xs ++ [x]) none (some (-1)) = xs := by
  have e : HT.sIx (xs ++ [x]).length (xs ++ [x]).length (some (-1)) = xs.length := by
    have h : HT.sIx (xs ++ [x]).length (xs ++ [x]).length (some (-1)) = (-1 + ((xs ++ [x]).length : Int)).toNat := rfl
    rw [h, List.length_append, List.length_singleton]
    omega
  unfold cutD
  rw [HT.sIx_none, e, List.drop_zero, Nat.sub_zero, List.take_left']
  rfl
end ML

/-! MP3: lists of rows of numbers. -/
namespace ML
open PySem PySem.Spec PyProof.Rows L2
def rowR (q : Nat × List Int) : DV := .ref q.1
/-- the rows q lie at k -/
structure Rows (st : Sto) (k b : Nat) (qs : List (Nat × List Int)) : Prop where
  at_ : st[k]? = some (.lst (qs.map rowR))
  ob : ∀ q ∈ qs, b ≤ q.1 ∧ q.1 ≠ k ∧ st[q.1]? = some (.lst (q.2.map DV.int))
def pdR (R : List Int) : PyData := .list (R.map pdI)
theorem Rows.mono {st st' : Sto} {k b : Nat} {qs : List (Nat × List Int)} (h : Rows st k b qs) (s : Sub st st') : Rows st' k b qs := ⟨s _ _ h.at_, fun q hq => let ⟨h1, h2, h3⟩ := h.ob q hq; ⟨h1, h2, s _ _ h3⟩⟩
theorem Rows.low {st : Sto} {k b b' : Nat} {qs : List (Nat × List Int)} (h : Rows st k b qs) (hb : b' ≤ b) : Rows st k b' qs := ⟨h.at_, fun q hq => let ⟨h1, h2, h3⟩ := h.ob q hq; ⟨Nat.le_trans hb h1, h2, h3⟩⟩
theorem rdAll_rows {st : Sto} : ∀ {qs : List (Nat × List Int)}, (∀ q ∈ qs, st[q.1]? = some (.lst (q.2.map DV.int))) → RdAll st (qs.map rowR) ((qs.map (·.2)).map pdR)
  | [], _ => .nil
  | q :: qs, h => .cons (rd_LI (h q List.mem_cons_self)) (rdAll_rows fun p hp => h p (List.mem_cons_of_mem _ hp))
theorem Rows.rd {st : Sto} {k b : Nat} {qs : List (Nat × List Int)} (h : Rows st k b qs) : Rd st (.ref k) (.list ((qs.map (·.2)).map pdR)) := .ref h.at_ (rdAll_rows fun q hq => (h.ob q hq).2.2)
theorem sh_R {n : Nat} (R : List Int) : Sh (n + 1) (pdR R) := sh_map (fun i => sh_I (n := n) i) R
theorem sh_rows {RR : List (List Int)} : Sh 2 (.list (RR.map pdR)) := sh_map (sh_R (n := 0)) RR
theorem Rows.nil {st : Sto} {k b : Nat} (h : st[k]? = some (.lst [])) : Rows st k b [] := ⟨h, fun q hq => by simp at hq⟩
/-- one row more -/
theorem Rows.push {st : Sto} {k b kk : Nat} {qs : List (Nat × List Int)} {R : List Int} (h : Rows st k b qs) (h1 : st[kk]? = some (.lst (R.map DV.int))) (hb : b ≤ kk) (hk : kk ≠ k) : Rows (st.set k (.lst (qs.map rowR ++ [.ref kk]))) k b (qs ++ [(kk, R)]) := by
  refine ⟨?_, fun q hq => ?_⟩
  · rw [get_set h.at_, List.map_append]
    rfl
  · rcases List.mem_append.mp hq with z | z
    · obtain ⟨h2, h3, h4⟩ := h.ob q z
      exact ⟨h2, h3, by rw [List.getElem?_set_ne (Ne.symm h3)]; exact h4⟩
    · simp only [List.mem_singleton] at z
      subst z
      exact ⟨hb, hk, by rw [List.getElem?_set_ne (Ne.symm hk)]; exact h1⟩
/-- a change of a list that is none of them -/
theorem Rows.other {st : Sto} {k b j : Nat} {o : DO} {qs : List (Nat × List Int)} (h : Rows st k b qs) (hk : k ≠ j) (hq : ∀ q ∈ qs, q.1 ≠ j) : Rows (st.set j o) k b qs :=
  ⟨by rw [List.getElem?_set_ne (Ne.symm hk)]; exact h.at_, fun q hm => let ⟨h1, h2, h3⟩ := h.ob q hm; ⟨h1, h2, by rw [List.getElem?_set_ne (Ne.symm (hq q hm))]; exact h3⟩⟩
section
variable {st : Sto} {ss : Sl} {QD : PQ DV} {E : XQ}
/-- rows, one for each -/
theorem lcn_rows {A : Type} {f : A → DV} {L : List A} {g : List (Nat × DO)} {own : List Nat} {tg : Tg} {e : Ex} (F : A → List Int)
    (hs : ∀ a st', a ∈ L → Sub st st' → ∃ ss', tg (f a) (wipeD ss own) st' = .ok ss' st' ∧ Wp (e ss' st') (fun y st2 => Sub st' st2 ∧ ∃ kk, y = .ref kk ∧ st'.length ≤ kk ∧ st2[kk]? = some (.lst ((F a).map DV.int))) NX)
    (hg : ∀ st', Sub st st' → okG g st')
    (he : ∀ st' k qs, Sub st st' → st.length ≤ k → k < st'.length → Rows st' k st.length qs → qs.map (·.2) = L.map F → QD (.ref k) st') : Wp (lcL g own tg tTrue e (L.map f) ss st) (tLn QD) NX := by
  refine lc_rule (fun i ys st' => Sub st st' ∧ ∃ qs : List (Nat × List Int), ys = qs.map rowR ∧ qs.map (·.2) = (L.take i).map F ∧ ∀ q ∈ qs, st.length ≤ q.1 ∧ st'[q.1]? = some (.lst (q.2.map DV.int))) ⟨.refl, [], rfl, by simp, fun q hq => by simp at hq⟩ (fun i ys st' _ h => hg _ h.1) (fun i x ys st' hx h => ?_) fun ys st' h => ?_
  · obtain ⟨sub, qs, rfl, hqs, hob⟩ := h
    rw [List.getElem?_map] at hx
    cases hL : L[i]? with
    | none => rw [hL] at hx; cases hx
    | some a =>
      rw [hL] at hx
      cases hx
      obtain ⟨ss', e1, w⟩ := hs a st' (List.mem_of_getElem? hL) sub
      refine ⟨ss', st', e1, ?_⟩
      show Wp (e ss' st') _ NX
      refine w.mono fun y st2 ⟨s2, kk, ey, lk, hk⟩ => ⟨sub.trans s2, qs ++ [(kk, F a)], ?_, ?_, fun q hq => ?_⟩
      · rw [List.map_append, ey]
        rfl
      · rw [List.map_append, hqs, List.take_add_one, hL, List.map_append]
        rfl
      · rcases List.mem_append.mp hq with z | z
        · exact ⟨(hob q z).1, s2 _ _ (hob q z).2⟩
        · simp only [List.mem_singleton] at z
          subst z
          exact ⟨Nat.le_trans sub.len lk, hk⟩
  · obtain ⟨sub, qs, rfl, hqs, hob⟩ := h
    rw [List.length_map, List.take_length] at hqs
    show QD (.ref st'.length) (st' ++ [.lst (qs.map rowR)])
    refine he _ _ qs (sub.trans .app) sub.len (by simp) ⟨get_new, fun q hq => ?_⟩ hqs
    have h2 := (hob q hq).2
    have := get_lt h2
    exact ⟨(hob q hq).1, by omega, Sub.app _ _ h2⟩
theorem lcn_rowsR {lo : Int} {n : Nat} {g : List (Nat × DO)} {own : List Nat} {tg : Tg} {e : Ex} (F : Nat → List Int)
    (hs : ∀ i st', i < n → Sub st st' → ∃ ss', tg (.int (lo + (i : Nat))) (wipeD ss own) st' = .ok ss' st' ∧ Wp (e ss' st') (fun y st2 => Sub st' st2 ∧ ∃ kk, y = .ref kk ∧ st'.length ≤ kk ∧ st2[kk]? = some (.lst ((F i).map DV.int))) NX)
    (hg : ∀ st', Sub st st' → okG g st')
    (he : ∀ st' k qs, Sub st st' → st.length ≤ k → k < st'.length → Rows st' k st.length qs → qs.map (·.2) = (List.range n).map F → QD (.ref k) st') : Wp (lcL g own tg tTrue e (irange lo n) ss st) (tLn QD) NX := by
  unfold irange
  exact lcn_rows (L := List.range n) F (fun a st' ha s => hs a st' (List.mem_range.mp ha) s) hg he
end
theorem at_row {qs : List (Nat × List Int)} {i : Int} (h0 : 0 ≤ i) (h : i < qs.length) : atI (qs.map rowR) i = some (.ref (qs.getD i.toNat (0, [])).1) := at_map rowR qs (0, []) h0 h
end ML
namespace ML
open PySem PySem.Spec PyProof.Rows L2
theorem cut_fromI {xs : List DV} {i : Int} (h0 : 0 ≤ i) (h : i.toNat ≤ xs.length) : cutD xs (some i) none = xs.drop i.toNat := by
  obtain ⟨j, rfl⟩ := Int.eq_ofNat_of_zero_le h0
  rw [Int.toNat_natCast] at h ⊢
  exact cut_from h
theorem cut_two {a b : DV} {r : List DV} : cutD (a :: b :: r) none (some 2) = [a, b] := by
  have := cut_to (xs := a :: b :: r) (n := 2) (by simp)
  simpa using this
theorem all_true {A : Type} (L : List A) : ((L.map fun _ => true).all id) = true := by
  induction L with
  | nil => rfl
  | cons x L ih => simp
theorem setM_R {st : Sto} {k : Nat} {n : Int} {v : DV} {xs : List DV} (h : st[k]? = some (.lst xs)) (h0 : 0 ≤ n) (h1 : n < xs.length) : setM (.ref k) (.int n) v st = .ok () (st.set k (.lst (xs.set n.toNat v))) := by
  obtain ⟨j, rfl⟩ := Int.eq_ofNat_of_zero_le h0
  have e : ixN xs.length (j : Int) = some j := by
    simp [ixN]
    omega
  unfold setM
  simp only [h, e, Int.toNat_natCast]
section
variable {st : Sto} {ss : Sl} {QF : PQ Fl} {E : XQ}
/-- o[i] = v -/
def tSub (mo mi : Ex) (ss : Sl) (Q : PQ Fl) : PQ DV := fun v st => Wp (mo ss st) (fun o st => Wp (mi ss st) (fun i st => Wp (setM o i v st) (fun _ st => Q (.nx ss) st) NX) NX) NX
theorem tG2_sub {mo mi : Ex} {v : DV} : tSub mo mi ss QF v st → tG2 (gSub mo mi) ss QF v st := by
  intro h
  unfold tSub at h
  unfold tG2 gSub bnd
  cases e1 : mo ss st with
  | ok o st1 =>
    rw [e1] at h
    simp only
    have h : Wp (mi ss st1) _ NX := h
    cases e2 : mi ss st1 with
    | ok i st2 =>
      rw [e2] at h
      simp only
      have h : Wp (setM o i v st2) _ NX := h
      cases e3 : setM o i v st2 with
      | ok u st3 =>
        rw [e3] at h
        exact h
      | exc x s => rw [e3] at h; exact h.elim
      | bad => rw [e3] at h; exact h.elim
    | exc x s => rw [e2] at h; exact h.elim
    | bad => rw [e2] at h; exact h.elim
  | exc x s => rw [e1] at h; exact h.elim
  | bad => rw [e1] at h; exact h.elim
end
end ML
namespace ML
open PySem PySem.Spec PyProof.Rows L2
section
variable {st : Sto} {QD : PQ DV} {QW : PQ Wk} {E : XQ} {p : Int × Int}
theorem tIy_P : tIy QW (pr p) st = QW ⟨[.int p.1, .int p.2], []⟩ st := nd rfl
theorem ty_P : tyD (pr p) st = some "tuple" := rfl
theorem wp_lenP : Wp (lenM [pr p] st) QD E = QD (.int 2) st := nd rfl
end
end ML

/-! MP4: instances, methods, dicts in the mirror. -/
namespace ML
open PySem PySem.Spec PyProof.Rows L2
section
variable {st : Sto} {ss : Sl} {QD : PQ DV} {QF : PQ Fl} {E : XQ}
def tFld (c : Str) (lay : List Str) (i : Nat) (Q : PQ DV) (E : XQ) : PQ DV := fun d st => Wp ((match d with
  | .ref k => match st[k]? with
    | some (.ins c' lay' vs) => if c' = c ∧ lay' = lay then optD vs[i]? st else .bad
    | _ => .bad
  | _ => .bad : Out DV)) Q E
theorem wp_fld {c : Str} {lay : List Str} {i : Nat} {m : Ex} : Wp (eFld c lay i m ss st) QD E = Wp (m ss st) (tFld c lay i QD E) E := by
  unfold eFld
  rw [wp_bnd]
  rfl
theorem tFld_R {c : Str} {lay : List Str} {i k : Nat} {vs : List DV} (h : st[k]? = some (.ins c lay vs)) : tFld c lay i QD E (.ref k) st = Wp (optD vs[i]? st) QD E := by
  unfold tFld
  simp only [h, and_self, if_true]
def tSfd (c : Str) (lay : List Str) (i : Nat) (v : DV) (ss : Sl) (Q : PQ Fl) (E : XQ) : PQ DV := fun d st => Wp ((match d with
  | .ref k => match st[k]? with
    | some (.ins c' lay' vs) => if c' = c ∧ lay' = lay then match putI i v vs with
      | some ws => .ok (.nx ss) (st.set k (.ins c lay ws))
      | none => .bad
    else .bad
    | _ => .bad
  | _ => .bad : Out Fl)) Q E
theorem wp_sfld {c : Str} {lay : List Str} {i : Nat} {mo mv : Ex} : Wp (sFld c lay i mo mv ss st) QF E = Wp (mv ss st) (fun v st => Wp (mo ss st) (tSfd c lay i v ss QF E) (tX ss QF)) (tX ss QF) := by
  unfold sFld
  rw [wp_lft]
  congr 1
  funext v st
  show Wp (lft _ _ _ st) QF E = _
  rw [wp_lft]
  rfl
theorem tSfd_R {c : Str} {lay : List Str} {i k : Nat} {vs ws : List DV} {v : DV} (h : st[k]? = some (.ins c lay vs)) (e : putI i v vs = some ws) : tSfd c lay i v ss QF E (.ref k) st = QF (.nx ss) (st.set k (.ins c lay ws)) := by
  unfold tSfd
  simp only [h, and_self, if_true, e]
  rfl
def tMeth (c : Str) (lay : List Str) (f : List DV → M DV) (ms : List Ex) (ss : Sl) (Q : PQ DV) (E : XQ) : PQ DV := fun o st => isIns c lay o st ∧ Wp (eArgs ms ss st) (fun as st => Wp (f (o :: as) st) Q E) E
open Classical in
theorem wp_meth {c : Str} {lay : List Str} {f : List DV → M DV} {mo : Ex} {ms : List Ex} : Wp (eMeth c lay f mo ms ss st) QD E = Wp (mo ss st) (tMeth c lay f ms ss QD E) E := by
  unfold eMeth
  rw [wp_bnd]
  congr 1
  funext o st
  unfold tMeth
  by_cases h : isIns c lay o st
  · simp only [h, true_and]
    show Wp ((if isIns c lay o st then bnd (eArgs ms ss) (fun as => f (o :: as)) st else .bad : Out DV)) QD E = _
    rw [if_pos h, wp_bnd]
    rfl
  · simp only [h, false_and]
    show Wp ((if isIns c lay o st then bnd (eArgs ms ss) (fun as => f (o :: as)) st else .bad : Out DV)) QD E = _
    rw [if_neg h]
    rfl
theorem tMeth_R {c : Str} {lay : List Str} {f : List DV → M DV} {ms : List Ex} {k : Nat} {vs : List DV} (h : st[k]? = some (.ins c lay vs)) : tMeth c lay f ms ss QD E (.ref k) st = Wp (eArgs ms ss st) (fun as st => Wp (f (.ref k :: as) st) QD E) E := by
  have : isIns c lay (.ref k) st := by
    unfold isIns
    simp only [h]
    exact ⟨trivial, trivial⟩
  unfold tMeth
  simp only [this, true_and]
theorem wp_make {c : Str} {lay : List Str} {init : List DV → M DV} {as : List DV} (h : Wp (init (.ref st.length :: as) (st ++ [.ins c lay []])) (fun v st' => v = .non ∧ QD (.ref st.length) st') NX) : Wp (mkM c lay init as st) QD E := by
  unfold mkM
  cases e : init (.ref st.length :: as) (st ++ [.ins c lay []]) with
  | ok v st' =>
    rw [e] at h
    obtain ⟨h1, h2⟩ := h
    subst h1
    exact h2
  | exc x s => rw [e] at h; exact h.elim
  | bad => rw [e] at h; exact h.elim
/-! dict displays -/
def tDis (Q : PQ DV) : PQ (List (DV × DV)) := fun t st => ∃ kvs, keysD t = some kvs ∧ kvs.length ≤ 15 ∧ Q (.ref st.length) (st ++ [.dic (mergeD kvs)])
theorem wp_disp {ps : List (Ex × Ex)} (h : Wp (pairsM ps ss st) (tDis QD) NX) : Wp (eDisp ps ss st) QD E := by
  unfold eDisp
  rw [wp_bnd]
  refine Wp.mono h fun t st' ht => ?_
  obtain ⟨kvs, e, hl, q⟩ := ht
  show Wp ((match keysD t with
    | some kvs => if kvs.length ≤ 15 then alloc (.dic (mergeD kvs)) else stuck
    | none => stuck : M DV) st') QD E
  rw [e]
  simp only [hl, if_true]
  exact q
theorem wp_pnil {Q : PQ (List (DV × DV))} : Wp (pairsM [] ss st) Q E = Q [] st := rfl
theorem wp_pcons {a b : Ex} {r : List (Ex × Ex)} {Q : PQ (List (DV × DV))} : Wp (pairsM ((a, b) :: r) ss st) Q E = Wp (a ss st) (fun x st => Wp (b ss st) (fun y st => Wp (pairsM r ss st) (fun t st => Q ((x, y) :: t) st) E) E) E := by
  rw [pairsM, wp_bnd]
  congr 1
  funext x st
  show Wp (bnd _ _ st) Q E = _
  rw [wp_bnd]
  congr 1
  funext y st
  show Wp (bnd _ _ st) Q E = _
  rw [wp_bnd]
  rfl
/-! dicts -/
theorem wp_inD {k : Nat} {i : Int} {kvs : List (HK × DV)} (h : st[k]? = some (.dic kvs)) (ho : kindOk kvs (.int i) = true) : Wp (inX (.int i) (.ref k) st) QD E = QD (.bl (hGet kvs (.int i)).isSome) st := by
  unfold inX
  simp only [h, kOf, ho, if_true]
  rfl
theorem wp_ninD {k : Nat} {i : Int} {kvs : List (HK × DV)} (h : st[k]? = some (.dic kvs)) (ho : kindOk kvs (.int i) = true) : Wp (ninX (.int i) (.ref k) st) QD E = QD (.bl (!(hGet kvs (.int i)).isSome)) st := by
  unfold ninX
  simp only [h, kOf, ho, if_true]
  rfl
theorem setM_D {k : Nat} {i : Int} {v : DV} {kvs : List (HK × DV)} (h : st[k]? = some (.dic kvs)) (ho : kindOk kvs (.int i) = true) (hl : kvs.length < 16777216) : setM (.ref k) (.int i) v st = .ok () (st.set k (.dic (hSet kvs (.int i) v))) := by
  unfold setM
  simp only [h, kOf]
  rw [if_pos ⟨ho, by rw [sl_eq]; exact hl⟩]
theorem wp_onD {k : Nat} {i : Int} {kvs : List (HK × DV)} {f : List (HK × DV) → HK → M DV} (h : st[k]? = some (.dic kvs)) (ho : kindOk kvs (.int i) = true) : Wp (onD (.ref k) (.int i) f st) QD E = Wp (f kvs (.int i) st) QD E := by
  unfold onD
  simp only [h, kOf, ho, if_true]
theorem wp_dget2 {k : Nat} {i : Int} {z : DV} {kvs : List (HK × DV)} (h : st[k]? = some (.dic kvs)) (ho : kindOk kvs (.int i) = true) : Wp (dgetM (.ref k) [.int i, z] st) QD E = QD ((hGet kvs (.int i)).getD z) st := by
  show Wp (onD (.ref k) (.int i) (fun kvs h => pur ((hGet kvs h).getD z)) st) QD E = _
  rw [wp_onD h ho]
  rfl
theorem wp_setdef {k : Nat} {i : Int} {z : DV} {kvs : List (HK × DV)} (h : st[k]? = some (.dic kvs)) (ho : kindOk kvs (.int i) = true) (hl : kvs.length < 16777216) : Wp (setdefM (.ref k) [.int i, z] st) QD E = (match hGet kvs (.int i) with
    | some w => QD w st
    | none => QD z (st.set k (.dic (hSet kvs (.int i) z)))) := by
  show Wp (onD (.ref k) (.int i) (fun kvs h st => match hGet kvs h with
      | some w => .ok w st
      | none => if kvs.length < sizeLine then .ok z (st.set k (.dic (hSet kvs h z))) else .bad) st) QD E = _
  rw [wp_onD h ho]
  cases hGet kvs (.int i) with
  | some w => rfl
  | none =>
    simp only
    rw [if_pos (by rw [sl_eq]; exact hl)]
    rfl
theorem wp_ixD {k : Nat} {i : Int} {kvs : List (HK × DV)} (h : st[k]? = some (.dic kvs)) (ho : kindOk kvs (.int i) = true) {w : DV} (e : hGet kvs (.int i) = some w) : Wp (ixM (.ref k) (.int i) st) QD E = QD w st := by
  unfold ixM
  simp only [h, kOf, Option.bind_some, ho, if_true, e]
  rfl
theorem hGet_set {kvs : List (HK × DV)} {a b : HK} {v : DV} : hGet (hSet kvs a v) b = if a = b then some v else hGet kvs b := by
  induction kvs with
  | nil =>
    show (if a = b then some v else none) = _
    by_cases e : a = b
    · rw [if_pos e, if_pos e]
    · rw [if_neg e, if_neg e]
      rfl
  | cons p r ih =>
    obtain ⟨k, w⟩ := p
    show hGet (if k = a then (k, v) :: r else (k, w) :: hSet r a v) b = _
    by_cases e : k = a
    · subst e
      rw [if_pos rfl]
      show (if k = b then some v else hGet r b) = if k = b then some v else (if k = b then some w else hGet r b)
      by_cases e2 : k = b
      · rw [if_pos e2, if_pos e2]
      · rw [if_neg e2, if_neg e2, if_neg e2]
    · rw [if_neg e]
      show (if k = b then some w else hGet (hSet r a v) b) = if a = b then some v else (if k = b then some w else hGet r b)
      rw [ih]
      by_cases e2 : k = b
      · rw [if_pos e2, if_neg (fun z => e (e2.trans z.symm)), if_pos e2]
      · rw [if_neg e2, if_neg e2]
/-! list(range(n)) -/
theorem wp_lrg {m : Ex} : Wp (eLrg [m] ss st) QD E = Wp (m ss st) (fun d st => Wp ((match d with
  | .int n => if lrgOk n then alloc (.lst (irange 0 n.toNat)) else stuck
  | _ => stuck : M DV) st) QD E) E := by
  have e1 : eLrg [m] ss st = bnd (m ss) (fun d => match d with
    | .int n => if lrgOk n then alloc (.lst (irange 0 n.toNat)) else stuck
    | _ => stuck) st := by
    unfold eLrg eArgs eArgs bnd
    cases m ss st with
    | ok d st' => cases d <;> rfl
    | exc _ _ => rfl
    | bad => rfl
  rw [e1, wp_bnd]
  rfl
theorem wp_lrgI {n : Int} (h0 : 0 ≤ n) (h1 : n ≤ 16777216) : Wp ((match DV.int n with
  | .int n => if lrgOk n then alloc (.lst (irange 0 n.toNat)) else stuck
  | _ => stuck : M DV) st) QD E = Wp (alloc (.lst (irange 0 n.toNat)) st) QD E := by
  show Wp ((if lrgOk n then alloc (.lst (irange 0 n.toNat)) else stuck : M DV) st) QD E = _
  rw [if_pos (show lrgOk n from ⟨by omega, by omega, by omega⟩)]
end
end ML

/-! MP5: dicts that are the same. -/
namespace ML
open PySem PySem.Spec PyProof.Rows L2
theorem wp_neDK {k l : Nat} {a b : List (HK × DV)} {st : Sto} {QD : PQ DV} {E : XQ} (h1 : st[k]? = some (.dic a)) (h2 : st[l]? = some (.dic b)) (h : sameD a b = true) : Wp (neDM (.ref k) (.ref l) st) QD E = QD (.bl false) st := by
  unfold neDM
  simp only [h1, h2, h, if_true]
  rfl
theorem sameD_self {a : List (HK × DV)} (h0 : ∃ p ∈ a, flatH p.1 = true) (h : ∀ p ∈ a, ∃ i : Int, p.2 = .int i ∧ hGet a p.1 = some (.int i)) : sameD a a = true := by
  obtain ⟨p, hp, hf⟩ := h0
  have e1 : (a.any fun p => flatH p.1) = true := List.any_eq_true.mpr ⟨p, hp, hf⟩
  have e2 : a.all (hitI a) = true := List.all_eq_true.mpr fun q hq => by
    obtain ⟨i, h1, h2⟩ := h q hq
    unfold hitI
    rw [h1, h2]
    simp
  unfold sameD
  rw [e1, e2]
  simp
theorem hSet_keys {kvs : List (HK × DV)} {k : HK} {v : DV} {p : HK} : p ∈ (hSet kvs k v).map (·.1) ↔ p = k ∨ p ∈ kvs.map (·.1) := by
  induction kvs with
  | nil => simp [hSet]
  | cons q r ih =>
    obtain ⟨a, b⟩ := q
    unfold hSet
    by_cases e : a = k
    · subst e
      simp
    · rw [if_neg e, List.map_cons, List.mem_cons, ih, List.map_cons, List.mem_cons]
      constructor
      · rintro (h | h | h)
        · exact .inr (.inl h)
        · exact .inl h
        · exact .inr (.inr h)
      · rintro (h | h | h)
        · exact .inr (.inl h)
        · exact .inl h
        · exact .inr (.inr h)
theorem hSet_nodup {kvs : List (HK × DV)} {k : HK} {v : DV} (h : (kvs.map (·.1)).Nodup) : ((hSet kvs k v).map (·.1)).Nodup := by
  induction kvs with
  | nil => simp [hSet]
  | cons q r ih =>
    obtain ⟨a, b⟩ := q
    rw [List.map_cons, List.nodup_cons] at h
    unfold hSet
    by_cases e : a = k
    · subst e
      rw [if_pos rfl, List.map_cons, List.nodup_cons]
      exact h
    · rw [if_neg e, List.map_cons, List.nodup_cons]
      refine ⟨fun hm => ?_, ih h.2⟩
      rcases hSet_keys.mp hm with q | q
      · exact e q
      · exact h.1 q
theorem hGet_of_nodup {kvs : List (HK × DV)} {p : HK × DV} (h : (kvs.map (·.1)).Nodup) (hp : p ∈ kvs) : hGet kvs p.1 = some p.2 := by
  induction kvs with
  | nil => cases hp
  | cons q r ih =>
    obtain ⟨a, b⟩ := q
    rw [List.map_cons, List.nodup_cons] at h
    unfold hGet
    rcases List.mem_cons.mp hp with rfl | hp
    · rw [if_pos rfl]
    · have ne : a ≠ p.1 := fun e => h.1 (by rw [e]; exact List.mem_map.mpr ⟨p, hp, rfl⟩)
      rw [if_neg ne]
      exact ih h.2 hp
end ML

/-! MP6: the rules that wp! uses, as one. -/
namespace ML
open PySem PySem.Spec PyProof.Rows L2
def WZ := (And.intro (And.intro (And.intro (And.intro (And.intro (And.intro (And.intro @wp_fld (And.intro @wp_sfld @wp_meth)) (And.intro @wp_lrg (And.intro @wp_fn0 @wp_fn1))) (And.intro (And.intro @wp_fn2 (And.intro @wp_fn3 @wp_fn4)) (And.intro (And.intro @wp_fn5 @wp_fn6) (And.intro @tB_app @wp_ok)))) (And.intro (And.intro (And.intro @wp_pur (And.intro @wp_bnd @wp_var)) (And.intro (And.intro @wp_c @wp_un) (And.intro @wp_op @tOp_app))) (And.intro (And.intro @wp_nil (And.intro @wp_cons @tArg_app)) (And.intro (And.intro @wp_call @wp_tup) (And.intro @wp_lst @wp_val))))) (And.intro (And.intro (And.intro (And.intro @wp_tru (And.intro @wp_asB @wp_truB)) (And.intro (And.intro @wp_truI @wp_truN) (And.intro @wp_and @wp_or))) (And.intro (And.intro @tA_app (And.intro @tO_app @wp_not)) (And.intro (And.intro @wp_eand @wp_eor) (And.intro @tEA_app @tEO_app)))) (And.intro (And.intro (And.intro @wp_enot (And.intro @tEN_app @wp_eif)) (And.intro (And.intro @tIt_app @wp_chain) (And.intro @tCh_app @tCh2_app))) (And.intro (And.intro @wp_add (And.intro @wp_sub @wp_mull)) (And.intro (And.intro @wp_mulr @wp_fdivc) (And.intro @wp_modc @wp_powc)))))) (And.intro (And.intro (And.intro (And.intro (And.intro @wp_shlc (And.intro @wp_shrc @at_int)) (And.intro @at_pr (And.intro @at_row @irange_length))) (And.intro (And.intro @wp_iand (And.intro @wp_ior @wp_ixor)) (And.intro (And.intro @wp_neg @wp_eqI) (And.intro @wp_neI @wp_eqB)))) (And.intro (And.intro (And.intro @wp_neB (And.intro @wp_eqS @wp_neS)) (And.intro (And.intro @wp_lt @wp_gt) (And.intro @wp_le @wp_ge))) (And.intro (And.intro @wp_isB (And.intro @wp_isnB @wp_abs)) (And.intro (And.intro @wp_max2 @wp_min2) (And.intro @wp_intI @wp_intB))))) (And.intro (And.intro (And.intro (And.intro @wp_ixT (And.intro @wp_ixF @wp_lenT)) (And.intro (And.intro @wp_lenF @at0) (And.intro @at1 @at2))) (And.intro (And.intro @at3 (And.intro @wp_seq @tF_nx)) (And.intro (And.intro @tF_rt @tF_bk) (And.intro @tF_ct @tF_rs)))) (And.intro (And.intro (And.intro @tX_app (And.intro @wp_skip @wp_ret)) (And.intro (And.intro @wp_retN @wp_brk) (And.intro @wp_cont @wp_set))) (And.intro (And.intro @tS2_app (And.intro @tI2_app @wp_par)) (And.intro (And.intro @wp_asg @wp_aug) (And.intro @wp_iadd @tR_rt))))))) (And.intro (And.intro (And.intro (And.intro (And.intro (And.intro @tR_nx (And.intro @tR_rs @tLp_nx)) (And.intro @tLp_ct (And.intro @tLp_bk @tLp_rt))) (And.intro (And.intro @tLp_rs (And.intro @wp_for @tFr_app)) (And.intro (And.intro @wp_rg1t @wp_rg3) (And.intro @tRg3_app @tRg3_dn)))) (And.intro (And.intro (And.intro @rsteps_len (And.intro @wp_rg2t @tRg1_app)) (And.intro (And.intro @tRg2_app @wp_any) (And.intro @tIy_T @tIy_F))) (And.intro (And.intro @wp_mt (And.intro @wp_sl @tSl_app)) (And.intro (And.intro @wp_pNo @wp_pSm) (And.intro @tPs_I @wp_slT))))) (And.intro (And.intro (And.intro (And.intro @wp_ixW0 (And.intro @wp_ixW1 @wp_ixW2)) (And.intro (And.intro @wp_ixW3 @ty_W) (And.intro @wp_lenW @wp_slW))) (And.intro (And.intro @tG2_W (And.intro @wp_ixP0 @wp_ixP1)) (And.intro (And.intro @tG2_P @wp_isTN) (And.intro @wp_isnTN @wp_isRN)))) (And.intro (And.intro (And.intro @wp_isnRN (And.intro @wp_isNN @wp_isnNN)) (And.intro (And.intro @wp_isIN @wp_isnIN) (And.intro @tIy_P @ty_P))) (And.intro (And.intro @wp_lenP (And.intro @wp_isi @kt_int)) (And.intro (And.intro @kt_bool @kt_str) (And.intro @kt_tuple @kt_list)))))) (And.intro (And.intro (And.intro (And.intro (And.intro @kt_dict (And.intro @it_NoneType_int @it_NoneType_bool)) (And.intro @it_NoneType_str (And.intro @it_NoneType_tuple @it_NoneType_list))) (And.intro (And.intro @it_NoneType_dict (And.intro @it_bool_int @it_bool_bool)) (And.intro (And.intro @it_bool_str @it_bool_tuple) (And.intro @it_bool_list @it_bool_dict)))) (And.intro (And.intro (And.intro @it_int_int (And.intro @it_int_bool @it_int_str)) (And.intro (And.intro @it_int_tuple @it_int_list) (And.intro @it_int_dict @it_str_int))) (And.intro (And.intro @it_str_bool (And.intro @it_str_str @it_str_tuple)) (And.intro (And.intro @it_str_list @it_str_dict) (And.intro @it_tuple_int @it_tuple_bool))))) (And.intro (And.intro (And.intro (And.intro @it_tuple_str (And.intro @it_tuple_tuple @it_tuple_list)) (And.intro (And.intro @it_tuple_dict @it_list_int) (And.intro @it_list_bool @it_list_str))) (And.intro (And.intro @it_list_tuple (And.intro @it_list_list @it_list_dict)) (And.intro (And.intro @it_dict_int @it_dict_bool) (And.intro @it_dict_str @it_dict_tuple)))) (And.intro (And.intro (And.intro @it_dict_list (And.intro @it_dict_dict @cut_tail)) (And.intro (And.intro @cut_two @cut_fromI) (And.intro @cut_init @ty_I))) (And.intro (And.intro @ty_B (And.intro @ty_N @ty_S)) (And.intro (And.intro @ty_T @wp_lc) (And.intro @tLc_rg @tLc_mp))))))))
end ML

/-! MP7: what raise and try come to. -/
namespace ML
open PySem PySem.Spec PyProof.Rows L2
section
variable {st : Sto} {ss : Sl} {QD : PQ DV} {QF : PQ Fl} {E : XQ}
theorem wp_rai {x : Str} : Wp (sRai x ss st) QF E = QF (.rs ⟨x, []⟩ ss) st := nd rfl
theorem wp_raif1 {x f1 : Str} {a b : Ex} : Wp (sRaiF x [f1] [a, b] ss st) QF E = Wp (a ss st) (fun _ st => Wp (b ss st) (fun v st => QF (.rs ⟨x, [(f1, v)]⟩ ss) st) (tX ss QF)) (tX ss QF) := by
  unfold sRaiF
  rw [wp_lft, wp_cons]
  congr 1
  funext y st
  rw [tArg_app, wp_cons]
  rfl
theorem wp_raif2 {x f1 f2 : Str} {a b c : Ex} : Wp (sRaiF x [f1, f2] [a, b, c] ss st) QF E = Wp (a ss st) (fun _ st => Wp (b ss st) (fun v st => Wp (c ss st) (fun u st => QF (.rs ⟨x, [(f2, u), (f1, v)]⟩ ss) st) (tX ss QF)) (tX ss QF)) (tX ss QF) := by
  unfold sRaiF
  rw [wp_lft, wp_cons]
  congr 1
  funext y st
  rw [tArg_app, wp_cons]
  congr 1
  funext z st
  rw [tArg_app, wp_cons]
  rfl
def tTry (ds : List Str) (hs : List Hd) (Q : PQ Fl) (E : XQ) : PQ Fl := fun fl st => match fl with
  | .rs e ss' => Wp (hdl ds e ss' st hs) Q E
  | fl => Q fl st
theorem wp_try {ds : List Str} {b : Stt} {hs : List Hd} : Wp (sTry ds b hs ss st) QF E = Wp (b ss st) (tTry ds hs QF E) E := by
  unfold sTry
  cases b ss st with
  | ok fl st' => cases fl <;> rfl
  | exc e st' => rfl
  | bad => rfl
theorem tTry_nx {ds : List Str} {hs : List Hd} : tTry ds hs QF E (.nx ss) st = QF (.nx ss) st := nd rfl
theorem tTry_rt {ds : List Str} {hs : List Hd} {v : DV} : tTry ds hs QF E (.rt v) st = QF (.rt v) st := nd rfl
theorem tTry_bk {ds : List Str} {hs : List Hd} : tTry ds hs QF E (.bk ss) st = QF (.bk ss) st := nd rfl
theorem tTry_ct {ds : List Str} {hs : List Hd} : tTry ds hs QF E (.ct ss) st = QF (.ct ss) st := nd rfl
theorem tTry_rs {ds : List Str} {hs : List Hd} {e : DX} : tTry ds hs QF E (.rs e ss) st = Wp (hdl ds e ss st hs) QF E := nd rfl
theorem wp_hdl_rt {ds : List Str} {e : DX} {h : Hd} {r : List Hd} {v : DV} {st' : Sto} (hm : e.c ∈ ds) (hx : isX e.c h.t = true) (hs : ∀ a d, Wp (h.su a d e.c (slX h.i a d e ss) st) (fun fl s => fl = .rt v ∧ s = st') NX) (hq : QF (.rt v) st') : Wp (hdl ds e ss st (h :: r)) QF E := by
  unfold hdl
  rw [if_pos hm, if_pos hx]
  have : uni (fun a d => gone h.i (h.su a d e.c (slX h.i a d e ss) st)) = .ok (.rt v) st' := uni_eq fun a d => by
    obtain ⟨fl, s, h1, h2, h3⟩ := (hs a d).ex
    rw [h1, h2, h3]
    rfl
  rw [this]
  exact hq
theorem wp_hdl_no {ds : List Str} {e : DX} {h : Hd} {r : List Hd} (hm : e.c ∈ ds) (hx : isX e.c h.t = false) (hr : Wp (hdl ds e ss st r) QF E) : Wp (hdl ds e ss st (h :: r)) QF E := by
  unfold hdl
  rw [if_pos hm, if_neg (by rw [hx]; exact Bool.false_ne_true)]
  exact hr
theorem wp_hdl_nil {ds : List Str} {e : DX} : Wp (hdl ds e ss st []) QF E = QF (.rs e ss) st := nd rfl
theorem wp_isx {i : Nat} {a : Addr} {d : Option Addr} {c : Str} {ts : List Str} : Wp (eIsX i a d c ts ss st) QD E = (match ss[i]? with
  | some (some (.exn b d' _ _)) => if b = a ∧ d' = d then QD (.bl (isOne c ts)) st else False
  | _ => False) := by
  unfold eIsX
  generalize ss[i]? = o
  cases o with
  | none => rfl
  | some o =>
    cases o with
    | none => rfl
    | some v => cases v <;> first | rfl | exact wp_ite'
theorem wp_xf {i : Nat} {a : Addr} {d : Option Addr} {f : Str} : Wp (eXf i a d f ss st) QD E = (match ss[i]? with
  | some (some (.exn b d' ns xs)) => if b = a ∧ d' = d then (match (ns.zip xs).lookup f with
    | some v => QD v st
    | none => False) else False
  | _ => False) := by
  unfold eXf
  generalize ss[i]? = o
  cases o with
  | none => rfl
  | some o =>
    cases o with
    | none => rfl
    | some v =>
      cases v <;> first | rfl | skip
      refine wp_ite'.trans ?_
      congr 1
      generalize List.lookup f _ = z
      cases z <;> rfl
theorem wp_repr {x : DV} {d : PyData} (h : Rd st x d) (s : Shw d) : Wp (reprM [x] st) QD E = QD (.str d.shown) st := by
  rw [reprM_of h s]
  rfl
theorem wp_intS {a : Str} {n : Int} (h : PySem.intText? a = some n) (hl : a.length ≤ 640) : Wp (intSM [.str a] st) QD E = QD (.int n) st := by
  show Wp (match PySem.intText? a with
    | some n => if a.length ≤ 640 then .ok (.int n) st else .bad
    | none => .bad) QD E = _
  rw [h]
  show Wp (if a.length ≤ 640 then .ok (.int n) st else .bad) QD E = _
  rw [if_pos hl]
  rfl
def WR := (And.intro (And.intro (And.intro @wp_rai (And.intro @wp_raif1 @wp_raif2)) (And.intro @wp_try (And.intro @tTry_nx @tTry_rt))) (And.intro (And.intro @tTry_bk @tTry_ct) (And.intro @tTry_rs (And.intro @wp_isx @wp_xf))))
end
end ML
/-! the mirror -/
namespace LK
open PySem PySem.Spec PyProof.Rows L2 ML
def c_FIGURES : DV := .str "0123456789"
def c_LONGEST : DV := .int 9
@[irreducible] noncomputable def s__law_cell_at : List DV → M DV := fnM 2 2 (sSeq (sIf (tVal (eOp ltM (eVar 1) (eCall lenM [(eVar 0)]))) (sRet (eOp ixM (eVar 0) (eVar 1))) sSkip)
  (sRet (eC (.int 0))))
@[irreducible] noncomputable def s__law_bag : List DV → M DV := fnM 2 3 (sSeq (sSet 2 (eCall s__law_cell_at [(eVar 0), (eVar 1)]))
  (sRet (eLst [(eOp mulM (eVar 2) (eCall intM [(eOp geM (eVar 2) (eOp powM (eC (.int 10)) (eC (.int 18))))])), (eOp addM (eOp addM (eOp addM (eOp modM (eVar 2) (eC (.int 2147483647))) (eOp mulM (eOp mulM (eC (.int 7919)) (eVar 1)) (eVar 1))) (eOp mulM (eC (.int 104729)) (eVar 1))) (eC (.int 1)))])))
@[irreducible] noncomputable def s__law_whole : List DV → M DV := fnM 1 1 (sRet (eAnd (eCall isiM [(eVar 0), (eC (.ty "int"))]) (eNot (eCall isiM [(eVar 0), (eC (.ty "bool"))]))))
@[irreducible] noncomputable def s__law_ends : List DV → M DV := fnM 2 3 (sRet (eCall allM [(eLc (iAny (eVar 0)) [2] (gNm 2) tTrue (eAnd (eCall s__law_whole [(eVar 2)]) (eChain leM ltM (eC (.int 0)) (eVar 2) (eOp mulM (eC (.int 2)) (eVar 1)))))]))
noncomputable def s__law_formed_L1 : Stt := (sSeq (sIf (tOr (tNot (tTru (eCall isiM [(eVar 5), (eC (.ty "tuple"))]))) (tOr (tVal (eOp neM (eCall lenM [(eVar 5)]) (eC (.int 2)))) (tNot (tTru (eCall s__law_ends [(eVar 5), (eVar 4)]))))) (sRet (eC (.bl false))) sSkip)
  (sSet 4 (eOp addM (eVar 4) (eC (.int 1)))))
noncomputable def s__law_formed_L2 : Stt := (sSeq (sSet 7 (eOp ixM (eOp ixM (eVar 0) (eC (.int 1))) (eVar 6)))
  (sSeq (sIf (tOr (tNot (tTru (eCall isiM [(eVar 7), (eC (.ty "tuple"))]))) (tOr (tVal (eOp neM (eCall lenM [(eVar 7)]) (eC (.int 2)))) (tOr (tNot (tTru (eCall s__law_whole [(eOp ixM (eVar 7) (eC (.int 0)))]))) (tVal (eOp neM (eOp ixM (eVar 7) (eC (.int 0))) (eOp ixM (eVar 2) (eVar 6))))))) (sRet (eC (.bl false))) sSkip)
  (sIf (tNot (tTru (eCall s__law_ends [(eSl (eVar 7) (pSm (eC (.int 1))) pNo), (eVar 4)]))) (sRet (eC (.bl false))) sSkip)))
@[irreducible] noncomputable def s__law_formed : List DV → M DV := fnM 4 9 (sSeq (sIf (tOr (tNot (tTru (eCall isiM [(eVar 0), (eC (.ty "tuple"))]))) (tOr (tVal (eOp neM (eCall lenM [(eVar 0)]) (eC (.int 4)))) (tOr (tNot (tTru (eCall s__law_whole [(eOp ixM (eVar 0) (eC (.int 0)))]))) (tVal (eOp neM (eOp ixM (eVar 0) (eC (.int 0))) (eVar 1)))))) (sRet (eC (.bl false))) sSkip)
  (sSeq (sIf (tOr (tNot (tTru (eCall allM [(eLc (iAny (eSl (eVar 0) (pSm (eC (.int 1))) pNo)) [8] (gNm 8) tTrue (eCall isiM [(eVar 8), (eC (.ty "list"))]))]))) (tVal (eOp neM (eCall lenM [(eOp ixM (eVar 0) (eC (.int 1)))]) (eCall lenM [(eVar 2)])))) (sRet (eC (.bl false))) sSkip)
  (sSeq (sSet 4 (eOp addM (eOp addM (eC (.int 1)) (eVar 1)) (eCall lenM [(eVar 2)])))
  (sSeq (sFor (iAny (eOp ixM (eVar 0) (eC (.int 2)))) (gNm 5) s__law_formed_L1)
  (sSeq (sFor (iRg1 [(eCall lenM [(eVar 2)])]) (gNm 6) s__law_formed_L2)
  (sRet (eAnd (eOp eqM (eCall lenM [(eOp ixM (eVar 0) (eC (.int 3)))]) (eVar 3)) (eCall s__law_ends [(eOp ixM (eVar 0) (eC (.int 3))), (eVar 4)]))))))))
noncomputable def s_in_order_L1 : Stt := (sAug 3 iaddM (eC (.int 1)))
noncomputable def s_in_order_L2 : Stt := (sSeq (sWhile (tAnd (tVal (eOp ltM (eVar 3) (eVar 2))) (tVal (eOp neM (eOp ixM (eVar 4) (eC (.int 0))) (eOp ixM (eVar 1) (eVar 3))))) s_in_order_L1)
  (sIf (tVal (eOp eqM (eVar 3) (eVar 2))) (fun _ => stuck) sSkip))
@[irreducible] noncomputable def s_in_order : List DV → M DV := fnM 3 5 (sSeq (sSet 3 (eC (.int 0)))
  (sFor (iAny (eVar 0)) (gNm 4) s_in_order_L2))
@[irreducible] noncomputable def s_is_whole : List DV → M DV := fnM 1 1 (sRet (eAnd (eCall isiM [(eVar 0), (eC (.ty "int"))]) (eNot (eCall isiM [(eVar 0), (eC (.ty "bool"))]))))
@[irreducible] noncomputable def s_is_end : List DV → M DV := fnM 2 2 (sRet (eAnd (eCall s_is_whole [(eVar 0)]) (eChain leM ltM (eC (.int 0)) (eVar 0) (eOp mulM (eC (.int 2)) (eVar 1)))))
@[irreducible] noncomputable def s_is_pair : List DV → M DV := fnM 1 1 (sRet (eAnd (eCall isiM [(eVar 0), (eC (.ty "tuple"))]) (eOp eqM (eCall lenM [(eVar 0)]) (eC (.int 2)))))
noncomputable def s_are_boxes_L1 : Stt := (sIf (tOr (tNot (tTru (eCall s_is_pair [(eVar 2)]))) (tOr (tNot (tTru (eCall s_is_whole [(eOp ixM (eVar 2) (eC (.int 0)))]))) (tOr (tNot (tVal (eChain leM leM (eC (.int 0)) (eOp ixM (eVar 2) (eC (.int 0))) (eC (.int 1))))) (tNot (tTru (eCall s_is_end [(eOp ixM (eVar 2) (eC (.int 1))), (eVar 1)])))))) (sRet (eC (.bl false))) sSkip)
@[irreducible] noncomputable def s_are_boxes : List DV → M DV := fnM 2 3 (sSeq (sFor (iAny (eVar 0)) (gNm 2) s_are_boxes_L1)
  (sRet (eC (.bl true))))
noncomputable def s_are_gates_L1 : Stt := (sIf (tOr (tNot (tTru (eCall s_is_pair [(eVar 3)]))) (tOr (tNot (tTru (eCall s_is_end [(eOp ixM (eVar 3) (eC (.int 0))), (eOp addM (eVar 1) (eVar 2))]))) (tNot (tTru (eCall s_is_end [(eOp ixM (eVar 3) (eC (.int 1))), (eOp addM (eVar 1) (eVar 2))]))))) (sRet (eC (.bl false))) sSkip)
@[irreducible] noncomputable def s_are_gates : List DV → M DV := fnM 2 4 (sSeq (sFor (iEnX [(eVar 0)]) (gTpL [2, 3]) s_are_gates_L1)
  (sRet (eC (.bl true))))
@[irreducible] noncomputable def s_first_gate : List DV → M DV := fnM 1 1 (sRet (eOp addM (eOp addM (eC (.int 1)) (eOp ixM (eVar 0) (eC (.int 0)))) (eCall lenM [(eOp ixM (eVar 0) (eC (.int 1)))])))
@[irreducible] noncomputable def s_knots_of : List DV → M DV := fnM 1 1 (sRet (eOp addM (eCall s_first_gate [(eVar 0)]) (eCall lenM [(eOp ixM (eVar 0) (eC (.int 2)))])))
@[irreducible] noncomputable def s_is_work : List DV → M DV := fnM 1 7 (sSeq (sIf (tOr (tNot (tTru (eCall isiM [(eVar 0), (eC (.ty "tuple"))]))) (tOr (tVal (eOp neM (eCall lenM [(eVar 0)]) (eC (.int 4)))) (tOr (tNot (tTru (eCall s_is_whole [(eOp ixM (eVar 0) (eC (.int 0)))]))) (tVal (eOp ltM (eOp ixM (eVar 0) (eC (.int 0))) (eC (.int 0))))))) (sRet (eC (.bl false))) sSkip)
  (sSeq (sAsg (gTpL [1, 2, 3, 4]) (eVar 0))
  (sSeq (sIf (tOr (tNot (tTru (eCall isiM [(eVar 2), (eC (.ty "list"))]))) (tOr (tNot (tTru (eCall isiM [(eVar 3), (eC (.ty "list"))]))) (tNot (tTru (eCall isiM [(eVar 4), (eC (.ty "list"))]))))) (sRet (eC (.bl false))) sSkip)
  (sSeq (sSet 5 (eCall s_knots_of [(eVar 0)]))
  (sSeq (sIf (tOr (tNot (tTru (eCall s_are_boxes [(eVar 2), (eVar 5)]))) (tNot (tTru (eCall s_are_gates [(eVar 3), (eCall s_first_gate [(eVar 0)])])))) (sRet (eC (.bl false))) sSkip)
  (sRet (eCall allM [(eLc (iAny (eVar 4)) [6] (gNm 6) tTrue (eCall s_is_end [(eVar 6), (eVar 5)]))])))))))
noncomputable def s_number_of_L1 : Stt := (sIf (tVal (eOp ninX (eVar 1) (eC c_FIGURES))) (fun _ => stuck) sSkip)
@[irreducible] noncomputable def s_number_of : List DV → M DV := fnM 1 2 (sSeq (sIf (tOr (tVal (eOp eqM (eVar 0) (eC (.str "")))) (tOr (tVal (eOp gtM (eCall lenM [(eVar 0)]) (eC c_LONGEST))) (tAnd (tVal (eOp eqM (eOp ixM (eVar 0) (eC (.int 0))) (eC (.str "0")))) (tVal (eOp neM (eVar 0) (eC (.str "0"))))))) (fun _ => stuck) sSkip)
  (sSeq (sFor (iAny (eVar 0)) (gNm 1) s_number_of_L1)
  (sRet (eCall intSM [(eVar 0)]))))
@[irreducible] noncomputable def s_numbers_after : List DV → M DV := fnM 3 4 (sSeq (sIf (tOr (tVal (eOp neM (eOp ixM (eVar 0) (eC (.int 0))) (eVar 1))) (tVal (eOp neM (eCall lenM [(eVar 0)]) (eOp addM (eVar 2) (eC (.int 1)))))) (fun _ => stuck) sSkip)
  (sRet (eLc (iAny (eSl (eVar 0) (pSm (eC (.int 1))) pNo)) [3] (gNm 3) tTrue (eCall s_number_of [(eVar 3)]))))
@[irreducible] noncomputable def s_rows_of : List DV → M DV := fnM 1 2 (sSeq (sIf (tNot (tTru (eCall isiM [(eVar 0), (eC (.ty "str"))]))) (fun _ => stuck) sSkip)
  (sRet (eLc (iAny (eMt "str" splitM (eVar 0) [(eC (.str "\n"))])) [1] (gNm 1) tTrue (eMt "str" splitM (eVar 1) [(eC (.str " "))]))))
@[irreducible] noncomputable def s_read_work : List DV → M DV := fnM 1 7 (sSeq (sSet 1 (eCall s_rows_of [(eVar 0)]))
  (sSeq (sSet 2 (eOp ixM (eCall s_numbers_after [(eOp ixM (eVar 1) (eC (.int 0))), (eC (.str "ins")), (eC (.int 1))]) (eC (.int 0))))
  (sSeq (sSet 1 (eSl (eVar 1) (pSm (eC (.int 1))) pNo))
  (sSeq (sExpr (eCall s_in_order [(eVar 1), (eLst [(eC (.str "box")), (eC (.str "gate")), (eC (.str "out"))]), (eC (.int 3))]))
  (sSeq (sSet 3 (eLc (iAny (eVar 1)) [6] (gNm 6) (tVal (eOp eqM (eOp ixM (eVar 6) (eC (.int 0))) (eC (.str "box")))) (eCall tupleM [(eCall s_numbers_after [(eVar 6), (eC (.str "box")), (eC (.int 2))])])))
  (sSeq (sSet 4 (eLc (iAny (eVar 1)) [6] (gNm 6) (tVal (eOp eqM (eOp ixM (eVar 6) (eC (.int 0))) (eC (.str "gate")))) (eCall tupleM [(eCall s_numbers_after [(eVar 6), (eC (.str "gate")), (eC (.int 2))])])))
  (sSeq (sSet 5 (eLc (iAny (eVar 1)) [6] (gNm 6) (tVal (eOp eqM (eOp ixM (eVar 6) (eC (.int 0))) (eC (.str "out")))) (eOp ixM (eCall s_numbers_after [(eVar 6), (eC (.str "out")), (eC (.int 1))]) (eC (.int 0)))))
  (sSeq (sIf (tNot (tTru (eCall s_is_work [(eTup [(eVar 2), (eVar 3), (eVar 4), (eVar 5)])]))) (fun _ => stuck) sSkip)
  (sRet (eTup [(eVar 2), (eVar 3), (eVar 4), (eVar 5)]))))))))))
@[irreducible] noncomputable def s__law_read : List DV → M DV := fnM 2 5 (sSeq (sSet 2 (eCall s_read_work [(eVar 1)]))
  (sSeq (sSet 3 (eLc (iAny (eOp ixM (eVar 0) (eC (.int 1)))) [4] (gNm 4) tTrue (eOp ixM (eVar 4) (eC (.int 0)))))
  (sSeq (sIf (tOr (tNot (tTru (eCall s__law_formed [(eVar 2), (eOp ixM (eVar 0) (eC (.int 0))), (eVar 3), (eCall lenM [(eOp ixM (eVar 0) (eC (.int 3)))])]))) (tVal (eOp neM (eVar 2) (eVar 0)))) (sRet (eC (.bl false))) sSkip)
  (sSeq (sExpr (eMt "list" appendM (eOp ixM (eVar 2) (eC (.int 1))) [(eTup [(eC (.int 0)), (eC (.int 0))])]))
  (sSeq (sExpr (eMt "list" clearM (eOp ixM (eVar 2) (eC (.int 2))) []))
  (sSeq (sExpr (eMt "list" appendM (eOp ixM (eVar 2) (eC (.int 3))) [(eC (.int 1))]))
  (sRet (eC (.bl true)))))))))
@[irreducible] noncomputable def s__law_take : List DV → M DV := fnM 2 3 (sSeq (sIf (tVal (eOp gtM (eOp ixM (eVar 0) (eC (.int 0))) (eC (.int 0)))) (sSeq (sSet 2 (eOp modM (eOp ixM (eVar 0) (eC (.int 0))) (eVar 1)))
  (sSeq (sAsg (gSub (eVar 0) (eC (.int 0))) (eOp fdivM (eOp ixM (eVar 0) (eC (.int 0))) (eVar 1)))
  (sRet (eVar 2)))) sSkip)
  (sSeq (sAsg (gSub (eVar 0) (eC (.int 1))) (eOp modM (eOp addM (eOp mulM (eOp ixM (eVar 0) (eC (.int 1))) (eC (.int 48271))) (eC (.int 11))) (eC (.int 2147483647))))
  (sRet (eOp modM (eOp fdivM (eOp modM (eOp mulM (eOp ixM (eVar 0) (eC (.int 1))) (eC (.int 69621))) (eC (.int 2147483629))) (eC (.int 8))) (eVar 1)))))
noncomputable def s__law_text_L1 : Stt := (sExpr (eMt "list" appendM (eVar 1) [(eOp addM (eOp addM (eOp addM (eC (.str "box ")) (eCall strM [(eVar 2)])) (eC (.str " "))) (eCall strM [(eVar 3)]))]))
noncomputable def s__law_text_L2 : Stt := (sExpr (eMt "list" appendM (eVar 1) [(eOp addM (eOp addM (eOp addM (eC (.str "gate ")) (eCall strM [(eVar 4)])) (eC (.str " "))) (eCall strM [(eVar 5)]))]))
noncomputable def s__law_text_L3 : Stt := (sExpr (eMt "list" appendM (eVar 1) [(eOp addM (eC (.str "out ")) (eCall strM [(eVar 3)]))]))
@[irreducible] noncomputable def s__law_text : List DV → M DV := fnM 1 6 (sSeq (sSet 1 (eLst [(eOp addM (eC (.str "ins ")) (eCall strM [(eOp ixM (eVar 0) (eC (.int 0)))]))]))
  (sSeq (sFor (iAny (eOp ixM (eVar 0) (eC (.int 1)))) (gTpL [2, 3]) s__law_text_L1)
  (sSeq (sFor (iAny (eOp ixM (eVar 0) (eC (.int 2)))) (gTpL [4, 5]) s__law_text_L2)
  (sSeq (sFor (iAny (eOp ixM (eVar 0) (eC (.int 3)))) (gNm 3) s__law_text_L3)
  (sRet (eMt "str" joinM (eC (.str "\n")) [(eVar 1)]))))))
noncomputable def s__law_work_L1 : Stt := (sSeq (sSet 8 (eCall s__law_take [(eVar 0), (eOp mulM (eC (.int 2)) (eVar 5))]))
  (sSeq (sExpr (eMt "list" appendM (eVar 6) [(eTup [(eVar 8), (eCall s__law_take [(eVar 0), (eOp mulM (eC (.int 2)) (eVar 5))])])]))
  (sSet 5 (eOp addM (eVar 5) (eC (.int 1))))))
noncomputable def s__law_work_L2 : Stt := (sSeq (sSet 10 (eCall s__law_take [(eVar 0), (eC (.int 2))]))
  (sExpr (eMt "list" appendM (eVar 9) [(eTup [(eVar 10), (eCall s__law_take [(eVar 0), (eOp mulM (eC (.int 2)) (eVar 5))])])])))
@[irreducible] noncomputable def s__law_work : List DV → M DV := fnM 5 11 (sSeq (sSet 5 (eOp addM (eOp addM (eC (.int 1)) (eVar 1)) (eVar 2)))
  (sSeq (sSet 6 (eLst []))
  (sSeq (sFor (iRg1 [(eVar 3)]) (gNm 7) s__law_work_L1)
  (sSeq (sSet 9 (eLst []))
  (sSeq (sFor (iRg1 [(eVar 2)]) (gNm 7) s__law_work_L2)
  (sRet (eTup [(eVar 1), (eVar 9), (eVar 6), (eLc (iRg1 [(eVar 4)]) [7] (gNm 7) tTrue (eCall s__law_take [(eVar 0), (eOp mulM (eC (.int 2)) (eVar 5))]))])))))))
noncomputable def s_work_text_L1 : Stt := (sExpr (eMt "list" appendM (eVar 5) [(eJs [(eC (.str "box ")), (eFmt (eVar 6)), (eC (.str " ")), (eFmt (eVar 7))])]))
noncomputable def s_work_text_L2 : Stt := (sExpr (eMt "list" appendM (eVar 5) [(eJs [(eC (.str "gate ")), (eFmt (eVar 8)), (eC (.str " ")), (eFmt (eVar 9))])]))
noncomputable def s_work_text_L3 : Stt := (sExpr (eMt "list" appendM (eVar 5) [(eJs [(eC (.str "out ")), (eFmt (eVar 7))])]))
@[irreducible] noncomputable def s_work_text : List DV → M DV := fnM 1 10 (sSeq (sAsg (gTpL [1, 2, 3, 4]) (eVar 0))
  (sSeq (sSet 5 (eLst [(eJs [(eC (.str "ins ")), (eFmt (eVar 1))])]))
  (sSeq (sFor (iAny (eVar 2)) (gTpL [6, 7]) s_work_text_L1)
  (sSeq (sFor (iAny (eVar 3)) (gTpL [8, 9]) s_work_text_L2)
  (sSeq (sFor (iAny (eVar 4)) (gNm 7) s_work_text_L3)
  (sRet (eMt "str" joinM (eC (.str "\n")) [(eVar 5)])))))))
@[irreducible] noncomputable def s_law : List DV → M DV := fnM 1 8 (sSeq (sSet 1 (eCall s__law_bag [(eVar 0), (eC (.int 0))]))
  (sSeq (sSet 2 (eLst [(eCall s__law_take [(eVar 1), (eC (.int 65))]), (eCall s__law_take [(eVar 1), (eC (.int 6))]), (eCall s__law_take [(eVar 1), (eC (.int 20))]), (eCall s__law_take [(eVar 1), (eC (.int 6))])]))
  (sSeq (sIf (tVal (eOp eqM (eCall s__law_take [(eVar 1), (eC (.int 8))]) (eC (.int 0)))) (sAsg (gSub (eVar 2) (eC (.int 1))) (eCall s__law_take [(eVar 1), (eC (.int 41))])) sSkip)
  (sSeq (sSet 3 (eCall s__law_work [(eCall s__law_bag [(eVar 0), (eC (.int 1))]), (eOp ixM (eVar 2) (eC (.int 0))), (eOp ixM (eVar 2) (eC (.int 1))), (eOp ixM (eVar 2) (eC (.int 2))), (eOp ixM (eVar 2) (eC (.int 3)))]))
  (sSeq (sSet 4 (eCall s__law_work [(eCall s__law_bag [(eVar 0), (eC (.int 2))]), (eC (.int 2)), (eC (.int 1)), (eC (.int 3)), (eC (.int 1))]))
  (sSeq (sSet 5 (eCall s__law_text [(eVar 3)]))
  (sSeq (sSet 6 (eCall reprM [(eVar 3)]))
  (sSeq (sSet 7 (eCall s_work_text [(eVar 3)]))
  (sSeq (sIf (tOr (tNot (tTru (eCall isiM [(eVar 7), (eC (.ty "str"))]))) (tOr (tVal (eOp neM (eVar 7) (eVar 5))) (tVal (eOp neM (eCall reprM [(eVar 3)]) (eVar 6))))) (sRet (eC (.bl false))) sSkip)
  (sSeq (sIf (tOr (tNot (tTru (eCall s__law_read [(eVar 3), (eVar 5)]))) (tOr (tNot (tTru (eCall s__law_read [(eVar 4), (eCall s__law_text [(eVar 4)])]))) (tNot (tTru (eCall s__law_read [(eVar 3), (eVar 5)]))))) (sRet (eC (.bl false))) sSkip)
  (sRet (eOp eqM (eCall s_work_text [(eCall s_read_work [(eVar 5)])]) (eVar 5)))))))))))))
end LK
namespace LK
open PySem PySem.Spec PyProof.Rows L2 ML
def KI (kvs : List (HK × DV)) : Prop := ∀ p ∈ kvs, ∃ i, p.1 = HK.int i
theorem KI.ok {kvs : List (HK × DV)} (h : KI kvs) (i : Int) : kindOk kvs (.int i) = true := by
  cases kvs with
  | nil => rfl
  | cons p r =>
    obtain ⟨k, v⟩ := p
    obtain ⟨j, e⟩ := h (k, v) List.mem_cons_self
    have e : k = .int j := e
    subst e
    rfl
theorem hSet_mem {h : HK} {d : DV} {p : HK × DV} : ∀ {kvs : List (HK × DV)}, p ∈ hSet kvs h d → p = (h, d) ∨ p ∈ kvs
  | [], hp => by
    simp only [hSet, List.mem_singleton] at hp
    exact .inl hp
  | (k, v) :: r, hp => by
    simp only [hSet] at hp
    split at hp
    · rename_i e
      subst e
      rcases List.mem_cons.mp hp with z | z
      · exact .inl z
      · exact .inr (List.mem_cons_of_mem _ z)
    · rcases List.mem_cons.mp hp with z | z
      · exact .inr (z ▸ List.mem_cons_self)
      · rcases hSet_mem z with y | y
        · exact .inl y
        · exact .inr (List.mem_cons_of_mem _ y)
theorem hSet_len {h : HK} {d : DV} : ∀ {kvs : List (HK × DV)}, (hSet kvs h d).length ≤ kvs.length + 1
  | [] => Nat.le_refl _
  | (k, v) :: r => by
    simp only [hSet]
    split
    · simp
    · have := hSet_len (h := h) (d := d) (kvs := r)
      simp only [List.length_cons]
      omega
theorem KI.set {kvs : List (HK × DV)} (h : KI kvs) (i : Int) (d : DV) : KI (hSet kvs (.int i) d) := fun p hp => by
  rcases hSet_mem hp with z | z
  · exact ⟨i, by rw [z]⟩
  · exact h p z

def KS (kvs : List (HK × DV)) : Prop := ∀ p ∈ kvs, ∃ x, p.1 = HK.str x
theorem KS.ok {kvs : List (HK × DV)} (h : KS kvs) (x : Str) : kindOk kvs (.str x) = true := by
  cases kvs with
  | nil => rfl
  | cons p r =>
    obtain ⟨k, v⟩ := p
    obtain ⟨j, e⟩ := h (k, v) List.mem_cons_self
    have e : k = .str j := e
    subst e
    rfl
theorem KS.nil : KS [] := fun p hp => by simp at hp
theorem KS.set {kvs : List (HK × DV)} (h : KS kvs) (x : Str) (d : DV) : KS (hSet kvs (.str x) d) := fun p hp => by
  rcases hSet_mem hp with z | z
  · exact ⟨x, by rw [z]⟩
  · exact h p z
theorem wp_ixDk {k : Nat} {i : DV} {h : HK} {kvs : List (HK × DV)} {st : Sto} {QD : PQ DV} {E : XQ} (hs : st[k]? = some (.dic kvs)) (hk : kOf i = some h) (hi : ∀ j, i ≠ .int j) (ho : kindOk kvs h = true) {w : DV} (e : hGet kvs h = some w) : Wp (ixM (.ref k) i st) QD E = QD w st := by
  cases i with
  | int j => exact absurd rfl (hi j)
  | str x =>
    unfold ixM
    simp only [hs, hk, Option.bind_some, ho, if_true, e]
    rfl
  | tup xs =>
    unfold ixM
    simp only [hs, hk, Option.bind_some, ho, if_true, e]
    rfl
  | non =>
    unfold ixM
    simp only [hs, hk, Option.bind_some, ho, if_true, e]
    rfl
  | _ => cases hk
theorem wp_ixDS {k : Nat} {x : Str} {kvs : List (HK × DV)} {st : Sto} {QD : PQ DV} {E : XQ} {w : DV} (hs : st[k]? = some (.dic kvs)) (ho : KS kvs) (e : hGet kvs (.str x) = some w) : Wp (ixM (.ref k) (.str x) st) QD E = QD w st :=
  wp_ixDk (i := .str x) (h := .str x) hs rfl (fun j h => by cases h) (ho.ok x) e

def Kp' (k : Nat) (st st' : Sto) : Prop := st.length ≤ st'.length ∧ ∀ (j : Nat) (o : DO), j ≠ k → st[j]? = some o → st'[j]? = some o
theorem Kp'.refl {k : Nat} {st : Sto} : Kp' k st st := ⟨Nat.le_refl _, fun _ _ _ h => h⟩
theorem Kp'.trans {k : Nat} {a b c : Sto} (h : Kp' k a b) (g : Kp' k b c) : Kp' k a c := ⟨Nat.le_trans h.1 g.1, fun j o n e => g.2 j o n (h.2 j o n e)⟩
theorem Kp'.sub {k : Nat} {a b : Sto} (h : Sub a b) : Kp' k a b := ⟨h.len, fun j o _ e => h j o e⟩
theorem Kp'.set {k : Nat} {a : Sto} {o : DO} : Kp' k a (a.set k o) := ⟨by simp, fun j o' n e => by rw [List.getElem?_set_ne (Ne.symm n)]; exact e⟩
theorem Kp'.setN {k k1 : Nat} {a b : Sto} {o : DO} (h : Kp' k a b) (hk : a.length ≤ k1) : Kp' k a (b.set k1 o) := ⟨by simpa using h.1, fun j o' n e => by
  have := get_lt e
  rw [List.getElem?_set_ne (by omega)]
  exact h.2 j o' n e⟩
def Bag (st : Sto) (k : Nat) : Prop := ∃ b0 b1 : Int, st[k]? = some (.lst [.int b0, .int b1]) ∧ 0 ≤ b0 ∧ 0 ≤ b1
theorem Bag.sub {st st' : Sto} {k : Nat} (h : Bag st k) (s : Sub st st') : Bag st' k := by
  obtain ⟨b0, b1, h1, h2⟩ := h
  exact ⟨b0, b1, s _ _ h1, h2⟩
theorem Bag.setN {st : Sto} {k k1 : Nat} {o : DO} (h : Bag st k) (hk : k1 ≠ k) : Bag (st.set k1 o) k := by
  obtain ⟨b0, b1, h1, h2⟩ := h
  exact ⟨b0, b1, by rw [List.getElem?_set_ne hk]; exact h1, h2⟩
theorem Bag.lt {st : Sto} {k : Nat} (h : Bag st k) : k < st.length := by
  obtain ⟨_, _, h1, _⟩ := h
  exact get_lt h1

theorem take_spec {k : Nat} {many : Int} {st : Sto} (hb : Bag st k) (hm : 0 < many) (hd : divOk many) :
    Wp (s__law_take [.ref k, .int many] st) (fun v st' => ∃ d : Int, v = .int d ∧ 0 ≤ d ∧ d < many ∧ Bag st' k ∧ Kp' k st st') NX := by
  obtain ⟨b0, b1, h, p0, p1⟩ := hb
  have r0 := Int.emod_nonneg b0 (show many ≠ 0 by omega)
  have r1 := Int.emod_lt_of_pos b0 hm
  unfold s__law_take
  (try simp (disch := omega) only [WZ, WR, wp_if, wp_expr, wp_optD, wipeD, List.reduceReplicate, Nat.reduceSub, Int.reduceToNat, Int.reducePow, true_and, and_true, List.getElem?_cons_succ, List.getElem?_cons_zero, List.set_cons_succ, List.set_cons_zero, List.length_map, Int.toNat_natCast, Int.zero_add, List.map_cons, List.map_nil, List.cons_append, List.nil_append, decide_eq_true_eq, Bool.not_eq_true', decide_eq_false_iff_not, Bool.true_eq_false, Bool.false_eq_true, if_true, if_false, Bool.not_true, Bool.not_false, wp_ixR h])
  split
  · rw [wp_fdiv]
    refine ⟨hd, ?_⟩
    (try simp (disch := omega) only [WZ, WR, wp_if, wp_expr, wp_optD, wipeD, List.reduceReplicate, Nat.reduceSub, Int.reduceToNat, Int.reducePow, true_and, and_true, List.getElem?_cons_succ, List.getElem?_cons_zero, List.set_cons_succ, List.set_cons_zero, List.length_map, Int.toNat_natCast, Int.zero_add, List.map_cons, List.map_nil, List.cons_append, List.nil_append, decide_eq_true_eq, Bool.not_eq_true', decide_eq_false_iff_not, Bool.true_eq_false, Bool.false_eq_true, if_true, if_false, Bool.not_true, Bool.not_false])
    refine tG2_sub ?_
    unfold ML.tSub
    (try simp (disch := omega) only [WZ, WR, wp_if, wp_expr, wp_optD, wipeD, List.reduceReplicate, Nat.reduceSub, Int.reduceToNat, Int.reducePow, true_and, and_true, List.getElem?_cons_succ, List.getElem?_cons_zero, List.set_cons_succ, List.set_cons_zero, List.length_map, Int.toNat_natCast, Int.zero_add, List.map_cons, List.map_nil, List.cons_append, List.nil_append, decide_eq_true_eq, Bool.not_eq_true', decide_eq_false_iff_not, Bool.true_eq_false, Bool.false_eq_true, if_true, if_false, Bool.not_true, Bool.not_false])
    rw [setM_R h (by decide) (by simp)]
    (try simp (disch := omega) only [WZ, WR, wp_if, wp_expr, wp_optD, wipeD, List.reduceReplicate, Nat.reduceSub, Int.reduceToNat, Int.reducePow, true_and, and_true, List.getElem?_cons_succ, List.getElem?_cons_zero, List.set_cons_succ, List.set_cons_zero, List.length_map, Int.toNat_natCast, Int.zero_add, List.map_cons, List.map_nil, List.cons_append, List.nil_append, decide_eq_true_eq, Bool.not_eq_true', decide_eq_false_iff_not, Bool.true_eq_false, Bool.false_eq_true, if_true, if_false, Bool.not_true, Bool.not_false])
    refine ⟨_, rfl, r0, r1, ⟨b0 / many, b1, ?_, Int.ediv_nonneg p0 (by omega), p1⟩, .set⟩
    rw [get_set h]
  · refine tG2_sub ?_
    unfold ML.tSub
    (try simp (disch := omega) only [WZ, WR, wp_if, wp_expr, wp_optD, wipeD, List.reduceReplicate, Nat.reduceSub, Int.reduceToNat, Int.reducePow, true_and, and_true, List.getElem?_cons_succ, List.getElem?_cons_zero, List.set_cons_succ, List.set_cons_zero, List.length_map, Int.toNat_natCast, Int.zero_add, List.map_cons, List.map_nil, List.cons_append, List.nil_append, decide_eq_true_eq, Bool.not_eq_true', decide_eq_false_iff_not, Bool.true_eq_false, Bool.false_eq_true, if_true, if_false, Bool.not_true, Bool.not_false])
    rw [setM_R h (by decide) (by simp)]
    have h2 : (st.set k (.lst ([DV.int b0, DV.int b1].set (1 : Int).toNat (.int ((b1 * 48271 + 11) % 2147483647)))))[k]? = some (.lst [.int b0, .int ((b1 * 48271 + 11) % 2147483647)]) := by
      rw [get_set h]
      rfl
    have kp : Kp' k st (st.set k (.lst ([DV.int b0, DV.int b1].set (1 : Int).toNat (.int ((b1 * 48271 + 11) % 2147483647))))) := .set
    generalize st.set k _ = st1 at h2 kp
    (try simp (disch := omega) only [WZ, WR, wp_if, wp_expr, wp_optD, wipeD, List.reduceReplicate, Nat.reduceSub, Int.reduceToNat, Int.reducePow, true_and, and_true, List.getElem?_cons_succ, List.getElem?_cons_zero, List.set_cons_succ, List.set_cons_zero, List.length_map, Int.toNat_natCast, Int.zero_add, List.map_cons, List.map_nil, List.cons_append, List.nil_append, decide_eq_true_eq, Bool.not_eq_true', decide_eq_false_iff_not, Bool.true_eq_false, Bool.false_eq_true, if_true, if_false, Bool.not_true, Bool.not_false, wp_ixR h2])
    exact ⟨_, rfl, Int.emod_nonneg _ (by omega), Int.emod_lt_of_pos _ hm, ⟨_, _, h2, p0, Int.emod_nonneg _ (by decide)⟩, kp⟩
theorem cell_spec {ns : List Int} {a : Int} {st : Sto} (h0 : 0 ≤ a) (h1 : a ≤ 1000) : Wp (s__law_cell_at [.fzl (ns.map DV.int), .int a] st) (fun v st' => st' = st ∧ v = .int (if a < ns.length then ns.getD a.toNat 0 else 0)) NX := by
  unfold s__law_cell_at
  (try simp (disch := omega) only [WZ, WR, wp_if, wp_expr, wp_optD, wipeD, List.reduceReplicate, Nat.reduceSub, Int.reduceToNat, Int.reducePow, true_and, and_true, List.getElem?_cons_succ, List.getElem?_cons_zero, List.set_cons_succ, List.set_cons_zero, List.length_map, Int.toNat_natCast, Int.zero_add, List.map_cons, List.map_nil, List.cons_append, List.nil_append, decide_eq_true_eq, Bool.not_eq_true', decide_eq_false_iff_not, Bool.true_eq_false, Bool.false_eq_true, if_true, if_false, Bool.not_true, Bool.not_false])
  split
  · first | exact ⟨rfl, rfl⟩ | rfl | trivial
  · first | exact ⟨rfl, rfl⟩ | rfl | trivial
theorem bag_spec {ns : List Int} {a : Int} {st : Sto} (h0 : 0 ≤ a) (h1 : a ≤ 1000) : Wp (s__law_bag [.fzl (ns.map DV.int), .int a] st) (fun v st' => Sub st st' ∧ ∃ k, v = .ref k ∧ st.length ≤ k ∧ Bag st' k) NX := by
  unfold s__law_bag
  simp (disch := omega) only [WZ, WR, wp_expr, wp_optD, wipeD, List.reduceReplicate, Nat.reduceSub, Int.reduceToNat, Int.reducePow, true_and, and_true, List.getElem?_cons_succ, List.getElem?_cons_zero, List.set_cons_succ, List.set_cons_zero, List.length_map, Int.toNat_natCast, Int.zero_add, List.map_cons, List.map_nil, List.cons_append, List.nil_append, decide_eq_true_eq, Bool.not_eq_true', decide_eq_false_iff_not, Bool.true_eq_false, Bool.false_eq_true, if_true, if_false, Bool.not_true, Bool.not_false]
  refine (cell_spec h0 h1).mono ?_
  rintro _ st0 ⟨rfl, rfl⟩
  generalize (if a < (ns.length : Int) then ns.getD a.toNat 0 else 0) = c
  (try simp (disch := omega) only [WZ, WR, wp_if, wp_expr, wp_optD, wipeD, List.reduceReplicate, Nat.reduceSub, Int.reduceToNat, Int.reducePow, true_and, and_true, List.getElem?_cons_succ, List.getElem?_cons_zero, List.set_cons_succ, List.set_cons_zero, List.length_map, Int.toNat_natCast, Int.zero_add, List.map_cons, List.map_nil, List.cons_append, List.nil_append, decide_eq_true_eq, Bool.not_eq_true', decide_eq_false_iff_not, Bool.true_eq_false, Bool.false_eq_true, if_true, if_false, Bool.not_true, Bool.not_false])
  refine wp_allocN fun st1 k1 sub1 l1 _ h1' => ?_
  (try simp (disch := omega) only [WZ, WR, wp_if, wp_expr, wp_optD, wipeD, List.reduceReplicate, Nat.reduceSub, Int.reduceToNat, Int.reducePow, true_and, and_true, List.getElem?_cons_succ, List.getElem?_cons_zero, List.set_cons_succ, List.set_cons_zero, List.length_map, Int.toNat_natCast, Int.zero_add, List.map_cons, List.map_nil, List.cons_append, List.nil_append, decide_eq_true_eq, Bool.not_eq_true', decide_eq_false_iff_not, Bool.true_eq_false, Bool.false_eq_true, if_true, if_false, Bool.not_true, Bool.not_false])
  have q := Int.emod_nonneg c (show (2147483647 : Int) ≠ 0 by decide)
  have q2 : 0 ≤ 7919 * a * a := by rw [Int.mul_assoc]; exact Int.mul_nonneg (by decide) (Int.mul_nonneg h0 h0)
  refine ⟨sub1, k1, rfl, l1, _, _, h1', ?_, by omega⟩
  split
  · omega
  · omega
def c0 (ns : List Int) : Int := if (0 : Int) < ns.length then ns.getD (0 : Int).toNat 0 else 0
theorem cell0 {ns : List Int} {st : Sto} : Wp (s__law_cell_at [.fzl (ns.map DV.int), .int 0] st) (fun v st' => st' = st ∧ v = .int (c0 ns)) NX := cell_spec (by decide) (by decide)

/-! what is kept but for some handles -/
def KpS (S : List Nat) (st st' : Sto) : Prop := st.length ≤ st'.length ∧ ∀ (j : Nat) (o : DO), j ∉ S → st[j]? = some o → st'[j]? = some o
theorem KpS.refl {S : List Nat} {st : Sto} : KpS S st st := ⟨Nat.le_refl _, fun _ _ _ h => h⟩
theorem KpS.trans {S : List Nat} {a b c : Sto} (h : KpS S a b) (g : KpS S b c) : KpS S a c := ⟨Nat.le_trans h.1 g.1, fun j o n e => g.2 j o n (h.2 j o n e)⟩
theorem KpS.sub {S : List Nat} {a b : Sto} (h : Sub a b) : KpS S a b := ⟨h.len, fun j o _ e => h j o e⟩
theorem KpS.set {S : List Nat} {a : Sto} {k : Nat} {o : DO} (h : k ∈ S) : KpS S a (a.set k o) := ⟨by simp, fun j o' n e => by rw [List.getElem?_set_ne (fun q => n (by rw [← q]; exact h))]; exact e⟩
theorem KpS.setN {S : List Nat} {a b : Sto} {k : Nat} {o : DO} (h : KpS S a b) (hk : a.length ≤ k) : KpS S a (b.set k o) := ⟨by simpa using h.1, fun j o' n e => by
  have := get_lt e
  rw [List.getElem?_set_ne (by omega)]
  exact h.2 j o' n e⟩
theorem KpS.mono {S T : List Nat} {a b : Sto} (h : KpS S a b) (s : ∀ j ∈ S, j ∈ T) : KpS T a b := ⟨h.1, fun j o n e => h.2 j o (fun q => n (s j q)) e⟩
theorem KpS.to {S : List Nat} {a b : Sto} (h : KpS S a b) (s : ∀ j ∈ S, a.length ≤ j) : Sub a b := fun j o e => h.2 j o (fun q => by have := s j q; have := get_lt e; omega) e
theorem KpS.ofK {k : Nat} {a b : Sto} (h : Kp' k a b) : KpS [k] a b := ⟨h.1, fun j o n e => h.2 j o (fun q => n (by simp [q])) e⟩
theorem wp_dic0 {ss : Sl} {st : Sto} {QD : PQ DV} {E : XQ} (h : ∀ (st' : Sto) (k : Nat), Sub st st' → st.length ≤ k → k < st'.length → st'[k]? = some (.dic []) → QD (.ref k) st') : Wp (eDic0 ss st) QD E := by
  show Wp (alloc (.dic []) st) QD E
  rw [wp_alloc]
  exact h (st ++ [.dic []]) st.length .app (Nat.le_refl _) (by simp) get_new

theorem tLc_D {own : List Nat} {tg : Tg} {c : Sl → M Bool} {e : Ex} {items : List DV} {g : List (Nat × DO)} {ss : Sl} {st : Sto} {QD : PQ DV} {E : XQ} (h : items.length ≤ 16777216) : tLc own tg c e ss QD E ⟨items, g⟩ st = Wp (lcL g own tg c e items ss st) (tLn QD) NX := by
  have := tLc_mp (f := id) (L := items) (own := own) (tg := tg) (c := c) (e := e) (g := g) (ss := ss) (st := st) (QD := QD) (E := E) h
  rw [List.map_id] at this
  exact this
theorem lcn_D {B : Type} {items : List DV} {g : List (Nat × DO)} {own : List Nat} {tg : Tg} {e : Ex} {ss : Sl} {st : Sto} {QD : PQ DV} (G : B → DV) (F : DV → B)
    (hs : ∀ a st', a ∈ items → Sub st st' → ∃ ss', tg a (wipeD ss own) st' = .ok ss' st' ∧ Wp (e ss' st') (fun y st2 => y = G (F a) ∧ Sub st' st2) NX)
    (hg : ∀ st', Sub st st' → okG g st')
    (he : New st ((items.map F).map G) QD) : Wp (lcL g own tg tTrue e items ss st) (tLn QD) NX := by
  have := lcn_mapG (f := id) (L := items) (g := g) (own := own) (tg := tg) (e := e) (ss := ss) (st := st) (QD := QD) G F hs hg he
  rw [List.map_id] at this
  exact this
theorem wp_tTrue {ss : Sl} {st : Sto} {QT : PQ Bool} {E : XQ} : Wp (tTrue ss st) QT E = QT true st := nd rfl
theorem dec_true {p : Prop} [Decidable p] (h : p) : (decide p = true) = True := by
  rw [decide_eq_true h]
  simp

/-! what can be shown, and how long it is -/
structure ShB (n k : Nat) (d : PyData) : Prop where
  a : d.showable = true
  b : d.hasDict = false
  c : d.depth ≤ k
  l : d.shown.length ≤ n
theorem ShB.shw {n k : Nat} {d : PyData} (h : ShB n k d) (hn : n ≤ 16777216) (hk : k ≤ 60) : Shw d := ⟨h.a, h.b, Nat.le_trans h.c hk, Nat.le_trans h.l hn⟩
theorem ShB.up {n k n' k' : Nat} {d : PyData} (h : ShB n k d) (hn : n ≤ n') (hk : k ≤ k') : ShB n' k' d := ⟨h.a, h.b, Nat.le_trans h.c hk, Nat.le_trans h.l hn⟩
theorem sapp_len (a b : Str) : (a ++ b).length = a.length + b.length := by
  rw [TL.len_tl, TL.tl_append, List.length_append, ← TL.len_tl, ← TL.len_tl]
theorem textFrom_le : ∀ (ts : List Str) (k : Nat) (acc : Str), (textFrom k acc ts).length ≤ acc.length + piled ts
  | [], k, acc => Nat.le_refl _
  | t :: ts, k, acc => by
    have ih := textFrom_le ts (k + 1) (acc ++ (if k > 0 then ", " else "" : String) ++ t)
    rw [sapp_len, sapp_len] at ih
    have e : ((if k > 0 then ", " else "" : String) : Str).length ≤ 2 := by
      split <;> decide
    rw [piled_cons]
    show (textFrom (k + 1) (acc ++ (if k > 0 then ", " else "" : String) ++ t) ts).length ≤ _
    omega
theorem piled_le {n : Nat} : ∀ {ds : List PyData}, (∀ d ∈ ds, d.shown.length ≤ n) → piled (PyData.shownAll ds) ≤ ds.length * (n + 2)
  | [], _ => by simp [PyData.shownAll, piled]
  | d :: ds, h => by
    have h1 := h d List.mem_cons_self
    have h2 := piled_le fun e he => h e (List.mem_cons_of_mem _ he)
    show piled (d.shown :: PyData.shownAll ds) ≤ _
    rw [piled_cons, List.length_cons, Nat.add_mul, Nat.one_mul]
    omega
theorem all_of {ds : List PyData} {n k : Nat} (h : ∀ d ∈ ds, ShB n k d) : PyData.showableAll ds = true ∧ PyData.hasDictAll ds = false ∧ PyData.depthAll ds ≤ k := by
  induction ds with
  | nil => exact ⟨rfl, rfl, Nat.zero_le _⟩
  | cons d ds ih =>
    obtain ⟨a, b, c⟩ := ih fun e he => h e (List.mem_cons_of_mem _ he)
    have h1 := h d List.mem_cons_self
    refine ⟨?_, ?_, ?_⟩
    · show (d.showable && PyData.showableAll ds) = true
      rw [h1.a, a]; rfl
    · show (d.hasDict || PyData.hasDictAll ds) = false
      rw [h1.b, b]; rfl
    · show max d.depth (PyData.depthAll ds) ≤ k
      exact Nat.max_le.mpr ⟨h1.c, c⟩
theorem shb_list {n k m : Nat} {ds : List PyData} (hm : ds.length ≤ m) (h : ∀ d ∈ ds, ShB n k d) : ShB (m * (n + 2) + 2) (k + 1) (.list ds) := by
  obtain ⟨a, b, c⟩ := all_of h
  refine ⟨a, b, ?_, ?_⟩
  · show PyData.depthAll ds + 1 ≤ k + 1
    omega
  · have p := piled_le fun d hd => (h d hd).l
    have q : ds.length * (n + 2) ≤ m * (n + 2) := Nat.mul_le_mul_right _ hm
    show (textFrom 0 "[" (PyData.shownAll ds) ++ "]").length ≤ _
    have r := textFrom_le (PyData.shownAll ds) 0 "["
    rw [sapp_len]
    have e1 : ("[" : Str).length = 1 := by decide
    have e2 : ("]" : Str).length = 1 := by decide
    omega
theorem shb_tup {n k m : Nat} {ds : List PyData} (hm : ds.length ≤ m) (h : ∀ d ∈ ds, ShB n k d) : ShB (m * (n + 2) + 3) (k + 1) (.tuple ds) := by
  obtain ⟨a, b, c⟩ := all_of h
  refine ⟨a, b, ?_, ?_⟩
  · show PyData.depthAll ds + 1 ≤ k + 1
    omega
  · have p := piled_le fun d hd => (h d hd).l
    have q : ds.length * (n + 2) ≤ m * (n + 2) := Nat.mul_le_mul_right _ hm
    show (("(" : Str) ++ Str.join ", " (PyData.shownAll ds) ++ (if (PyData.shownAll ds).length == 1 then ",)" else ")" : String)).length ≤ _
    have e1 : ("(" : Str).length = 1 := by decide
    have e2 : ((if (PyData.shownAll ds).length == 1 then ",)" else ")" : String) : Str).length ≤ 2 := by
      split <;> decide
    have e3 : (Str.join ", " (PyData.shownAll ds)).length ≤ piled (PyData.shownAll ds) := by
      by_cases hz : PyData.shownAll ds = []
      · rw [hz]; exact Nat.zero_le _
      · have := join_length_add _ hz
        omega
    rw [sapp_len, sapp_len]
    omega
theorem numL_lenI {i : Int} {k : Nat} (hk : 0 < k) (h0 : 0 ≤ i) (h1 : i < 10 ^ k) : (Str.ofString (toString i)).length ≤ k := by
  obtain ⟨n, rfl⟩ := Int.eq_ofNat_of_zero_le h0
  rw [TL.len_tl, TL.tl_num]
  exact TL.numL_len hk (by exact_mod_cast h1)
theorem shb_int {i : Int} {n : Nat} (hn : 0 < n) (hn2 : n ≤ 500) (h0 : 0 ≤ i) (h1 : i < 10 ^ n) : ShB n 0 (.int i) := by
  obtain ⟨m, rfl⟩ := Int.eq_ofNat_of_zero_le h0
  have hm : m < 10 ^ n := by exact_mod_cast h1
  refine ⟨?_, rfl, Nat.le_refl _, numL_lenI hn h0 h1⟩
  show decide ((m : Int).natAbs.log2 < 1920) = true
  rw [decide_eq_true_eq, Int.natAbs_natCast]
  by_cases hz : m = 0
  · subst hz; decide
  · rw [Nat.log2_lt hz]
    refine Nat.lt_of_lt_of_le hm ?_
    calc 10 ^ n ≤ 10 ^ 500 := Nat.pow_le_pow_right (by decide) hn2
      _ ≤ 2 ^ 1920 := by decide +kernel
theorem shb_str {x : Str} {n : Nat} (h : (reprText x).length ≤ n) : ShB n 0 (.str x) := ⟨rfl, rfl, Nat.le_refl _, h⟩
theorem shb_bool {b : Bool} : ShB 5 0 (.bool b) := ⟨rfl, rfl, Nat.le_refl _, by cases b <;> decide⟩
theorem shb_none : ShB 4 0 .none := ⟨rfl, rfl, Nat.le_refl _, by decide⟩

/-! texts of rows of words -/
theorem tl_sp : TL.tl (" " : Str) = [32] := by decide +kernel
theorem tl_nl : TL.tl ("\n" : Str) = [10] := by decide +kernel
def rowT (ws : List Str) : Str := Txt.join " " ws
def textT (rows : List (List Str)) : Str := Txt.join "\n" (rows.map rowT)
theorem tl_rowT (ws : List Str) : TL.tl (rowT ws) = TL.joinL [32] (ws.map TL.tl) := by
  unfold rowT
  rw [TL.join_eq, TL.tl_join, tl_sp]
theorem mem_joinL {S : List Nat} {x : Nat} : ∀ {ps : List (List Nat)}, x ∈ TL.joinL S ps → x ∈ S ∨ ∃ p ∈ ps, x ∈ p
  | [], h => by cases h
  | [p], h => .inr ⟨p, by simp, h⟩
  | p :: q :: r, h => by
    have h : x ∈ p ++ (S ++ TL.joinL S (q :: r)) := h
    rcases List.mem_append.mp h with h | h
    · exact .inr ⟨p, by simp, h⟩
    · rcases List.mem_append.mp h with h | h
      · exact .inl h
      · rcases mem_joinL h with h | ⟨p', hp, h⟩
        · exact .inl h
        · exact .inr ⟨p', List.mem_cons_of_mem _ hp, h⟩
/-- words without a blank and a line end -/
def WdOk (w : Str) : Prop := 32 ∉ TL.tl w ∧ 10 ∉ TL.tl w
theorem split_row {ws : List Str} (hne : ws ≠ []) (h : ∀ w ∈ ws, WdOk w) : Txt.split (rowT ws) " " = ws :=
  TL.split_join (s := 32) (S := []) tl_sp (by decide +kernel) hne fun p hp => (h p hp).1
theorem row_nonl {ws : List Str} (h : ∀ w ∈ ws, WdOk w) : 10 ∉ TL.tl (rowT ws) := fun hm => by
  rw [tl_rowT] at hm
  rcases mem_joinL hm with h' | ⟨p, hp, h'⟩
  · simp at h'
  · obtain ⟨w, hw, rfl⟩ := List.mem_map.mp hp
    exact (h w hw).2 h'
theorem split_text {rows : List (List Str)} (hne : rows ≠ []) (h : ∀ r ∈ rows, ∀ w ∈ r, WdOk w) : Txt.split (textT rows) "\n" = rows.map rowT :=
  TL.split_join (s := 10) (S := []) tl_nl (by decide +kernel) (by simpa using hne) fun p hp => by
    obtain ⟨r, hr, rfl⟩ := List.mem_map.mp hp
    exact row_nonl (h r hr)
theorem joinL_snoc (S p : List Nat) : ∀ {ps : List (List Nat)}, ps ≠ [] → TL.joinL S (ps ++ [p]) = TL.joinL S ps ++ (S ++ p)
  | [], h => absurd rfl h
  | [q], _ => rfl
  | q :: r :: t, _ => by
    show q ++ (S ++ TL.joinL S ((r :: t) ++ [p])) = (q ++ (S ++ TL.joinL S (r :: t))) ++ (S ++ p)
    rw [joinL_snoc S p (by simp)]
    simp
theorem row_snoc {ws : List Str} {w : Str} (h : ws ≠ []) : rowT (ws ++ [w]) = rowT ws ++ " " ++ w := by
  refine TL.ext_tl ?_
  rw [TL.tl_append, TL.tl_append, tl_rowT, tl_rowT, List.map_append, List.map_cons, List.map_nil, joinL_snoc _ _ (by simpa using h), tl_sp]
  simp
theorem joinL_cons (S p : List Nat) : ∀ {ps : List (List Nat)}, ps ≠ [] → TL.joinL S (p :: ps) = p ++ (S ++ TL.joinL S ps)
  | [], h => absurd rfl h
  | q :: r, _ => rfl
theorem row_cons {ws : List Str} {w : Str} (h : ws ≠ []) : rowT (w :: ws) = w ++ " " ++ rowT ws := by
  refine TL.ext_tl ?_
  rw [TL.tl_append, TL.tl_append, tl_rowT, tl_rowT, List.map_cons, joinL_cons _ _ (by simpa using h), tl_sp]
  simp
theorem row_one (w : Str) : rowT [w] = w := by
  refine TL.ext_tl ?_
  rw [tl_rowT]
  rfl
theorem row_two (a b : Str) : rowT [a, b] = a ++ " " ++ b := by rw [row_cons (by simp), row_one]
/-! numbers as words -/
def nS (n : Nat) : Str := Str.ofString (toString ((n : Nat) : Int))
theorem tl_nS (n : Nat) : TL.tl (nS n) = TL.numL n := TL.tl_num n
theorem nS_ok (n : Nat) : WdOk (nS n) := by
  unfold WdOk
  rw [tl_nS]
  exact ⟨TL.numL_free (by omega), TL.numL_free (by omega)⟩
theorem nS_len {n k : Nat} (hk : 0 < k) (h : n < 10 ^ k) : (nS n).length ≤ k := by
  rw [TL.len_tl, tl_nS]
  exact TL.numL_len hk h
theorem nS_ne (n : Nat) : nS n ≠ "" := fun h => by
  have e := congrArg TL.tl h
  rw [tl_nS] at e
  exact TL.numL_ne n (e.trans (by decide +kernel))
theorem nS_int {n : Nat} (h : n < 10 ^ 9) : PySem.intText? (nS n) = some (n : Int) := TL.int_num (by have := TL.numL_len (n := n) (k := 9) (by decide) h; omega)
/-- its first sign is no nought, but of nought -/
theorem numL_head : ∀ n : Nat, 0 < n → ∃ c r, TL.numL n = c :: r ∧ c ≠ 48
  | n, h0 => by
    by_cases h : n < 10
    · exact ⟨48 + n, [], TL.numL_lt h, by omega⟩
    · obtain ⟨c, r, e, hc⟩ := numL_head (n / 10) (by omega)
      exact ⟨c, r ++ [48 + n % 10], by rw [TL.numL_step (by omega), e]; rfl, hc⟩
  termination_by n => n
theorem digit_fig {c : Nat} (h : 48 ≤ c ∧ c ≤ 57) : c ∈ TL.tl ("0123456789" : Str) := by
  have e : TL.tl ("0123456789" : Str) = [48, 49, 50, 51, 52, 53, 54, 55, 56, 57] := by decide +kernel
  rw [e]
  have : c = 48 ∨ c = 49 ∨ c = 50 ∨ c = 51 ∨ c = 52 ∨ c = 53 ∨ c = 54 ∨ c = 55 ∨ c = 56 ∨ c = 57 := by omega
  rcases this with h | h | h | h | h | h | h | h | h | h <;> simp [h]

/-! reading -/
def nI (n : Nat) : DV := .int n
theorem sl_of {n : Nat} (h : n ≤ 16777216) : n ≤ sizeLine := by rw [sl_eq]; exact h
theorem wp_lenSt {z : Str} {st : Sto} {Q : PQ DV} {E : XQ} (h : z.length ≤ 16777216) : Wp (lenM [.str z] st) Q E = Q (.int z.length) st := by
  show Wp (if z.length ≤ sizeLine then Out.ok (.int (z.length : Int)) st else .bad) Q E = _
  rw [if_pos (sl_of h)]
  rfl
theorem wp_ninF {c : Nat} {st : Sto} {Q : PQ DV} {E : XQ} : Wp (ninX (.str ⟨#[c]⟩) c_FIGURES st) Q E = Q (.bl (!decide (c ∈ TL.tl ("0123456789" : Str)))) st := by
  show Q (.bl (!strIn ⟨#[c]⟩ "0123456789")) st = _
  rw [strIn_sign]
theorem wp_ixS0 {z : Str} {c : Nat} {r : List Nat} {st : Sto} {Q : PQ DV} {E : XQ} (hz : z.length ≤ 1000) (h : TL.tl z = c :: r) : Wp (ixM (.str z) (.int 0) st) Q E = Q (.str ⟨#[c]⟩) st := by
  show Wp (if z.length ≤ sizeLine then optD ((atI z.cps.toList 0).map fun c => DV.str ⟨#[c]⟩) st else .bad) Q E = _
  have e : atI z.cps.toList 0 = some c := by
    rw [show z.cps.toList = c :: r from h]
    exact atI_nat (xs := c :: r) (j := 0) rfl
  rw [if_pos (sl_of (by omega)), e]
  rfl
theorem tIy_S {z : Str} {st : Sto} {QW : PQ Wk} : tIy QW (.str z) st = QW ⟨(TL.tl z).map fun c => .str ⟨#[c]⟩, []⟩ st := rfl
theorem number_spec {n : Nat} {st : Sto} (h : n < 10 ^ 9) : Wp (s_number_of [.str (nS n)] st) (fun v st' => st = st' ∧ v = .int n) NX := by
  have hl := nS_len (n := n) (k := 9) (by decide) h
  unfold s_number_of
  simp (disch := omega) only [WZ, WR, wp_expr, wp_optD, wipeD, List.reduceReplicate, Nat.reduceSub, Int.reduceToNat, Int.reducePow, true_and, and_true, List.getElem?_cons_succ, List.getElem?_cons_zero, List.set_cons_succ, List.set_cons_zero, List.length_map, Int.toNat_natCast, Int.zero_add, List.map_cons, List.map_nil, List.cons_append, List.nil_append, decide_eq_true_eq, Bool.not_eq_true', decide_eq_false_iff_not, Bool.true_eq_false, Bool.false_eq_true, if_true, if_false, Bool.not_true, Bool.not_false]
  refine Wp.mono (Q := fun fl st' => st = st' ∧ fl = .nx [some (.str (nS n)), none]) ?_ ?_
  · (try simp +decide (disch := omega) only [↓reduceIte, List.length_cons, List.length_nil, Nat.zero_add, Nat.reduceAdd, Int.cast_ofNat_Int, Int.reduceSub, Int.reduceAdd, Int.reduceMul, WZ, WR, wp_if, wp_expr, wp_optD, wipeD, List.reduceReplicate, Nat.reduceSub, Int.reduceToNat, Int.reducePow, true_and, and_true, List.getElem?_cons_succ, List.getElem?_cons_zero, List.set_cons_succ, List.set_cons_zero, List.length_map, Int.toNat_natCast, Int.zero_add, List.map_cons, List.map_nil, List.cons_append, List.nil_append, decide_eq_true_eq, Bool.not_eq_true', decide_eq_false_iff_not, Bool.true_eq_false, Bool.false_eq_true, if_true, if_false, Bool.not_true, Bool.not_false, wp_lenSt, nS_ne, c_LONGEST])
    rw [if_neg (by omega)]
    by_cases h0 : n = 0
    · subst h0
      have e : TL.tl (nS 0) = [48] := by rw [tl_nS]; decide +kernel
      rw [wp_ixS0 (by omega) e]
      have e2 : nS 0 = ("0" : Str) := by decide +kernel
      rw [e2]
      (try simp +decide (disch := omega) only [↓reduceIte, List.length_cons, List.length_nil, Nat.zero_add, Nat.reduceAdd, Int.cast_ofNat_Int, Int.reduceSub, Int.reduceAdd, Int.reduceMul, WZ, WR, wp_if, wp_expr, wp_optD, wipeD, List.reduceReplicate, Nat.reduceSub, Int.reduceToNat, Int.reducePow, true_and, and_true, List.getElem?_cons_succ, List.getElem?_cons_zero, List.set_cons_succ, List.set_cons_zero, List.length_map, Int.toNat_natCast, Int.zero_add, List.map_cons, List.map_nil, List.cons_append, List.nil_append, decide_eq_true_eq, Bool.not_eq_true', decide_eq_false_iff_not, Bool.true_eq_false, Bool.false_eq_true, if_true, if_false, Bool.not_true, Bool.not_false])
    · obtain ⟨c, r, e, hc⟩ := numL_head n (by omega)
      rw [wp_ixS0 (c := c) (r := r) (by omega) (by rw [tl_nS]; exact e)]
      have ne : (⟨#[c]⟩ : Str) ≠ "0" := fun z => by
        have := congrArg TL.tl z
        have e0 : TL.tl ("0" : Str) = [48] := by decide +kernel
        rw [e0] at this
        have : [c] = [48] := this
        exact hc (by simpa using this)
      (try simp +decide (disch := omega) only [↓reduceIte, List.length_cons, List.length_nil, Nat.zero_add, Nat.reduceAdd, Int.cast_ofNat_Int, Int.reduceSub, Int.reduceAdd, Int.reduceMul, WZ, WR, wp_if, wp_expr, wp_optD, wipeD, List.reduceReplicate, Nat.reduceSub, Int.reduceToNat, Int.reducePow, true_and, and_true, List.getElem?_cons_succ, List.getElem?_cons_zero, List.set_cons_succ, List.set_cons_zero, List.length_map, Int.toNat_natCast, Int.zero_add, List.map_cons, List.map_nil, List.cons_append, List.nil_append, decide_eq_true_eq, Bool.not_eq_true', decide_eq_false_iff_not, Bool.true_eq_false, Bool.false_eq_true, if_true, if_false, Bool.not_true, Bool.not_false, ne])
  rintro _ _ ⟨rfl, rfl⟩
  simp (disch := omega) only [WZ, WR, wp_expr, wp_optD, wipeD, List.reduceReplicate, Nat.reduceSub, Int.reduceToNat, Int.reducePow, true_and, and_true, List.getElem?_cons_succ, List.getElem?_cons_zero, List.set_cons_succ, List.set_cons_zero, List.length_map, Int.toNat_natCast, Int.zero_add, List.map_cons, List.map_nil, List.cons_append, List.nil_append, decide_eq_true_eq, Bool.not_eq_true', decide_eq_false_iff_not, Bool.true_eq_false, Bool.false_eq_true, if_true, if_false, Bool.not_true, Bool.not_false, tIy_S]
  refine for_rule (fun i ss st' => ∃ o, ss = [some (.str (nS n)), o] ∧ st' = st) ⟨none, rfl, rfl⟩ (fun _ _ _ _ _ => okG_nil) ?_ ?_
  · rintro i x ss st' hx ⟨o, rfl, rfl⟩
    rw [List.getElem?_map] at hx
    cases hc : (TL.tl (nS n))[i]? with
    | none => rw [hc] at hx; cases hx
    | some c =>
      rw [hc] at hx
      cases hx
      have hm := List.mem_of_getElem? hc
      rw [tl_nS] at hm
      have hd := TL.numL_digits n c hm
      refine ⟨_, _, rfl, ?_⟩
      unfold s_number_of_L1
      (try simp (disch := omega) only [WZ, WR, wp_if, wp_expr, wp_optD, wipeD, List.reduceReplicate, Nat.reduceSub, Int.reduceToNat, Int.reducePow, true_and, and_true, List.getElem?_cons_succ, List.getElem?_cons_zero, List.set_cons_succ, List.set_cons_zero, List.length_map, Int.toNat_natCast, Int.zero_add, List.map_cons, List.map_nil, List.cons_append, List.nil_append, decide_eq_true_eq, Bool.not_eq_true', decide_eq_false_iff_not, Bool.true_eq_false, Bool.false_eq_true, if_true, if_false, Bool.not_true, Bool.not_false])
      rw [wp_ninF, decide_eq_true (digit_fig hd)]
      (try simp (disch := omega) only [WZ, WR, wp_if, wp_expr, wp_optD, wipeD, List.reduceReplicate, Nat.reduceSub, Int.reduceToNat, Int.reducePow, true_and, and_true, List.getElem?_cons_succ, List.getElem?_cons_zero, List.set_cons_succ, List.set_cons_zero, List.length_map, Int.toNat_natCast, Int.zero_add, List.map_cons, List.map_nil, List.cons_append, List.nil_append, decide_eq_true_eq, Bool.not_eq_true', decide_eq_false_iff_not, Bool.true_eq_false, Bool.false_eq_true, if_true, if_false, Bool.not_true, Bool.not_false])
      exact ⟨_, rfl⟩
  · rintro ss st' ⟨o, rfl, rfl⟩
    (try simp (disch := omega) only [WZ, WR, wp_if, wp_expr, wp_optD, wipeD, List.reduceReplicate, Nat.reduceSub, Int.reduceToNat, Int.reducePow, true_and, and_true, List.getElem?_cons_succ, List.getElem?_cons_zero, List.set_cons_succ, List.set_cons_zero, List.length_map, Int.toNat_natCast, Int.zero_add, List.map_cons, List.map_nil, List.cons_append, List.nil_append, decide_eq_true_eq, Bool.not_eq_true', decide_eq_false_iff_not, Bool.true_eq_false, Bool.false_eq_true, if_true, if_false, Bool.not_true, Bool.not_false])
    rw [wp_intS (nS_int h) (by omega)]
    exact ⟨rfl, rfl⟩
/-- rows of words in the store -/
def rowS (q : Nat × List Str) : DV := .ref q.1
structure RowsS (st : Sto) (k : Nat) (qs : List (Nat × List Str)) : Prop where
  at_ : st[k]? = some (.lst (qs.map rowS))
  ob : ∀ q ∈ qs, st[q.1]? = some (.lst (q.2.map DV.str))
theorem RowsS.mono {st st' : Sto} {k : Nat} {qs : List (Nat × List Str)} (h : RowsS st k qs) (s : Sub st st') : RowsS st' k qs := ⟨s _ _ h.at_, fun q hq => s _ _ (h.ob q hq)⟩
theorem wp_splitN {a b : Str} {st : Sto} {Q : PQ DV} {E : XQ} (hb : (b.length == 0) = false) (hl : a.length + 2 ≤ 16777216) (hq : New st ((Txt.split a b).map DV.str) Q) : Wp (splitM (.str a) [.str b] st) Q E := by
  show Wp (if (b.length == 0) = false ∧ a.length + 2 ≤ sizeLine then alloc (.lst ((Txt.split a b).map DV.str)) st else .bad) Q E
  rw [if_pos ⟨hb, sl_of hl⟩]
  exact wp_allocN hq
theorem tMt_S {a : Str} {g : DV → List DV → M DV} {ms : List Ex} {ss : Sl} {st : Sto} {QD : PQ DV} {E : XQ} : tMt "str" g ms ss QD E (.str a) st = Wp (eArgs ms ss st) (tB (g (.str a)) QD E) E := by
  have : isT "str" (.str a) st = true := rfl
  unfold tMt
  simp only [this, true_and]
theorem rowsof_spec {rows : List (List Str)} {t : Str} {st : Sto} (ht : t.length ≤ 1000000) (hr : rows.length ≤ 100000) (hs : Txt.split t "\n" = rows.map rowT) (hw : ∀ r ∈ rows, Txt.split (rowT r) " " = r ∧ (rowT r).length ≤ 1000000) :
    Wp (s_rows_of [.str t] st) (fun v st' => Sub st st' ∧ ∃ k qs, v = .ref k ∧ st.length ≤ k ∧ RowsS st' k qs ∧ qs.map (·.2) = rows) NX := by
  unfold s_rows_of
  simp (disch := omega) only [WZ, WR, wp_expr, wp_optD, wipeD, List.reduceReplicate, Nat.reduceSub, Int.reduceToNat, Int.reducePow, true_and, and_true, List.getElem?_cons_succ, List.getElem?_cons_zero, List.set_cons_succ, List.set_cons_zero, List.length_map, Int.toNat_natCast, Int.zero_add, List.map_cons, List.map_nil, List.cons_append, List.nil_append, decide_eq_true_eq, Bool.not_eq_true', decide_eq_false_iff_not, Bool.true_eq_false, Bool.false_eq_true, if_true, if_false, Bool.not_true, Bool.not_false, ty_S, kt_str, it_str_str]
  (try simp (disch := omega) only [WZ, WR, wp_if, wp_expr, wp_optD, wipeD, List.reduceReplicate, Nat.reduceSub, Int.reduceToNat, Int.reducePow, true_and, and_true, List.getElem?_cons_succ, List.getElem?_cons_zero, List.set_cons_succ, List.set_cons_zero, List.length_map, Int.toNat_natCast, Int.zero_add, List.map_cons, List.map_nil, List.cons_append, List.nil_append, decide_eq_true_eq, Bool.not_eq_true', decide_eq_false_iff_not, Bool.true_eq_false, Bool.false_eq_true, if_true, if_false, Bool.not_true, Bool.not_false, tMt_S])
  refine wp_splitN (by decide +kernel) (by omega) fun st1 k1 s1 l1 m1 g1 => ?_
  rw [hs, List.map_map] at g1
  (try simp (disch := omega) only [WZ, WR, wp_if, wp_expr, wp_optD, wipeD, List.reduceReplicate, Nat.reduceSub, Int.reduceToNat, Int.reducePow, true_and, and_true, List.getElem?_cons_succ, List.getElem?_cons_zero, List.set_cons_succ, List.set_cons_zero, List.length_map, Int.toNat_natCast, Int.zero_add, List.map_cons, List.map_nil, List.cons_append, List.nil_append, decide_eq_true_eq, Bool.not_eq_true', decide_eq_false_iff_not, Bool.true_eq_false, Bool.false_eq_true, if_true, if_false, Bool.not_true, Bool.not_false, tIy_R g1])
  refine lc_rule (fun i ys st' => Sub st1 st' ∧ ∃ qs : List (Nat × List Str), ys = qs.map rowS ∧ qs.map (·.2) = rows.take i ∧ ∀ q ∈ qs, st'[q.1]? = some (.lst (q.2.map DV.str))) ⟨.refl, [], rfl, by simp, fun q hq => by simp at hq⟩ (fun i ys st' _ h => okG_one (h.1 _ _ g1)) (fun i x ys st' hx h => ?_) fun ys st' h => ?_
  · obtain ⟨sub, qs, rfl, hqs, hob⟩ := h
    rw [List.getElem?_map] at hx
    cases hL : rows[i]? with
    | none => rw [hL] at hx; cases hx
    | some r =>
      rw [hL] at hx
      cases hx
      obtain ⟨h1, h2⟩ := hw r (List.mem_of_getElem? hL)
      refine ⟨_, st', rfl, ?_⟩
      rw [wp_tTrue, if_pos rfl]
      (try simp (disch := omega) only [WZ, WR, wp_if, wp_expr, wp_optD, wipeD, List.reduceReplicate, Nat.reduceSub, Int.reduceToNat, Int.reducePow, true_and, and_true, List.getElem?_cons_succ, List.getElem?_cons_zero, List.set_cons_succ, List.set_cons_zero, List.length_map, Int.toNat_natCast, Int.zero_add, List.map_cons, List.map_nil, List.cons_append, List.nil_append, decide_eq_true_eq, Bool.not_eq_true', decide_eq_false_iff_not, Bool.true_eq_false, Bool.false_eq_true, if_true, if_false, Bool.not_true, Bool.not_false, tMt_S, Function.comp_apply])
      refine wp_splitN (by decide +kernel) (by omega) fun st2 k2 s2 l2 m2 g2 => ?_
      rw [h1] at g2
      refine ⟨sub.trans s2, qs ++ [(k2, r)], by rw [List.map_append]; rfl, ?_, fun q hq => ?_⟩
      · rw [List.map_append, hqs, List.take_add_one, hL]
        rfl
      · rcases List.mem_append.mp hq with z | z
        · exact s2 _ _ (hob q z)
        · simp only [List.mem_singleton] at z
          subst z
          exact g2
  · obtain ⟨sub, qs, rfl, hqs, hob⟩ := h
    rw [List.length_map, List.take_length] at hqs
    refine ⟨s1.trans (sub.trans .app), _, qs, rfl, ?_, ⟨get_new, fun q hq => Sub.app _ _ (hob q hq)⟩, hqs⟩
    have := s1.len
    have := sub.len
    omega
theorem take_succ' {A : Type} {L : List A} {i : Nat} {a : A} (h : L[i]? = some a) : L.take (i + 1) = L.take i ++ [a] := by
  rw [List.take_add_one, h]
  rfl
/-- numbers read of words -/
theorem lcn_num {st : Sto} {g : List (Nat × DO)} {ns : List Nat} {own : Nat} {ss : Sl} {QD : PQ DV} (hi : own < ss.length) (hn : ∀ n ∈ ns, n < 10 ^ 9) (hg : ∀ st', Sub st st' → okG g st') (he : New st (ns.map nI) QD) :
    Wp (lcL g [own] (gNm own) tTrue (eCall s_number_of [eVar own]) ((ns.map nS).map DV.str) ss st) (tLn QD) NX := by
  rw [List.map_map]
  refine lcn_mapG (f := DV.str ∘ nS) (L := ns) nI id (fun n st' hm s => ?_) hg (by rw [List.map_id]; exact he)
  refine ⟨_, rfl, ?_⟩
  (try simp (disch := omega) only [WZ, WR, wp_if, wp_expr, wp_optD, wipeD, List.reduceReplicate, Nat.reduceSub, Int.reduceToNat, Int.reducePow, true_and, and_true, List.getElem?_cons_succ, List.getElem?_cons_zero, List.set_cons_succ, List.set_cons_zero, List.length_map, Int.toNat_natCast, Int.zero_add, List.map_cons, List.map_nil, List.cons_append, List.nil_append, decide_eq_true_eq, Bool.not_eq_true', decide_eq_false_iff_not, Bool.true_eq_false, Bool.false_eq_true, if_true, if_false, Bool.not_true, Bool.not_false])
  rw [List.getElem?_set_self (by simpa using hi)]
  (try simp (disch := omega) only [WZ, WR, wp_if, wp_expr, wp_optD, wipeD, List.reduceReplicate, Nat.reduceSub, Int.reduceToNat, Int.reducePow, true_and, and_true, List.getElem?_cons_succ, List.getElem?_cons_zero, List.set_cons_succ, List.set_cons_zero, List.length_map, Int.toNat_natCast, Int.zero_add, List.map_cons, List.map_nil, List.cons_append, List.nil_append, decide_eq_true_eq, Bool.not_eq_true', decide_eq_false_iff_not, Bool.true_eq_false, Bool.false_eq_true, if_true, if_false, Bool.not_true, Bool.not_false])
  refine (number_spec (hn n hm)).mono ?_
  rintro _ _ ⟨rfl, rfl⟩
  exact ⟨rfl, .refl⟩
theorem cutD_drop {xs : List DV} {j : Nat} (h1 : j ≤ xs.length) : ML.cutD xs (some (j : Int)) none = xs.drop j := by
  unfold ML.cutD
  have e : HT.sIx xs.length 0 (some (j : Int)) = j := by
    unfold HT.sIx
    simp only
    split <;> omega
  have e2 : HT.sIx xs.length xs.length none = xs.length := rfl
  rw [e, e2, List.take_of_length_le (by simp)]
/-- a row of a word and numbers -/
theorem numsafter_spec {k : Nat} {w : Str} {ns : List Nat} {st : Sto} (h : st[k]? = some (.lst ((w :: ns.map nS).map DV.str))) (hn : ∀ n ∈ ns, n < 10 ^ 9) (hl : ns.length ≤ 100000) :
    Wp (s_numbers_after [.ref k, .str w, .int ns.length] st) (fun v st' => Sub st st' ∧ ∃ k', v = .ref k' ∧ st.length ≤ k' ∧ st'[k']? = some (.lst (ns.map nI))) NX := by
  unfold s_numbers_after
  simp (disch := omega) only [WZ, WR, wp_expr, wp_optD, wipeD, List.reduceReplicate, Nat.reduceSub, Int.reduceToNat, Int.reducePow, true_and, and_true, List.getElem?_cons_succ, List.getElem?_cons_zero, List.set_cons_succ, List.set_cons_zero, List.length_map, Int.toNat_natCast, Int.zero_add, List.map_cons, List.map_nil, List.cons_append, List.nil_append, decide_eq_true_eq, Bool.not_eq_true', decide_eq_false_iff_not, Bool.true_eq_false, Bool.false_eq_true, if_true, if_false, Bool.not_true, Bool.not_false]
  refine Wp.mono (Q := fun fl st' => st = st' ∧ fl = .nx [some (.ref k), some (.str w), some (.int ns.length), none]) ?_ ?_
  · (try simp +decide (disch := omega) only [↓reduceIte, List.length_cons, List.length_nil, Nat.zero_add, Nat.reduceAdd, Int.cast_ofNat_Int, Int.reduceSub, Int.reduceAdd, Int.reduceMul, WZ, WR, wp_if, wp_expr, wp_optD, wipeD, List.reduceReplicate, Nat.reduceSub, Int.reduceToNat, Int.reducePow, true_and, and_true, List.getElem?_cons_succ, List.getElem?_cons_zero, List.set_cons_succ, List.set_cons_zero, List.length_map, Int.toNat_natCast, Int.zero_add, List.map_cons, List.map_nil, List.cons_append, List.nil_append, decide_eq_true_eq, Bool.not_eq_true', decide_eq_false_iff_not, Bool.true_eq_false, Bool.false_eq_true, if_true, if_false, Bool.not_true, Bool.not_false, wp_ixR h, at0, wp_lenR h, List.map_cons, List.length_map])
    split
    · omega
    · trivial
  rintro _ _ ⟨rfl, rfl⟩
  (try simp (disch := omega) only [WZ, WR, wp_if, wp_expr, wp_optD, wipeD, List.reduceReplicate, Nat.reduceSub, Int.reduceToNat, Int.reducePow, true_and, and_true, List.getElem?_cons_succ, List.getElem?_cons_zero, List.set_cons_succ, List.set_cons_zero, List.length_map, Int.toNat_natCast, Int.zero_add, List.map_cons, List.map_nil, List.cons_append, List.nil_append, decide_eq_true_eq, Bool.not_eq_true', decide_eq_false_iff_not, Bool.true_eq_false, Bool.false_eq_true, if_true, if_false, Bool.not_true, Bool.not_false, wp_slR h])
  have g1 : (st ++ [.lst ((ns.map nS).map DV.str)])[st.length]? = some (.lst ((ns.map nS).map DV.str)) := get_new
  generalize hst : st ++ [DO.lst ((ns.map nS).map DV.str)] = st1 at *
  have s1 : Sub st st1 := by rw [← hst]; exact .app
  (try simp (disch := omega) only [WZ, WR, wp_if, wp_expr, wp_optD, wipeD, List.reduceReplicate, Nat.reduceSub, Int.reduceToNat, Int.reducePow, true_and, and_true, List.getElem?_cons_succ, List.getElem?_cons_zero, List.set_cons_succ, List.set_cons_zero, List.length_map, Int.toNat_natCast, Int.zero_add, List.map_cons, List.map_nil, List.cons_append, List.nil_append, decide_eq_true_eq, Bool.not_eq_true', decide_eq_false_iff_not, Bool.true_eq_false, Bool.false_eq_true, if_true, if_false, Bool.not_true, Bool.not_false, tIy_R g1])
  rw [tLc_D (by simp; omega)]
  refine lcn_num (own := 3) ?_ hn (fun st' s => okG_one (s _ _ g1)) fun st2 k2 s2 l2 m2 g2 => ?_
  · exact Nat.lt_succ_self 3
  (try simp (disch := omega) only [WZ, WR, wp_if, wp_expr, wp_optD, wipeD, List.reduceReplicate, Nat.reduceSub, Int.reduceToNat, Int.reducePow, true_and, and_true, List.getElem?_cons_succ, List.getElem?_cons_zero, List.set_cons_succ, List.set_cons_zero, List.length_map, Int.toNat_natCast, Int.zero_add, List.map_cons, List.map_nil, List.cons_append, List.nil_append, decide_eq_true_eq, Bool.not_eq_true', decide_eq_false_iff_not, Bool.true_eq_false, Bool.false_eq_true, if_true, if_false, Bool.not_true, Bool.not_false])
  exact ⟨s1.trans s2, k2, rfl, by have := s1.len; omega, g2⟩
theorem wp_tupR {k : Nat} {xs : List DV} {st : Sto} {Q : PQ DV} {E : XQ} (h : st[k]? = some (.lst xs)) : Wp (tupleM [.ref k] st) Q E = Q (.tup xs) st := by
  show Wp (match st[k]? with
    | some (.lst xs) => _
    | _ => _) Q E = _
  rw [h]
  rfl
/-! steps -/
structure Stp where
  w : Bool
  a : Nat
  b : Nat
  ls : List Nat
def Stp.wd (s : Stp) : Str := if s.w then "row" else "stands"
def Stp.words (s : Stp) : List Str := s.wd :: nS s.a :: nS s.b :: ":" :: s.ls.map nS
def Stp.dv (s : Stp) : DV := .tup [.str s.wd, nI s.a, nI s.b, .tup (s.ls.map nI)]
structure Stp.Ok (s : Stp) : Prop where
  a : s.a < 10 ^ 9
  b : s.b < 10 ^ 9
  l : ∀ n ∈ s.ls, n < 10 ^ 9
  n : s.ls.length ≤ 7
theorem wp_ninSR {s : Stp} {st : Sto} {Q : PQ DV} {E : XQ} : Wp (ninX (.str s.wd) (.tup [.str "stands", .str "row"]) st) Q E = Q (.bl false) st := by
  have e : ninX (.str s.wd) (.tup [.str "stands", .str "row"]) st = .ok (.bl (!inF (.str s.wd) [.str "stands", .str "row"])) st := rfl
  have e2 : inF (.str s.wd) [.str "stands", .str "row"] = true := by
    unfold Stp.wd
    cases s.w <;> decide +kernel
  rw [e, e2]
  rfl
theorem names_at {names : List Str} {f : Nat} {w : Str} (h : names[f]? = some w) : atI (names.map DV.str) (f : Int) = some (.str w) := by
  refine atN (by omega) ?_
  rw [List.getElem?_map, Int.toNat_natCast, h]
  rfl
theorem inorder_spec {k ko n : Nat} {names : List Str} {qs : List (Nat × List Str)} {tg : Nat → Nat} {st : Sto}
    (h : RowsS st k qs) (hn : st[ko]? = some (.lst (names.map DV.str))) (hN : names.length = n) (hd : names.Nodup) (hl : names.length ≤ 100)
    (ht : ∀ i q, qs[i]? = some q → ∃ w r, q.2 = w :: r ∧ names[tg i]? = some w)
    (hm : ∀ i j, i ≤ j → j < qs.length → tg i ≤ tg j) :
    Wp (s_in_order [.ref k, .ref ko, .int n] st) (fun v st' => st = st') NX := by
  subst hN
  unfold s_in_order
  simp (disch := omega) only [WZ, WR, wp_expr, wp_optD, wipeD, List.reduceReplicate, Nat.reduceSub, Int.reduceToNat, Int.reducePow, true_and, and_true, List.getElem?_cons_succ, List.getElem?_cons_zero, List.set_cons_succ, List.set_cons_zero, List.length_map, Int.toNat_natCast, Int.zero_add, List.map_cons, List.map_nil, List.cons_append, List.nil_append, decide_eq_true_eq, Bool.not_eq_true', decide_eq_false_iff_not, Bool.true_eq_false, Bool.false_eq_true, if_true, if_false, Bool.not_true, Bool.not_false, tIy_R h.at_]
  refine for_rule (fun i ss st' => st' = st ∧ ∃ f o, ss = [some (.ref k), some (.ref ko), some (.int names.length), some (.int (f : Nat)), o] ∧ ∀ j, i ≤ j → j < qs.length → f ≤ tg j) ⟨rfl, 0, none, rfl, fun _ _ _ => Nat.zero_le _⟩ (fun i ss st' _ z => okG_one (z.1 ▸ h.at_)) ?_ ?_
  · rintro i x ss st' hx ⟨rfl, f, o, rfl, hf⟩
    rw [List.getElem?_map] at hx
    cases hq : qs[i]? with
    | none => rw [hq] at hx; cases hx
    | some q =>
      rw [hq] at hx
      cases hx
      have hi := (List.getElem?_eq_some_iff.mp hq).1
      obtain ⟨w, r, e, hw⟩ := ht i q hq
      have hob := h.ob q (List.mem_of_getElem? hq)
      rw [e] at hob
      have hb : st'[q.1]? = some (.lst (.str w :: r.map DV.str)) := hob
      have htl := (List.getElem?_eq_some_iff.mp hw).1
      refine ⟨_, _, rfl, ?_⟩
      unfold s_in_order_L2
      simp (disch := omega) only [WZ, WR, wp_expr, wp_optD, wipeD, List.reduceReplicate, Nat.reduceSub, Int.reduceToNat, Int.reducePow, true_and, and_true, List.getElem?_cons_succ, List.getElem?_cons_zero, List.set_cons_succ, List.set_cons_zero, List.length_map, Int.toNat_natCast, Int.zero_add, List.map_cons, List.map_nil, List.cons_append, List.nil_append, decide_eq_true_eq, Bool.not_eq_true', decide_eq_false_iff_not, Bool.true_eq_false, Bool.false_eq_true, if_true, if_false, Bool.not_true, Bool.not_false]
      refine wh_rule (fun m ss st => st = st' ∧ ∃ f : Nat, ss = [some (.ref k), some (.ref ko), some (.int names.length), some (.int (f : Int)), some (.ref q.1)] ∧ f ≤ tg i ∧ m = tg i - f) (n := tg i - f) ?_ ⟨rfl, f, rfl, hf i (Nat.le_refl _) hi, rfl⟩ ?_
      · exact Nat.lt_of_le_of_lt (Nat.le_trans (Nat.sub_le _ _) (Nat.le_trans (Nat.le_of_lt htl) hl)) (by decide)
      · rintro m ss st2 ⟨rfl, f, rfl, hfi, rfl⟩
        obtain ⟨u, hu⟩ : ∃ u, names[f]? = some u := ⟨_, List.getElem?_eq_getElem (by omega)⟩
        have hlt : (f : Int) < names.length := by omega
        simp (disch := omega) only [WZ, WR, wp_expr, wp_optD, wipeD, List.reduceReplicate, Nat.reduceSub, Int.reduceToNat, Int.reducePow, true_and, and_true, List.getElem?_cons_succ, List.getElem?_cons_zero, List.set_cons_succ, List.set_cons_zero, List.length_map, Int.toNat_natCast, Int.zero_add, List.map_cons, List.map_nil, List.cons_append, List.nil_append, decide_eq_true_eq, Bool.not_eq_true', decide_eq_false_iff_not, Bool.true_eq_false, Bool.false_eq_true, if_true, if_false, Bool.not_true, Bool.not_false, wp_ixR hb, at0, wp_ixR hn, names_at hu]
        by_cases hfe : f = tg i
        · subst hfe
          rw [hu] at hw
          cases hw
          rw [if_pos hlt, if_neg (by simp)]
          (try simp (disch := omega) only [WZ, WR, wp_if, wp_expr, wp_optD, wipeD, List.reduceReplicate, Nat.reduceSub, Int.reduceToNat, Int.reducePow, true_and, and_true, List.getElem?_cons_succ, List.getElem?_cons_zero, List.set_cons_succ, List.set_cons_zero, List.length_map, Int.toNat_natCast, Int.zero_add, List.map_cons, List.map_nil, List.cons_append, List.nil_append, decide_eq_true_eq, Bool.not_eq_true', decide_eq_false_iff_not, Bool.true_eq_false, Bool.false_eq_true, if_true, if_false, Bool.not_true, Bool.not_false])
          rw [if_neg (by omega)]
          exact ⟨_, _, rfl, fun j h1 h2 => hm i j (by omega) h2⟩
        · have hne : w ≠ u := fun e => hfe ((List.getElem?_inj (by omega) hd).mp (by rw [hu, hw, e]))
          rw [if_pos hlt, if_pos (by simpa using hne)]
          unfold s_in_order_L1
          (try simp (disch := omega) only [WZ, WR, wp_if, wp_expr, wp_optD, wipeD, List.reduceReplicate, Nat.reduceSub, Int.reduceToNat, Int.reducePow, true_and, and_true, List.getElem?_cons_succ, List.getElem?_cons_zero, List.set_cons_succ, List.set_cons_zero, List.length_map, Int.toNat_natCast, Int.zero_add, List.map_cons, List.map_nil, List.cons_append, List.nil_append, decide_eq_true_eq, Bool.not_eq_true', decide_eq_false_iff_not, Bool.true_eq_false, Bool.false_eq_true, if_true, if_false, Bool.not_true, Bool.not_false])
          exact ⟨tg i - (f + 1), by omega, f + 1, rfl, by omega, rfl⟩
  · rintro ss st' ⟨rfl, f, o, rfl, hf⟩
    (try simp (disch := omega) only [WZ, WR, wp_if, wp_expr, wp_optD, wipeD, List.reduceReplicate, Nat.reduceSub, Int.reduceToNat, Int.reducePow, true_and, and_true, List.getElem?_cons_succ, List.getElem?_cons_zero, List.set_cons_succ, List.set_cons_zero, List.length_map, Int.toNat_natCast, Int.zero_add, List.map_cons, List.map_nil, List.cons_append, List.nil_append, decide_eq_true_eq, Bool.not_eq_true', decide_eq_false_iff_not, Bool.true_eq_false, Bool.false_eq_true, if_true, if_false, Bool.not_true, Bool.not_false])
    all_goals rfl

def hdIs (nm : Str) (r : List Str) : Bool := r.head? == some nm
theorem hdIs_cons {nm w : Str} {r : List Str} : hdIs nm (w :: r) = decide (w = nm) := by
  unfold hdIs
  rw [Bool.eq_iff_iff]
  simp
theorem filt_spec {B : Type} {k own : Nat} {nm : Str} {qs : List (Nat × List Str)} {g : List (Nat × DO)} {ss : Sl} {st : Sto} {QD : PQ DV} {e : Ex} {L : List B} (W : B → List Str) (G : B → DV)
    (h : RowsS st k qs) (hi : own < ss.length) (hw : ∀ q ∈ qs, q.2 ≠ []) (hL : (qs.map (·.2)).filter (hdIs nm) = L.map W)
    (he : ∀ b ∈ L, ∀ (q : Nat × List Str) st', q.2 = W b → Sub st st' → st'[q.1]? = some (.lst ((W b).map DV.str)) → ∀ ss', ss'.length = ss.length → ss'[own]? = some (some (.ref q.1)) → Wp (e ss' st') (fun y st2 => y = G b ∧ Sub st' st2) NX)
    (hg : ∀ st', Sub st st' → okG g st') (hq : New st (L.map G) QD) :
    Wp (lcL g [own] (gNm own) (tVal (eOp eqM (eOp ixM (eVar own) (eC (.int 0))) (eC (.str nm)))) e (qs.map rowS) ss st) (tLn QD) NX := by
  refine lc_rule (fun i ys st' => Sub st st' ∧ ∃ n, ys = (L.take n).map G ∧ ((qs.take i).map (·.2)).filter (hdIs nm) = (L.take n).map W ∧ n ≤ L.length) ⟨.refl, 0, by simp, by simp, Nat.zero_le _⟩ (fun i ys st' _ z => hg _ z.1) (fun i x ys st' hx z => ?_) fun ys st' z => ?_
  · obtain ⟨sub, n, rfl, hf, hn⟩ := z
    rw [List.getElem?_map] at hx
    cases hc : qs[i]? with
    | none => rw [hc] at hx; cases hx
    | some q =>
      rw [hc] at hx
      cases hx
      have hm := List.mem_of_getElem? hc
      have hob := sub _ _ (h.ob q hm)
      cases e2 : q.2 with
      | nil => exact absurd e2 (hw q hm)
      | cons w r =>
        have hb : st'[q.1]? = some (.lst (.str w :: r.map DV.str)) := by rw [e2] at hob; exact hob
        have hs : (qs.take (i + 1)).map (·.2) = (qs.take i).map (·.2) ++ [w :: r] := by
          rw [List.take_add_one, hc, List.map_append]
          show _ ++ [q.2] = _
          rw [e2]
        refine ⟨_, st', rfl, ?_⟩
        have hv : ((wipeD ss [own]).set own (some (rowS q)))[own]? = some (some (.ref q.1)) := by
          rw [List.getElem?_set_self]
          · rfl
          · simpa [wipeD] using hi
        have hv' : ((ss.set own none).set own (some (rowS q)))[own]? = some (some (.ref q.1)) := hv
        (try simp (disch := omega) only [WZ, WR, wp_if, wp_expr, wp_optD, wipeD, List.reduceReplicate, Nat.reduceSub, Int.reduceToNat, Int.reducePow, true_and, and_true, List.getElem?_cons_succ, List.getElem?_cons_zero, List.set_cons_succ, List.set_cons_zero, List.length_map, Int.toNat_natCast, Int.zero_add, List.map_cons, List.map_nil, List.cons_append, List.nil_append, decide_eq_true_eq, Bool.not_eq_true', decide_eq_false_iff_not, Bool.true_eq_false, Bool.false_eq_true, if_true, if_false, Bool.not_true, Bool.not_false])
        rw [hv']
        (try simp (disch := omega) only [WZ, WR, wp_if, wp_expr, wp_optD, wipeD, List.reduceReplicate, Nat.reduceSub, Int.reduceToNat, Int.reducePow, true_and, and_true, List.getElem?_cons_succ, List.getElem?_cons_zero, List.set_cons_succ, List.set_cons_zero, List.length_map, Int.toNat_natCast, Int.zero_add, List.map_cons, List.map_nil, List.cons_append, List.nil_append, decide_eq_true_eq, Bool.not_eq_true', decide_eq_false_iff_not, Bool.true_eq_false, Bool.false_eq_true, if_true, if_false, Bool.not_true, Bool.not_false, wp_ixR hb, at0])
        by_cases hwn : w = nm
        · rw [if_pos hwn]
          have hp : L.map W = (L.take n).map W ++ ([w :: r] ++ ((qs.drop (i + 1)).map (·.2)).filter (hdIs nm)) := by
            rw [← hL, ← hf]
            have : qs = qs.take (i + 1) ++ qs.drop (i + 1) := (List.take_append_drop ..).symm
            conv => lhs; rw [this]
            rw [List.map_append, List.filter_append, hs, List.filter_append, List.append_assoc]
            congr 2
            simp [hdIs_cons, hwn]
          have hlen : ((L.take n).map W).length = n := by simp; omega
          have hat : (L.map W)[n]? = some (w :: r) := by
            rw [hp, List.getElem?_append_right (by omega), hlen, Nat.sub_self]
            rfl
          rw [List.getElem?_map] at hat
          cases hB : L[n]? with
          | none => rw [hB] at hat; cases hat
          | some b =>
            rw [hB] at hat
            have hWb : W b = w :: r := Option.some.inj hat
            refine (he b (List.mem_of_getElem? hB) q st' (by rw [e2, hWb]) sub (by rw [hWb]; exact hb) _ (by simp) hv').mono ?_
            rintro y st2 ⟨rfl, s2⟩
            refine ⟨sub.trans s2, n + 1, ?_, ?_, (List.getElem?_eq_some_iff.mp hB).1⟩
            · rw [take_succ' hB, List.map_append]; rfl
            · rw [hs, List.filter_append, hf, take_succ' hB, List.map_append]
              simp [hdIs_cons, hwn, hWb]
        · rw [if_neg hwn]
          refine ⟨sub, n, rfl, ?_, hn⟩
          rw [hs, List.filter_append, hf]
          simp [hdIs_cons, hwn]
  · obtain ⟨sub, n, rfl, hf, hn⟩ := z
    rw [List.length_map, List.take_length, hL] at hf
    have : n = L.length := by
      have := congrArg List.length hf
      simp at this
      omega
    subst this
    rw [List.take_length]
    exact hq.at sub
/-! papers -/
structure Pap where
  kept : List (Nat × Nat)
  st : List Stp
  nx : List Stp
  nw : List Stp
def kW (q : Nat × Nat) : List Str := ["kept", nS q.1, nS q.2]
def kD (q : Nat × Nat) : DV := .tup [nI q.1, nI q.2]
def Stp.row (nm : Str) (s : Stp) : List Str := nm :: s.words
def Pap.rows (p : Pap) : List (List Str) := p.kept.map kW ++ (p.st.map (Stp.row "start") ++ (p.nx.map (Stp.row "next") ++ p.nw.map (Stp.row "now")))
structure Pap.Ok (p : Pap) : Prop where
  k : ∀ q ∈ p.kept, q.1 < 10 ^ 9 ∧ q.2 < 10 ^ 9
  s : ∀ s ∈ p.st, s.Ok
  x : ∀ s ∈ p.nx, s.Ok
  w : ∀ s ∈ p.nw, s.Ok
  n : p.kept.length ≤ 7 ∧ p.st.length ≤ 7 ∧ p.nx.length ≤ 7 ∧ p.nw.length ≤ 7
theorem filter_none {A : Type} {f : A → Bool} {L : List A} (h : ∀ a ∈ L, f a = false) : L.filter f = [] := List.filter_eq_nil_iff.mpr fun a ha => by simp [h a ha]
theorem filter_all {A : Type} {f : A → Bool} {L : List A} (h : ∀ a ∈ L, f a = true) : L.filter f = L := List.filter_eq_self.mpr h
theorem hd_k {nm : Str} (L : List (Nat × Nat)) : (L.map kW).filter (hdIs nm) = if "kept" = nm then L.map kW else [] := by
  split
  · next h => exact filter_all fun a ha => by obtain ⟨q, _, rfl⟩ := List.mem_map.mp ha; unfold kW; rw [hdIs_cons, decide_eq_true h]
  · next h => exact filter_none fun a ha => by obtain ⟨q, _, rfl⟩ := List.mem_map.mp ha; unfold kW; rw [hdIs_cons, decide_eq_false h]
theorem hd_s {nm u : Str} (L : List Stp) : (L.map (Stp.row u)).filter (hdIs nm) = if u = nm then L.map (Stp.row u) else [] := by
  split
  · next h => exact filter_all fun a ha => by obtain ⟨q, _, rfl⟩ := List.mem_map.mp ha; unfold Stp.row; rw [hdIs_cons, decide_eq_true h]
  · next h => exact filter_none fun a ha => by obtain ⟨q, _, rfl⟩ := List.mem_map.mp ha; unfold Stp.row; rw [hdIs_cons, decide_eq_false h]
theorem Pap.f0 (p : Pap) : p.rows.filter (hdIs "kept") = p.kept.map kW := by
  unfold Pap.rows
  rw [List.filter_append, List.filter_append, List.filter_append, hd_k, hd_s, hd_s, hd_s, if_pos rfl, if_neg (by decide), if_neg (by decide), if_neg (by decide)]
  simp
theorem Pap.f1 (p : Pap) : p.rows.filter (hdIs "start") = p.st.map (Stp.row "start") := by
  unfold Pap.rows
  rw [List.filter_append, List.filter_append, List.filter_append, hd_k, hd_s, hd_s, hd_s, if_neg (by decide), if_pos rfl, if_neg (by decide), if_neg (by decide)]
  simp
theorem Pap.f2 (p : Pap) : p.rows.filter (hdIs "next") = p.nx.map (Stp.row "next") := by
  unfold Pap.rows
  rw [List.filter_append, List.filter_append, List.filter_append, hd_k, hd_s, hd_s, hd_s, if_neg (by decide), if_neg (by decide), if_pos rfl, if_neg (by decide)]
  simp
theorem Pap.f3 (p : Pap) : p.rows.filter (hdIs "now") = p.nw.map (Stp.row "now") := by
  unfold Pap.rows
  rw [List.filter_append, List.filter_append, List.filter_append, hd_k, hd_s, hd_s, hd_s, if_neg (by decide), if_neg (by decide), if_neg (by decide), if_pos rfl]
  simp

/-! words -/
structure Wrd (w : Str) : Prop where
  a : 32 ∉ TL.tl w
  b : 10 ∉ TL.tl w
  c : w ≠ ""
  d : w.length ≤ 9
  e : PyData.strOk w = true
theorem nS_wrd {n : Nat} (h : n < 10 ^ 9) : Wrd (nS n) := by
  refine ⟨(nS_ok n).1, (nS_ok n).2, nS_ne n, nS_len (by decide) h, ?_⟩
  unfold PyData.strOk
  rw [← Array.all_toList]
  refine List.all_eq_true.mpr fun c hc => decide_eq_true ?_
  have hc : c ∈ TL.tl (nS n) := hc
  rw [tl_nS] at hc
  have := TL.numL_digits n c hc
  omega
theorem wrd_kept : Wrd "kept" := ⟨by decide +kernel, by decide +kernel, by decide +kernel, by decide +kernel, by decide +kernel⟩
theorem wrd_start : Wrd "start" := ⟨by decide +kernel, by decide +kernel, by decide +kernel, by decide +kernel, by decide +kernel⟩
theorem wrd_next : Wrd "next" := ⟨by decide +kernel, by decide +kernel, by decide +kernel, by decide +kernel, by decide +kernel⟩
theorem wrd_now : Wrd "now" := ⟨by decide +kernel, by decide +kernel, by decide +kernel, by decide +kernel, by decide +kernel⟩
theorem wrd_row : Wrd "row" := ⟨by decide +kernel, by decide +kernel, by decide +kernel, by decide +kernel, by decide +kernel⟩
theorem wrd_stands : Wrd "stands" := ⟨by decide +kernel, by decide +kernel, by decide +kernel, by decide +kernel, by decide +kernel⟩
theorem wrd_colon : Wrd ":" := ⟨by decide +kernel, by decide +kernel, by decide +kernel, by decide +kernel, by decide +kernel⟩
theorem joinL_len {S : List Nat} {m : Nat} : ∀ {ps : List (List Nat)}, (∀ p ∈ ps, p.length ≤ m) → (TL.joinL S ps).length ≤ ps.length * (m + S.length)
  | [], _ => by simp [TL.joinL]
  | [p], h => by
    have := h p (by simp)
    show p.length ≤ 1 * _
    omega
  | p :: q :: r, h => by
    have h1 := h p (by simp)
    have h2 := joinL_len (S := S) (ps := q :: r) fun x hx => h x (List.mem_cons_of_mem _ hx)
    show (p ++ (S ++ TL.joinL S (q :: r))).length ≤ _
    rw [List.length_append, List.length_append, List.length_cons, Nat.succ_mul]
    omega
theorem rowT_len {r : List Str} {m : Nat} (h : ∀ w ∈ r, w.length ≤ m) : (rowT r).length ≤ r.length * (m + 1) := by
  rw [TL.len_tl, tl_rowT]
  refine Nat.le_trans (joinL_len (m := m) fun p hp => ?_) (by simp)
  obtain ⟨w, hw, rfl⟩ := List.mem_map.mp hp
  have := h w hw
  rwa [TL.len_tl] at this
theorem textT_len {rows : List (List Str)} {m : Nat} (h : ∀ r ∈ rows, (rowT r).length ≤ m) : (textT rows).length ≤ rows.length * (m + 1) := by
  unfold textT
  rw [TL.len_tl, TL.join_eq, TL.tl_join, tl_nl]
  refine Nat.le_trans (joinL_len (m := m) fun p hp => ?_) (by simp)
  simp only [List.map_map, List.mem_map, Function.comp_apply] at hp
  obtain ⟨r, hr, rfl⟩ := hp
  have := h r hr
  rwa [TL.len_tl] at this
/-- what can be read as rows -/
structure RowsOk (rows : List (List Str)) : Prop where
  a : ∀ r ∈ rows, r ≠ [] ∧ r.length ≤ 20000 ∧ ∀ w ∈ r, Wrd w
theorem rowsof_text {rows : List (List Str)} {st : Sto} (hok : RowsOk rows) (hl : rows.length ≤ 1000) (ht : (textT rows).length ≤ 1000000) :
    Wp (s_rows_of [.str (textT rows)] st) (fun v st' => Sub st st' ∧ ∃ k qs, v = .ref k ∧ st.length ≤ k ∧ RowsS st' k qs ∧ qs.map (·.2) = if rows = [] then [[("" : Str)]] else rows) NX := by
  refine rowsof_spec ht ?_ ?_ ?_
  · split
    · decide
    · omega
  · split
    · next h => subst h; decide +kernel
    · next h => exact split_text h fun r hr w hw => ⟨((hok.a r hr).2.2 w hw).a, ((hok.a r hr).2.2 w hw).b⟩
  · split
    · intro r hr
      rw [List.mem_singleton] at hr
      subst hr
      decide +kernel
    · intro r hr
      obtain ⟨h1, h2, h3⟩ := hok.a r hr
      refine ⟨split_row h1 fun w hw => ⟨(h3 w hw).a, (h3 w hw).b⟩, Nat.le_trans (rowT_len (m := 9) fun w hw => (h3 w hw).d) (by omega)⟩
/-! a paper's rows -/
theorem Stp.len (s : Stp) : s.words.length = 4 + s.ls.length := by simp [Stp.words]; omega
theorem Stp.Ok.wrd {s : Stp} (h : s.Ok) : ∀ w ∈ s.words, Wrd w := by
  intro w hw
  unfold Stp.words Stp.wd at hw
  simp only [List.mem_cons] at hw
  rcases hw with rfl | rfl | rfl | rfl | hw
  · split
    · exact wrd_row
    · exact wrd_stands
  · exact nS_wrd h.a
  · exact nS_wrd h.b
  · exact wrd_colon
  · obtain ⟨n, hn, rfl⟩ := List.mem_map.mp hw
    exact nS_wrd (h.l n hn)
theorem Stp.Ok.row {s : Stp} {u : Str} (h : s.Ok) (hu : Wrd u) : Stp.row u s ≠ [] ∧ (Stp.row u s).length ≤ 12 ∧ ∀ w ∈ Stp.row u s, Wrd w := by
  refine ⟨by simp [Stp.row], ?_, fun w hw => ?_⟩
  · show s.words.length + 1 ≤ 12
    have := h.n
    rw [s.len]
    omega
  · rcases List.mem_cons.mp hw with rfl | hw
    · exact hu
    · exact h.wrd w hw
theorem kW_ok {q : Nat × Nat} (h : q.1 < 10 ^ 9 ∧ q.2 < 10 ^ 9) : kW q ≠ [] ∧ (kW q).length ≤ 12 ∧ ∀ w ∈ kW q, Wrd w := by
  refine ⟨by simp [kW], by simp [kW], fun w hw => ?_⟩
  simp only [kW, List.mem_cons, List.not_mem_nil, or_false] at hw
  rcases hw with rfl | rfl | rfl
  · exact wrd_kept
  · exact nS_wrd h.1
  · exact nS_wrd h.2
theorem Pap.Ok.rows {p : Pap} (h : p.Ok) : ∀ r ∈ p.rows, r ≠ [] ∧ r.length ≤ 12 ∧ ∀ w ∈ r, Wrd w := by
  intro r hr
  unfold Pap.rows at hr
  rcases List.mem_append.mp hr with hr | hr
  · obtain ⟨q, hq, rfl⟩ := List.mem_map.mp hr
    exact kW_ok (h.k q hq)
  rcases List.mem_append.mp hr with hr | hr
  · obtain ⟨q, hq, rfl⟩ := List.mem_map.mp hr
    exact (h.s q hq).row wrd_start
  rcases List.mem_append.mp hr with hr | hr
  · obtain ⟨q, hq, rfl⟩ := List.mem_map.mp hr
    exact (h.x q hq).row wrd_next
  · obtain ⟨q, hq, rfl⟩ := List.mem_map.mp hr
    exact (h.w q hq).row wrd_now
theorem Pap.Ok.rowsOk {p : Pap} (h : p.Ok) : RowsOk p.rows := ⟨fun r hr => ⟨(h.rows r hr).1, by have := (h.rows r hr).2.1; omega, (h.rows r hr).2.2⟩⟩
theorem Pap.Ok.len {p : Pap} (h : p.Ok) : p.rows.length ≤ 28 := by
  have := h.n
  unfold Pap.rows
  simp only [List.length_append, List.length_map]
  omega
theorem Pap.Ok.text {p : Pap} (h : p.Ok) : (textT p.rows).length ≤ 4000 := by
  have a := h.len
  have b := textT_len (rows := p.rows) (m := 120) fun r hr => by
    have := rowT_len (r := r) (m := 9) fun w hw => ((h.rows r hr).2.2 w hw).d
    have := (h.rows r hr).2.1
    omega
  omega
/-! a text is read -/
def nW (w : Str) : PyData := .str w
def rW (r : List Str) : PyData := .list (r.map nW)
theorem rd_rows {st : Sto} {k : Nat} {qs : List (Nat × List Str)} (h : RowsS st k qs) : Rd st (.ref k) (.list ((qs.map (·.2)).map rW)) := by
  refine .ref h.at_ ?_
  have : ∀ q ∈ qs, Rd st (rowS q) (rW q.2) := fun q hq => .ref (h.ob q hq) (rdAll_map (fun w => .str w) _)
  clear h
  induction qs with
  | nil => exact .nil
  | cons q r ih => exact .cons (this q List.mem_cons_self) (ih fun q hq => this q (List.mem_cons_of_mem _ hq))
theorem sh_rW {r : List Str} (h : ∀ w ∈ r, PyData.strOk w = true) : Sh 1 (rW r) := .list fun d hd => by
  obtain ⟨w, hw, rfl⟩ := List.mem_map.mp hd
  exact ⟨by unfold nW PyData.canLay0; exact h w hw, Nat.zero_le _⟩
theorem sh_rows {rows : List (List Str)} (h : ∀ r ∈ rows, ∀ w ∈ r, PyData.strOk w = true) : Sh 2 (.list (rows.map rW)) := .list fun d hd => by
  obtain ⟨r, hr, rfl⟩ := List.mem_map.mp hd
  exact sh_rW (h r hr)
theorem eqv_rows {rows : List (List Str)} (h : ∀ r ∈ rows, ∀ w ∈ r, w ≠ "") (hne : ∀ r ∈ rows, r ≠ []) (h0 : rows ≠ []) : PyData.eqv (.list (rows.map rW)) (.list [.list [.str ""]]) = false := by
  cases rows with
  | nil => exact absurd rfl h0
  | cons r rs =>
    cases r with
    | nil => exact absurd rfl (hne [] List.mem_cons_self)
    | cons w ws =>
      have := h (w :: ws) List.mem_cons_self w List.mem_cons_self
      simp [rW, nW, PyData.eqv, PyData.eqvAll, this]

theorem wp_addT {a b : List DV} {st : Sto} {Q : PQ DV} {E : XQ} (h : a.length + b.length ≤ 16777216) : Wp (addM (.tup a) (.tup b) st) Q E = Q (.tup (a ++ b)) st := by
  show Wp (if a.length + b.length ≤ sizeLine then (Out.ok (.tup (a ++ b)) st) else .bad) Q E = _
  rw [if_pos (by rw [sl_eq]; exact h)]
  rfl
theorem wp_inW {l : Nat} {s : Str} {ys : List DV} {st : Sto} {Q : PQ DV} {E : XQ} (h : st[l]? = some (.lst ys)) (hf : ys.all flatD = true) : Wp (inX (.str s) (.ref l) st) Q E = Q (.bl (inF (.str s) ys)) st := by
  unfold inX
  simp only [h]
  unfold inM inB
  simp only [h, hf]
  rfl
theorem wp_addS {a b : Str} {st : Sto} {Q : PQ DV} {E : XQ} (h : a.length + b.length ≤ 16777216) : Wp (addM (.str a) (.str b) st) Q E = Q (.str (a ++ b)) st := by
  show Wp (if a.length + b.length ≤ sizeLine then (Out.ok (.str (a ++ b)) st) else .bad) Q E = _
  rw [if_pos (by rw [sl_eq]; exact h)]
  rfl
theorem wp_inL {l : Nat} {x : DV} {ys : List DV} {st : Sto} {Q : PQ DV} {E : XQ} (h : st[l]? = some (.lst ys)) (hx : flatD x = true) (hf : ys.all flatD = true) : Wp (inX x (.ref l) st) Q E = Q (.bl (inF x ys)) st := by
  unfold inX
  simp only [h]
  unfold inM inB
  simp only [h, hf, hx]
  rfl
theorem wp_ix2b {k : Nat} {a b : DV} {c : Prop} [Decidable c] {st : Sto} {Q : PQ DV} {E : XQ} (h : st[k]? = some (.lst [a, b])) : Wp (ixM (.ref k) (.int (if c then 1 else 0)) st) Q E = Q (if c then b else a) st := by
  split
  · rw [wp_ixR h, at1]
    rfl
  · rw [wp_ixR h, at0]
    rfl
def tZp (QW : PQ Wk) : PQ (List DV) := fun ds st => match ds with
  | [d, d'] => match seqOf d st, seqOf d' st with
    | some (xs, g), some (ys, g') => QW ⟨xs.zipWith (fun x y => .tup [x, y]) ys, g ++ g'⟩ st
    | _, _ => False
  | _ => False
theorem wp_zpA {ms : List Ex} {ss : Sl} {st : Sto} {QW : PQ Wk} {E : XQ} : Wp (iZp ms ss st) QW E = Wp (eArgs ms ss st) (tZp QW) E := by
  unfold iZp
  rw [wp_bnd]
  congr 1
  funext ds st
  rcases ds with _ | ⟨d, _ | ⟨d', _ | ⟨d2, r⟩⟩⟩
  · rfl
  · rfl
  · show Wp (match seqOf d st, seqOf d' st with
      | some (xs, g), some (ys, g') => _
      | _, _ => _) QW E = _
    unfold tZp
    simp only
    cases seqOf d st with
    | none => rfl
    | some p =>
      obtain ⟨a, b⟩ := p
      cases seqOf d' st with
      | none => rfl
      | some q => rfl
  · rfl
theorem tZp_R {k k' : Nat} {xs ys : List DV} {st : Sto} {QW : PQ Wk} (h : st[k]? = some (.lst xs)) (h' : st[k']? = some (.lst ys)) : tZp QW [.ref k, .ref k'] st = QW ⟨xs.zipWith (fun x y => .tup [x, y]) ys, [(k, .lst xs), (k', .lst ys)]⟩ st := by
  have e : seqOf (.ref k) st = some (xs, [(k, .lst xs)]) := by
    unfold seqOf
    simp only [h]
  have e' : seqOf (.ref k') st = some (ys, [(k', .lst ys)]) := by
    unfold seqOf
    simp only [h']
  unfold tZp
  simp only [e, e']
  rfl
theorem zpI_get {A B : List Int} {i : Nat} {x : DV} (h : ((A.map DV.int).zipWith (fun x y => DV.tup [x, y]) (B.map DV.int))[i]? = some x) : ∃ a b, A[i]? = some a ∧ B[i]? = some b ∧ x = .tup [.int a, .int b] := by
  obtain ⟨a, b, h1, h2, h3⟩ := List.getElem?_zipWith_eq_some.mp h
  rw [List.getElem?_map] at h1 h2
  cases ha : A[i]? with
  | none => rw [ha] at h1; cases h1
  | some x =>
    cases hb : B[i]? with
    | none => rw [hb] at h2; cases h2
    | some y =>
      rw [ha] at h1
      rw [hb] at h2
      cases h1; cases h2
      exact ⟨x, y, rfl, rfl, h3.symm⟩
theorem okG_two {k k' : Nat} {o o' : DO} {st : Sto} (h : st[k]? = some o) (h' : st[k']? = some o') : okG [(k, o), (k', o')] st := fun p hp => by
  simp only [List.mem_cons, List.not_mem_nil, or_false] at hp
  rcases hp with rfl | rfl
  · exact h
  · exact h'
theorem wp_mulR {k : Nat} {n : Int} {xs : List DV} {st : Sto} {Q : PQ DV} {E : XQ} (h : st[k]? = some (.lst xs)) (h0 : 0 ≤ n) (h1 : n ≤ 100000) (h2 : xs.length ≤ 100) (hq : New st (List.replicate n.toNat xs).flatten Q) : Wp (mulM (.ref k) (.int n) st) Q E := by
  show Wp (match st[k]? with
    | some (.lst a) => if -(2 ^ 63) ≤ n ∧ n < 2 ^ 63 ∧ a.length * n.toNat ≤ sizeLine then alloc (.lst (List.replicate n.toNat a).flatten) st else .bad
    | _ => .bad) Q E
  rw [h]
  have h3 : xs.length * n.toNat ≤ 100 * 100000 := Nat.mul_le_mul h2 (by omega)
  simp only
  rw [if_pos ⟨by omega, by omega, by rw [sl_eq]; omega⟩]
  exact wp_allocN hq

/-! rows of words -/
theorem strsD_map : ∀ ys : List Str, strsD (ys.map DV.str) = some ys
  | [] => rfl
  | y :: ys => by
    show (strsD (ys.map DV.str)).map (y :: ·) = _
    rw [strsD_map ys]
    rfl
theorem wp_joinR {k : Nat} {a : Str} {ys : List Str} {st : Sto} {Q : PQ DV} {E : XQ} (h : st[k]? = some (.lst (ys.map DV.str))) (hl : (ys.map (·.length)).sum + ys.length * a.length ≤ 16777216) : Wp (joinM (.str a) [.ref k] st) Q E = Q (.str (Txt.join a ys)) st := by
  have e1 : seqM (.ref k) st = some (ys.map DV.str) := by
    unfold seqM
    simp only [h]
  show Wp (match (seqM (.ref k) st).bind strsD with
    | some ys => if (ys.map (·.length)).sum + ys.length * a.length ≤ 16777216 then .ok (.str (Txt.join a ys)) st else .bad
    | none => .bad) Q E = _
  rw [e1, Option.bind_some, strsD_map]
  simp only [if_pos hl]
  rfl

/-! texts with values in them -/
section
variable {ss : Sl} {st : Sto} {QD : PQ DV} {E : XQ}
def tJs (ms : List Ex) (acc : Str) (ss : Sl) (Q : PQ Str) (E : XQ) : PQ DV := fun d st => match d with
  | .str y => (acc ++ y).length ≤ sizeLine ∧ Wp (jsG ms (acc ++ y) ss st) Q E
  | _ => False
def tJe (Q : PQ DV) : PQ Str := fun s st => Q (.str s) st
theorem wp_js {ms : List Ex} : Wp (eJs ms ss st) QD E = Wp (jsG ms Str.empty ss st) (tJe QD) E := by
  show Wp (bnd _ _ st) QD E = _
  rw [wp_bnd]
  rfl
theorem tJe_app {s : Str} : tJe QD s st = QD (.str s) st := rfl
theorem wp_js0 {acc : Str} {Q : PQ Str} : Wp (jsG [] acc ss st) Q E = Q acc st := rfl
theorem wp_jsC {m : Ex} {ms : List Ex} {acc : Str} {Q : PQ Str} : Wp (jsG (m :: ms) acc ss st) Q E = Wp (m ss st) (tJs ms acc ss Q E) E := by
  show Wp (bnd _ _ st) Q E = _
  rw [wp_bnd]
  congr 1
  funext d st
  cases d <;> try rfl
  rw [tB_app]
  unfold tJs
  show Wp (if (acc ++ _).length ≤ sizeLine then _ else Out.bad) Q E = _
  split
  · next h => exact propext ⟨fun z => ⟨h, z⟩, fun z => z.2⟩
  · next h => exact propext ⟨False.elim, fun z => h z.1⟩
theorem tJs_S {ms : List Ex} {acc y : Str} {Q : PQ Str} (h : (acc ++ y).length ≤ 16777216) : tJs ms acc ss Q E (.str y) st = Wp (jsG ms (acc ++ y) ss st) Q E := by
  unfold tJs
  simp only
  rw [and_iff_right (sl_of h)]
theorem wp_fmt {m : Ex} : Wp (eFmt m ss st) QD E = Wp (m ss st) (tB fmtM QD E) E := by
  show Wp (bnd _ _ st) QD E = _
  rw [wp_bnd]
theorem log_ok {n : Nat} (h : n < 10 ^ 18) : (n : Int).natAbs.log2 < 1920 := by
  rw [Int.natAbs_natCast]
  by_cases hz : n = 0
  · subst hz; decide
  · rw [Nat.log2_lt hz]
    exact Nat.lt_of_lt_of_le h (by decide +kernel)
theorem wp_fmtN {n : Nat} (h : n < 10 ^ 18) : Wp (fmtM (.int n) st) QD E = QD (.str (nS n)) st := by
  show Wp (if (n : Int).natAbs.log2 < 1920 then Out.ok (.str (toString (n : Int))) st else .bad) QD E = _
  rw [if_pos (log_ok h)]
  rfl
theorem wp_strN {n : Nat} (h : n < 10 ^ 18) : Wp (strM [.int n] st) QD E = QD (.str (nS n)) st := by
  show Wp (if (n : Int).natAbs.log2 < 1920 then Out.ok (.str (toString (n : Int))) st else .bad) QD E = _
  rw [if_pos (log_ok h)]
  rfl
end
theorem lt18 {n : Nat} (h : n < 10 ^ 9) : n < 10 ^ 18 := Nat.lt_trans h (by decide)
/-- a list or a tuple -/
inductive Sq (st : Sto) : DV → List DV → Prop
  | r {k : Nat} {xs : List DV} : st[k]? = some (.lst xs) → Sq st (.ref k) xs
  | t {xs : List DV} : Sq st (.tup xs) xs
theorem Sq.mono {st st' : Sto} {v : DV} {xs : List DV} (h : Sq st v xs) (s : Sub st st') : Sq st' v xs := by
  cases h with
  | r h => exact .r (s _ _ h)
  | t => exact .t
theorem Sq.iy {st : Sto} {v : DV} {xs : List DV} (h : Sq st v xs) : ∃ g, (∀ st', Sub st st' → okG g st') ∧ ∀ QW : PQ Wk, tIy QW v st = QW ⟨xs, g⟩ st := by
  cases h with
  | r h => exact ⟨_, fun st' s => okG_one (s _ _ h), fun QW => tIy_R h⟩
  | t => exact ⟨[], fun st' _ => okG_nil, fun QW => rfl⟩
/-! rows' texts -/
theorem kept_text (q : Nat × Nat) : (((Str.empty ++ "kept ") ++ nS q.1) ++ " ") ++ nS q.2 = rowT (kW q) := by
  unfold kW
  rw [row_cons (by simp), row_two]
  refine TL.ext_tl ?_
  simp only [TL.tl_append]
  have e1 : TL.tl ("kept " : Str) = TL.tl ("kept" : Str) ++ TL.tl (" " : Str) := by decide +kernel
  have e2 : TL.tl Str.empty = [] := rfl
  rw [e1, e2]
  simp
theorem kept_text2 (q : Nat × Nat) : ((("kept " : Str) ++ nS q.1) ++ " ") ++ nS q.2 = rowT (kW q) := by
  rw [← kept_text]
  refine TL.ext_tl ?_
  simp only [TL.tl_append]
  rfl
theorem first_text {u v : Str} (h : TL.tl v = TL.tl u ++ [32]) (s : Stp) : v ++ rowT s.words = rowT (Stp.row u s) := by
  unfold Stp.row
  rw [row_cons (by simp [Stp.words])]
  refine TL.ext_tl ?_
  simp only [TL.tl_append, h, tl_sp]
theorem words_len {r : List Str} (h : ∀ w ∈ r, Wrd w) : (r.map (·.length)).sum ≤ r.length * 9 := by
  induction r with
  | nil => simp
  | cons w r ih =>
    have h1 := (h w List.mem_cons_self).d
    have h2 := ih fun x hx => h x (List.mem_cons_of_mem _ hx)
    rw [List.map_cons, List.sum_cons, List.length_cons, Nat.succ_mul]
    omega
theorem rows_len {r : List (List Str)} (h : ∀ w ∈ r, w.length ≤ 12 ∧ ∀ x ∈ w, Wrd x) : ((r.map rowT).map (·.length)).sum ≤ r.length * 120 := by
  induction r with
  | nil => simp
  | cons w r ih =>
    have h1 := rowT_len (r := w) (m := 9) fun x hx => ((h w List.mem_cons_self).2 x hx).d
    have h3 := (h w List.mem_cons_self).1
    have h2 := ih fun x hx => h x (List.mem_cons_of_mem _ hx)
    rw [List.map_cons, List.map_cons, List.sum_cons, List.length_cons, Nat.succ_mul]
    omega

/-! a work, formed -/
theorem whole_T {n : Nat} {st : Sto} : Wp (s_is_whole [nI n] st) (fun v st' => st = st' ∧ v = .bl true) NX := by
  unfold s_is_whole nI
  (try simp (disch := omega) only [WZ, WR, wp_if, wp_expr, wp_optD, wipeD, List.reduceReplicate, Nat.reduceSub, Int.reduceToNat, Int.reducePow, true_and, and_true, List.getElem?_cons_succ, List.getElem?_cons_zero, List.set_cons_succ, List.set_cons_zero, List.length_map, Int.toNat_natCast, Int.zero_add, List.map_cons, List.map_nil, List.cons_append, List.nil_append, decide_eq_true_eq, Bool.not_eq_true', decide_eq_false_iff_not, Bool.true_eq_false, Bool.false_eq_true, if_true, if_false, Bool.not_true, Bool.not_false])
  all_goals first | rfl | exact ⟨rfl, rfl⟩ | trivial
theorem isend_T {e n : Nat} {st : Sto} (h : e < 2 * n) : Wp (s_is_end [nI e, .int n] st) (fun v st' => st = st' ∧ v = .bl true) NX := by
  unfold s_is_end
  (try simp (disch := omega) only [WZ, WR, wp_if, wp_expr, wp_optD, wipeD, List.reduceReplicate, Nat.reduceSub, Int.reduceToNat, Int.reducePow, true_and, and_true, List.getElem?_cons_succ, List.getElem?_cons_zero, List.set_cons_succ, List.set_cons_zero, List.length_map, Int.toNat_natCast, Int.zero_add, List.map_cons, List.map_nil, List.cons_append, List.nil_append, decide_eq_true_eq, Bool.not_eq_true', decide_eq_false_iff_not, Bool.true_eq_false, Bool.false_eq_true, if_true, if_false, Bool.not_true, Bool.not_false])
  refine whole_T.mono ?_
  rintro _ _ ⟨rfl, rfl⟩
  (try simp (disch := omega) only [WZ, WR, wp_if, wp_expr, wp_optD, wipeD, List.reduceReplicate, Nat.reduceSub, Int.reduceToNat, Int.reducePow, true_and, and_true, List.getElem?_cons_succ, List.getElem?_cons_zero, List.set_cons_succ, List.set_cons_zero, List.length_map, Int.toNat_natCast, Int.zero_add, List.map_cons, List.map_nil, List.cons_append, List.nil_append, decide_eq_true_eq, Bool.not_eq_true', decide_eq_false_iff_not, Bool.true_eq_false, Bool.false_eq_true, if_true, if_false, Bool.not_true, Bool.not_false, nI])
  rw [if_pos (by omega), decide_eq_true (by omega)]
theorem ispair_T {q : Nat × Nat} {st : Sto} : Wp (s_is_pair [kD q] st) (fun v st' => st = st' ∧ v = .bl true) NX := by
  unfold s_is_pair kD
  (try simp (disch := omega) only [WZ, WR, wp_if, wp_expr, wp_optD, wipeD, List.reduceReplicate, Nat.reduceSub, Int.reduceToNat, Int.reducePow, true_and, and_true, List.getElem?_cons_succ, List.getElem?_cons_zero, List.set_cons_succ, List.set_cons_zero, List.length_map, Int.toNat_natCast, Int.zero_add, List.map_cons, List.map_nil, List.cons_append, List.nil_append, decide_eq_true_eq, Bool.not_eq_true', decide_eq_false_iff_not, Bool.true_eq_false, Bool.false_eq_true, if_true, if_false, Bool.not_true, Bool.not_false])
  all_goals first | rfl | exact ⟨rfl, rfl⟩ | trivial
theorem areboxes_T {k n : Nat} {bx : List (Nat × Nat)} {st : Sto} (h : st[k]? = some (.lst (bx.map kD))) (hb : ∀ q ∈ bx, q.1 ≤ 1 ∧ q.2 < 2 * n) : Wp (s_are_boxes [.ref k, .int n] st) (fun v st' => st = st' ∧ v = .bl true) NX := by
  unfold s_are_boxes
  (try simp (disch := omega) only [WZ, WR, wp_if, wp_expr, wp_optD, wipeD, List.reduceReplicate, Nat.reduceSub, Int.reduceToNat, Int.reducePow, true_and, and_true, List.getElem?_cons_succ, List.getElem?_cons_zero, List.set_cons_succ, List.set_cons_zero, List.length_map, Int.toNat_natCast, Int.zero_add, List.map_cons, List.map_nil, List.cons_append, List.nil_append, decide_eq_true_eq, Bool.not_eq_true', decide_eq_false_iff_not, Bool.true_eq_false, Bool.false_eq_true, if_true, if_false, Bool.not_true, Bool.not_false, tIy_R h])
  refine for_rule (fun i ss st' => st' = st ∧ ∃ o, ss = [some (.ref k), some (.int n), o]) ⟨rfl, none, rfl⟩ (fun _ _ _ _ z => okG_one (z.1 ▸ h)) ?_ ?_
  · rintro i x ss st' hx ⟨rfl, o, rfl⟩
    rw [List.getElem?_map] at hx
    cases hc : bx[i]? with
    | none => rw [hc] at hx; cases hx
    | some q =>
      rw [hc] at hx
      cases hx
      obtain ⟨b1, b2⟩ := hb q (List.mem_of_getElem? hc)
      refine ⟨_, _, rfl, ?_⟩
      unfold s_are_boxes_L1
      (try simp (disch := omega) only [WZ, WR, wp_if, wp_expr, wp_optD, wipeD, List.reduceReplicate, Nat.reduceSub, Int.reduceToNat, Int.reducePow, true_and, and_true, List.getElem?_cons_succ, List.getElem?_cons_zero, List.set_cons_succ, List.set_cons_zero, List.length_map, Int.toNat_natCast, Int.zero_add, List.map_cons, List.map_nil, List.cons_append, List.nil_append, decide_eq_true_eq, Bool.not_eq_true', decide_eq_false_iff_not, Bool.true_eq_false, Bool.false_eq_true, if_true, if_false, Bool.not_true, Bool.not_false])
      refine ispair_T.mono ?_
      rintro _ _ ⟨rfl, rfl⟩
      have e0 : kD q = .tup [nI q.1, nI q.2] := rfl
      (try simp (disch := omega) only [WZ, WR, wp_if, wp_expr, wp_optD, wipeD, List.reduceReplicate, Nat.reduceSub, Int.reduceToNat, Int.reducePow, true_and, and_true, List.getElem?_cons_succ, List.getElem?_cons_zero, List.set_cons_succ, List.set_cons_zero, List.length_map, Int.toNat_natCast, Int.zero_add, List.map_cons, List.map_nil, List.cons_append, List.nil_append, decide_eq_true_eq, Bool.not_eq_true', decide_eq_false_iff_not, Bool.true_eq_false, Bool.false_eq_true, if_true, if_false, Bool.not_true, Bool.not_false, e0])
      refine whole_T.mono ?_
      rintro _ _ ⟨rfl, rfl⟩
      (try simp (disch := omega) only [WZ, WR, wp_if, wp_expr, wp_optD, wipeD, List.reduceReplicate, Nat.reduceSub, Int.reduceToNat, Int.reducePow, true_and, and_true, List.getElem?_cons_succ, List.getElem?_cons_zero, List.set_cons_succ, List.set_cons_zero, List.length_map, Int.toNat_natCast, Int.zero_add, List.map_cons, List.map_nil, List.cons_append, List.nil_append, decide_eq_true_eq, Bool.not_eq_true', decide_eq_false_iff_not, Bool.true_eq_false, Bool.false_eq_true, if_true, if_false, Bool.not_true, Bool.not_false, nI])
      rw [if_pos (by omega), if_neg (by omega)]
      refine (isend_T b2).mono ?_
      rintro _ _ ⟨rfl, rfl⟩
      (try simp (disch := omega) only [WZ, WR, wp_if, wp_expr, wp_optD, wipeD, List.reduceReplicate, Nat.reduceSub, Int.reduceToNat, Int.reducePow, true_and, and_true, List.getElem?_cons_succ, List.getElem?_cons_zero, List.set_cons_succ, List.set_cons_zero, List.length_map, Int.toNat_natCast, Int.zero_add, List.map_cons, List.map_nil, List.cons_append, List.nil_append, decide_eq_true_eq, Bool.not_eq_true', decide_eq_false_iff_not, Bool.true_eq_false, Bool.false_eq_true, if_true, if_false, Bool.not_true, Bool.not_false])
      exact ⟨_, rfl⟩
  · rintro ss st' ⟨rfl, o, rfl⟩
    (try simp (disch := omega) only [WZ, WR, wp_if, wp_expr, wp_optD, wipeD, List.reduceReplicate, Nat.reduceSub, Int.reduceToNat, Int.reducePow, true_and, and_true, List.getElem?_cons_succ, List.getElem?_cons_zero, List.set_cons_succ, List.set_cons_zero, List.length_map, Int.toNat_natCast, Int.zero_add, List.map_cons, List.map_nil, List.cons_append, List.nil_append, decide_eq_true_eq, Bool.not_eq_true', decide_eq_false_iff_not, Bool.true_eq_false, Bool.false_eq_true, if_true, if_false, Bool.not_true, Bool.not_false])
    all_goals rfl

theorem wp_en {m : Ex} {ss : Sl} {st : Sto} {QW : PQ Wk} {E : XQ} {k : Nat} {xs : List DV} (hm : ∀ Q : PQ (List DV), Wp (eArgs [m] ss st) Q E = Q [.ref k] st) (h : st[k]? = some (.lst xs)) (hq : QW ⟨(List.range xs.length).zipWith (fun i x => .tup [.int (i : Nat), x]) xs, [(k, .lst xs)]⟩ st) : Wp (iEnX [m] ss st) QW E := by
  unfold iEnX
  rw [wp_bnd, hm]
  have e : seqX (.ref k) st = some (xs, [(k, .lst xs)]) := by
    unfold seqX seqOf
    simp only [h]
  show Wp (match seqX (.ref k) st with
    | some (xs, g) => _
    | none => _) QW E
  rw [e]
  exact hq
theorem en_get {gs : List DV} {i : Nat} {x : DV} (h : ((List.range gs.length).zipWith (fun (i : Nat) x => DV.tup [.int (i : Nat), x]) gs)[i]? = some x) : ∃ y, gs[i]? = some y ∧ x = .tup [.int (i : Nat), y] := by
  obtain ⟨a, b, h1, h2, h3⟩ := List.getElem?_zipWith_eq_some.mp h
  have := (List.getElem?_eq_some_iff.mp h2).1
  rw [List.getElem?_range this] at h1
  cases h1
  exact ⟨b, h2, h3.symm⟩

theorem aregates_T {k n : Nat} {gt : List (Nat × Nat)} {st : Sto} (h : st[k]? = some (.lst (gt.map kD))) (hb : ∀ (i : Nat) q, gt[i]? = some q → q.1 < 2 * (n + i) ∧ q.2 < 2 * (n + i)) : Wp (s_are_gates [.ref k, .int n] st) (fun v st' => st = st' ∧ v = .bl true) NX := by
  unfold s_are_gates
  (try simp (disch := omega) only [WZ, WR, wp_if, wp_expr, wp_optD, wipeD, List.reduceReplicate, Nat.reduceSub, Int.reduceToNat, Int.reducePow, true_and, and_true, List.getElem?_cons_succ, List.getElem?_cons_zero, List.set_cons_succ, List.set_cons_zero, List.length_map, Int.toNat_natCast, Int.zero_add, List.map_cons, List.map_nil, List.cons_append, List.nil_append, decide_eq_true_eq, Bool.not_eq_true', decide_eq_false_iff_not, Bool.true_eq_false, Bool.false_eq_true, if_true, if_false, Bool.not_true, Bool.not_false])
  refine wp_en (k := k) (fun Q => by (try simp (disch := omega) only [WZ, WR, wp_if, wp_expr, wp_optD, wipeD, List.reduceReplicate, Nat.reduceSub, Int.reduceToNat, Int.reducePow, true_and, and_true, List.getElem?_cons_succ, List.getElem?_cons_zero, List.set_cons_succ, List.set_cons_zero, List.length_map, Int.toNat_natCast, Int.zero_add, List.map_cons, List.map_nil, List.cons_append, List.nil_append, decide_eq_true_eq, Bool.not_eq_true', decide_eq_false_iff_not, Bool.true_eq_false, Bool.false_eq_true, if_true, if_false, Bool.not_true, Bool.not_false])) h ?_
  (try simp (disch := omega) only [WZ, WR, wp_if, wp_expr, wp_optD, wipeD, List.reduceReplicate, Nat.reduceSub, Int.reduceToNat, Int.reducePow, true_and, and_true, List.getElem?_cons_succ, List.getElem?_cons_zero, List.set_cons_succ, List.set_cons_zero, List.length_map, Int.toNat_natCast, Int.zero_add, List.map_cons, List.map_nil, List.cons_append, List.nil_append, decide_eq_true_eq, Bool.not_eq_true', decide_eq_false_iff_not, Bool.true_eq_false, Bool.false_eq_true, if_true, if_false, Bool.not_true, Bool.not_false])
  refine for_rule (fun i ss st' => st' = st ∧ ∃ o o', ss = [some (.ref k), some (.int n), o, o']) ⟨rfl, none, none, rfl⟩ (fun _ _ _ _ z => okG_one (z.1 ▸ h)) ?_ ?_
  · rintro i x ss st' hx ⟨rfl, o, o', rfl⟩
    obtain ⟨y, hy, rfl⟩ := en_get (gs := gt.map kD) (by rw [List.length_map]; exact hx)
    rw [List.getElem?_map] at hy
    cases hc : gt[i]? with
    | none => rw [hc] at hy; cases hy
    | some q =>
      rw [hc] at hy
      cases hy
      obtain ⟨b1, b2⟩ := hb i q hc
      refine ⟨_, _, rfl, ?_⟩
      unfold s_are_gates_L1
      (try simp (disch := omega) only [WZ, WR, wp_if, wp_expr, wp_optD, wipeD, List.reduceReplicate, Nat.reduceSub, Int.reduceToNat, Int.reducePow, true_and, and_true, List.getElem?_cons_succ, List.getElem?_cons_zero, List.set_cons_succ, List.set_cons_zero, List.length_map, Int.toNat_natCast, Int.zero_add, List.map_cons, List.map_nil, List.cons_append, List.nil_append, decide_eq_true_eq, Bool.not_eq_true', decide_eq_false_iff_not, Bool.true_eq_false, Bool.false_eq_true, if_true, if_false, Bool.not_true, Bool.not_false, setAll])
      refine ispair_T.mono ?_
      rintro _ _ ⟨rfl, rfl⟩
      have e0 : kD q = .tup [nI q.1, nI q.2] := rfl
      have e1 : (n : Int) + (i : Int) = ((n + i : Nat) : Int) := by omega
      (try simp (disch := omega) only [WZ, WR, wp_if, wp_expr, wp_optD, wipeD, List.reduceReplicate, Nat.reduceSub, Int.reduceToNat, Int.reducePow, true_and, and_true, List.getElem?_cons_succ, List.getElem?_cons_zero, List.set_cons_succ, List.set_cons_zero, List.length_map, Int.toNat_natCast, Int.zero_add, List.map_cons, List.map_nil, List.cons_append, List.nil_append, decide_eq_true_eq, Bool.not_eq_true', decide_eq_false_iff_not, Bool.true_eq_false, Bool.false_eq_true, if_true, if_false, Bool.not_true, Bool.not_false, e0, e1])
      refine (isend_T b1).mono ?_
      rintro _ _ ⟨rfl, rfl⟩
      (try simp (disch := omega) only [WZ, WR, wp_if, wp_expr, wp_optD, wipeD, List.reduceReplicate, Nat.reduceSub, Int.reduceToNat, Int.reducePow, true_and, and_true, List.getElem?_cons_succ, List.getElem?_cons_zero, List.set_cons_succ, List.set_cons_zero, List.length_map, Int.toNat_natCast, Int.zero_add, List.map_cons, List.map_nil, List.cons_append, List.nil_append, decide_eq_true_eq, Bool.not_eq_true', decide_eq_false_iff_not, Bool.true_eq_false, Bool.false_eq_true, if_true, if_false, Bool.not_true, Bool.not_false, e1])
      refine (isend_T b2).mono ?_
      rintro _ _ ⟨rfl, rfl⟩
      (try simp (disch := omega) only [WZ, WR, wp_if, wp_expr, wp_optD, wipeD, List.reduceReplicate, Nat.reduceSub, Int.reduceToNat, Int.reducePow, true_and, and_true, List.getElem?_cons_succ, List.getElem?_cons_zero, List.set_cons_succ, List.set_cons_zero, List.length_map, Int.toNat_natCast, Int.zero_add, List.map_cons, List.map_nil, List.cons_append, List.nil_append, decide_eq_true_eq, Bool.not_eq_true', decide_eq_false_iff_not, Bool.true_eq_false, Bool.false_eq_true, if_true, if_false, Bool.not_true, Bool.not_false])
      exact ⟨_, _, rfl⟩
  · rintro ss st' ⟨rfl, o, o', rfl⟩
    (try simp (disch := omega) only [WZ, WR, wp_if, wp_expr, wp_optD, wipeD, List.reduceReplicate, Nat.reduceSub, Int.reduceToNat, Int.reducePow, true_and, and_true, List.getElem?_cons_succ, List.getElem?_cons_zero, List.set_cons_succ, List.set_cons_zero, List.length_map, Int.toNat_natCast, Int.zero_add, List.map_cons, List.map_nil, List.cons_append, List.nil_append, decide_eq_true_eq, Bool.not_eq_true', decide_eq_false_iff_not, Bool.true_eq_false, Bool.false_eq_true, if_true, if_false, Bool.not_true, Bool.not_false])
    all_goals rfl
/-- a work in numbers -/
structure Wk5 where
  w : Nat
  bx : List (Nat × Nat)
  gt : List (Nat × Nat)
  ou : List Nat
def Wk5.dv (W : Wk5) (kb kg ko : Nat) : DV := .tup [nI W.w, .ref kb, .ref kg, .ref ko]
structure Wk5S (W : Wk5) (st : Sto) (kb kg ko : Nat) : Prop where
  b : st[kb]? = some (.lst (W.bx.map kD))
  g : st[kg]? = some (.lst (W.gt.map kD))
  o : st[ko]? = some (.lst (W.ou.map nI))
theorem Wk5S.mono {W : Wk5} {st st' : Sto} {kb kg ko : Nat} (h : Wk5S W st kb kg ko) (s : Sub st st') : Wk5S W st' kb kg ko := ⟨s _ _ h.b, s _ _ h.g, s _ _ h.o⟩
def Wk5.fg (W : Wk5) : Nat := 1 + W.w + W.bx.length
def Wk5.kn (W : Wk5) : Nat := W.fg + W.gt.length
structure Wk5.Ok (W : Wk5) : Prop where
  b : ∀ q ∈ W.bx, q.1 ≤ 1 ∧ q.2 < 2 * W.kn
  g : ∀ (i : Nat) q, W.gt[i]? = some q → q.1 < 2 * (W.fg + i) ∧ q.2 < 2 * (W.fg + i)
  o : ∀ e ∈ W.ou, e < 2 * W.kn
  lw : W.w ≤ 1000
  lb : W.bx.length ≤ 100
  lg : W.gt.length ≤ 100
  lo : W.ou.length ≤ 100
theorem first_T {W : Wk5} {st : Sto} {kb kg ko : Nat} (h : Wk5S W st kb kg ko) : Wp (s_first_gate [W.dv kb kg ko] st) (fun v st' => st = st' ∧ v = .int W.fg) NX := by
  unfold s_first_gate Wk5.dv nI
  (try simp (disch := omega) only [WZ, WR, wp_if, wp_expr, wp_optD, wipeD, List.reduceReplicate, Nat.reduceSub, Int.reduceToNat, Int.reducePow, true_and, and_true, List.getElem?_cons_succ, List.getElem?_cons_zero, List.set_cons_succ, List.set_cons_zero, List.length_map, Int.toNat_natCast, Int.zero_add, List.map_cons, List.map_nil, List.cons_append, List.nil_append, decide_eq_true_eq, Bool.not_eq_true', decide_eq_false_iff_not, Bool.true_eq_false, Bool.false_eq_true, if_true, if_false, Bool.not_true, Bool.not_false, wp_lenR h.b])
  unfold Wk5.fg
  simp
theorem knots_T {W : Wk5} {st : Sto} {kb kg ko : Nat} (h : Wk5S W st kb kg ko) : Wp (s_knots_of [W.dv kb kg ko] st) (fun v st' => st = st' ∧ v = .int W.kn) NX := by
  unfold s_knots_of
  simp (disch := omega) only [WZ, WR, wp_expr, wp_optD, wipeD, List.reduceReplicate, Nat.reduceSub, Int.reduceToNat, Int.reducePow, true_and, and_true, List.getElem?_cons_succ, List.getElem?_cons_zero, List.set_cons_succ, List.set_cons_zero, List.length_map, Int.toNat_natCast, Int.zero_add, List.map_cons, List.map_nil, List.cons_append, List.nil_append, decide_eq_true_eq, Bool.not_eq_true', decide_eq_false_iff_not, Bool.true_eq_false, Bool.false_eq_true, if_true, if_false, Bool.not_true, Bool.not_false]
  refine (first_T h).mono ?_
  rintro _ _ ⟨rfl, rfl⟩
  have e0 : W.dv kb kg ko = .tup [nI W.w, .ref kb, .ref kg, .ref ko] := rfl
  (try simp (disch := omega) only [WZ, WR, wp_if, wp_expr, wp_optD, wipeD, List.reduceReplicate, Nat.reduceSub, Int.reduceToNat, Int.reducePow, true_and, and_true, List.getElem?_cons_succ, List.getElem?_cons_zero, List.set_cons_succ, List.set_cons_zero, List.length_map, Int.toNat_natCast, Int.zero_add, List.map_cons, List.map_nil, List.cons_append, List.nil_append, decide_eq_true_eq, Bool.not_eq_true', decide_eq_false_iff_not, Bool.true_eq_false, Bool.false_eq_true, if_true, if_false, Bool.not_true, Bool.not_false, e0, wp_lenR h.g])
  unfold Wk5.kn
  simp
theorem tyD_R {k : Nat} {xs : List DV} {st : Sto} (h : st[k]? = some (.lst xs)) : tyD (.ref k) st = some "list" := by
  unfold tyD
  simp only [h]
theorem iswork_T {W : Wk5} {st : Sto} {kb kg ko : Nat} (h : Wk5S W st kb kg ko) (ok : W.Ok) : Wp (s_is_work [W.dv kb kg ko] st) (fun v st' => Sub st st' ∧ v = .bl true) NX := by
  unfold s_is_work
  have e0 : W.dv kb kg ko = .tup [nI W.w, .ref kb, .ref kg, .ref ko] := rfl
  rw [e0]
  (try simp (disch := omega) only [WZ, WR, wp_if, wp_expr, wp_optD, wipeD, List.reduceReplicate, Nat.reduceSub, Int.reduceToNat, Int.reducePow, true_and, and_true, List.getElem?_cons_succ, List.getElem?_cons_zero, List.set_cons_succ, List.set_cons_zero, List.length_map, Int.toNat_natCast, Int.zero_add, List.map_cons, List.map_nil, List.cons_append, List.nil_append, decide_eq_true_eq, Bool.not_eq_true', decide_eq_false_iff_not, Bool.true_eq_false, Bool.false_eq_true, if_true, if_false, Bool.not_true, Bool.not_false])
  rw [if_neg (by simp)]
  refine whole_T.mono ?_
  rintro _ _ ⟨rfl, rfl⟩
  (try simp (disch := omega) only [WZ, WR, wp_if, wp_expr, wp_optD, wipeD, List.reduceReplicate, Nat.reduceSub, Int.reduceToNat, Int.reducePow, true_and, and_true, List.getElem?_cons_succ, List.getElem?_cons_zero, List.set_cons_succ, List.set_cons_zero, List.length_map, Int.toNat_natCast, Int.zero_add, List.map_cons, List.map_nil, List.cons_append, List.nil_append, decide_eq_true_eq, Bool.not_eq_true', decide_eq_false_iff_not, Bool.true_eq_false, Bool.false_eq_true, if_true, if_false, Bool.not_true, Bool.not_false, nI])
  rw [if_neg (by omega)]
  (try simp (disch := omega) only [WZ, WR, wp_if, wp_expr, wp_optD, wipeD, List.reduceReplicate, Nat.reduceSub, Int.reduceToNat, Int.reducePow, true_and, and_true, List.getElem?_cons_succ, List.getElem?_cons_zero, List.set_cons_succ, List.set_cons_zero, List.length_map, Int.toNat_natCast, Int.zero_add, List.map_cons, List.map_nil, List.cons_append, List.nil_append, decide_eq_true_eq, Bool.not_eq_true', decide_eq_false_iff_not, Bool.true_eq_false, Bool.false_eq_true, if_true, if_false, Bool.not_true, Bool.not_false, tG2_T (xs := [.int (W.w : Int), .ref kb, .ref kg, .ref ko]) (is := [1, 2, 3, 4]) rfl, setAll, tyD_R h.b, tyD_R h.g, tyD_R h.o])
  have e1 : DV.tup [.int (W.w : Int), .ref kb, .ref kg, .ref ko] = W.dv kb kg ko := rfl
  rw [e1]
  refine (knots_T h).mono ?_
  rintro _ _ ⟨rfl, rfl⟩
  (try simp (disch := omega) only [WZ, WR, wp_if, wp_expr, wp_optD, wipeD, List.reduceReplicate, Nat.reduceSub, Int.reduceToNat, Int.reducePow, true_and, and_true, List.getElem?_cons_succ, List.getElem?_cons_zero, List.set_cons_succ, List.set_cons_zero, List.length_map, Int.toNat_natCast, Int.zero_add, List.map_cons, List.map_nil, List.cons_append, List.nil_append, decide_eq_true_eq, Bool.not_eq_true', decide_eq_false_iff_not, Bool.true_eq_false, Bool.false_eq_true, if_true, if_false, Bool.not_true, Bool.not_false])
  refine (areboxes_T h.b ok.b).mono ?_
  rintro _ _ ⟨rfl, rfl⟩
  (try simp (disch := omega) only [WZ, WR, wp_if, wp_expr, wp_optD, wipeD, List.reduceReplicate, Nat.reduceSub, Int.reduceToNat, Int.reducePow, true_and, and_true, List.getElem?_cons_succ, List.getElem?_cons_zero, List.set_cons_succ, List.set_cons_zero, List.length_map, Int.toNat_natCast, Int.zero_add, List.map_cons, List.map_nil, List.cons_append, List.nil_append, decide_eq_true_eq, Bool.not_eq_true', decide_eq_false_iff_not, Bool.true_eq_false, Bool.false_eq_true, if_true, if_false, Bool.not_true, Bool.not_false])
  refine (first_T h).mono ?_
  rintro _ _ ⟨rfl, rfl⟩
  (try simp (disch := omega) only [WZ, WR, wp_if, wp_expr, wp_optD, wipeD, List.reduceReplicate, Nat.reduceSub, Int.reduceToNat, Int.reducePow, true_and, and_true, List.getElem?_cons_succ, List.getElem?_cons_zero, List.set_cons_succ, List.set_cons_zero, List.length_map, Int.toNat_natCast, Int.zero_add, List.map_cons, List.map_nil, List.cons_append, List.nil_append, decide_eq_true_eq, Bool.not_eq_true', decide_eq_false_iff_not, Bool.true_eq_false, Bool.false_eq_true, if_true, if_false, Bool.not_true, Bool.not_false])
  refine (aregates_T h.g ok.g).mono ?_
  rintro _ _ ⟨rfl, rfl⟩
  have lo := ok.lo
  (try simp (disch := omega) only [WZ, WR, wp_if, wp_expr, wp_optD, wipeD, List.reduceReplicate, Nat.reduceSub, Int.reduceToNat, Int.reducePow, true_and, and_true, List.getElem?_cons_succ, List.getElem?_cons_zero, List.set_cons_succ, List.set_cons_zero, List.length_map, Int.toNat_natCast, Int.zero_add, List.map_cons, List.map_nil, List.cons_append, List.nil_append, decide_eq_true_eq, Bool.not_eq_true', decide_eq_false_iff_not, Bool.true_eq_false, Bool.false_eq_true, if_true, if_false, Bool.not_true, Bool.not_false, tIy_R h.o])
  refine lcn_mapG (f := nI) (L := W.ou) DV.bl (fun _ => true) (fun e st' hm s => ⟨_, rfl, ?_⟩) (fun st' s => okG_one (s _ _ h.o)) fun st2 k2 s2 l2 m2 g2 => ?_
  · (try simp (disch := omega) only [WZ, WR, wp_if, wp_expr, wp_optD, wipeD, List.reduceReplicate, Nat.reduceSub, Int.reduceToNat, Int.reducePow, true_and, and_true, List.getElem?_cons_succ, List.getElem?_cons_zero, List.set_cons_succ, List.set_cons_zero, List.length_map, Int.toNat_natCast, Int.zero_add, List.map_cons, List.map_nil, List.cons_append, List.nil_append, decide_eq_true_eq, Bool.not_eq_true', decide_eq_false_iff_not, Bool.true_eq_false, Bool.false_eq_true, if_true, if_false, Bool.not_true, Bool.not_false])
    refine (isend_T (ok.o e hm)).mono ?_
    rintro _ _ ⟨rfl, rfl⟩
    exact ⟨rfl, .refl⟩
  (try simp (disch := omega) only [WZ, WR, wp_if, wp_expr, wp_optD, wipeD, List.reduceReplicate, Nat.reduceSub, Int.reduceToNat, Int.reducePow, true_and, and_true, List.getElem?_cons_succ, List.getElem?_cons_zero, List.set_cons_succ, List.set_cons_zero, List.length_map, Int.toNat_natCast, Int.zero_add, List.map_cons, List.map_nil, List.cons_append, List.nil_append, decide_eq_true_eq, Bool.not_eq_true', decide_eq_false_iff_not, Bool.true_eq_false, Bool.false_eq_true, if_true, if_false, Bool.not_true, Bool.not_false, wp_allR g2])
  exact ⟨s2, by simp⟩
/-! its text -/
def pW (nm : Str) (q : Nat × Nat) : List Str := [nm, nS q.1, nS q.2]
def oW (e : Nat) : List Str := ["out", nS e]
def Wk5.body (W : Wk5) : List (List Str) := W.bx.map (pW "box") ++ (W.gt.map (pW "gate") ++ W.ou.map oW)
def Wk5.rows (W : Wk5) : List (List Str) := ["ins", nS W.w] :: W.body
theorem wrd_box : Wrd "box" := ⟨by decide +kernel, by decide +kernel, by decide +kernel, by decide +kernel, by decide +kernel⟩
theorem wrd_gate : Wrd "gate" := ⟨by decide +kernel, by decide +kernel, by decide +kernel, by decide +kernel, by decide +kernel⟩
theorem wrd_out : Wrd "out" := ⟨by decide +kernel, by decide +kernel, by decide +kernel, by decide +kernel, by decide +kernel⟩
theorem wrd_ins : Wrd "ins" := ⟨by decide +kernel, by decide +kernel, by decide +kernel, by decide +kernel, by decide +kernel⟩
theorem Wk5.Ok.kn {W : Wk5} (ok : W.Ok) : W.kn ≤ 2000 := by
  have := ok.lw
  have := ok.lb
  have := ok.lg
  unfold Wk5.kn Wk5.fg
  omega
theorem Wk5.Ok.sb {W : Wk5} (ok : W.Ok) : ∀ q ∈ W.bx, q.1 < 10 ^ 9 ∧ q.2 < 10 ^ 9 := fun q hq => by
  have := ok.b q hq
  have := ok.kn
  constructor <;> omega
theorem Wk5.Ok.sg {W : Wk5} (ok : W.Ok) : ∀ q ∈ W.gt, q.1 < 10 ^ 9 ∧ q.2 < 10 ^ 9 := fun q hq => by
  obtain ⟨i, hi, e⟩ := List.mem_iff_getElem.mp hq
  have := ok.g i q (by rw [List.getElem?_eq_getElem hi, e])
  have := ok.kn
  have : W.fg + W.gt.length = W.kn := rfl
  constructor <;> omega
theorem Wk5.Ok.so {W : Wk5} (ok : W.Ok) : ∀ e ∈ W.ou, e < 10 ^ 9 := fun q hq => by
  have := ok.o q hq
  have := ok.kn
  omega
theorem pW_ok {nm : Str} {q : Nat × Nat} (hn : Wrd nm) (h : q.1 < 10 ^ 9 ∧ q.2 < 10 ^ 9) : pW nm q ≠ [] ∧ (pW nm q).length ≤ 12 ∧ ∀ w ∈ pW nm q, Wrd w := by
  refine ⟨by simp [pW], by simp [pW], fun w hw => ?_⟩
  simp only [pW, List.mem_cons, List.not_mem_nil, or_false] at hw
  rcases hw with rfl | rfl | rfl
  · exact hn
  · exact nS_wrd h.1
  · exact nS_wrd h.2
theorem oW_ok {nm : Str} {e : Nat} (hn : Wrd nm) (h : e < 10 ^ 9) : [nm, nS e] ≠ [] ∧ [nm, nS e].length ≤ 12 ∧ ∀ w ∈ [nm, nS e], Wrd w := by
  refine ⟨by simp, by simp, fun w hw => ?_⟩
  simp only [List.mem_cons, List.not_mem_nil, or_false] at hw
  rcases hw with rfl | rfl
  · exact hn
  · exact nS_wrd h
theorem Wk5.Ok.body {W : Wk5} (ok : W.Ok) : ∀ r ∈ W.body, r ≠ [] ∧ r.length ≤ 12 ∧ ∀ w ∈ r, Wrd w := by
  intro r hr
  unfold Wk5.body at hr
  rcases List.mem_append.mp hr with hr | hr
  · obtain ⟨q, hq, rfl⟩ := List.mem_map.mp hr
    exact pW_ok wrd_box (ok.sb q hq)
  rcases List.mem_append.mp hr with hr | hr
  · obtain ⟨q, hq, rfl⟩ := List.mem_map.mp hr
    exact pW_ok wrd_gate (ok.sg q hq)
  · obtain ⟨q, hq, rfl⟩ := List.mem_map.mp hr
    exact oW_ok wrd_out (ok.so q hq)
theorem Wk5.Ok.rows {W : Wk5} (ok : W.Ok) : ∀ r ∈ W.rows, r ≠ [] ∧ r.length ≤ 12 ∧ ∀ w ∈ r, Wrd w := by
  intro r hr
  rcases List.mem_cons.mp hr with rfl | hr
  · exact oW_ok wrd_ins (by have := ok.lw; omega)
  · exact ok.body r hr
theorem Wk5.Ok.rowsOk {W : Wk5} (h : W.Ok) : RowsOk W.rows := ⟨fun r hr => ⟨(h.rows r hr).1, by have := (h.rows r hr).2.1; omega, (h.rows r hr).2.2⟩⟩
theorem Wk5.Ok.len {W : Wk5} (h : W.Ok) : W.rows.length ≤ 301 := by
  have := h.lb
  have := h.lg
  have := h.lo
  unfold Wk5.rows Wk5.body
  simp only [List.length_append, List.length_map, List.length_cons]
  omega
theorem Wk5.Ok.text {W : Wk5} (h : W.Ok) : (textT W.rows).length ≤ 40000 := by
  have a := h.len
  have b := textT_len (rows := W.rows) (m := 120) fun r hr => by
    have := rowT_len (r := r) (m := 9) fun w hw => ((h.rows r hr).2.2 w hw).d
    have := (h.rows r hr).2.1
    omega
  omega
theorem hd_p {nm u : Str} (L : List (Nat × Nat)) : (L.map (pW u)).filter (hdIs nm) = if u = nm then L.map (pW u) else [] := by
  split
  · next h => exact filter_all fun a ha => by obtain ⟨q, _, rfl⟩ := List.mem_map.mp ha; unfold pW; rw [hdIs_cons, decide_eq_true h]
  · next h => exact filter_none fun a ha => by obtain ⟨q, _, rfl⟩ := List.mem_map.mp ha; unfold pW; rw [hdIs_cons, decide_eq_false h]
theorem hd_o {nm : Str} (L : List Nat) : (L.map oW).filter (hdIs nm) = if "out" = nm then L.map oW else [] := by
  split
  · next h => exact filter_all fun a ha => by obtain ⟨q, _, rfl⟩ := List.mem_map.mp ha; unfold oW; rw [hdIs_cons, decide_eq_true h]
  · next h => exact filter_none fun a ha => by obtain ⟨q, _, rfl⟩ := List.mem_map.mp ha; unfold oW; rw [hdIs_cons, decide_eq_false h]
theorem Wk5.f0 (W : Wk5) : W.body.filter (hdIs "box") = W.bx.map (pW "box") := by
  unfold Wk5.body
  rw [List.filter_append, List.filter_append, hd_p, hd_p, hd_o, if_pos rfl, if_neg (by decide), if_neg (by decide)]
  simp
theorem Wk5.f1 (W : Wk5) : W.body.filter (hdIs "gate") = W.gt.map (pW "gate") := by
  unfold Wk5.body
  rw [List.filter_append, List.filter_append, hd_p, hd_p, hd_o, if_neg (by decide), if_pos rfl, if_neg (by decide)]
  simp
theorem Wk5.f2 (W : Wk5) : W.body.filter (hdIs "out") = W.ou.map oW := by
  unfold Wk5.body
  rw [List.filter_append, List.filter_append, hd_p, hd_p, hd_o, if_neg (by decide), if_neg (by decide), if_pos rfl]
  simp

def wkTag (W : Wk5) (i : Nat) : Nat := if i < W.bx.length then 0 else if i < W.bx.length + W.gt.length then 1 else 2
theorem wkTag_mono {W : Wk5} {i j : Nat} (h : i ≤ j) : wkTag W i ≤ wkTag W j := by
  unfold wkTag
  by_cases h1 : j < W.bx.length
  · rw [if_pos (by omega)]
    exact Nat.zero_le _
  rw [if_neg h1]
  by_cases h2 : j < W.bx.length + W.gt.length
  · rw [if_pos h2]
    split
    · omega
    · rw [if_pos (by omega)]
      omega
  rw [if_neg h2]
  split
  · omega
  · split <;> omega
theorem wkTag_at {W : Wk5} {i : Nat} {r : List Str} (h : W.body[i]? = some r) : ∃ w z, r = w :: z ∧ (["box", "gate", "out"] : List Str)[wkTag W i]? = some w := by
  unfold Wk5.body at h
  unfold wkTag
  by_cases h0 : i < W.bx.length
  · rw [if_pos h0]
    rw [List.getElem?_append_left (by simpa using h0), List.getElem?_map] at h
    cases e : W.bx[i]? with
    | none => rw [e] at h; cases h
    | some q => rw [e] at h; cases h; exact ⟨_, _, rfl, rfl⟩
  rw [if_neg h0]
  rw [List.getElem?_append_right (by simpa using h0), List.length_map] at h
  by_cases h1 : i < W.bx.length + W.gt.length
  · rw [if_pos h1]
    rw [List.getElem?_append_left (by simp; omega), List.getElem?_map] at h
    cases e : W.gt[i - W.bx.length]? with
    | none => rw [e] at h; cases h
    | some q => rw [e] at h; cases h; exact ⟨_, _, rfl, rfl⟩
  rw [if_neg h1]
  rw [List.getElem?_append_right (by simp; omega), List.length_map, List.getElem?_map] at h
  cases e : W.ou[i - W.bx.length - W.gt.length]? with
  | none => rw [e] at h; cases h
  | some q => rw [e] at h; cases h; exact ⟨_, _, rfl, rfl⟩
theorem readwork_spec {W : Wk5} {st : Sto} (ok : W.Ok) :
    Wp (s_read_work [.str (textT W.rows)] st) (fun v st' => Sub st st' ∧ ∃ kb kg ko, v = W.dv kb kg ko ∧ st.length ≤ kb ∧ kb < kg ∧ kg < ko ∧ Wk5S W st' kb kg ko) NX := by
  unfold s_read_work
  simp (disch := omega) only [WZ, WR, wp_expr, wp_optD, wipeD, List.reduceReplicate, Nat.reduceSub, Int.reduceToNat, Int.reducePow, true_and, and_true, List.getElem?_cons_succ, List.getElem?_cons_zero, List.set_cons_succ, List.set_cons_zero, List.length_map, Int.toNat_natCast, Int.zero_add, List.map_cons, List.map_nil, List.cons_append, List.nil_append, decide_eq_true_eq, Bool.not_eq_true', decide_eq_false_iff_not, Bool.true_eq_false, Bool.false_eq_true, if_true, if_false, Bool.not_true, Bool.not_false]
  refine (rowsof_text ok.rowsOk (by have := ok.len; omega) (by have := ok.text; omega)).mono ?_
  rintro _ st1 ⟨s1, k, qs, rfl, lk, hR, hq⟩
  rw [if_neg (by unfold Wk5.rows; simp)] at hq
  obtain ⟨q0, qr, rfl⟩ : ∃ q0 qr, qs = q0 :: qr := by
    cases qs with
    | nil => cases hq
    | cons a b => exact ⟨a, b, rfl⟩
  have e0 : q0.2 = [("ins" : Str), nS W.w] := (List.cons.inj hq).1
  have hqr : qr.map (·.2) = W.body := (List.cons.inj hq).2
  have h0 := hR.ob q0 (by simp)
  rw [e0] at h0
  have hat : st1[k]? = some (.lst (rowS q0 :: qr.map rowS)) := hR.at_
  (try simp (disch := omega) only [WZ, WR, wp_if, wp_expr, wp_optD, wipeD, List.reduceReplicate, Nat.reduceSub, Int.reduceToNat, Int.reducePow, true_and, and_true, List.getElem?_cons_succ, List.getElem?_cons_zero, List.set_cons_succ, List.set_cons_zero, List.length_map, Int.toNat_natCast, Int.zero_add, List.map_cons, List.map_nil, List.cons_append, List.nil_append, decide_eq_true_eq, Bool.not_eq_true', decide_eq_false_iff_not, Bool.true_eq_false, Bool.false_eq_true, if_true, if_false, Bool.not_true, Bool.not_false, wp_ixR hat, at0])
  refine (numsafter_spec (w := "ins") (ns := [W.w]) (k := q0.1) h0 (fun n hn => ?_) (by simp)).mono ?_
  · rw [List.mem_singleton] at hn
    have := ok.lw
    omega
  rintro _ st2 ⟨s2, kx, rfl, lx, gx⟩
  have gx' : st2[kx]? = some (.lst [nI W.w]) := gx
  (try simp (disch := omega) only [WZ, WR, wp_if, wp_expr, wp_optD, wipeD, List.reduceReplicate, Nat.reduceSub, Int.reduceToNat, Int.reducePow, true_and, and_true, List.getElem?_cons_succ, List.getElem?_cons_zero, List.set_cons_succ, List.set_cons_zero, List.length_map, Int.toNat_natCast, Int.zero_add, List.map_cons, List.map_nil, List.cons_append, List.nil_append, decide_eq_true_eq, Bool.not_eq_true', decide_eq_false_iff_not, Bool.true_eq_false, Bool.false_eq_true, if_true, if_false, Bool.not_true, Bool.not_false, wp_ixR gx', at0, wp_slR (s2 _ _ hat), cut_tail])
  have hlen : qr.length ≤ 300 := by
    have := congrArg List.length hqr
    rw [List.length_map] at this
    have := ok.len
    unfold Wk5.rows at this
    rw [List.length_cons] at this
    omega
  have g3 : (st2 ++ [DO.lst (qr.map rowS)])[st2.length]? = some (.lst (qr.map rowS)) := get_new
  have s3 : Sub st2 (st2 ++ [DO.lst (qr.map rowS)]) := .app
  generalize hk2 : st2.length = k2 at *
  generalize st2 ++ [DO.lst (qr.map rowS)] = st3 at *
  have hR3 : RowsS st3 k2 qr := ⟨g3, fun q hq => s3 _ _ (s2 _ _ (hR.ob q (List.mem_cons_of_mem _ hq)))⟩
  refine wp_allocN fun st4 k4 s4 l4 m4 g4 => ?_
  have hR4 := hR3.mono s4
  (try simp (disch := omega) only [WZ, WR, wp_if, wp_expr, wp_optD, wipeD, List.reduceReplicate, Nat.reduceSub, Int.reduceToNat, Int.reducePow, true_and, and_true, List.getElem?_cons_succ, List.getElem?_cons_zero, List.set_cons_succ, List.set_cons_zero, List.length_map, Int.toNat_natCast, Int.zero_add, List.map_cons, List.map_nil, List.cons_append, List.nil_append, decide_eq_true_eq, Bool.not_eq_true', decide_eq_false_iff_not, Bool.true_eq_false, Bool.false_eq_true, if_true, if_false, Bool.not_true, Bool.not_false])
  refine (inorder_spec (n := 3) (tg := wkTag W) (names := ["box", "gate", "out"]) hR4 g4 rfl (by decide) (by decide) (fun i q hi => ?_) fun i j h1 _ => wkTag_mono h1).mono ?_
  · refine wkTag_at (r := q.2) ?_
    rw [← hqr, List.getElem?_map, hi]
    rfl
  rintro _ _ rfl
  have hnl : ∀ q ∈ qr, q.2 ≠ [] := fun q hq' => (ok.body q.2 (by rw [← hqr]; exact List.mem_map.mpr ⟨q, hq', rfl⟩)).1
  have hg : ∀ {st' : Sto}, Sub st4 st' → okG [(k2, DO.lst (qr.map rowS))] st' := fun s => okG_one (s _ _ hR4.at_)
  (try simp (disch := omega) only [WZ, WR, wp_if, wp_expr, wp_optD, wipeD, List.reduceReplicate, Nat.reduceSub, Int.reduceToNat, Int.reducePow, true_and, and_true, List.getElem?_cons_succ, List.getElem?_cons_zero, List.set_cons_succ, List.set_cons_zero, List.length_map, Int.toNat_natCast, Int.zero_add, List.map_cons, List.map_nil, List.cons_append, List.nil_append, decide_eq_true_eq, Bool.not_eq_true', decide_eq_false_iff_not, Bool.true_eq_false, Bool.false_eq_true, if_true, if_false, Bool.not_true, Bool.not_false, tIy_R hR4.at_])
  refine filt_spec (pW "box") kD hR4 (Nat.lt_succ_self 6) hnl (by rw [hqr]; exact W.f0) (fun b hb q st' e s hat ss' hsl hv => ?_) (fun st' s => hg s) fun st5 kb s5 l5 m5 g5 => ?_
  · (try simp (disch := omega) only [WZ, WR, wp_if, wp_expr, wp_optD, wipeD, List.reduceReplicate, Nat.reduceSub, Int.reduceToNat, Int.reducePow, true_and, and_true, List.getElem?_cons_succ, List.getElem?_cons_zero, List.set_cons_succ, List.set_cons_zero, List.length_map, Int.toNat_natCast, Int.zero_add, List.map_cons, List.map_nil, List.cons_append, List.nil_append, decide_eq_true_eq, Bool.not_eq_true', decide_eq_false_iff_not, Bool.true_eq_false, Bool.false_eq_true, if_true, if_false, Bool.not_true, Bool.not_false])
    rw [hv]
    (try simp (disch := omega) only [WZ, WR, wp_if, wp_expr, wp_optD, wipeD, List.reduceReplicate, Nat.reduceSub, Int.reduceToNat, Int.reducePow, true_and, and_true, List.getElem?_cons_succ, List.getElem?_cons_zero, List.set_cons_succ, List.set_cons_zero, List.length_map, Int.toNat_natCast, Int.zero_add, List.map_cons, List.map_nil, List.cons_append, List.nil_append, decide_eq_true_eq, Bool.not_eq_true', decide_eq_false_iff_not, Bool.true_eq_false, Bool.false_eq_true, if_true, if_false, Bool.not_true, Bool.not_false])
    refine (numsafter_spec (w := "box") (ns := [b.1, b.2]) hat (fun n hn => ?_) (by simp)).mono ?_
    · rcases List.mem_cons.mp hn with rfl | hn
      · exact (ok.sb b hb).1
      · rw [List.mem_singleton] at hn
        subst hn
        exact (ok.sb b hb).2
    rintro _ st5 ⟨s5, kt, rfl, lt, gt⟩
    (try simp (disch := omega) only [WZ, WR, wp_if, wp_expr, wp_optD, wipeD, List.reduceReplicate, Nat.reduceSub, Int.reduceToNat, Int.reducePow, true_and, and_true, List.getElem?_cons_succ, List.getElem?_cons_zero, List.set_cons_succ, List.set_cons_zero, List.length_map, Int.toNat_natCast, Int.zero_add, List.map_cons, List.map_nil, List.cons_append, List.nil_append, decide_eq_true_eq, Bool.not_eq_true', decide_eq_false_iff_not, Bool.true_eq_false, Bool.false_eq_true, if_true, if_false, Bool.not_true, Bool.not_false, wp_tupR gt])
    exact ⟨rfl, s5⟩
  (try simp (disch := omega) only [WZ, WR, wp_if, wp_expr, wp_optD, wipeD, List.reduceReplicate, Nat.reduceSub, Int.reduceToNat, Int.reducePow, true_and, and_true, List.getElem?_cons_succ, List.getElem?_cons_zero, List.set_cons_succ, List.set_cons_zero, List.length_map, Int.toNat_natCast, Int.zero_add, List.map_cons, List.map_nil, List.cons_append, List.nil_append, decide_eq_true_eq, Bool.not_eq_true', decide_eq_false_iff_not, Bool.true_eq_false, Bool.false_eq_true, if_true, if_false, Bool.not_true, Bool.not_false, tIy_R (s5 _ _ hR4.at_)])
  refine filt_spec (pW "gate") kD (hR4.mono s5) (Nat.lt_succ_self 6) hnl (by rw [hqr]; exact W.f1) (fun b hb q st' e s hat ss' hsl hv => ?_) (fun st' s => hg (s5.trans s)) fun st6 kg s6 l6 m6 g6 => ?_
  · (try simp (disch := omega) only [WZ, WR, wp_if, wp_expr, wp_optD, wipeD, List.reduceReplicate, Nat.reduceSub, Int.reduceToNat, Int.reducePow, true_and, and_true, List.getElem?_cons_succ, List.getElem?_cons_zero, List.set_cons_succ, List.set_cons_zero, List.length_map, Int.toNat_natCast, Int.zero_add, List.map_cons, List.map_nil, List.cons_append, List.nil_append, decide_eq_true_eq, Bool.not_eq_true', decide_eq_false_iff_not, Bool.true_eq_false, Bool.false_eq_true, if_true, if_false, Bool.not_true, Bool.not_false])
    rw [hv]
    (try simp (disch := omega) only [WZ, WR, wp_if, wp_expr, wp_optD, wipeD, List.reduceReplicate, Nat.reduceSub, Int.reduceToNat, Int.reducePow, true_and, and_true, List.getElem?_cons_succ, List.getElem?_cons_zero, List.set_cons_succ, List.set_cons_zero, List.length_map, Int.toNat_natCast, Int.zero_add, List.map_cons, List.map_nil, List.cons_append, List.nil_append, decide_eq_true_eq, Bool.not_eq_true', decide_eq_false_iff_not, Bool.true_eq_false, Bool.false_eq_true, if_true, if_false, Bool.not_true, Bool.not_false])
    refine (numsafter_spec (w := "gate") (ns := [b.1, b.2]) hat (fun n hn => ?_) (by simp)).mono ?_
    · rcases List.mem_cons.mp hn with rfl | hn
      · exact (ok.sg b hb).1
      · rw [List.mem_singleton] at hn
        subst hn
        exact (ok.sg b hb).2
    rintro _ st5 ⟨s5, kt, rfl, lt, gt⟩
    (try simp (disch := omega) only [WZ, WR, wp_if, wp_expr, wp_optD, wipeD, List.reduceReplicate, Nat.reduceSub, Int.reduceToNat, Int.reducePow, true_and, and_true, List.getElem?_cons_succ, List.getElem?_cons_zero, List.set_cons_succ, List.set_cons_zero, List.length_map, Int.toNat_natCast, Int.zero_add, List.map_cons, List.map_nil, List.cons_append, List.nil_append, decide_eq_true_eq, Bool.not_eq_true', decide_eq_false_iff_not, Bool.true_eq_false, Bool.false_eq_true, if_true, if_false, Bool.not_true, Bool.not_false, wp_tupR gt])
    exact ⟨rfl, s5⟩
  have s56 := s5.trans s6
  (try simp (disch := omega) only [WZ, WR, wp_if, wp_expr, wp_optD, wipeD, List.reduceReplicate, Nat.reduceSub, Int.reduceToNat, Int.reducePow, true_and, and_true, List.getElem?_cons_succ, List.getElem?_cons_zero, List.set_cons_succ, List.set_cons_zero, List.length_map, Int.toNat_natCast, Int.zero_add, List.map_cons, List.map_nil, List.cons_append, List.nil_append, decide_eq_true_eq, Bool.not_eq_true', decide_eq_false_iff_not, Bool.true_eq_false, Bool.false_eq_true, if_true, if_false, Bool.not_true, Bool.not_false, tIy_R (s56 _ _ hR4.at_)])
  refine filt_spec oW nI (hR4.mono s56) (Nat.lt_succ_self 6) hnl (by rw [hqr]; exact W.f2) (fun b hb q st' e s hat ss' hsl hv => ?_) (fun st' s => hg (s56.trans s)) fun st7 ko s7 l7 m7 g7 => ?_
  · (try simp (disch := omega) only [WZ, WR, wp_if, wp_expr, wp_optD, wipeD, List.reduceReplicate, Nat.reduceSub, Int.reduceToNat, Int.reducePow, true_and, and_true, List.getElem?_cons_succ, List.getElem?_cons_zero, List.set_cons_succ, List.set_cons_zero, List.length_map, Int.toNat_natCast, Int.zero_add, List.map_cons, List.map_nil, List.cons_append, List.nil_append, decide_eq_true_eq, Bool.not_eq_true', decide_eq_false_iff_not, Bool.true_eq_false, Bool.false_eq_true, if_true, if_false, Bool.not_true, Bool.not_false])
    rw [hv]
    (try simp (disch := omega) only [WZ, WR, wp_if, wp_expr, wp_optD, wipeD, List.reduceReplicate, Nat.reduceSub, Int.reduceToNat, Int.reducePow, true_and, and_true, List.getElem?_cons_succ, List.getElem?_cons_zero, List.set_cons_succ, List.set_cons_zero, List.length_map, Int.toNat_natCast, Int.zero_add, List.map_cons, List.map_nil, List.cons_append, List.nil_append, decide_eq_true_eq, Bool.not_eq_true', decide_eq_false_iff_not, Bool.true_eq_false, Bool.false_eq_true, if_true, if_false, Bool.not_true, Bool.not_false])
    refine (numsafter_spec (w := "out") (ns := [b]) hat (fun n hn => ?_) (by simp)).mono ?_
    · rw [List.mem_singleton] at hn
      subst hn
      exact ok.so n hb
    rintro _ st5 ⟨s5, kt, rfl, lt, gt⟩
    have gt' : st5[kt]? = some (.lst [nI b]) := gt
    (try simp (disch := omega) only [WZ, WR, wp_if, wp_expr, wp_optD, wipeD, List.reduceReplicate, Nat.reduceSub, Int.reduceToNat, Int.reducePow, true_and, and_true, List.getElem?_cons_succ, List.getElem?_cons_zero, List.set_cons_succ, List.set_cons_zero, List.length_map, Int.toNat_natCast, Int.zero_add, List.map_cons, List.map_nil, List.cons_append, List.nil_append, decide_eq_true_eq, Bool.not_eq_true', decide_eq_false_iff_not, Bool.true_eq_false, Bool.false_eq_true, if_true, if_false, Bool.not_true, Bool.not_false, wp_ixR gt', at0])
    exact s5
  have hw : Wk5S W st7 kb kg ko := ⟨s7 _ _ (s6 _ _ g5), s7 _ _ g6, g7⟩
  have edv : DV.tup [nI W.w, .ref kb, .ref kg, .ref ko] = W.dv kb kg ko := rfl
  (try simp (disch := omega) only [WZ, WR, wp_if, wp_expr, wp_optD, wipeD, List.reduceReplicate, Nat.reduceSub, Int.reduceToNat, Int.reducePow, true_and, and_true, List.getElem?_cons_succ, List.getElem?_cons_zero, List.set_cons_succ, List.set_cons_zero, List.length_map, Int.toNat_natCast, Int.zero_add, List.map_cons, List.map_nil, List.cons_append, List.nil_append, decide_eq_true_eq, Bool.not_eq_true', decide_eq_false_iff_not, Bool.true_eq_false, Bool.false_eq_true, if_true, if_false, Bool.not_true, Bool.not_false])
  rw [edv]
  refine (iswork_T hw ok).mono ?_
  rintro _ st8 ⟨s8, rfl⟩
  (try simp (disch := omega) only [WZ, WR, wp_if, wp_expr, wp_optD, wipeD, List.reduceReplicate, Nat.reduceSub, Int.reduceToNat, Int.reducePow, true_and, and_true, List.getElem?_cons_succ, List.getElem?_cons_zero, List.set_cons_succ, List.set_cons_zero, List.length_map, Int.toNat_natCast, Int.zero_add, List.map_cons, List.map_nil, List.cons_append, List.nil_append, decide_eq_true_eq, Bool.not_eq_true', decide_eq_false_iff_not, Bool.true_eq_false, Bool.false_eq_true, if_true, if_false, Bool.not_true, Bool.not_false])
  have e1 := s1.len
  have e2 := s2.len
  have e3 := s3.len
  have e4 := s4.len
  exact ⟨s1.trans (s2.trans (s3.trans (s4.trans (s56.trans (s7.trans s8))))), kb, kg, ko, rfl, by omega, by omega, by omega, hw.mono s8⟩

/-! a work's texts -/
theorem pW_text {nm v : Str} (h : TL.tl v = TL.tl nm ++ [32]) (q : Nat × Nat) : ((v ++ nS q.1) ++ " ") ++ nS q.2 = rowT (pW nm q) := by
  unfold pW
  rw [row_cons (by simp), row_two]
  refine TL.ext_tl ?_
  simp only [TL.tl_append, h, tl_sp]
  simp
theorem oW_text {nm v : Str} (h : TL.tl v = TL.tl nm ++ [32]) (e : Nat) : v ++ nS e = rowT [nm, nS e] := by
  rw [row_two]
  refine TL.ext_tl ?_
  simp only [TL.tl_append, h, tl_sp]
theorem e_app {v : Str} : Str.empty ++ v = v := TL.ext_tl (by rw [TL.tl_append]; rfl)
theorem lt_L1 {l : Nat} {xs : List DV} {q : Nat × Nat} {st : Sto} {v o4 o5 : Option DV} (h : st[l]? = some (.lst xs)) (hx : xs.length < 1000) (hq : q.1 < 10 ^ 9 ∧ q.2 < 10 ^ 9) :
    Wp (s__law_text_L1 [v, some (.ref l), some (nI q.1), some (nI q.2), o4, o5] st) (fun fl st' => fl = .nx [v, some (.ref l), some (nI q.1), some (nI q.2), o4, o5] ∧ st' = st.set l (.lst (xs ++ [.str (rowT (pW "box" q))]))) NX := by
  have b1 := nS_len (k := 9) (by decide) hq.1
  have b2 := nS_len (k := 9) (by decide) hq.2
  have c0 : ("box " : Str).length = 4 := by decide
  have e1 : (" " : Str).length = 1 := rfl
  unfold s__law_text_L1
  (try simp (disch := omega) only [WZ, WR, wp_if, wp_expr, wp_optD, wipeD, List.reduceReplicate, Nat.reduceSub, Int.reduceToNat, Int.reducePow, true_and, and_true, List.getElem?_cons_succ, List.getElem?_cons_zero, List.set_cons_succ, List.set_cons_zero, List.length_map, Int.toNat_natCast, Int.zero_add, List.map_cons, List.map_nil, List.cons_append, List.nil_append, decide_eq_true_eq, Bool.not_eq_true', decide_eq_false_iff_not, Bool.true_eq_false, Bool.false_eq_true, if_true, if_false, Bool.not_true, Bool.not_false, tMt_R h, nI, wp_strN (lt18 hq.1)])
  rw [wp_addS (by (try simp only [sapp_len]); omega)]
  (try simp (disch := omega) only [WZ, WR, wp_if, wp_expr, wp_optD, wipeD, List.reduceReplicate, Nat.reduceSub, Int.reduceToNat, Int.reducePow, true_and, and_true, List.getElem?_cons_succ, List.getElem?_cons_zero, List.set_cons_succ, List.set_cons_zero, List.length_map, Int.toNat_natCast, Int.zero_add, List.map_cons, List.map_nil, List.cons_append, List.nil_append, decide_eq_true_eq, Bool.not_eq_true', decide_eq_false_iff_not, Bool.true_eq_false, Bool.false_eq_true, if_true, if_false, Bool.not_true, Bool.not_false])
  rw [wp_addS (by (try simp only [sapp_len]); omega)]
  (try simp (disch := omega) only [WZ, WR, wp_if, wp_expr, wp_optD, wipeD, List.reduceReplicate, Nat.reduceSub, Int.reduceToNat, Int.reducePow, true_and, and_true, List.getElem?_cons_succ, List.getElem?_cons_zero, List.set_cons_succ, List.set_cons_zero, List.length_map, Int.toNat_natCast, Int.zero_add, List.map_cons, List.map_nil, List.cons_append, List.nil_append, decide_eq_true_eq, Bool.not_eq_true', decide_eq_false_iff_not, Bool.true_eq_false, Bool.false_eq_true, if_true, if_false, Bool.not_true, Bool.not_false, wp_strN (lt18 hq.2)])
  rw [wp_addS (by (try simp only [sapp_len]); omega), pW_text (nm := "box") (by decide +kernel)]
  (try simp (disch := omega) only [WZ, WR, wp_if, wp_expr, wp_optD, wipeD, List.reduceReplicate, Nat.reduceSub, Int.reduceToNat, Int.reducePow, true_and, and_true, List.getElem?_cons_succ, List.getElem?_cons_zero, List.set_cons_succ, List.set_cons_zero, List.length_map, Int.toNat_natCast, Int.zero_add, List.map_cons, List.map_nil, List.cons_append, List.nil_append, decide_eq_true_eq, Bool.not_eq_true', decide_eq_false_iff_not, Bool.true_eq_false, Bool.false_eq_true, if_true, if_false, Bool.not_true, Bool.not_false])
  rw [wp_appendc h (by omega)]
theorem lt_L2 {l : Nat} {xs : List DV} {q : Nat × Nat} {st : Sto} {v o2 o3 : Option DV} (h : st[l]? = some (.lst xs)) (hx : xs.length < 1000) (hq : q.1 < 10 ^ 9 ∧ q.2 < 10 ^ 9) :
    Wp (s__law_text_L2 [v, some (.ref l), o2, o3, some (nI q.1), some (nI q.2)] st) (fun fl st' => fl = .nx [v, some (.ref l), o2, o3, some (nI q.1), some (nI q.2)] ∧ st' = st.set l (.lst (xs ++ [.str (rowT (pW "gate" q))]))) NX := by
  have b1 := nS_len (k := 9) (by decide) hq.1
  have b2 := nS_len (k := 9) (by decide) hq.2
  have c0 : ("gate " : Str).length = 5 := by decide
  have e1 : (" " : Str).length = 1 := rfl
  unfold s__law_text_L2
  (try simp (disch := omega) only [WZ, WR, wp_if, wp_expr, wp_optD, wipeD, List.reduceReplicate, Nat.reduceSub, Int.reduceToNat, Int.reducePow, true_and, and_true, List.getElem?_cons_succ, List.getElem?_cons_zero, List.set_cons_succ, List.set_cons_zero, List.length_map, Int.toNat_natCast, Int.zero_add, List.map_cons, List.map_nil, List.cons_append, List.nil_append, decide_eq_true_eq, Bool.not_eq_true', decide_eq_false_iff_not, Bool.true_eq_false, Bool.false_eq_true, if_true, if_false, Bool.not_true, Bool.not_false, tMt_R h, nI, wp_strN (lt18 hq.1)])
  rw [wp_addS (by (try simp only [sapp_len]); omega)]
  (try simp (disch := omega) only [WZ, WR, wp_if, wp_expr, wp_optD, wipeD, List.reduceReplicate, Nat.reduceSub, Int.reduceToNat, Int.reducePow, true_and, and_true, List.getElem?_cons_succ, List.getElem?_cons_zero, List.set_cons_succ, List.set_cons_zero, List.length_map, Int.toNat_natCast, Int.zero_add, List.map_cons, List.map_nil, List.cons_append, List.nil_append, decide_eq_true_eq, Bool.not_eq_true', decide_eq_false_iff_not, Bool.true_eq_false, Bool.false_eq_true, if_true, if_false, Bool.not_true, Bool.not_false])
  rw [wp_addS (by (try simp only [sapp_len]); omega)]
  (try simp (disch := omega) only [WZ, WR, wp_if, wp_expr, wp_optD, wipeD, List.reduceReplicate, Nat.reduceSub, Int.reduceToNat, Int.reducePow, true_and, and_true, List.getElem?_cons_succ, List.getElem?_cons_zero, List.set_cons_succ, List.set_cons_zero, List.length_map, Int.toNat_natCast, Int.zero_add, List.map_cons, List.map_nil, List.cons_append, List.nil_append, decide_eq_true_eq, Bool.not_eq_true', decide_eq_false_iff_not, Bool.true_eq_false, Bool.false_eq_true, if_true, if_false, Bool.not_true, Bool.not_false, wp_strN (lt18 hq.2)])
  rw [wp_addS (by (try simp only [sapp_len]); omega), pW_text (nm := "gate") (by decide +kernel)]
  (try simp (disch := omega) only [WZ, WR, wp_if, wp_expr, wp_optD, wipeD, List.reduceReplicate, Nat.reduceSub, Int.reduceToNat, Int.reducePow, true_and, and_true, List.getElem?_cons_succ, List.getElem?_cons_zero, List.set_cons_succ, List.set_cons_zero, List.length_map, Int.toNat_natCast, Int.zero_add, List.map_cons, List.map_nil, List.cons_append, List.nil_append, decide_eq_true_eq, Bool.not_eq_true', decide_eq_false_iff_not, Bool.true_eq_false, Bool.false_eq_true, if_true, if_false, Bool.not_true, Bool.not_false])
  rw [wp_appendc h (by omega)]
theorem lt_L3 {l : Nat} {xs : List DV} {q : Nat} {st : Sto} {v o2 o4 o5 : Option DV} (h : st[l]? = some (.lst xs)) (hx : xs.length < 1000) (hq : q < 10 ^ 9) :
    Wp (s__law_text_L3 [v, some (.ref l), o2, some (nI q), o4, o5] st) (fun fl st' => fl = .nx [v, some (.ref l), o2, some (nI q), o4, o5] ∧ st' = st.set l (.lst (xs ++ [.str (rowT (oW q))]))) NX := by
  have b1 := nS_len (k := 9) (by decide) hq
  have c0 : ("out " : Str).length = 4 := by decide
  unfold s__law_text_L3
  (try simp (disch := omega) only [WZ, WR, wp_if, wp_expr, wp_optD, wipeD, List.reduceReplicate, Nat.reduceSub, Int.reduceToNat, Int.reducePow, true_and, and_true, List.getElem?_cons_succ, List.getElem?_cons_zero, List.set_cons_succ, List.set_cons_zero, List.length_map, Int.toNat_natCast, Int.zero_add, List.map_cons, List.map_nil, List.cons_append, List.nil_append, decide_eq_true_eq, Bool.not_eq_true', decide_eq_false_iff_not, Bool.true_eq_false, Bool.false_eq_true, if_true, if_false, Bool.not_true, Bool.not_false, tMt_R h, nI, wp_strN (lt18 hq)])
  rw [wp_addS (by (try simp only [sapp_len]); omega), oW_text (nm := "out") (by decide +kernel)]
  (try simp (disch := omega) only [WZ, WR, wp_if, wp_expr, wp_optD, wipeD, List.reduceReplicate, Nat.reduceSub, Int.reduceToNat, Int.reducePow, true_and, and_true, List.getElem?_cons_succ, List.getElem?_cons_zero, List.set_cons_succ, List.set_cons_zero, List.length_map, Int.toNat_natCast, Int.zero_add, List.map_cons, List.map_nil, List.cons_append, List.nil_append, decide_eq_true_eq, Bool.not_eq_true', decide_eq_false_iff_not, Bool.true_eq_false, Bool.false_eq_true, if_true, if_false, Bool.not_true, Bool.not_false])
  rw [wp_appendc h (by omega)]
  rfl
theorem wt_L1 {l : Nat} {xs : List DV} {q : Nat × Nat} {st : Sto} {a b c d e o8 o9 : Option DV} (h : st[l]? = some (.lst xs)) (hx : xs.length < 1000) (hq : q.1 < 10 ^ 9 ∧ q.2 < 10 ^ 9) :
    Wp (s_work_text_L1 [a, b, c, d, e, some (.ref l), some (nI q.1), some (nI q.2), o8, o9] st) (fun fl st' => fl = .nx [a, b, c, d, e, some (.ref l), some (nI q.1), some (nI q.2), o8, o9] ∧ st' = st.set l (.lst (xs ++ [.str (rowT (pW "box" q))]))) NX := by
  have b1 := nS_len (k := 9) (by decide) hq.1
  have b2 := nS_len (k := 9) (by decide) hq.2
  have c0 : ("box " : Str).length = 4 := by decide
  have e1 : (" " : Str).length = 1 := rfl
  unfold s_work_text_L1
  (try simp (disch := omega) only [WZ, WR, wp_if, wp_expr, wp_optD, wipeD, List.reduceReplicate, Nat.reduceSub, Int.reduceToNat, Int.reducePow, true_and, and_true, List.getElem?_cons_succ, List.getElem?_cons_zero, List.set_cons_succ, List.set_cons_zero, List.length_map, Int.toNat_natCast, Int.zero_add, List.map_cons, List.map_nil, List.cons_append, List.nil_append, decide_eq_true_eq, Bool.not_eq_true', decide_eq_false_iff_not, Bool.true_eq_false, Bool.false_eq_true, if_true, if_false, Bool.not_true, Bool.not_false, tMt_R h, wp_js, wp_jsC])
  rw [tJs_S (by rw [e_app]; omega), e_app]
  (try simp (disch := omega) only [WZ, WR, wp_if, wp_expr, wp_optD, wipeD, List.reduceReplicate, Nat.reduceSub, Int.reduceToNat, Int.reducePow, true_and, and_true, List.getElem?_cons_succ, List.getElem?_cons_zero, List.set_cons_succ, List.set_cons_zero, List.length_map, Int.toNat_natCast, Int.zero_add, List.map_cons, List.map_nil, List.cons_append, List.nil_append, decide_eq_true_eq, Bool.not_eq_true', decide_eq_false_iff_not, Bool.true_eq_false, Bool.false_eq_true, if_true, if_false, Bool.not_true, Bool.not_false, wp_jsC, wp_fmt, nI, wp_fmtN (lt18 hq.1)])
  rw [tJs_S (by (try simp only [sapp_len]); omega)]
  (try simp (disch := omega) only [WZ, WR, wp_if, wp_expr, wp_optD, wipeD, List.reduceReplicate, Nat.reduceSub, Int.reduceToNat, Int.reducePow, true_and, and_true, List.getElem?_cons_succ, List.getElem?_cons_zero, List.set_cons_succ, List.set_cons_zero, List.length_map, Int.toNat_natCast, Int.zero_add, List.map_cons, List.map_nil, List.cons_append, List.nil_append, decide_eq_true_eq, Bool.not_eq_true', decide_eq_false_iff_not, Bool.true_eq_false, Bool.false_eq_true, if_true, if_false, Bool.not_true, Bool.not_false, wp_jsC])
  rw [tJs_S (by (try simp only [sapp_len]); omega)]
  (try simp (disch := omega) only [WZ, WR, wp_if, wp_expr, wp_optD, wipeD, List.reduceReplicate, Nat.reduceSub, Int.reduceToNat, Int.reducePow, true_and, and_true, List.getElem?_cons_succ, List.getElem?_cons_zero, List.set_cons_succ, List.set_cons_zero, List.length_map, Int.toNat_natCast, Int.zero_add, List.map_cons, List.map_nil, List.cons_append, List.nil_append, decide_eq_true_eq, Bool.not_eq_true', decide_eq_false_iff_not, Bool.true_eq_false, Bool.false_eq_true, if_true, if_false, Bool.not_true, Bool.not_false, wp_jsC, wp_fmt, nI, wp_fmtN (lt18 hq.2)])
  rw [tJs_S (by (try simp only [sapp_len]); omega), wp_js0, pW_text (nm := "box") (by decide +kernel)]
  unfold tJe
  (try simp (disch := omega) only [WZ, WR, wp_if, wp_expr, wp_optD, wipeD, List.reduceReplicate, Nat.reduceSub, Int.reduceToNat, Int.reducePow, true_and, and_true, List.getElem?_cons_succ, List.getElem?_cons_zero, List.set_cons_succ, List.set_cons_zero, List.length_map, Int.toNat_natCast, Int.zero_add, List.map_cons, List.map_nil, List.cons_append, List.nil_append, decide_eq_true_eq, Bool.not_eq_true', decide_eq_false_iff_not, Bool.true_eq_false, Bool.false_eq_true, if_true, if_false, Bool.not_true, Bool.not_false])
  rw [wp_appendc h (by omega)]
theorem wt_L2 {l : Nat} {xs : List DV} {q : Nat × Nat} {st : Sto} {a b c d e o6 o7 : Option DV} (h : st[l]? = some (.lst xs)) (hx : xs.length < 1000) (hq : q.1 < 10 ^ 9 ∧ q.2 < 10 ^ 9) :
    Wp (s_work_text_L2 [a, b, c, d, e, some (.ref l), o6, o7, some (nI q.1), some (nI q.2)] st) (fun fl st' => fl = .nx [a, b, c, d, e, some (.ref l), o6, o7, some (nI q.1), some (nI q.2)] ∧ st' = st.set l (.lst (xs ++ [.str (rowT (pW "gate" q))]))) NX := by
  have b1 := nS_len (k := 9) (by decide) hq.1
  have b2 := nS_len (k := 9) (by decide) hq.2
  have c0 : ("gate " : Str).length = 5 := by decide
  have e1 : (" " : Str).length = 1 := rfl
  unfold s_work_text_L2
  (try simp (disch := omega) only [WZ, WR, wp_if, wp_expr, wp_optD, wipeD, List.reduceReplicate, Nat.reduceSub, Int.reduceToNat, Int.reducePow, true_and, and_true, List.getElem?_cons_succ, List.getElem?_cons_zero, List.set_cons_succ, List.set_cons_zero, List.length_map, Int.toNat_natCast, Int.zero_add, List.map_cons, List.map_nil, List.cons_append, List.nil_append, decide_eq_true_eq, Bool.not_eq_true', decide_eq_false_iff_not, Bool.true_eq_false, Bool.false_eq_true, if_true, if_false, Bool.not_true, Bool.not_false, tMt_R h, wp_js, wp_jsC])
  rw [tJs_S (by rw [e_app]; omega), e_app]
  (try simp (disch := omega) only [WZ, WR, wp_if, wp_expr, wp_optD, wipeD, List.reduceReplicate, Nat.reduceSub, Int.reduceToNat, Int.reducePow, true_and, and_true, List.getElem?_cons_succ, List.getElem?_cons_zero, List.set_cons_succ, List.set_cons_zero, List.length_map, Int.toNat_natCast, Int.zero_add, List.map_cons, List.map_nil, List.cons_append, List.nil_append, decide_eq_true_eq, Bool.not_eq_true', decide_eq_false_iff_not, Bool.true_eq_false, Bool.false_eq_true, if_true, if_false, Bool.not_true, Bool.not_false, wp_jsC, wp_fmt, nI, wp_fmtN (lt18 hq.1)])
  rw [tJs_S (by (try simp only [sapp_len]); omega)]
  (try simp (disch := omega) only [WZ, WR, wp_if, wp_expr, wp_optD, wipeD, List.reduceReplicate, Nat.reduceSub, Int.reduceToNat, Int.reducePow, true_and, and_true, List.getElem?_cons_succ, List.getElem?_cons_zero, List.set_cons_succ, List.set_cons_zero, List.length_map, Int.toNat_natCast, Int.zero_add, List.map_cons, List.map_nil, List.cons_append, List.nil_append, decide_eq_true_eq, Bool.not_eq_true', decide_eq_false_iff_not, Bool.true_eq_false, Bool.false_eq_true, if_true, if_false, Bool.not_true, Bool.not_false, wp_jsC])
  rw [tJs_S (by (try simp only [sapp_len]); omega)]
  (try simp (disch := omega) only [WZ, WR, wp_if, wp_expr, wp_optD, wipeD, List.reduceReplicate, Nat.reduceSub, Int.reduceToNat, Int.reducePow, true_and, and_true, List.getElem?_cons_succ, List.getElem?_cons_zero, List.set_cons_succ, List.set_cons_zero, List.length_map, Int.toNat_natCast, Int.zero_add, List.map_cons, List.map_nil, List.cons_append, List.nil_append, decide_eq_true_eq, Bool.not_eq_true', decide_eq_false_iff_not, Bool.true_eq_false, Bool.false_eq_true, if_true, if_false, Bool.not_true, Bool.not_false, wp_jsC, wp_fmt, nI, wp_fmtN (lt18 hq.2)])
  rw [tJs_S (by (try simp only [sapp_len]); omega), wp_js0, pW_text (nm := "gate") (by decide +kernel)]
  unfold tJe
  (try simp (disch := omega) only [WZ, WR, wp_if, wp_expr, wp_optD, wipeD, List.reduceReplicate, Nat.reduceSub, Int.reduceToNat, Int.reducePow, true_and, and_true, List.getElem?_cons_succ, List.getElem?_cons_zero, List.set_cons_succ, List.set_cons_zero, List.length_map, Int.toNat_natCast, Int.zero_add, List.map_cons, List.map_nil, List.cons_append, List.nil_append, decide_eq_true_eq, Bool.not_eq_true', decide_eq_false_iff_not, Bool.true_eq_false, Bool.false_eq_true, if_true, if_false, Bool.not_true, Bool.not_false])
  rw [wp_appendc h (by omega)]
theorem wt_L3 {l : Nat} {xs : List DV} {q : Nat} {st : Sto} {a b c d e o6 o8 o9 : Option DV} (h : st[l]? = some (.lst xs)) (hx : xs.length < 1000) (hq : q < 10 ^ 9) :
    Wp (s_work_text_L3 [a, b, c, d, e, some (.ref l), o6, some (nI q), o8, o9] st) (fun fl st' => fl = .nx [a, b, c, d, e, some (.ref l), o6, some (nI q), o8, o9] ∧ st' = st.set l (.lst (xs ++ [.str (rowT (oW q))]))) NX := by
  have b1 := nS_len (k := 9) (by decide) hq
  have c0 : ("out " : Str).length = 4 := by decide
  unfold s_work_text_L3
  (try simp (disch := omega) only [WZ, WR, wp_if, wp_expr, wp_optD, wipeD, List.reduceReplicate, Nat.reduceSub, Int.reduceToNat, Int.reducePow, true_and, and_true, List.getElem?_cons_succ, List.getElem?_cons_zero, List.set_cons_succ, List.set_cons_zero, List.length_map, Int.toNat_natCast, Int.zero_add, List.map_cons, List.map_nil, List.cons_append, List.nil_append, decide_eq_true_eq, Bool.not_eq_true', decide_eq_false_iff_not, Bool.true_eq_false, Bool.false_eq_true, if_true, if_false, Bool.not_true, Bool.not_false, tMt_R h, wp_js, wp_jsC])
  rw [tJs_S (by rw [e_app]; omega), e_app]
  (try simp (disch := omega) only [WZ, WR, wp_if, wp_expr, wp_optD, wipeD, List.reduceReplicate, Nat.reduceSub, Int.reduceToNat, Int.reducePow, true_and, and_true, List.getElem?_cons_succ, List.getElem?_cons_zero, List.set_cons_succ, List.set_cons_zero, List.length_map, Int.toNat_natCast, Int.zero_add, List.map_cons, List.map_nil, List.cons_append, List.nil_append, decide_eq_true_eq, Bool.not_eq_true', decide_eq_false_iff_not, Bool.true_eq_false, Bool.false_eq_true, if_true, if_false, Bool.not_true, Bool.not_false, wp_jsC, wp_fmt, nI, wp_fmtN (lt18 hq)])
  rw [tJs_S (by (try simp only [sapp_len]); omega), wp_js0, oW_text (nm := "out") (by decide +kernel)]
  unfold tJe
  (try simp (disch := omega) only [WZ, WR, wp_if, wp_expr, wp_optD, wipeD, List.reduceReplicate, Nat.reduceSub, Int.reduceToNat, Int.reducePow, true_and, and_true, List.getElem?_cons_succ, List.getElem?_cons_zero, List.set_cons_succ, List.set_cons_zero, List.length_map, Int.toNat_natCast, Int.zero_add, List.map_cons, List.map_nil, List.cons_append, List.nil_append, decide_eq_true_eq, Bool.not_eq_true', decide_eq_false_iff_not, Bool.true_eq_false, Bool.false_eq_true, if_true, if_false, Bool.not_true, Bool.not_false])
  rw [wp_appendc h (by omega)]
  rfl
theorem kp_to {k : Nat} {a b : Sto} (h : Kp' k a b) (hk : a.length ≤ k) : Sub a b := fun j o e => h.2 j o (fun q => by have := (List.getElem?_eq_some_iff.mp e).1; omega) e
theorem app_loop {A : Type} {f : A → DV} {L : List A} {T : A → Str} {k l : Nat} {acc : List Str} {st : Sto} {tg : Tg} {b : Stt} {ss : Sl} {QF : PQ Fl} (P : Sl → Prop) (hP : P ss) (hk : st[k]? = some (.lst (L.map f))) (hl : st[l]? = some (.lst (acc.map DV.str))) (hkl : k ≠ l) (hlen : acc.length + L.length < 1000)
    (hb : ∀ a ∈ L, ∀ (ss : Sl) (st' : Sto) (xs : List DV), P ss → st'[l]? = some (.lst xs) → xs.length < 1000 → ∃ ss', tg (f a) ss st' = .ok ss' st' ∧ Wp (b ss' st') (fun fl st2 => ∃ ss2, fl = .nx ss2 ∧ P ss2 ∧ st2 = st'.set l (.lst (xs ++ [.str (T a)]))) NX)
    (he : ∀ (ss' : Sl) (st' : Sto), P ss' → st'[l]? = some (.lst ((acc ++ L.map T).map DV.str)) → Kp' l st st' → QF (.nx ss') st') :
    Wp (forL [(k, .lst (L.map f))] tg b (L.map f) ss st) QF NX := by
  refine for_rule (fun i ss st' => P ss ∧ st'[l]? = some (.lst ((acc ++ (L.take i).map T).map DV.str)) ∧ Kp' l st st') ⟨hP, by simpa using hl, .refl⟩ (fun i ss st' _ z => okG_one (z.2.2.2 _ _ hkl hk)) ?_ ?_
  · rintro i x ss st' hx ⟨hp, hl', kp⟩
    rw [List.getElem?_map] at hx
    cases hc : L[i]? with
    | none => rw [hc] at hx; cases hx
    | some a =>
      rw [hc] at hx
      cases hx
      have hi := (List.getElem?_eq_some_iff.mp hc).1
      obtain ⟨ss', h1, h2⟩ := hb a (List.mem_of_getElem? hc) ss st' _ hp hl' (by simp; omega)
      refine ⟨ss', st', h1, h2.mono ?_⟩
      rintro _ _ ⟨ss2, rfl, hp2, rfl⟩
      refine ⟨hp2, ?_, kp.trans .set⟩
      rw [get_set hl', take_succ' hc]
      simp
  · rintro ss st' ⟨hp, hl', kp⟩
    rw [List.length_map, List.take_length] at hl'
    exact he ss st' hp hl' kp
theorem Wk5.Ok.sum {W : Wk5} (ok : W.Ok) : ((W.rows.map rowT).map (·.length)).sum + (W.rows.map rowT).length * 1 ≤ 40000 := by
  have hb := rows_len (r := W.rows) fun w hw => ⟨(ok.rows w hw).2.1, (ok.rows w hw).2.2⟩
  have hc := ok.len
  rw [List.length_map]
  omega
theorem Wk5.rowsT (W : Wk5) : [rowT ["ins", nS W.w]] ++ W.bx.map (fun q => rowT (pW "box" q)) ++ W.gt.map (fun q => rowT (pW "gate" q)) ++ W.ou.map (fun e => rowT (oW e)) = W.rows.map rowT := by
  unfold Wk5.rows Wk5.body
  simp
  rfl
theorem ltext5_spec {W : Wk5} {st : Sto} {kb kg ko : Nat} (h : Wk5S W st kb kg ko) (ok : W.Ok) : Wp (s__law_text [W.dv kb kg ko] st) (fun r st' => Sub st st' ∧ r = .str (textT W.rows)) NX := by
  have hw : W.w < 10 ^ 9 := by have := ok.lw; omega
  have lb := ok.lb
  have lg := ok.lg
  have lo := ok.lo
  have b1 := nS_len (k := 9) (by decide) hw
  have c0 : ("ins " : Str).length = 4 := by decide
  have ek := (List.getElem?_eq_some_iff.mp h.b).1
  have eg := (List.getElem?_eq_some_iff.mp h.g).1
  have eo := (List.getElem?_eq_some_iff.mp h.o).1
  have e0 : W.dv kb kg ko = .tup [nI W.w, .ref kb, .ref kg, .ref ko] := rfl
  rw [e0]
  unfold s__law_text
  simp (disch := omega) only [WZ, WR, wp_expr, wp_optD, wipeD, List.reduceReplicate, Nat.reduceSub, Int.reduceToNat, Int.reducePow, true_and, and_true, List.getElem?_cons_succ, List.getElem?_cons_zero, List.set_cons_succ, List.set_cons_zero, List.length_map, Int.toNat_natCast, Int.zero_add, List.map_cons, List.map_nil, List.cons_append, List.nil_append, decide_eq_true_eq, Bool.not_eq_true', decide_eq_false_iff_not, Bool.true_eq_false, Bool.false_eq_true, if_true, if_false, Bool.not_true, Bool.not_false, at0, nI, wp_strN (lt18 hw)]
  rw [wp_addS (by omega), oW_text (nm := "ins") (by decide +kernel)]
  simp (disch := omega) only [WZ, WR, wp_expr, wp_optD, wipeD, List.reduceReplicate, Nat.reduceSub, Int.reduceToNat, Int.reducePow, true_and, and_true, List.getElem?_cons_succ, List.getElem?_cons_zero, List.set_cons_succ, List.set_cons_zero, List.length_map, Int.toNat_natCast, Int.zero_add, List.map_cons, List.map_nil, List.cons_append, List.nil_append, decide_eq_true_eq, Bool.not_eq_true', decide_eq_false_iff_not, Bool.true_eq_false, Bool.false_eq_true, if_true, if_false, Bool.not_true, Bool.not_false]
  refine wp_allocN fun st1 l s1 l1 m1 g1 => ?_
  (try simp (disch := omega) only [WZ, WR, wp_if, wp_expr, wp_optD, wipeD, List.reduceReplicate, Nat.reduceSub, Int.reduceToNat, Int.reducePow, true_and, and_true, List.getElem?_cons_succ, List.getElem?_cons_zero, List.set_cons_succ, List.set_cons_zero, List.length_map, Int.toNat_natCast, Int.zero_add, List.map_cons, List.map_nil, List.cons_append, List.nil_append, decide_eq_true_eq, Bool.not_eq_true', decide_eq_false_iff_not, Bool.true_eq_false, Bool.false_eq_true, if_true, if_false, Bool.not_true, Bool.not_false, at1, tIy_R (s1 _ _ h.b)])
  refine app_loop (A := Nat × Nat) (f := kD) (T := fun q => rowT (pW "box" q)) (acc := [rowT ["ins", nS W.w]]) (fun ss => ∃ o2 o3, ss = [some (.tup [.int (W.w : Int), .ref kb, .ref kg, .ref ko]), some (.ref l), o2, o3, none, none]) ⟨none, none, rfl⟩ (s1 _ _ h.b) g1 (by omega) (by simp; omega) ?_ ?_
  · rintro q hq _ st' xs ⟨o2, o3, rfl⟩ hx hxl
    refine ⟨_, rfl, ?_⟩
    refine (lt_L1 hx hxl (ok.sb q hq)).mono ?_
    rintro _ _ ⟨rfl, rfl⟩
    exact ⟨_, rfl, ⟨_, _, rfl⟩, rfl⟩
  rintro _ st2 ⟨o2, o3, rfl⟩ g2 k2
  have hg2 := k2.2 _ _ (by omega) (s1 _ _ h.g)
  have ho2 := k2.2 _ _ (by omega) (s1 _ _ h.o)
  (try simp (disch := omega) only [WZ, WR, wp_if, wp_expr, wp_optD, wipeD, List.reduceReplicate, Nat.reduceSub, Int.reduceToNat, Int.reducePow, true_and, and_true, List.getElem?_cons_succ, List.getElem?_cons_zero, List.set_cons_succ, List.set_cons_zero, List.length_map, Int.toNat_natCast, Int.zero_add, List.map_cons, List.map_nil, List.cons_append, List.nil_append, decide_eq_true_eq, Bool.not_eq_true', decide_eq_false_iff_not, Bool.true_eq_false, Bool.false_eq_true, if_true, if_false, Bool.not_true, Bool.not_false, at2, tIy_R hg2])
  refine app_loop (A := Nat × Nat) (f := kD) (T := fun q => rowT (pW "gate" q)) (fun ss => ∃ o2 o3 o4 o5, ss = [some (.tup [.int (W.w : Int), .ref kb, .ref kg, .ref ko]), some (.ref l), o2, o3, o4, o5]) ⟨o2, o3, none, none, rfl⟩ hg2 g2 (by omega) (by simp; omega) ?_ ?_
  · rintro q hq _ st' xs ⟨o2, o3, o4, o5, rfl⟩ hx hxl
    refine ⟨_, rfl, ?_⟩
    refine (lt_L2 hx hxl (ok.sg q hq)).mono ?_
    rintro _ _ ⟨rfl, rfl⟩
    exact ⟨_, rfl, ⟨_, _, _, _, rfl⟩, rfl⟩
  rintro _ st3 ⟨o2, o3, o4, o5, rfl⟩ g3 k3
  have ho3 := k3.2 _ _ (by omega) ho2
  (try simp (disch := omega) only [WZ, WR, wp_if, wp_expr, wp_optD, wipeD, List.reduceReplicate, Nat.reduceSub, Int.reduceToNat, Int.reducePow, true_and, and_true, List.getElem?_cons_succ, List.getElem?_cons_zero, List.set_cons_succ, List.set_cons_zero, List.length_map, Int.toNat_natCast, Int.zero_add, List.map_cons, List.map_nil, List.cons_append, List.nil_append, decide_eq_true_eq, Bool.not_eq_true', decide_eq_false_iff_not, Bool.true_eq_false, Bool.false_eq_true, if_true, if_false, Bool.not_true, Bool.not_false, at3, tIy_R ho3])
  refine app_loop (A := Nat) (f := nI) (T := fun q => rowT (oW q)) (fun ss => ∃ o2 o3 o4 o5, ss = [some (.tup [.int (W.w : Int), .ref kb, .ref kg, .ref ko]), some (.ref l), o2, o3, o4, o5]) ⟨o2, o3, o4, o5, rfl⟩ ho3 g3 (by omega) (by simp; omega) ?_ ?_
  · rintro q hq _ st' xs ⟨o2, o3, o4, o5, rfl⟩ hx hxl
    refine ⟨_, rfl, ?_⟩
    refine (lt_L3 hx hxl (ok.so q hq)).mono ?_
    rintro _ _ ⟨rfl, rfl⟩
    exact ⟨_, rfl, ⟨_, _, _, _, rfl⟩, rfl⟩
  rintro _ st4 ⟨o2, o3, o4, o5, rfl⟩ g4 k4
  rw [W.rowsT] at g4
  (try simp (disch := omega) only [WZ, WR, wp_if, wp_expr, wp_optD, wipeD, List.reduceReplicate, Nat.reduceSub, Int.reduceToNat, Int.reducePow, true_and, and_true, List.getElem?_cons_succ, List.getElem?_cons_zero, List.set_cons_succ, List.set_cons_zero, List.length_map, Int.toNat_natCast, Int.zero_add, List.map_cons, List.map_nil, List.cons_append, List.nil_append, decide_eq_true_eq, Bool.not_eq_true', decide_eq_false_iff_not, Bool.true_eq_false, Bool.false_eq_true, if_true, if_false, Bool.not_true, Bool.not_false, tMt_S])
  have hs := ok.sum
  rw [wp_joinR g4 (by have e1 : ("\n" : Str).length = 1 := rfl; rw [e1]; omega)]
  exact ⟨kp_to ((Kp'.sub s1).trans (k2.trans (k3.trans k4))) l1, rfl⟩
theorem wtext_spec {W : Wk5} {st : Sto} {kb kg ko : Nat} (h : Wk5S W st kb kg ko) (ok : W.Ok) : Wp (s_work_text [W.dv kb kg ko] st) (fun r st' => Sub st st' ∧ r = .str (textT W.rows)) NX := by
  have hw : W.w < 10 ^ 9 := by have := ok.lw; omega
  have lb := ok.lb
  have lg := ok.lg
  have lo := ok.lo
  have b1 := nS_len (k := 9) (by decide) hw
  have c0 : ("ins " : Str).length = 4 := by decide
  have ek := (List.getElem?_eq_some_iff.mp h.b).1
  have eg := (List.getElem?_eq_some_iff.mp h.g).1
  have eo := (List.getElem?_eq_some_iff.mp h.o).1
  have e0 : W.dv kb kg ko = .tup [nI W.w, .ref kb, .ref kg, .ref ko] := rfl
  rw [e0]
  unfold s_work_text
  simp (disch := omega) only [WZ, WR, wp_expr, wp_optD, wipeD, List.reduceReplicate, Nat.reduceSub, Int.reduceToNat, Int.reducePow, true_and, and_true, List.getElem?_cons_succ, List.getElem?_cons_zero, List.set_cons_succ, List.set_cons_zero, List.length_map, Int.toNat_natCast, Int.zero_add, List.map_cons, List.map_nil, List.cons_append, List.nil_append, decide_eq_true_eq, Bool.not_eq_true', decide_eq_false_iff_not, Bool.true_eq_false, Bool.false_eq_true, if_true, if_false, Bool.not_true, Bool.not_false, tG2_T (xs := [nI W.w, .ref kb, .ref kg, .ref ko]) (is := [1, 2, 3, 4]) rfl]
  simp only [setAll]
  simp (disch := omega) only [WZ, WR, wp_expr, wp_optD, wipeD, List.reduceReplicate, Nat.reduceSub, Int.reduceToNat, Int.reducePow, true_and, and_true, List.getElem?_cons_succ, List.getElem?_cons_zero, List.set_cons_succ, List.set_cons_zero, List.length_map, Int.toNat_natCast, Int.zero_add, List.map_cons, List.map_nil, List.cons_append, List.nil_append, decide_eq_true_eq, Bool.not_eq_true', decide_eq_false_iff_not, Bool.true_eq_false, Bool.false_eq_true, if_true, if_false, Bool.not_true, Bool.not_false, wp_js, wp_jsC]
  rw [tJs_S (by rw [e_app]; omega), e_app]
  simp (disch := omega) only [WZ, WR, wp_expr, wp_optD, wipeD, List.reduceReplicate, Nat.reduceSub, Int.reduceToNat, Int.reducePow, true_and, and_true, List.getElem?_cons_succ, List.getElem?_cons_zero, List.set_cons_succ, List.set_cons_zero, List.length_map, Int.toNat_natCast, Int.zero_add, List.map_cons, List.map_nil, List.cons_append, List.nil_append, decide_eq_true_eq, Bool.not_eq_true', decide_eq_false_iff_not, Bool.true_eq_false, Bool.false_eq_true, if_true, if_false, Bool.not_true, Bool.not_false, wp_jsC, wp_fmt, nI, wp_fmtN (lt18 hw)]
  rw [tJs_S (by (try simp only [sapp_len]); omega), wp_js0, oW_text (nm := "ins") (by decide +kernel)]
  unfold tJe
  simp (disch := omega) only [WZ, WR, wp_expr, wp_optD, wipeD, List.reduceReplicate, Nat.reduceSub, Int.reduceToNat, Int.reducePow, true_and, and_true, List.getElem?_cons_succ, List.getElem?_cons_zero, List.set_cons_succ, List.set_cons_zero, List.length_map, Int.toNat_natCast, Int.zero_add, List.map_cons, List.map_nil, List.cons_append, List.nil_append, decide_eq_true_eq, Bool.not_eq_true', decide_eq_false_iff_not, Bool.true_eq_false, Bool.false_eq_true, if_true, if_false, Bool.not_true, Bool.not_false]
  refine wp_allocN fun st1 l s1 l1 m1 g1 => ?_
  (try simp (disch := omega) only [WZ, WR, wp_if, wp_expr, wp_optD, wipeD, List.reduceReplicate, Nat.reduceSub, Int.reduceToNat, Int.reducePow, true_and, and_true, List.getElem?_cons_succ, List.getElem?_cons_zero, List.set_cons_succ, List.set_cons_zero, List.length_map, Int.toNat_natCast, Int.zero_add, List.map_cons, List.map_nil, List.cons_append, List.nil_append, decide_eq_true_eq, Bool.not_eq_true', decide_eq_false_iff_not, Bool.true_eq_false, Bool.false_eq_true, if_true, if_false, Bool.not_true, Bool.not_false, tIy_R (s1 _ _ h.b)])
  refine app_loop (A := Nat × Nat) (f := kD) (T := fun q => rowT (pW "box" q)) (acc := [rowT ["ins", nS W.w]]) (fun ss => ∃ o6 o7, ss = [some (.tup [.int (W.w : Int), .ref kb, .ref kg, .ref ko]), some (.int (W.w : Int)), some (.ref kb), some (.ref kg), some (.ref ko), some (.ref l), o6, o7, none, none]) ⟨none, none, rfl⟩ (s1 _ _ h.b) g1 (by omega) (by simp; omega) ?_ ?_
  · rintro q hq _ st' xs ⟨o6, o7, rfl⟩ hx hxl
    refine ⟨_, rfl, ?_⟩
    refine (wt_L1 hx hxl (ok.sb q hq)).mono ?_
    rintro _ _ ⟨rfl, rfl⟩
    exact ⟨_, rfl, ⟨_, _, rfl⟩, rfl⟩
  rintro _ st2 ⟨o6, o7, rfl⟩ g2 k2
  have hg2 := k2.2 _ _ (by omega) (s1 _ _ h.g)
  have ho2 := k2.2 _ _ (by omega) (s1 _ _ h.o)
  (try simp (disch := omega) only [WZ, WR, wp_if, wp_expr, wp_optD, wipeD, List.reduceReplicate, Nat.reduceSub, Int.reduceToNat, Int.reducePow, true_and, and_true, List.getElem?_cons_succ, List.getElem?_cons_zero, List.set_cons_succ, List.set_cons_zero, List.length_map, Int.toNat_natCast, Int.zero_add, List.map_cons, List.map_nil, List.cons_append, List.nil_append, decide_eq_true_eq, Bool.not_eq_true', decide_eq_false_iff_not, Bool.true_eq_false, Bool.false_eq_true, if_true, if_false, Bool.not_true, Bool.not_false, tIy_R hg2])
  refine app_loop (A := Nat × Nat) (f := kD) (T := fun q => rowT (pW "gate" q)) (fun ss => ∃ o6 o7 o8 o9, ss = [some (.tup [.int (W.w : Int), .ref kb, .ref kg, .ref ko]), some (.int (W.w : Int)), some (.ref kb), some (.ref kg), some (.ref ko), some (.ref l), o6, o7, o8, o9]) ⟨o6, o7, none, none, rfl⟩ hg2 g2 (by omega) (by simp; omega) ?_ ?_
  · rintro q hq _ st' xs ⟨o6, o7, o8, o9, rfl⟩ hx hxl
    refine ⟨_, rfl, ?_⟩
    refine (wt_L2 hx hxl (ok.sg q hq)).mono ?_
    rintro _ _ ⟨rfl, rfl⟩
    exact ⟨_, rfl, ⟨_, _, _, _, rfl⟩, rfl⟩
  rintro _ st3 ⟨o6, o7, o8, o9, rfl⟩ g3 k3
  have ho3 := k3.2 _ _ (by omega) ho2
  (try simp (disch := omega) only [WZ, WR, wp_if, wp_expr, wp_optD, wipeD, List.reduceReplicate, Nat.reduceSub, Int.reduceToNat, Int.reducePow, true_and, and_true, List.getElem?_cons_succ, List.getElem?_cons_zero, List.set_cons_succ, List.set_cons_zero, List.length_map, Int.toNat_natCast, Int.zero_add, List.map_cons, List.map_nil, List.cons_append, List.nil_append, decide_eq_true_eq, Bool.not_eq_true', decide_eq_false_iff_not, Bool.true_eq_false, Bool.false_eq_true, if_true, if_false, Bool.not_true, Bool.not_false, tIy_R ho3])
  refine app_loop (A := Nat) (f := nI) (T := fun q => rowT (oW q)) (fun ss => ∃ o6 o7 o8 o9, ss = [some (.tup [.int (W.w : Int), .ref kb, .ref kg, .ref ko]), some (.int (W.w : Int)), some (.ref kb), some (.ref kg), some (.ref ko), some (.ref l), o6, o7, o8, o9]) ⟨o6, o7, o8, o9, rfl⟩ ho3 g3 (by omega) (by simp; omega) ?_ ?_
  · rintro q hq _ st' xs ⟨o6, o7, o8, o9, rfl⟩ hx hxl
    refine ⟨_, rfl, ?_⟩
    refine (wt_L3 hx hxl (ok.so q hq)).mono ?_
    rintro _ _ ⟨rfl, rfl⟩
    exact ⟨_, rfl, ⟨_, _, _, _, rfl⟩, rfl⟩
  rintro _ st4 ⟨o6, o7, o8, o9, rfl⟩ g4 k4
  rw [W.rowsT] at g4
  (try simp (disch := omega) only [WZ, WR, wp_if, wp_expr, wp_optD, wipeD, List.reduceReplicate, Nat.reduceSub, Int.reduceToNat, Int.reducePow, true_and, and_true, List.getElem?_cons_succ, List.getElem?_cons_zero, List.set_cons_succ, List.set_cons_zero, List.length_map, Int.toNat_natCast, Int.zero_add, List.map_cons, List.map_nil, List.cons_append, List.nil_append, decide_eq_true_eq, Bool.not_eq_true', decide_eq_false_iff_not, Bool.true_eq_false, Bool.false_eq_true, if_true, if_false, Bool.not_true, Bool.not_false, tMt_S])
  have hs := ok.sum
  rw [wp_joinR g4 (by have e1 : ("\n" : Str).length = 1 := rfl; rw [e1]; omega)]
  exact ⟨kp_to ((Kp'.sub s1).trans (k2.trans (k3.trans k4))) l1, rfl⟩

def pN (p : Nat × Nat) : DV := .tup [.int (p.1 : Int), .int (p.2 : Int)]
theorem whole_spec {i : Int} {st : Sto} : Wp (s__law_whole [.int i] st) (fun v st' => st' = st ∧ v = .bl true) NX := by
  unfold s__law_whole
  (try simp (disch := omega) only [WZ, WR, wp_if, wp_expr, wp_optD, wipeD, List.reduceReplicate, Nat.reduceSub, Int.reduceToNat, Int.reducePow, true_and, and_true, List.getElem?_cons_succ, List.getElem?_cons_zero, List.set_cons_succ, List.set_cons_zero, List.length_map, Int.toNat_natCast, Int.zero_add, List.map_cons, List.map_nil, List.cons_append, List.nil_append, decide_eq_true_eq, Bool.not_eq_true', decide_eq_false_iff_not, Bool.true_eq_false, Bool.false_eq_true, if_true, if_false, Bool.not_true, Bool.not_false])
theorem wp_wholeI {i : Int} {st : Sto} {Q : PQ DV} {E : XQ} (h : Q (.bl true) st) : Wp (s__law_whole [.int i] st) Q E := (whole_spec).imp (fun v st' ⟨h1, h2⟩ => by subst h1; subst h2; exact h) (fun _ _ h => h.elim)
theorem ends_T {xs : List Nat} {n : Nat} {st : Sto} (hx : ∀ x ∈ xs, x < 2 * n) (hl : xs.length ≤ 1000000) : Wp (s__law_ends [.tup (xs.map nI), .int (n : Int)] st) (fun v st' => Sub st st' ∧ v = .bl true) NX := by
  unfold s__law_ends
  (try simp (disch := omega) only [WZ, WR, wp_if, wp_expr, wp_optD, wipeD, List.reduceReplicate, Nat.reduceSub, Int.reduceToNat, Int.reducePow, true_and, and_true, List.getElem?_cons_succ, List.getElem?_cons_zero, List.set_cons_succ, List.set_cons_zero, List.length_map, Int.toNat_natCast, Int.zero_add, List.map_cons, List.map_nil, List.cons_append, List.nil_append, decide_eq_true_eq, Bool.not_eq_true', decide_eq_false_iff_not, Bool.true_eq_false, Bool.false_eq_true, if_true, if_false, Bool.not_true, Bool.not_false])
  refine lcn_mapG DV.bl (fun _ => true) (fun x st' hm s => ⟨_, rfl, ?_⟩) (fun _ _ => okG_nil) fun st1 k1 sub1 l1 m1 h1 => ?_
  · have := hx x hm
    unfold nI
    (try simp (disch := omega) only [WZ, WR, wp_if, wp_expr, wp_optD, wipeD, List.reduceReplicate, Nat.reduceSub, Int.reduceToNat, Int.reducePow, true_and, and_true, List.getElem?_cons_succ, List.getElem?_cons_zero, List.set_cons_succ, List.set_cons_zero, List.length_map, Int.toNat_natCast, Int.zero_add, List.map_cons, List.map_nil, List.cons_append, List.nil_append, decide_eq_true_eq, Bool.not_eq_true', decide_eq_false_iff_not, Bool.true_eq_false, Bool.false_eq_true, if_true, if_false, Bool.not_true, Bool.not_false])
    refine wp_wholeI ?_
    (try simp (disch := omega) only [WZ, WR, wp_if, wp_expr, wp_optD, wipeD, List.reduceReplicate, Nat.reduceSub, Int.reduceToNat, Int.reducePow, true_and, and_true, List.getElem?_cons_succ, List.getElem?_cons_zero, List.set_cons_succ, List.set_cons_zero, List.length_map, Int.toNat_natCast, Int.zero_add, List.map_cons, List.map_nil, List.cons_append, List.nil_append, decide_eq_true_eq, Bool.not_eq_true', decide_eq_false_iff_not, Bool.true_eq_false, Bool.false_eq_true, if_true, if_false, Bool.not_true, Bool.not_false])
    exact ⟨by simp; omega, .refl⟩
  · (try simp (disch := omega) only [WZ, WR, wp_if, wp_expr, wp_optD, wipeD, List.reduceReplicate, Nat.reduceSub, Int.reduceToNat, Int.reducePow, true_and, and_true, List.getElem?_cons_succ, List.getElem?_cons_zero, List.set_cons_succ, List.set_cons_zero, List.length_map, Int.toNat_natCast, Int.zero_add, List.map_cons, List.map_nil, List.cons_append, List.nil_append, decide_eq_true_eq, Bool.not_eq_true', decide_eq_false_iff_not, Bool.true_eq_false, Bool.false_eq_true, if_true, if_false, Bool.not_true, Bool.not_false, wp_allR h1, all_true])
    exact sub1
theorem ends_R {xs : List Nat} {k n : Nat} {st : Sto} (hk : st[k]? = some (.lst (xs.map nI))) (hx : ∀ x ∈ xs, x < 2 * n) (hl : xs.length ≤ 1000000) : Wp (s__law_ends [.ref k, .int (n : Int)] st) (fun v st' => Sub st st' ∧ v = .bl true) NX := by
  unfold s__law_ends
  (try simp (disch := omega) only [WZ, WR, wp_if, wp_expr, wp_optD, wipeD, List.reduceReplicate, Nat.reduceSub, Int.reduceToNat, Int.reducePow, true_and, and_true, List.getElem?_cons_succ, List.getElem?_cons_zero, List.set_cons_succ, List.set_cons_zero, List.length_map, Int.toNat_natCast, Int.zero_add, List.map_cons, List.map_nil, List.cons_append, List.nil_append, decide_eq_true_eq, Bool.not_eq_true', decide_eq_false_iff_not, Bool.true_eq_false, Bool.false_eq_true, if_true, if_false, Bool.not_true, Bool.not_false, tIy_R hk])
  refine lcn_mapG DV.bl (fun _ => true) (fun x st' hm s => ⟨_, rfl, ?_⟩) (fun st' s => okG_one (s _ _ hk)) fun st1 k1 sub1 l1 m1 h1 => ?_
  · have := hx x hm
    unfold nI
    (try simp (disch := omega) only [WZ, WR, wp_if, wp_expr, wp_optD, wipeD, List.reduceReplicate, Nat.reduceSub, Int.reduceToNat, Int.reducePow, true_and, and_true, List.getElem?_cons_succ, List.getElem?_cons_zero, List.set_cons_succ, List.set_cons_zero, List.length_map, Int.toNat_natCast, Int.zero_add, List.map_cons, List.map_nil, List.cons_append, List.nil_append, decide_eq_true_eq, Bool.not_eq_true', decide_eq_false_iff_not, Bool.true_eq_false, Bool.false_eq_true, if_true, if_false, Bool.not_true, Bool.not_false])
    refine wp_wholeI ?_
    (try simp (disch := omega) only [WZ, WR, wp_if, wp_expr, wp_optD, wipeD, List.reduceReplicate, Nat.reduceSub, Int.reduceToNat, Int.reducePow, true_and, and_true, List.getElem?_cons_succ, List.getElem?_cons_zero, List.set_cons_succ, List.set_cons_zero, List.length_map, Int.toNat_natCast, Int.zero_add, List.map_cons, List.map_nil, List.cons_append, List.nil_append, decide_eq_true_eq, Bool.not_eq_true', decide_eq_false_iff_not, Bool.true_eq_false, Bool.false_eq_true, if_true, if_false, Bool.not_true, Bool.not_false])
    exact ⟨by simp; omega, .refl⟩
  · (try simp (disch := omega) only [WZ, WR, wp_if, wp_expr, wp_optD, wipeD, List.reduceReplicate, Nat.reduceSub, Int.reduceToNat, Int.reducePow, true_and, and_true, List.getElem?_cons_succ, List.getElem?_cons_zero, List.set_cons_succ, List.set_cons_zero, List.length_map, Int.toNat_natCast, Int.zero_add, List.map_cons, List.map_nil, List.cons_append, List.nil_append, decide_eq_true_eq, Bool.not_eq_true', decide_eq_false_iff_not, Bool.true_eq_false, Bool.false_eq_true, if_true, if_false, Bool.not_true, Bool.not_false, wp_allR h1, all_true])
    exact sub1

theorem formed_spec {w kb kg ko kf : Nat} {G : List (Nat × Nat)} {O : List Nat} {B : List (Int × Int)} {fs : List Int} {st : Sto}
    (hb : st[kb]? = some (.lst (B.map pr))) (hg : st[kg]? = some (.lst (G.map pN))) (ho : st[ko]? = some (.lst (O.map nI))) (hf : st[kf]? = some (.lst (fs.map DV.int)))
    (og : ∀ (i : Nat) (p : Nat × Nat), G[i]? = some p → p.1 < 2 * (1 + w + fs.length + i) ∧ p.2 < 2 * (1 + w + fs.length + i)) (oo : ∀ e ∈ O, e < 2 * (1 + w + fs.length + G.length)) (bf : B.map (·.1) = fs) (ob : ∀ p ∈ B, ∃ y : Nat, p.2 = (y : Int) ∧ y < 2 * (1 + w + fs.length + G.length)) (lG : G.length ≤ 1000000) (lf : fs.length ≤ 100000) (lO : O.length ≤ 1000000) :
    Wp (s__law_formed [.tup [.int (w : Int), .ref kb, .ref kg, .ref ko], .int (w : Int), .ref kf, .int (O.length : Int)] st) (fun v st' => Sub st st' ∧ v = .bl true) NX := by
  have lB : B.length = fs.length := by rw [← bf, List.length_map]
  unfold s__law_formed
  simp (disch := omega) only [WZ, WR, wp_expr, wp_optD, wipeD, List.reduceReplicate, Nat.reduceSub, Int.reduceToNat, Int.reducePow, true_and, and_true, List.getElem?_cons_succ, List.getElem?_cons_zero, List.set_cons_succ, List.set_cons_zero, List.length_map, Int.toNat_natCast, Int.zero_add, List.map_cons, List.map_nil, List.cons_append, List.nil_append, decide_eq_true_eq, Bool.not_eq_true', decide_eq_false_iff_not, Bool.true_eq_false, Bool.false_eq_true, if_true, if_false, Bool.not_true, Bool.not_false]
  refine Wp.mono (Q := fun fl st' => st' = st ∧ fl = .nx [some (.tup [.int (w : Int), .ref kb, .ref kg, .ref ko]), some (.int (w : Int)), some (.ref kf), some (.int (O.length : Int)), none, none, none, none, none]) ?_ ?_
  · rw [wp_if]
    (try simp (disch := omega) only [WZ, WR, wp_if, wp_expr, wp_optD, wipeD, List.reduceReplicate, Nat.reduceSub, Int.reduceToNat, Int.reducePow, true_and, and_true, List.getElem?_cons_succ, List.getElem?_cons_zero, List.set_cons_succ, List.set_cons_zero, List.length_map, Int.toNat_natCast, Int.zero_add, List.map_cons, List.map_nil, List.cons_append, List.nil_append, decide_eq_true_eq, Bool.not_eq_true', decide_eq_false_iff_not, Bool.true_eq_false, Bool.false_eq_true, if_true, if_false, Bool.not_true, Bool.not_false, List.length_cons, List.length_nil])
    refine wp_wholeI ?_
    (try simp (disch := omega) only [WZ, WR, wp_if, wp_expr, wp_optD, wipeD, List.reduceReplicate, Nat.reduceSub, Int.reduceToNat, Int.reducePow, true_and, and_true, List.getElem?_cons_succ, List.getElem?_cons_zero, List.set_cons_succ, List.set_cons_zero, List.length_map, Int.toNat_natCast, Int.zero_add, List.map_cons, List.map_nil, List.cons_append, List.nil_append, decide_eq_true_eq, Bool.not_eq_true', decide_eq_false_iff_not, Bool.true_eq_false, Bool.false_eq_true, if_true, if_false, Bool.not_true, Bool.not_false])
    rw [if_neg (fun h => h trivial)]
    trivial
  rintro _ _ ⟨rfl, rfl⟩
  rename_i st
  simp (disch := omega) only [WZ, WR, wp_expr, wp_optD, wipeD, List.reduceReplicate, Nat.reduceSub, Int.reduceToNat, Int.reducePow, true_and, and_true, List.getElem?_cons_succ, List.getElem?_cons_zero, List.set_cons_succ, List.set_cons_zero, List.length_map, Int.toNat_natCast, Int.zero_add, List.map_cons, List.map_nil, List.cons_append, List.nil_append, decide_eq_true_eq, Bool.not_eq_true', decide_eq_false_iff_not, Bool.true_eq_false, Bool.false_eq_true, if_true, if_false, Bool.not_true, Bool.not_false]
  refine Wp.mono (Q := fun fl st' => Sub st st' ∧ fl = .nx [some (.tup [.int (w : Int), .ref kb, .ref kg, .ref ko]), some (.int (w : Int)), some (.ref kf), some (.int (O.length : Int)), none, none, none, none, none]) ?_ ?_
  · rw [wp_if]
    (try simp (disch := omega) only [WZ, WR, wp_if, wp_expr, wp_optD, wipeD, List.reduceReplicate, Nat.reduceSub, Int.reduceToNat, Int.reducePow, true_and, and_true, List.getElem?_cons_succ, List.getElem?_cons_zero, List.set_cons_succ, List.set_cons_zero, List.length_map, Int.toNat_natCast, Int.zero_add, List.map_cons, List.map_nil, List.cons_append, List.nil_append, decide_eq_true_eq, Bool.not_eq_true', decide_eq_false_iff_not, Bool.true_eq_false, Bool.false_eq_true, if_true, if_false, Bool.not_true, Bool.not_false])
    rw [tLc_D (by simp)]
    refine lcn_D DV.bl (fun _ => true) (fun d st' hd s => ⟨_, rfl, ?_⟩) (fun _ _ => okG_nil) fun st1 k1 sub1 l1 m1 h1 => ?_
    · have t : tyD d st' = some "list" := by
        simp only [List.mem_cons, List.not_mem_nil, or_false] at hd
        rcases hd with rfl | rfl | rfl
        · exact tyD_R (s _ _ hb)
        · exact tyD_R (s _ _ hg)
        · exact tyD_R (s _ _ ho)
      (try simp (disch := omega) only [WZ, WR, wp_if, wp_expr, wp_optD, wipeD, List.reduceReplicate, Nat.reduceSub, Int.reduceToNat, Int.reducePow, true_and, and_true, List.getElem?_cons_succ, List.getElem?_cons_zero, List.set_cons_succ, List.set_cons_zero, List.length_map, Int.toNat_natCast, Int.zero_add, List.map_cons, List.map_nil, List.cons_append, List.nil_append, decide_eq_true_eq, Bool.not_eq_true', decide_eq_false_iff_not, Bool.true_eq_false, Bool.false_eq_true, if_true, if_false, Bool.not_true, Bool.not_false, t])
      exact .refl
    · (try simp (disch := omega) only [WZ, WR, wp_if, wp_expr, wp_optD, wipeD, List.reduceReplicate, Nat.reduceSub, Int.reduceToNat, Int.reducePow, true_and, and_true, List.getElem?_cons_succ, List.getElem?_cons_zero, List.set_cons_succ, List.set_cons_zero, List.length_map, Int.toNat_natCast, Int.zero_add, List.map_cons, List.map_nil, List.cons_append, List.nil_append, decide_eq_true_eq, Bool.not_eq_true', decide_eq_false_iff_not, Bool.true_eq_false, Bool.false_eq_true, if_true, if_false, Bool.not_true, Bool.not_false, wp_allR h1, all_true, wp_lenR (sub1 _ _ hb), wp_lenR (sub1 _ _ hf), lB])
      exact sub1
  rintro _ st1 ⟨sub1, rfl⟩
  have hb1 := sub1 _ _ hb
  have hg1 := sub1 _ _ hg
  have ho1 := sub1 _ _ ho
  have hf1 := sub1 _ _ hf
  simp (disch := omega) only [WZ, WR, wp_expr, wp_optD, wipeD, List.reduceReplicate, Nat.reduceSub, Int.reduceToNat, Int.reducePow, true_and, and_true, List.getElem?_cons_succ, List.getElem?_cons_zero, List.set_cons_succ, List.set_cons_zero, List.length_map, Int.toNat_natCast, Int.zero_add, List.map_cons, List.map_nil, List.cons_append, List.nil_append, decide_eq_true_eq, Bool.not_eq_true', decide_eq_false_iff_not, Bool.true_eq_false, Bool.false_eq_true, if_true, if_false, Bool.not_true, Bool.not_false, wp_lenR hf1, tIy_R hg1]
  have e0 : (1 : Int) + w + fs.length = ((1 + w + fs.length + 0 : Nat) : Int) := by omega
  rw [e0]
  refine for_rule (fun i ss st' => Sub st st' ∧ ∃ o5 o6 o7 o8, ss = [some (.tup [.int (w : Int), .ref kb, .ref kg, .ref ko]), some (.int (w : Int)), some (.ref kf), some (.int (O.length : Int)), some (.int ((1 + w + fs.length + i : Nat) : Int)), o5, o6, o7, o8]) ⟨sub1, _, _, _, _, rfl⟩ (fun _ _ _ _ hi => okG_one (hi.1 _ _ hg)) ?_ ?_
  · rintro i x ss st' hx ⟨sub, _, _, _, _, rfl⟩
    rw [List.getElem?_map] at hx
    cases hi : G[i]? with
    | none => rw [hi] at hx; cases hx
    | some p =>
      rw [hi] at hx
      cases hx
      obtain ⟨b1, b2⟩ := og i p hi
      refine ⟨_, _, rfl, ?_⟩
      unfold s__law_formed_L1
      have ep : pN p = .tup ([p.1, p.2].map nI) := rfl
      rw [ep]
      (try simp (disch := omega) only [WZ, WR, wp_if, wp_expr, wp_optD, wipeD, List.reduceReplicate, Nat.reduceSub, Int.reduceToNat, Int.reducePow, true_and, and_true, List.getElem?_cons_succ, List.getElem?_cons_zero, List.set_cons_succ, List.set_cons_zero, List.length_map, Int.toNat_natCast, Int.zero_add, List.map_cons, List.map_nil, List.cons_append, List.nil_append, decide_eq_true_eq, Bool.not_eq_true', decide_eq_false_iff_not, Bool.true_eq_false, Bool.false_eq_true, if_true, if_false, Bool.not_true, Bool.not_false, List.length_cons, List.length_nil])
      refine (ends_T (xs := [p.1, p.2]) (n := 1 + w + fs.length + i) (fun x hx => ?_) (by simp)).mono ?_
      · simp only [List.mem_cons, List.not_mem_nil, or_false] at hx
        rcases hx with rfl | rfl <;> assumption
      rintro _ st2 ⟨sub2, rfl⟩
      (try simp (disch := omega) only [WZ, WR, wp_if, wp_expr, wp_optD, wipeD, List.reduceReplicate, Nat.reduceSub, Int.reduceToNat, Int.reducePow, true_and, and_true, List.getElem?_cons_succ, List.getElem?_cons_zero, List.set_cons_succ, List.set_cons_zero, List.length_map, Int.toNat_natCast, Int.zero_add, List.map_cons, List.map_nil, List.cons_append, List.nil_append, decide_eq_true_eq, Bool.not_eq_true', decide_eq_false_iff_not, Bool.true_eq_false, Bool.false_eq_true, if_true, if_false, Bool.not_true, Bool.not_false])
      have e1 : ((1 + w + fs.length + i : Nat) : Int) + 1 = ((1 + w + fs.length + (i + 1) : Nat) : Int) := by omega
      rw [e1]
      exact ⟨sub.trans sub2, _, _, _, _, rfl⟩
  rintro ss st2 ⟨sub2, _, _, _, _, rfl⟩
  rw [List.length_map]
  have hf2 := sub2 _ _ hf
  have hb2 := sub2 _ _ hb
  simp (disch := omega) only [WZ, WR, wp_expr, wp_optD, wipeD, List.reduceReplicate, Nat.reduceSub, Int.reduceToNat, Int.reducePow, true_and, and_true, List.getElem?_cons_succ, List.getElem?_cons_zero, List.set_cons_succ, List.set_cons_zero, List.length_map, Int.toNat_natCast, Int.zero_add, List.map_cons, List.map_nil, List.cons_append, List.nil_append, decide_eq_true_eq, Bool.not_eq_true', decide_eq_false_iff_not, Bool.true_eq_false, Bool.false_eq_true, if_true, if_false, Bool.not_true, Bool.not_false, wp_lenR hf2]
  refine for_rule (fun i ss st' => Sub st st' ∧ ∃ o5 o6 o7 o8, ss = [some (.tup [.int (w : Int), .ref kb, .ref kg, .ref ko]), some (.int (w : Int)), some (.ref kf), some (.int (O.length : Int)), some (.int ((1 + w + fs.length + G.length : Nat) : Int)), o5, o6, o7, o8]) ⟨sub2, _, _, _, _, rfl⟩ (fun _ _ _ _ _ => okG_nil) ?_ ?_
  · rintro i x ss st' hx ⟨sub, o5, o6, o7, o8, rfl⟩
    obtain ⟨hi, rfl⟩ := irange_get hx
    have hi : i < fs.length := by simpa using hi
    have iB : i < B.length := by omega
    obtain ⟨p, hp⟩ : ∃ p, B[i]? = some p := ⟨_, List.getElem?_eq_getElem iB⟩
    have e1 : B.getD i (0, 0) = p := by rw [List.getD_eq_getElem?_getD, hp]; rfl
    have e2 : fs.getD i 0 = p.1 := by
      rw [← bf, List.getD_eq_getElem?_getD, List.getElem?_map, hp]
      rfl
    obtain ⟨y, ey, hy⟩ := ob p (List.mem_of_getElem? hp)
    have hbb := sub _ _ hb
    have hff := sub _ _ hf
    refine ⟨_, _, rfl, ?_⟩
    unfold s__law_formed_L2
    rw [Int.zero_add]
    simp (disch := omega) only [WZ, WR, wp_expr, wp_optD, wipeD, List.reduceReplicate, Nat.reduceSub, Int.reduceToNat, Int.reducePow, true_and, and_true, List.getElem?_cons_succ, List.getElem?_cons_zero, List.set_cons_succ, List.set_cons_zero, List.length_map, Int.toNat_natCast, Int.zero_add, List.map_cons, List.map_nil, List.cons_append, List.nil_append, decide_eq_true_eq, Bool.not_eq_true', decide_eq_false_iff_not, Bool.true_eq_false, Bool.false_eq_true, if_true, if_false, Bool.not_true, Bool.not_false, wp_ixR hbb, e1]
    obtain ⟨p1, p2⟩ := p
    have ey : p2 = (y : Int) := ey
    subst ey
    have e2 : fs.getD i 0 = p1 := e2
    refine Wp.mono (Q := fun fl st' => fl = .nx [some (.tup [.int (w : Int), .ref kb, .ref kg, .ref ko]), some (.int (w : Int)), some (.ref kf), some (.int (O.length : Int)), some (.int ((1 + w + fs.length + G.length : Nat) : Int)), o5, some (.int (i : Int)), some (pr (p1, (y : Int))), o8] ∧ Sub st st') ?_ ?_
    · rw [wp_if]
      (try simp (disch := omega) only [WZ, WR, wp_if, wp_expr, wp_optD, wipeD, List.reduceReplicate, Nat.reduceSub, Int.reduceToNat, Int.reducePow, true_and, and_true, List.getElem?_cons_succ, List.getElem?_cons_zero, List.set_cons_succ, List.set_cons_zero, List.length_map, Int.toNat_natCast, Int.zero_add, List.map_cons, List.map_nil, List.cons_append, List.nil_append, decide_eq_true_eq, Bool.not_eq_true', decide_eq_false_iff_not, Bool.true_eq_false, Bool.false_eq_true, if_true, if_false, Bool.not_true, Bool.not_false, wp_lenP])
      refine wp_wholeI ?_
      (try simp (disch := omega) only [WZ, WR, wp_if, wp_expr, wp_optD, wipeD, List.reduceReplicate, Nat.reduceSub, Int.reduceToNat, Int.reducePow, true_and, and_true, List.getElem?_cons_succ, List.getElem?_cons_zero, List.set_cons_succ, List.set_cons_zero, List.length_map, Int.toNat_natCast, Int.zero_add, List.map_cons, List.map_nil, List.cons_append, List.nil_append, decide_eq_true_eq, Bool.not_eq_true', decide_eq_false_iff_not, Bool.true_eq_false, Bool.false_eq_true, if_true, if_false, Bool.not_true, Bool.not_false, wp_ixR hff, e2])
      exact sub
    rintro _ st3 ⟨rfl, sub3⟩
    have ep : pr (p1, (y : Int)) = .tup [.int p1, .int (y : Int)] := rfl
    simp (disch := omega) only [WZ, WR, wp_expr, wp_optD, wipeD, List.reduceReplicate, Nat.reduceSub, Int.reduceToNat, Int.reducePow, true_and, and_true, List.getElem?_cons_succ, List.getElem?_cons_zero, List.set_cons_succ, List.set_cons_zero, List.length_map, Int.toNat_natCast, Int.zero_add, List.map_cons, List.map_nil, List.cons_append, List.nil_append, decide_eq_true_eq, Bool.not_eq_true', decide_eq_false_iff_not, Bool.true_eq_false, Bool.false_eq_true, if_true, if_false, Bool.not_true, Bool.not_false, ep]
    rw [wp_if]
    (try simp (disch := omega) only [WZ, WR, wp_if, wp_expr, wp_optD, wipeD, List.reduceReplicate, Nat.reduceSub, Int.reduceToNat, Int.reducePow, true_and, and_true, List.getElem?_cons_succ, List.getElem?_cons_zero, List.set_cons_succ, List.set_cons_zero, List.length_map, Int.toNat_natCast, Int.zero_add, List.map_cons, List.map_nil, List.cons_append, List.nil_append, decide_eq_true_eq, Bool.not_eq_true', decide_eq_false_iff_not, Bool.true_eq_false, Bool.false_eq_true, if_true, if_false, Bool.not_true, Bool.not_false])
    refine (ends_T (xs := [y]) (n := 1 + w + fs.length + G.length) (fun x hx => ?_) (by simp)).mono ?_
    · simp only [List.mem_singleton] at hx
      subst hx
      exact hy
    rintro _ st4 ⟨sub4, rfl⟩
    (try simp (disch := omega) only [WZ, WR, wp_if, wp_expr, wp_optD, wipeD, List.reduceReplicate, Nat.reduceSub, Int.reduceToNat, Int.reducePow, true_and, and_true, List.getElem?_cons_succ, List.getElem?_cons_zero, List.set_cons_succ, List.set_cons_zero, List.length_map, Int.toNat_natCast, Int.zero_add, List.map_cons, List.map_nil, List.cons_append, List.nil_append, decide_eq_true_eq, Bool.not_eq_true', decide_eq_false_iff_not, Bool.true_eq_false, Bool.false_eq_true, if_true, if_false, Bool.not_true, Bool.not_false])
    exact ⟨sub3.trans sub4, _, _, _, _, rfl⟩
  rintro ss st3 ⟨sub3, _, _, _, _, rfl⟩
  have ho3 := sub3 _ _ ho
  (try simp (disch := omega) only [WZ, WR, wp_if, wp_expr, wp_optD, wipeD, List.reduceReplicate, Nat.reduceSub, Int.reduceToNat, Int.reducePow, true_and, and_true, List.getElem?_cons_succ, List.getElem?_cons_zero, List.set_cons_succ, List.set_cons_zero, List.length_map, Int.toNat_natCast, Int.zero_add, List.map_cons, List.map_nil, List.cons_append, List.nil_append, decide_eq_true_eq, Bool.not_eq_true', decide_eq_false_iff_not, Bool.true_eq_false, Bool.false_eq_true, if_true, if_false, Bool.not_true, Bool.not_false, wp_lenR ho3])
  refine (ends_R ho3 oo lO).mono ?_
  rintro _ st4 ⟨sub4, rfl⟩
  (try simp (disch := omega) only [WZ, WR, wp_if, wp_expr, wp_optD, wipeD, List.reduceReplicate, Nat.reduceSub, Int.reduceToNat, Int.reducePow, true_and, and_true, List.getElem?_cons_succ, List.getElem?_cons_zero, List.set_cons_succ, List.set_cons_zero, List.length_map, Int.toNat_natCast, Int.zero_add, List.map_cons, List.map_nil, List.cons_append, List.nil_append, decide_eq_true_eq, Bool.not_eq_true', decide_eq_false_iff_not, Bool.true_eq_false, Bool.false_eq_true, if_true, if_false, Bool.not_true, Bool.not_false])
  exact sub3.trans sub4

def nP (n : Nat) : PyData := .int n
def kP (q : Nat × Nat) : PyData := .tuple [nP q.1, nP q.2]
theorem rd_k {st : Sto} (q : Nat × Nat) : Rd st (kD q) (kP q) := .tup (.cons (.int _) (.cons (.int _) .nil))
theorem rd_nI {st : Sto} (n : Nat) : Rd st (nI n) (nP n) := .int _
theorem sh_k (q : Nat × Nat) : Sh 1 (kP q) := .tuple fun d hd => by
  simp only [List.mem_cons, List.not_mem_nil, or_false] at hd
  rcases hd with rfl | rfl <;> exact .int _

theorem Wk5S.pr {W : Wk5} {st : Sto} {kb kg ko : Nat} (h : Wk5S W st kb kg ko) : st[kb]? = some (.lst ((W.bx.map fun q => ((q.1 : Int), (q.2 : Int))).map ML.pr)) := by
  rw [List.map_map]
  exact h.b
def Wk5.pd (W : Wk5) : PyData := .tuple [.int W.w, .list (W.bx.map kP), .list (W.gt.map kP), .list (W.ou.map nP)]
theorem Wk5S.rd {W : Wk5} {st : Sto} {kb kg ko : Nat} (h : Wk5S W st kb kg ko) : Rd st (W.dv kb kg ko) W.pd :=
  .tup (.cons (.int _) (.cons (.ref h.b (rdAll_map rd_k _)) (.cons (.ref h.g (rdAll_map rd_k _)) (.cons (.ref h.o (rdAll_map rd_nI _)) .nil))))
theorem Wk5.sh (W : Wk5) : Sh 3 W.pd := .tuple fun d hd => by
  simp only [List.mem_cons, List.not_mem_nil, or_false] at hd
  rcases hd with rfl | rfl | rfl | rfl
  · exact .int _
  · exact sh_map sh_k _
  · exact sh_map sh_k _
  · exact (sh_map (g := nP) (n := 0) (fun n => .int _) _).mono (by decide)
theorem lread5_spec {W : Wk5} {st : Sto} {kb kg ko : Nat} (h : Wk5S W st kb kg ko) (ok : W.Ok) : Wp (s__law_read [W.dv kb kg ko, .str (textT W.rows)] st) (fun v st' => v = .bl true ∧ Sub st st') NX := by
  have lb := ok.lb
  have lg := ok.lg
  have lo := ok.lo
  unfold s__law_read
  simp (disch := omega) only [WZ, WR, wp_expr, wp_optD, wipeD, List.reduceReplicate, Nat.reduceSub, Int.reduceToNat, Int.reducePow, true_and, and_true, List.getElem?_cons_succ, List.getElem?_cons_zero, List.set_cons_succ, List.set_cons_zero, List.length_map, Int.toNat_natCast, Int.zero_add, List.map_cons, List.map_nil, List.cons_append, List.nil_append, decide_eq_true_eq, Bool.not_eq_true', decide_eq_false_iff_not, Bool.true_eq_false, Bool.false_eq_true, if_true, if_false, Bool.not_true, Bool.not_false]
  refine (readwork_spec ok).mono ?_
  rintro _ st1 ⟨s1, rb, rg, ro, rfl, hl0, hl1, hl2, hr⟩
  have e0 : ∀ a b c, W.dv a b c = .tup [nI W.w, .ref a, .ref b, .ref c] := fun _ _ _ => rfl
  have h1 := h.mono s1
  simp (disch := omega) only [WZ, WR, wp_expr, wp_optD, wipeD, List.reduceReplicate, Nat.reduceSub, Int.reduceToNat, Int.reducePow, true_and, and_true, List.getElem?_cons_succ, List.getElem?_cons_zero, List.set_cons_succ, List.set_cons_zero, List.length_map, Int.toNat_natCast, Int.zero_add, List.map_cons, List.map_nil, List.cons_append, List.nil_append, decide_eq_true_eq, Bool.not_eq_true', decide_eq_false_iff_not, Bool.true_eq_false, Bool.false_eq_true, if_true, if_false, Bool.not_true, Bool.not_false, e0, at1, tIy_R h1.b]
  refine lcn_mapG (f := kD) (L := W.bx) nI Prod.fst (fun q st' hm s => ⟨_, rfl, ?_⟩) (fun st' s => okG_one (s _ _ h1.b)) fun st2 kf s2 l2 m2 g2 => ?_
  · have e1 : kD q = .tup [nI q.1, nI q.2] := rfl
    (try simp (disch := omega) only [WZ, WR, wp_if, wp_expr, wp_optD, wipeD, List.reduceReplicate, Nat.reduceSub, Int.reduceToNat, Int.reducePow, true_and, and_true, List.getElem?_cons_succ, List.getElem?_cons_zero, List.set_cons_succ, List.set_cons_zero, List.length_map, Int.toNat_natCast, Int.zero_add, List.map_cons, List.map_nil, List.cons_append, List.nil_append, decide_eq_true_eq, Bool.not_eq_true', decide_eq_false_iff_not, Bool.true_eq_false, Bool.false_eq_true, if_true, if_false, Bool.not_true, Bool.not_false, e1])
    exact .refl
  have h2 := h1.mono s2
  have hr2 := hr.mono s2
  have g2' : st2[kf]? = some (.lst ((W.bx.map fun q => (q.1 : Int)).map DV.int)) := by
    rw [List.map_map] at g2 ⊢
    exact g2
  (try simp (disch := omega) only [WZ, WR, wp_if, wp_expr, wp_optD, wipeD, List.reduceReplicate, Nat.reduceSub, Int.reduceToNat, Int.reducePow, true_and, and_true, List.getElem?_cons_succ, List.getElem?_cons_zero, List.set_cons_succ, List.set_cons_zero, List.length_map, Int.toNat_natCast, Int.zero_add, List.map_cons, List.map_nil, List.cons_append, List.nil_append, decide_eq_true_eq, Bool.not_eq_true', decide_eq_false_iff_not, Bool.true_eq_false, Bool.false_eq_true, if_true, if_false, Bool.not_true, Bool.not_false, at0, at3, nI, wp_lenR h2.o])
  refine (formed_spec (B := W.bx.map fun q => ((q.1 : Int), (q.2 : Int))) (fs := W.bx.map fun q => (q.1 : Int)) (G := W.gt) (O := W.ou) (w := W.w) hr2.pr hr2.g hr2.o g2' (fun i p hp => ?_) (fun e he => ?_) (by simp [Function.comp_def]) (fun p hp => ?_) (by omega) (by simp; omega) (by omega)).mono ?_
  · have := ok.g i p hp
    unfold Wk5.fg at this
    rw [List.length_map]
    exact this
  · have := ok.o e he
    unfold Wk5.kn Wk5.fg at this
    rw [List.length_map]
    exact this
  · obtain ⟨q, hq, rfl⟩ := List.mem_map.mp hp
    have := (ok.b q hq).2
    unfold Wk5.kn Wk5.fg at this
    refine ⟨q.2, rfl, ?_⟩
    rw [List.length_map]
    exact this
  rintro _ st3 ⟨s3, rfl⟩
  have rd1 := (hr2.mono s3).rd
  have rd2 := (h2.mono s3).rd
  rw [e0] at rd1 rd2
  unfold nI at rd1 rd2
  (try simp (disch := omega) only [WZ, WR, wp_if, wp_expr, wp_optD, wipeD, List.reduceReplicate, Nat.reduceSub, Int.reduceToNat, Int.reducePow, true_and, and_true, List.getElem?_cons_succ, List.getElem?_cons_zero, List.set_cons_succ, List.set_cons_zero, List.length_map, Int.toNat_natCast, Int.zero_add, List.map_cons, List.map_nil, List.cons_append, List.nil_append, decide_eq_true_eq, Bool.not_eq_true', decide_eq_false_iff_not, Bool.true_eq_false, Bool.false_eq_true, if_true, if_false, Bool.not_true, Bool.not_false])
  rw [wp_neT rd1 rd2 W.sh (by decide)]
  have hr3 := hr2.mono s3
  have el := s1.len
  have z : Sub st st3 := s1.trans (s2.trans s3)
  (try simp (disch := omega) only [WZ, WR, wp_if, wp_expr, wp_optD, wipeD, List.reduceReplicate, Nat.reduceSub, Int.reduceToNat, Int.reducePow, true_and, and_true, List.getElem?_cons_succ, List.getElem?_cons_zero, List.set_cons_succ, List.set_cons_zero, List.length_map, Int.toNat_natCast, Int.zero_add, List.map_cons, List.map_nil, List.cons_append, List.nil_append, decide_eq_true_eq, Bool.not_eq_true', decide_eq_false_iff_not, Bool.true_eq_false, Bool.false_eq_true, if_true, if_false, Bool.not_true, Bool.not_false, tMt_R hr3.b])
  rw [wp_appendc hr3.b (by rw [List.length_map]; omega)]
  have c2 : (st3.set rb (.lst (W.bx.map kD ++ [DV.tup [DV.int 0, DV.int 0]])))[rg]? = some (.lst (W.gt.map kD)) := by
    rw [List.getElem?_set_ne (by omega)]
    exact hr3.g
  have d2 : (st3.set rb (.lst (W.bx.map kD ++ [DV.tup [DV.int 0, DV.int 0]])))[ro]? = some (.lst (W.ou.map nI)) := by
    rw [List.getElem?_set_ne (by omega)]
    exact hr3.o
  have z2 : Sub st (st3.set rb (.lst (W.bx.map kD ++ [DV.tup [DV.int 0, DV.int 0]]))) := z.set (by omega)
  generalize st3.set rb (.lst (W.bx.map kD ++ [DV.tup [DV.int 0, DV.int 0]])) = st5 at *
  rw [tMt_R c2]
  (try simp (disch := omega) only [WZ, WR, wp_if, wp_expr, wp_optD, wipeD, List.reduceReplicate, Nat.reduceSub, Int.reduceToNat, Int.reducePow, true_and, and_true, List.getElem?_cons_succ, List.getElem?_cons_zero, List.set_cons_succ, List.set_cons_zero, List.length_map, Int.toNat_natCast, Int.zero_add, List.map_cons, List.map_nil, List.cons_append, List.nil_append, decide_eq_true_eq, Bool.not_eq_true', decide_eq_false_iff_not, Bool.true_eq_false, Bool.false_eq_true, if_true, if_false, Bool.not_true, Bool.not_false, wp_clear c2])
  have d3 : (st5.set rg (.lst []))[ro]? = some (.lst (W.ou.map nI)) := by
    rw [List.getElem?_set_ne (by omega)]
    exact d2
  have z3 : Sub st (st5.set rg (.lst [])) := z2.set (by omega)
  generalize st5.set rg (.lst []) = st6 at *
  rw [tMt_R d3]
  (try simp (disch := omega) only [WZ, WR, wp_if, wp_expr, wp_optD, wipeD, List.reduceReplicate, Nat.reduceSub, Int.reduceToNat, Int.reducePow, true_and, and_true, List.getElem?_cons_succ, List.getElem?_cons_zero, List.set_cons_succ, List.set_cons_zero, List.length_map, Int.toNat_natCast, Int.zero_add, List.map_cons, List.map_nil, List.cons_append, List.nil_append, decide_eq_true_eq, Bool.not_eq_true', decide_eq_false_iff_not, Bool.true_eq_false, Bool.false_eq_true, if_true, if_false, Bool.not_true, Bool.not_false])
  rw [wp_appendc d3 (by rw [List.length_map]; omega)]
  (try simp (disch := omega) only [WZ, WR, wp_if, wp_expr, wp_optD, wipeD, List.reduceReplicate, Nat.reduceSub, Int.reduceToNat, Int.reducePow, true_and, and_true, List.getElem?_cons_succ, List.getElem?_cons_zero, List.set_cons_succ, List.set_cons_zero, List.length_map, Int.toNat_natCast, Int.zero_add, List.map_cons, List.map_nil, List.cons_append, List.nil_append, decide_eq_true_eq, Bool.not_eq_true', decide_eq_false_iff_not, Bool.true_eq_false, Bool.false_eq_true, if_true, if_false, Bool.not_true, Bool.not_false])
  exact z3.set (by omega)

theorem nat_lt {d : Int} {m : Nat} (h0 : 0 ≤ d) (h1 : d < (m : Nat)) : ∃ n : Nat, d = n ∧ n < m := by
  obtain ⟨n, rfl⟩ := Int.eq_ofNat_of_zero_le h0
  exact ⟨n, rfl, by omega⟩
theorem Bag.setO {k l : Nat} {st : Sto} {o : DO} (h : Bag st k) (hn : k ≠ l) : Bag (st.set l o) k := by
  obtain ⟨b0, b1, h, h'⟩ := h
  exact ⟨b0, b1, by rw [List.getElem?_set_ne (Ne.symm hn)]; exact h, h'⟩
/-- a draw below m -/
theorem take_nat {k m : Nat} {st : Sto} {i : Int} (hb : Bag st k) (hi : i = (m : Nat)) (h0 : 0 < m) (h1 : m < 100000) : Wp (s__law_take [.ref k, .int i] st) (fun v st' => ∃ n : Nat, v = nI n ∧ n < m ∧ Bag st' k ∧ Kp' k st st') NX := by
  subst hi
  refine (take_spec hb (by omega) (divOk_of (by omega) (by omega))).mono ?_
  rintro _ st1 ⟨d, rfl, d0, d1, hb1, kp⟩
  obtain ⟨n, rfl, hn⟩ := nat_lt d0 d1
  exact ⟨n, rfl, hn, hb1, kp⟩
theorem ltakes_lc' {k own n : Nat} {m : Nat} {st : Sto} {ss : Sl} {QL : PQ (List DV)} {c : Nat} (hb : Bag st k) (h0 : ss[0]? = some (some (.ref k))) (h5 : ss[5]? = some (some (.int (c : Nat)))) (hown : 5 < own) (hm : m = 2 * c) (hm0 : 0 < m) (hm1 : m < 100000)
    (he : ∀ (ns : List Nat) st', ns.length = n → (∀ q ∈ ns, q < m) → Bag st' k → Kp' k st st' → QL (ns.map nI) st') :
    Wp (lcL [] [own] (gNm own) tTrue (eCall s__law_take [eVar 0, eOp mulM (eC (.int 2)) (eVar 5)]) (irange 0 n) ss st) QL NX := by
  refine lc_rule (fun i ys st' => ∃ ns : List Nat, ys = ns.map nI ∧ ns.length = i ∧ (∀ q ∈ ns, q < m) ∧ Bag st' k ∧ Kp' k st st') ⟨[], rfl, rfl, fun m hm => by simp at hm, hb, .refl⟩ (fun _ _ _ _ _ => okG_nil) ?_ ?_
  · rintro i x ys st' hx ⟨ns, rfl, rfl, hns, hb', kp⟩
    obtain ⟨_, rfl⟩ := irange_get hx
    have hv0 : ((wipeD ss [own]).set own (some (.int (0 + (ns.length : Nat)))))[0]? = some (some (.ref k)) := by
      show ((ss.set own none).set own (some (.int (0 + (ns.length : Nat)))))[0]? = _
      rw [List.getElem?_set_ne (by omega), List.getElem?_set_ne (by omega)]
      exact h0
    have hv5 : ((wipeD ss [own]).set own (some (.int (0 + (ns.length : Nat)))))[5]? = some (some (.int (c : Nat))) := by
      show ((ss.set own none).set own (some (.int (0 + (ns.length : Nat)))))[5]? = _
      rw [List.getElem?_set_ne (by omega), List.getElem?_set_ne (by omega)]
      exact h5
    refine ⟨_, st', rfl, ?_⟩
    rw [wp_tTrue, if_pos rfl]
    rw [wp_call, wp_cons, wp_var, hv0]
    simp only [tArg_app, wp_cons, wp_op, wp_c, tOp_app, wp_var]
    rw [hv5]
    (try simp (disch := omega) only [WZ, WR, wp_if, wp_expr, wp_optD, wipeD, List.reduceReplicate, Nat.reduceSub, Int.reduceToNat, Int.reducePow, true_and, and_true, List.getElem?_cons_succ, List.getElem?_cons_zero, List.set_cons_succ, List.set_cons_zero, List.length_map, Int.toNat_natCast, Int.zero_add, List.map_cons, List.map_nil, List.cons_append, List.nil_append, decide_eq_true_eq, Bool.not_eq_true', decide_eq_false_iff_not, Bool.true_eq_false, Bool.false_eq_true, if_true, if_false, Bool.not_true, Bool.not_false])
    refine (take_nat (m := m) hb' (by omega) hm0 hm1).mono ?_
    rintro _ st2 ⟨q, rfl, hq, hb2, kp2⟩
    refine ⟨ns ++ [q], by simp, by simp, fun z hz => ?_, hb2, kp.trans kp2⟩
    rcases List.mem_append.mp hz with h | h
    · exact hns z h
    · rw [List.mem_singleton] at h; rw [h]; exact hq
  · rintro ys st' ⟨ns, rfl, hl, hns, hb', kp⟩
    rw [irange_length] at hl
    exact he ns st' hl hns hb' kp
theorem lwork_spec {k w b g e : Nat} {st : Sto} (hb : Bag st k) (hw : w ≤ 1000) (hbx : b ≤ 100) (hg : g ≤ 100) (he : e ≤ 100) :
    Wp (s__law_work [.ref k, .int w, .int b, .int g, .int e] st) (fun v st' => ∃ (W : Wk5) (kb kg ko : Nat), v = W.dv kb kg ko ∧ W.Ok ∧ Wk5S W st' kb kg ko ∧ Kp' k st st') NX := by
  have hk := hb.lt
  unfold s__law_work
  (try simp (disch := omega) only [WZ, WR, wp_if, wp_expr, wp_optD, wipeD, List.reduceReplicate, Nat.reduceSub, Int.reduceToNat, Int.reducePow, true_and, and_true, List.getElem?_cons_succ, List.getElem?_cons_zero, List.set_cons_succ, List.set_cons_zero, List.length_map, Int.toNat_natCast, Int.zero_add, List.map_cons, List.map_nil, List.cons_append, List.nil_append, decide_eq_true_eq, Bool.not_eq_true', decide_eq_false_iff_not, Bool.true_eq_false, Bool.false_eq_true, if_true, if_false, Bool.not_true, Bool.not_false])
  refine wp_allocN fun st1 l s1 l1 m1 g1 => ?_
  (try simp (disch := omega) only [WZ, WR, wp_if, wp_expr, wp_optD, wipeD, List.reduceReplicate, Nat.reduceSub, Int.reduceToNat, Int.reducePow, true_and, and_true, List.getElem?_cons_succ, List.getElem?_cons_zero, List.set_cons_succ, List.set_cons_zero, List.length_map, Int.toNat_natCast, Int.zero_add, List.map_cons, List.map_nil, List.cons_append, List.nil_append, decide_eq_true_eq, Bool.not_eq_true', decide_eq_false_iff_not, Bool.true_eq_false, Bool.false_eq_true, if_true, if_false, Bool.not_true, Bool.not_false])
  refine for_rule (fun i ss st' => ∃ (G : List (Nat × Nat)) (o7 o8 : Option DV), ss = [some (.ref k), some (.int w), some (.int b), some (.int g), some (.int e), some (.int ((1 + w + b + i : Nat) : Int)), some (.ref l), o7, o8, none, none] ∧ G.length = i ∧ (∀ (j : Nat) q, G[j]? = some q → q.1 < 2 * (1 + w + b + j) ∧ q.2 < 2 * (1 + w + b + j)) ∧ st'[l]? = some (.lst (G.map kD)) ∧ Bag st' k ∧ Kp' k st st')
    ⟨[], none, none, by simp, rfl, fun j q hq => by simp at hq, g1, hb.sub s1, .sub s1⟩ (fun _ _ _ _ _ => okG_nil) ?_ ?_
  · rintro i x ss st2 hx ⟨G, o7, o8, rfl, rfl, hG, gl, hb2, kp2⟩
    obtain ⟨hi, rfl⟩ := irange_get hx
    refine ⟨_, _, rfl, ?_⟩
    unfold s__law_work_L1
    (try simp (disch := omega) only [WZ, WR, wp_if, wp_expr, wp_optD, wipeD, List.reduceReplicate, Nat.reduceSub, Int.reduceToNat, Int.reducePow, true_and, and_true, List.getElem?_cons_succ, List.getElem?_cons_zero, List.set_cons_succ, List.set_cons_zero, List.length_map, Int.toNat_natCast, Int.zero_add, List.map_cons, List.map_nil, List.cons_append, List.nil_append, decide_eq_true_eq, Bool.not_eq_true', decide_eq_false_iff_not, Bool.true_eq_false, Bool.false_eq_true, if_true, if_false, Bool.not_true, Bool.not_false])
    refine (take_nat (m := 2 * (1 + w + b + G.length)) hb2 (by omega) (by omega) (by omega)).mono ?_
    rintro _ st3 ⟨x1, rfl, hx1, hb3, kp3⟩
    (try simp (disch := omega) only [WZ, WR, wp_if, wp_expr, wp_optD, wipeD, List.reduceReplicate, Nat.reduceSub, Int.reduceToNat, Int.reducePow, true_and, and_true, List.getElem?_cons_succ, List.getElem?_cons_zero, List.set_cons_succ, List.set_cons_zero, List.length_map, Int.toNat_natCast, Int.zero_add, List.map_cons, List.map_nil, List.cons_append, List.nil_append, decide_eq_true_eq, Bool.not_eq_true', decide_eq_false_iff_not, Bool.true_eq_false, Bool.false_eq_true, if_true, if_false, Bool.not_true, Bool.not_false, tMt_R (kp3.2 _ _ (by omega) gl)])
    refine (take_nat (m := 2 * (1 + w + b + G.length)) hb3 (by omega) (by omega) (by omega)).mono ?_
    rintro _ st4 ⟨x2, rfl, hx2, hb4, kp4⟩
    have gl4 := kp4.2 _ _ (by omega) (kp3.2 _ _ (by omega) gl)
    (try simp (disch := omega) only [WZ, WR, wp_if, wp_expr, wp_optD, wipeD, List.reduceReplicate, Nat.reduceSub, Int.reduceToNat, Int.reducePow, true_and, and_true, List.getElem?_cons_succ, List.getElem?_cons_zero, List.set_cons_succ, List.set_cons_zero, List.length_map, Int.toNat_natCast, Int.zero_add, List.map_cons, List.map_nil, List.cons_append, List.nil_append, decide_eq_true_eq, Bool.not_eq_true', decide_eq_false_iff_not, Bool.true_eq_false, Bool.false_eq_true, if_true, if_false, Bool.not_true, Bool.not_false])
    rw [wp_appendc gl4 (by rw [List.length_map]; omega)]
    (try simp (disch := omega) only [WZ, WR, wp_if, wp_expr, wp_optD, wipeD, List.reduceReplicate, Nat.reduceSub, Int.reduceToNat, Int.reducePow, true_and, and_true, List.getElem?_cons_succ, List.getElem?_cons_zero, List.set_cons_succ, List.set_cons_zero, List.length_map, Int.toNat_natCast, Int.zero_add, List.map_cons, List.map_nil, List.cons_append, List.nil_append, decide_eq_true_eq, Bool.not_eq_true', decide_eq_false_iff_not, Bool.true_eq_false, Bool.false_eq_true, if_true, if_false, Bool.not_true, Bool.not_false])
    have ee : ((1 + w + b + G.length : Nat) : Int) + 1 = ((1 + w + b + (G.length + 1) : Nat) : Int) := by omega
    rw [ee]
    refine ⟨G ++ [(x1, x2)], _, _, rfl, by simp, fun j q hq => ?_, ?_, hb4.setO (by omega), (kp2.trans (kp3.trans kp4)).setN l1⟩
    · rw [List.getElem?_append] at hq
      split at hq
      · exact hG j q hq
      · next hn =>
        have hj : j = G.length := by
          have := (List.getElem?_eq_some_iff.mp hq).1
          simp at this
          omega
        subst hj
        simp at hq
        subst hq
        exact ⟨hx1, hx2⟩
    · rw [get_set gl4, List.map_append]
      rfl
  rintro ss st2 ⟨G, o7, o8, rfl, hGl, hG, gl, hb2, kp2⟩
  rw [irange_length] at hGl
  have hGl : G.length = g := by simpa using hGl
  (try simp (disch := omega) only [WZ, WR, wp_if, wp_expr, wp_optD, wipeD, List.reduceReplicate, Nat.reduceSub, Int.reduceToNat, Int.reducePow, true_and, and_true, List.getElem?_cons_succ, List.getElem?_cons_zero, List.set_cons_succ, List.set_cons_zero, List.length_map, Int.toNat_natCast, Int.zero_add, List.map_cons, List.map_nil, List.cons_append, List.nil_append, decide_eq_true_eq, Bool.not_eq_true', decide_eq_false_iff_not, Bool.true_eq_false, Bool.false_eq_true, if_true, if_false, Bool.not_true, Bool.not_false])
  refine wp_allocN fun st3 lb s3 l3 m3 g3 => ?_
  have hll := (List.getElem?_eq_some_iff.mp gl).1
  have k2l := kp2.1
  (try simp (disch := omega) only [WZ, WR, wp_if, wp_expr, wp_optD, wipeD, List.reduceReplicate, Nat.reduceSub, Int.reduceToNat, Int.reducePow, true_and, and_true, List.getElem?_cons_succ, List.getElem?_cons_zero, List.set_cons_succ, List.set_cons_zero, List.length_map, Int.toNat_natCast, Int.zero_add, List.map_cons, List.map_nil, List.cons_append, List.nil_append, decide_eq_true_eq, Bool.not_eq_true', decide_eq_false_iff_not, Bool.true_eq_false, Bool.false_eq_true, if_true, if_false, Bool.not_true, Bool.not_false])
  refine for_rule (fun i ss st' => ∃ (B : List (Nat × Nat)) (o7 o8 o10 : Option DV), ss = [some (.ref k), some (.int w), some (.int b), some (.int g), some (.int e), some (.int ((1 + w + b + g : Nat) : Int)), some (.ref l), o7, o8, some (.ref lb), o10] ∧ B.length = i ∧ (∀ q ∈ B, q.1 ≤ 1 ∧ q.2 < 2 * (1 + w + b + g)) ∧ st'[lb]? = some (.lst (B.map kD)) ∧ st'[l]? = some (.lst (G.map kD)) ∧ Bag st' k ∧ Kp' k st st')
    ⟨[], o7, o8, none, rfl, rfl, fun q hq => by simp at hq, g3, s3 _ _ gl, hb2.sub s3, kp2.trans (.sub s3)⟩ (fun _ _ _ _ _ => okG_nil) ?_ ?_
  · rintro i x ss st4 hx ⟨B, o7, o8, o10, rfl, rfl, hB, gb, gl4, hb4, kp4⟩
    obtain ⟨hi, rfl⟩ := irange_get hx
    refine ⟨_, _, rfl, ?_⟩
    unfold s__law_work_L2
    (try simp (disch := omega) only [WZ, WR, wp_if, wp_expr, wp_optD, wipeD, List.reduceReplicate, Nat.reduceSub, Int.reduceToNat, Int.reducePow, true_and, and_true, List.getElem?_cons_succ, List.getElem?_cons_zero, List.set_cons_succ, List.set_cons_zero, List.length_map, Int.toNat_natCast, Int.zero_add, List.map_cons, List.map_nil, List.cons_append, List.nil_append, decide_eq_true_eq, Bool.not_eq_true', decide_eq_false_iff_not, Bool.true_eq_false, Bool.false_eq_true, if_true, if_false, Bool.not_true, Bool.not_false])
    refine (take_nat (m := 2) hb4 (by omega) (by omega) (by omega)).mono ?_
    rintro _ st5 ⟨x1, rfl, hx1, hb5, kp5⟩
    (try simp (disch := omega) only [WZ, WR, wp_if, wp_expr, wp_optD, wipeD, List.reduceReplicate, Nat.reduceSub, Int.reduceToNat, Int.reducePow, true_and, and_true, List.getElem?_cons_succ, List.getElem?_cons_zero, List.set_cons_succ, List.set_cons_zero, List.length_map, Int.toNat_natCast, Int.zero_add, List.map_cons, List.map_nil, List.cons_append, List.nil_append, decide_eq_true_eq, Bool.not_eq_true', decide_eq_false_iff_not, Bool.true_eq_false, Bool.false_eq_true, if_true, if_false, Bool.not_true, Bool.not_false, tMt_R (kp5.2 _ _ (by omega) gb)])
    refine (take_nat (m := 2 * (1 + w + b + g)) hb5 (by omega) (by omega) (by omega)).mono ?_
    rintro _ st6 ⟨x2, rfl, hx2, hb6, kp6⟩
    have gb6 := kp6.2 _ _ (by omega) (kp5.2 _ _ (by omega) gb)
    have gl6 := kp6.2 _ _ (by omega) (kp5.2 _ _ (by omega) gl4)
    (try simp (disch := omega) only [WZ, WR, wp_if, wp_expr, wp_optD, wipeD, List.reduceReplicate, Nat.reduceSub, Int.reduceToNat, Int.reducePow, true_and, and_true, List.getElem?_cons_succ, List.getElem?_cons_zero, List.set_cons_succ, List.set_cons_zero, List.length_map, Int.toNat_natCast, Int.zero_add, List.map_cons, List.map_nil, List.cons_append, List.nil_append, decide_eq_true_eq, Bool.not_eq_true', decide_eq_false_iff_not, Bool.true_eq_false, Bool.false_eq_true, if_true, if_false, Bool.not_true, Bool.not_false])
    rw [wp_appendc gb6 (by rw [List.length_map]; omega)]
    refine ⟨B ++ [(x1, x2)], _, _, _, rfl, by simp, fun q hq => ?_, ?_, ?_, hb6.setO (by omega), (kp4.trans (kp5.trans kp6)).setN (by omega)⟩
    · rcases List.mem_append.mp hq with h | h
      · exact hB q h
      · rw [List.mem_singleton] at h
        rw [h]
        exact ⟨by show x1 ≤ 1; omega, hx2⟩
    · rw [get_set gb6, List.map_append]
      rfl
    · rw [List.getElem?_set_ne (by omega)]
      exact gl6
  rintro ss st4 ⟨B, o7, o8, o10, rfl, hBl, hB, gb, gl4, hb4, kp4⟩
  rw [irange_length] at hBl
  have hBl : B.length = b := by simpa using hBl
  (try simp (disch := omega) only [WZ, WR, wp_if, wp_expr, wp_optD, wipeD, List.reduceReplicate, Nat.reduceSub, Int.reduceToNat, Int.reducePow, true_and, and_true, List.getElem?_cons_succ, List.getElem?_cons_zero, List.set_cons_succ, List.set_cons_zero, List.length_map, Int.toNat_natCast, Int.zero_add, List.map_cons, List.map_nil, List.cons_append, List.nil_append, decide_eq_true_eq, Bool.not_eq_true', decide_eq_false_iff_not, Bool.true_eq_false, Bool.false_eq_true, if_true, if_false, Bool.not_true, Bool.not_false])
  refine ltakes_lc' (m := 2 * (1 + w + b + g)) (c := 1 + w + b + g) hb4 rfl rfl (by decide) rfl (by omega) (by omega) fun ns st5 hnl hns hb5 kp5 => ?_
  unfold tLn
  have hnl : ns.length = e := by simpa using hnl
  have kb4 := (List.getElem?_eq_some_iff.mp gb).1
  have kl4 := kp4.1
  have s6 : Sub st5 (st5 ++ [DO.lst (ns.map nI)]) := .app
  have hkn : (⟨w, B, G, ns⟩ : Wk5).kn = 1 + w + b + g := by
    show 1 + w + B.length + G.length = _
    omega
  have hfg : (⟨w, B, G, ns⟩ : Wk5).fg = 1 + w + b := by
    show 1 + w + B.length = _
    omega
  (try simp (disch := omega) only [WZ, WR, wp_if, wp_expr, wp_optD, wipeD, List.reduceReplicate, Nat.reduceSub, Int.reduceToNat, Int.reducePow, true_and, and_true, List.getElem?_cons_succ, List.getElem?_cons_zero, List.set_cons_succ, List.set_cons_zero, List.length_map, Int.toNat_natCast, Int.zero_add, List.map_cons, List.map_nil, List.cons_append, List.nil_append, decide_eq_true_eq, Bool.not_eq_true', decide_eq_false_iff_not, Bool.true_eq_false, Bool.false_eq_true, if_true, if_false, Bool.not_true, Bool.not_false])
  refine ⟨⟨w, B, G, ns⟩, lb, l, st5.length, rfl, ⟨?_, ?_, ?_, hw, ?_, ?_, ?_⟩, ⟨s6 _ _ (kp5.2 _ _ (by omega) gb), s6 _ _ (kp5.2 _ _ (by omega) gl4), get_new⟩, kp4.trans (kp5.trans (.sub s6))⟩
  · rw [hkn]; exact hB
  · rw [hfg]; exact hG
  · rw [hkn]; exact hns
  · show B.length ≤ 100; omega
  · show G.length ≤ 100; omega
  · show ns.length ≤ 100; omega

theorem shb_tup4 {n k : Nat} {a b c d : PyData} (h : ∀ e ∈ [a, b, c, d], ShB n k e) : ShB (4 * (n + 2) + 3) (k + 1) (.tuple [a, b, c, d]) := shb_tup (m := 4) (Nat.le_refl 4) h
theorem shb_n {n : Nat} (h : n < 10 ^ 9) : ShB 9 0 (nP n) := shb_int (by decide) (by decide) (by omega) (by omega)
theorem shb_k {q : Nat × Nat} (h : q.1 < 10 ^ 9 ∧ q.2 < 10 ^ 9) : ShB 25 1 (kP q) := shb_tup (n := 9) (m := 2) (Nat.le_refl 2) fun d hd => by
  simp only [List.mem_cons, List.not_mem_nil, or_false] at hd
  rcases hd with rfl | rfl
  · exact shb_n h.1
  · exact shb_n h.2

theorem shb_map {A : Type} {L : List A} {f : A → PyData} {n k m : Nat} (hm : L.length ≤ m) (h : ∀ a ∈ L, ShB n k (f a)) : ShB (m * (n + 2) + 2) (k + 1) (.list (L.map f)) := shb_list (by rw [List.length_map]; exact hm) fun d hd => by
  obtain ⟨a, ha, rfl⟩ := List.mem_map.mp hd
  exact h a ha
theorem Wk5.Ok.shw {W : Wk5} (ok : W.Ok) : Shw W.pd := by
  refine (shb_tup4 (n := 2702) (k := 2) fun e he => ?_).shw (by decide) (by decide)
  simp only [List.mem_cons, List.not_mem_nil, or_false] at he
  rcases he with rfl | rfl | rfl | rfl
  · exact (shb_n (n := W.w) (by have := ok.lw; omega)).up (by decide) (by decide)
  · exact shb_map ok.lb fun q hq => shb_k (ok.sb q hq)
  · exact shb_map ok.lg fun q hq => shb_k (ok.sg q hq)
  · exact (shb_map (f := nP) ok.lo fun q hq => shb_n (ok.so q hq)).up (by decide) (by decide)
theorem main : ∀ ns : List Int, ns.length ≤ 63 → ∃ st, s_law [.fzl (ns.map DV.int)] [] = .ok (.bl true) st := by
  intro ns hns
  have : Wp (s_law [.fzl (ns.map DV.int)] []) (fun v st => v = .bl true) NX := by
    unfold s_law
    simp (disch := omega) only [WZ, WR, wp_expr, wp_optD, wipeD, List.reduceReplicate, Nat.reduceSub, Int.reduceToNat, Int.reducePow, true_and, and_true, List.getElem?_cons_succ, List.getElem?_cons_zero, List.set_cons_succ, List.set_cons_zero, List.length_map, Int.toNat_natCast, Int.zero_add, List.map_cons, List.map_nil, List.cons_append, List.nil_append, decide_eq_true_eq, Bool.not_eq_true', decide_eq_false_iff_not, Bool.true_eq_false, Bool.false_eq_true, if_true, if_false, Bool.not_true, Bool.not_false]
    refine (bag_spec (by decide) (by decide)).mono ?_
    rintro _ st1 ⟨s1, k, rfl, l1, hb1⟩
    simp (disch := omega) only [WZ, WR, wp_expr, wp_optD, wipeD, List.reduceReplicate, Nat.reduceSub, Int.reduceToNat, Int.reducePow, true_and, and_true, List.getElem?_cons_succ, List.getElem?_cons_zero, List.set_cons_succ, List.set_cons_zero, List.length_map, Int.toNat_natCast, Int.zero_add, List.map_cons, List.map_nil, List.cons_append, List.nil_append, decide_eq_true_eq, Bool.not_eq_true', decide_eq_false_iff_not, Bool.true_eq_false, Bool.false_eq_true, if_true, if_false, Bool.not_true, Bool.not_false]
    refine (take_nat (m := 65) hb1 rfl (by decide) (by decide)).mono ?_
    rintro _ st2 ⟨c0, rfl, h0, hb2, kp2⟩
    simp (disch := omega) only [WZ, WR, wp_expr, wp_optD, wipeD, List.reduceReplicate, Nat.reduceSub, Int.reduceToNat, Int.reducePow, true_and, and_true, List.getElem?_cons_succ, List.getElem?_cons_zero, List.set_cons_succ, List.set_cons_zero, List.length_map, Int.toNat_natCast, Int.zero_add, List.map_cons, List.map_nil, List.cons_append, List.nil_append, decide_eq_true_eq, Bool.not_eq_true', decide_eq_false_iff_not, Bool.true_eq_false, Bool.false_eq_true, if_true, if_false, Bool.not_true, Bool.not_false]
    refine (take_nat (m := 6) hb2 rfl (by decide) (by decide)).mono ?_
    rintro _ st3 ⟨c1, rfl, h1, hb3, kp3⟩
    simp (disch := omega) only [WZ, WR, wp_expr, wp_optD, wipeD, List.reduceReplicate, Nat.reduceSub, Int.reduceToNat, Int.reducePow, true_and, and_true, List.getElem?_cons_succ, List.getElem?_cons_zero, List.set_cons_succ, List.set_cons_zero, List.length_map, Int.toNat_natCast, Int.zero_add, List.map_cons, List.map_nil, List.cons_append, List.nil_append, decide_eq_true_eq, Bool.not_eq_true', decide_eq_false_iff_not, Bool.true_eq_false, Bool.false_eq_true, if_true, if_false, Bool.not_true, Bool.not_false]
    refine (take_nat (m := 20) hb3 rfl (by decide) (by decide)).mono ?_
    rintro _ st4 ⟨c2, rfl, h2, hb4, kp4⟩
    simp (disch := omega) only [WZ, WR, wp_expr, wp_optD, wipeD, List.reduceReplicate, Nat.reduceSub, Int.reduceToNat, Int.reducePow, true_and, and_true, List.getElem?_cons_succ, List.getElem?_cons_zero, List.set_cons_succ, List.set_cons_zero, List.length_map, Int.toNat_natCast, Int.zero_add, List.map_cons, List.map_nil, List.cons_append, List.nil_append, decide_eq_true_eq, Bool.not_eq_true', decide_eq_false_iff_not, Bool.true_eq_false, Bool.false_eq_true, if_true, if_false, Bool.not_true, Bool.not_false]
    refine (take_nat (m := 6) hb4 rfl (by decide) (by decide)).mono ?_
    rintro _ st5 ⟨c3, rfl, h3, hb5, kp5⟩
    simp (disch := omega) only [WZ, WR, wp_expr, wp_optD, wipeD, List.reduceReplicate, Nat.reduceSub, Int.reduceToNat, Int.reducePow, true_and, and_true, List.getElem?_cons_succ, List.getElem?_cons_zero, List.set_cons_succ, List.set_cons_zero, List.length_map, Int.toNat_natCast, Int.zero_add, List.map_cons, List.map_nil, List.cons_append, List.nil_append, decide_eq_true_eq, Bool.not_eq_true', decide_eq_false_iff_not, Bool.true_eq_false, Bool.false_eq_true, if_true, if_false, Bool.not_true, Bool.not_false]
    refine wp_allocN fun st6 kc s6 l6 m6 g6 => ?_
    have hk5 := hb5.lt
    simp (disch := omega) only [WZ, WR, wp_expr, wp_optD, wipeD, List.reduceReplicate, Nat.reduceSub, Int.reduceToNat, Int.reducePow, true_and, and_true, List.getElem?_cons_succ, List.getElem?_cons_zero, List.set_cons_succ, List.set_cons_zero, List.length_map, Int.toNat_natCast, Int.zero_add, List.map_cons, List.map_nil, List.cons_append, List.nil_append, decide_eq_true_eq, Bool.not_eq_true', decide_eq_false_iff_not, Bool.true_eq_false, Bool.false_eq_true, if_true, if_false, Bool.not_true, Bool.not_false]
    refine Wp.mono (Q := fun fl st' => ∃ c1 : Nat, c1 < 41 ∧ fl = .nx [some (.fzl (ns.map DV.int)), some (.ref k), some (.ref kc), none, none, none, none, none] ∧ st'[kc]? = some (.lst [nI c0, nI c1, nI c2, nI c3])) ?_ ?_
    · (try simp (disch := omega) only [WZ, WR, wp_if, wp_expr, wp_optD, wipeD, List.reduceReplicate, Nat.reduceSub, Int.reduceToNat, Int.reducePow, true_and, and_true, List.getElem?_cons_succ, List.getElem?_cons_zero, List.set_cons_succ, List.set_cons_zero, List.length_map, Int.toNat_natCast, Int.zero_add, List.map_cons, List.map_nil, List.cons_append, List.nil_append, decide_eq_true_eq, Bool.not_eq_true', decide_eq_false_iff_not, Bool.true_eq_false, Bool.false_eq_true, if_true, if_false, Bool.not_true, Bool.not_false])
      refine (take_nat (m := 8) (hb5.sub s6) rfl (by decide) (by decide)).mono ?_
      rintro _ st7 ⟨d, rfl, hd, hb7, kp7⟩
      have g7 := kp7.2 _ _ (by omega) g6
      (try simp (disch := omega) only [WZ, WR, wp_if, wp_expr, wp_optD, wipeD, List.reduceReplicate, Nat.reduceSub, Int.reduceToNat, Int.reducePow, true_and, and_true, List.getElem?_cons_succ, List.getElem?_cons_zero, List.set_cons_succ, List.set_cons_zero, List.length_map, Int.toNat_natCast, Int.zero_add, List.map_cons, List.map_nil, List.cons_append, List.nil_append, decide_eq_true_eq, Bool.not_eq_true', decide_eq_false_iff_not, Bool.true_eq_false, Bool.false_eq_true, if_true, if_false, Bool.not_true, Bool.not_false, nI])
      split
      · refine (take_nat (m := 41) hb7 rfl (by decide) (by decide)).mono ?_
        rintro _ st8 ⟨c1', rfl, h1', hb8, kp8⟩
        have g8 := kp8.2 _ _ (by omega) g7
        refine tG2_sub ?_
        unfold ML.tSub
        (try simp (disch := omega) only [WZ, WR, wp_if, wp_expr, wp_optD, wipeD, List.reduceReplicate, Nat.reduceSub, Int.reduceToNat, Int.reducePow, true_and, and_true, List.getElem?_cons_succ, List.getElem?_cons_zero, List.set_cons_succ, List.set_cons_zero, List.length_map, Int.toNat_natCast, Int.zero_add, List.map_cons, List.map_nil, List.cons_append, List.nil_append, decide_eq_true_eq, Bool.not_eq_true', decide_eq_false_iff_not, Bool.true_eq_false, Bool.false_eq_true, if_true, if_false, Bool.not_true, Bool.not_false])
        rw [setM_R g8 (by decide) (by simp)]
        refine ⟨c1', h1', ?_⟩
        rw [get_set g8]
        rfl
      · exact ⟨c1, by omega, g7⟩
    rintro _ st7 ⟨c1', h1', rfl, g7⟩
    simp (disch := omega) only [WZ, WR, wp_expr, wp_optD, wipeD, List.reduceReplicate, Nat.reduceSub, Int.reduceToNat, Int.reducePow, true_and, and_true, List.getElem?_cons_succ, List.getElem?_cons_zero, List.set_cons_succ, List.set_cons_zero, List.length_map, Int.toNat_natCast, Int.zero_add, List.map_cons, List.map_nil, List.cons_append, List.nil_append, decide_eq_true_eq, Bool.not_eq_true', decide_eq_false_iff_not, Bool.true_eq_false, Bool.false_eq_true, if_true, if_false, Bool.not_true, Bool.not_false]
    refine (bag_spec (by decide) (by decide)).mono ?_
    rintro _ st8 ⟨s8, kx, rfl, l8, hb8⟩
    have g8 := s8 _ _ g7
    simp (disch := omega) only [WZ, WR, wp_expr, wp_optD, wipeD, List.reduceReplicate, Nat.reduceSub, Int.reduceToNat, Int.reducePow, true_and, and_true, List.getElem?_cons_succ, List.getElem?_cons_zero, List.set_cons_succ, List.set_cons_zero, List.length_map, Int.toNat_natCast, Int.zero_add, List.map_cons, List.map_nil, List.cons_append, List.nil_append, decide_eq_true_eq, Bool.not_eq_true', decide_eq_false_iff_not, Bool.true_eq_false, Bool.false_eq_true, if_true, if_false, Bool.not_true, Bool.not_false, wp_ixR g8, at0, at1, at2, at3, nI]
    refine (lwork_spec hb8 (by omega) (by omega) (by omega) (by omega)).mono ?_
    rintro _ st9 ⟨W, kb, kg, ko, rfl, ok, hW, kp9⟩
    simp (disch := omega) only [WZ, WR, wp_expr, wp_optD, wipeD, List.reduceReplicate, Nat.reduceSub, Int.reduceToNat, Int.reducePow, true_and, and_true, List.getElem?_cons_succ, List.getElem?_cons_zero, List.set_cons_succ, List.set_cons_zero, List.length_map, Int.toNat_natCast, Int.zero_add, List.map_cons, List.map_nil, List.cons_append, List.nil_append, decide_eq_true_eq, Bool.not_eq_true', decide_eq_false_iff_not, Bool.true_eq_false, Bool.false_eq_true, if_true, if_false, Bool.not_true, Bool.not_false]
    refine (bag_spec (by decide) (by decide)).mono ?_
    rintro _ st10 ⟨s10, ky, rfl, l10, hb10⟩
    simp (disch := omega) only [WZ, WR, wp_expr, wp_optD, wipeD, List.reduceReplicate, Nat.reduceSub, Int.reduceToNat, Int.reducePow, true_and, and_true, List.getElem?_cons_succ, List.getElem?_cons_zero, List.set_cons_succ, List.set_cons_zero, List.length_map, Int.toNat_natCast, Int.zero_add, List.map_cons, List.map_nil, List.cons_append, List.nil_append, decide_eq_true_eq, Bool.not_eq_true', decide_eq_false_iff_not, Bool.true_eq_false, Bool.false_eq_true, if_true, if_false, Bool.not_true, Bool.not_false]
    refine (lwork_spec (w := 2) (b := 1) (g := 3) (e := 1) hb10 (by decide) (by decide) (by decide) (by decide)).mono ?_
    rintro _ st11 ⟨V, vb, vg, vo, rfl, okV, hV, kp11⟩
    have s11 : Sub st9 st11 := kp_to ((Kp'.sub s10).trans kp11) l10
    have hW11 := hW.mono s11
    simp (disch := omega) only [WZ, WR, wp_expr, wp_optD, wipeD, List.reduceReplicate, Nat.reduceSub, Int.reduceToNat, Int.reducePow, true_and, and_true, List.getElem?_cons_succ, List.getElem?_cons_zero, List.set_cons_succ, List.set_cons_zero, List.length_map, Int.toNat_natCast, Int.zero_add, List.map_cons, List.map_nil, List.cons_append, List.nil_append, decide_eq_true_eq, Bool.not_eq_true', decide_eq_false_iff_not, Bool.true_eq_false, Bool.false_eq_true, if_true, if_false, Bool.not_true, Bool.not_false]
    refine (ltext5_spec hW11 ok).mono ?_
    rintro _ st12 ⟨s12, rfl⟩
    have hW12 := hW11.mono s12
    simp (disch := omega) only [WZ, WR, wp_expr, wp_optD, wipeD, List.reduceReplicate, Nat.reduceSub, Int.reduceToNat, Int.reducePow, true_and, and_true, List.getElem?_cons_succ, List.getElem?_cons_zero, List.set_cons_succ, List.set_cons_zero, List.length_map, Int.toNat_natCast, Int.zero_add, List.map_cons, List.map_nil, List.cons_append, List.nil_append, decide_eq_true_eq, Bool.not_eq_true', decide_eq_false_iff_not, Bool.true_eq_false, Bool.false_eq_true, if_true, if_false, Bool.not_true, Bool.not_false, wp_repr hW12.rd ok.shw]
    refine (wtext_spec hW12 ok).mono ?_
    rintro _ st13 ⟨s13, rfl⟩
    have hW13 := hW12.mono s13
    (try simp (disch := omega) only [WZ, WR, wp_if, wp_expr, wp_optD, wipeD, List.reduceReplicate, Nat.reduceSub, Int.reduceToNat, Int.reducePow, true_and, and_true, List.getElem?_cons_succ, List.getElem?_cons_zero, List.set_cons_succ, List.set_cons_zero, List.length_map, Int.toNat_natCast, Int.zero_add, List.map_cons, List.map_nil, List.cons_append, List.nil_append, decide_eq_true_eq, Bool.not_eq_true', decide_eq_false_iff_not, Bool.true_eq_false, Bool.false_eq_true, if_true, if_false, Bool.not_true, Bool.not_false, wp_repr hW13.rd ok.shw])
    refine (lread5_spec hW13 ok).mono ?_
    rintro _ st14 ⟨rfl, s14⟩
    have hV14 := ((hV.mono s12).mono s13).mono s14
    (try simp (disch := omega) only [WZ, WR, wp_if, wp_expr, wp_optD, wipeD, List.reduceReplicate, Nat.reduceSub, Int.reduceToNat, Int.reducePow, true_and, and_true, List.getElem?_cons_succ, List.getElem?_cons_zero, List.set_cons_succ, List.set_cons_zero, List.length_map, Int.toNat_natCast, Int.zero_add, List.map_cons, List.map_nil, List.cons_append, List.nil_append, decide_eq_true_eq, Bool.not_eq_true', decide_eq_false_iff_not, Bool.true_eq_false, Bool.false_eq_true, if_true, if_false, Bool.not_true, Bool.not_false])
    refine (ltext5_spec hV14 okV).mono ?_
    rintro _ st15 ⟨s15, rfl⟩
    (try simp (disch := omega) only [WZ, WR, wp_if, wp_expr, wp_optD, wipeD, List.reduceReplicate, Nat.reduceSub, Int.reduceToNat, Int.reducePow, true_and, and_true, List.getElem?_cons_succ, List.getElem?_cons_zero, List.set_cons_succ, List.set_cons_zero, List.length_map, Int.toNat_natCast, Int.zero_add, List.map_cons, List.map_nil, List.cons_append, List.nil_append, decide_eq_true_eq, Bool.not_eq_true', decide_eq_false_iff_not, Bool.true_eq_false, Bool.false_eq_true, if_true, if_false, Bool.not_true, Bool.not_false])
    refine (lread5_spec (hV14.mono s15) okV).mono ?_
    rintro _ st16 ⟨rfl, s16⟩
    (try simp (disch := omega) only [WZ, WR, wp_if, wp_expr, wp_optD, wipeD, List.reduceReplicate, Nat.reduceSub, Int.reduceToNat, Int.reducePow, true_and, and_true, List.getElem?_cons_succ, List.getElem?_cons_zero, List.set_cons_succ, List.set_cons_zero, List.length_map, Int.toNat_natCast, Int.zero_add, List.map_cons, List.map_nil, List.cons_append, List.nil_append, decide_eq_true_eq, Bool.not_eq_true', decide_eq_false_iff_not, Bool.true_eq_false, Bool.false_eq_true, if_true, if_false, Bool.not_true, Bool.not_false])
    refine (lread5_spec (((hW13.mono s14).mono s15).mono s16) ok).mono ?_
    rintro _ st17 ⟨rfl, s17⟩
    (try simp (disch := omega) only [WZ, WR, wp_if, wp_expr, wp_optD, wipeD, List.reduceReplicate, Nat.reduceSub, Int.reduceToNat, Int.reducePow, true_and, and_true, List.getElem?_cons_succ, List.getElem?_cons_zero, List.set_cons_succ, List.set_cons_zero, List.length_map, Int.toNat_natCast, Int.zero_add, List.map_cons, List.map_nil, List.cons_append, List.nil_append, decide_eq_true_eq, Bool.not_eq_true', decide_eq_false_iff_not, Bool.true_eq_false, Bool.false_eq_true, if_true, if_false, Bool.not_true, Bool.not_false])
    refine (readwork_spec ok).mono ?_
    rintro _ st18 ⟨s18, rb, rg, ro, rfl, _, _, _, hr⟩
    (try simp (disch := omega) only [WZ, WR, wp_if, wp_expr, wp_optD, wipeD, List.reduceReplicate, Nat.reduceSub, Int.reduceToNat, Int.reducePow, true_and, and_true, List.getElem?_cons_succ, List.getElem?_cons_zero, List.set_cons_succ, List.set_cons_zero, List.length_map, Int.toNat_natCast, Int.zero_add, List.map_cons, List.map_nil, List.cons_append, List.nil_append, decide_eq_true_eq, Bool.not_eq_true', decide_eq_false_iff_not, Bool.true_eq_false, Bool.false_eq_true, if_true, if_false, Bool.not_true, Bool.not_false])
    refine (wtext_spec hr ok).mono ?_
    rintro _ st19 ⟨s19, rfl⟩
    (try simp (disch := omega) only [WZ, WR, wp_if, wp_expr, wp_optD, wipeD, List.reduceReplicate, Nat.reduceSub, Int.reduceToNat, Int.reducePow, true_and, and_true, List.getElem?_cons_succ, List.getElem?_cons_zero, List.set_cons_succ, List.set_cons_zero, List.length_map, Int.toNat_natCast, Int.zero_add, List.map_cons, List.map_nil, List.cons_append, List.nil_append, decide_eq_true_eq, Bool.not_eq_true', decide_eq_false_iff_not, Bool.true_eq_false, Bool.false_eq_true, if_true, if_false, Bool.not_true, Bool.not_false])
    all_goals simp
  obtain ⟨v, st, h, rfl⟩ := this.ex
  exact ⟨st, h⟩

end LK
namespace LK
open PySem PySem.Spec PyProof.Rows L2 ML
def topS (i : Nat) : Stmt := PySem.Challenge.pw_lampforge_k65_works_written_and_read.main.body.getD i (.Pass ⟨0, 0, 0, 0⟩)
structure Txt (w : World) (K : PySem.W.Frag) (mg : Str → Option Value) : Prop where
  b_all : mg "all" = none
  b_bool : mg "bool" = none
  b_enumerate : mg "enumerate" = none
  b_int : mg "int" = none
  b_isinstance : mg "isinstance" = none
  b_len : mg "len" = none
  b_list : mg "list" = none
  b_range : mg "range" = none
  b_repr : mg "repr" = none
  b_str : mg "str" = none
  b_tuple : mg "tuple" = none
  c_FIGURES : GC K mg "FIGURES" c_FIGURES
  c_LONGEST : GC K mg "LONGEST" c_LONGEST
  ok : True
section
variable {P : Program} {w : World} {K : PySem.W.Frag} {mg : Str → Option Value} {base : Heap}
abbrev t__law_cell_at : Stmt := topS 24
theorem sc__law_cell_at : FnScope ["_law_script", "_law_k"] ["_law_script", "_law_k"] (defScope t__law_cell_at) := ⟨rfl, rfl, rfl, by decide +kernel, rfl, by decide +kernel, by decide +kernel⟩
theorem ok__law_cell_at {f : Addr} {fd : FuncData} (F : Fun K "_law_cell_at" "_law_cell_at" t__law_cell_at f fd) (T : Txt w K mg)  : FnOk P w K mg base (L2.CX P w) 1 f fd ["_law_script", "_law_k"] (spM K mg s__law_cell_at) := by
  unfold s__law_cell_at
  exact fn_ok F sc__law_cell_at fun cdv A outer s H E hr =>
  (rss_cons (rs_if (rt_cmp opm_lt (re_var (i := 1) rfl (.inl rfl)) (re_callB cm_len (by rfl) T.b_len bb_len (ra_cons (re_var (i := 0) rfl (.inl rfl)) ra_nil))) (rss_one (rs_ret (re_ix (ixm (hu1 hr)) (re_var (i := 0) rfl (.inl rfl)) (re_var (i := 1) rfl (.inl rfl))))) rss_nil)
  (rss_one (rs_ret re_int)))
abbrev t__law_bag : Stmt := topS 25
theorem sc__law_bag : FnScope ["_law_script", "_law_k", "_law_cell"] ["_law_script", "_law_k"] (defScope t__law_bag) := ⟨rfl, rfl, rfl, by decide +kernel, rfl, by decide +kernel, by decide +kernel⟩
theorem ok__law_bag {f : Addr} {fd : FuncData} (F : Fun K "_law_bag" "_law_bag" t__law_bag f fd) (T : Txt w K mg) (h__law_cell_at : Fn P w K mg base "_law_cell_at" 1 ["_law_script", "_law_k"] s__law_cell_at) : FnOk P w K mg base (L2.CX P w) 2 f fd ["_law_script", "_law_k"] (spM K mg s__law_bag) := by
  unfold s__law_bag
  exact fn_ok F sc__law_bag fun cdv A outer s H E hr =>
  (rss_cons (rs_set (i := 2) sc__law_bag.nd rfl (.inl rfl) (re_callF h__law_cell_at (hr.mono (by decide)) (by rfl) (takes_of rfl rfl rfl rfl) (ra_cons (re_var (i := 0) rfl (.inl rfl)) (ra_cons (re_var (i := 1) rfl (.inl rfl)) ra_nil))))
  (rss_one (rs_ret (re_lst (ra_cons (re_op opm_mul (re_var (i := 2) rfl (.inl rfl)) (re_callTy cm_int (by rfl) T.b_int bb_int (ra_cons (re_cmp opm_ge (re_var (i := 2) rfl (.inl rfl)) (re_op opm_pow re_int re_int)) ra_nil))) (ra_cons (re_op opm_add (re_op opm_add (re_op opm_add (re_op opm_mod (re_var (i := 2) rfl (.inl rfl)) re_int) (re_op opm_mul (re_op opm_mul re_int (re_var (i := 1) rfl (.inl rfl))) (re_var (i := 1) rfl (.inl rfl)))) (re_op opm_mul re_int (re_var (i := 1) rfl (.inl rfl)))) re_int) ra_nil))))))
abbrev t__law_whole : Stmt := topS 27
theorem sc__law_whole : FnScope ["_law_found"] ["_law_found"] (defScope t__law_whole) := ⟨rfl, rfl, rfl, by decide +kernel, rfl, by decide +kernel, by decide +kernel⟩
theorem ok__law_whole {f : Addr} {fd : FuncData} (F : Fun K "_law_whole" "_law_whole" t__law_whole f fd) (T : Txt w K mg)  : FnOk P w K mg base (L2.CX P w) 1 f fd ["_law_found"] (spM K mg s__law_whole) := by
  unfold s__law_whole
  exact fn_ok F sc__law_whole fun cdv A outer s H E hr =>
  (rss_one (rs_ret (re_and (re_callB cm_isi (by rfl) T.b_isinstance bb_isinstance (ra_cons (re_var (i := 0) rfl (.inl rfl)) (ra_cons (re_ty (by rfl) T.b_int bb_int) ra_nil))) (re_one (re_not (re_callB cm_isi (by rfl) T.b_isinstance bb_isinstance (ra_cons (re_var (i := 0) rfl (.inl rfl)) (ra_cons (re_ty (by rfl) T.b_bool bb_bool) ra_nil))))))))
abbrev t__law_ends : Stmt := topS 28
theorem sc__law_ends : FnScope ["_law_some", "_law_knots", "_law_end"] ["_law_some", "_law_knots"] (defScope t__law_ends) := ⟨rfl, rfl, rfl, by decide +kernel, rfl, by decide +kernel, by decide +kernel⟩
theorem ok__law_ends {f : Addr} {fd : FuncData} (F : Fun K "_law_ends" "_law_ends" t__law_ends f fd) (T : Txt w K mg) (h__law_whole : Fn P w K mg base "_law_whole" 1 ["_law_found"] s__law_whole) : FnOk P w K mg base (L2.CX P w) 2 f fd ["_law_some", "_law_knots"] (spM K mg s__law_ends) := by
  unfold s__law_ends
  exact fn_ok F sc__law_ends fun cdv A outer s H E hr =>
  (rss_one (rs_ret (re_callB (cm_all rfl) (by rfl) T.b_all bb_all (ra_cons (re_lc rfl sc__law_ends.nd (ri_any (re_var (i := 0) rfl (.inl rfl))) (blk_of (own := [("_law_end", 2)]) (by kernel_rfl)) rfl (fun _ _ _ _ _ => pg_name (i := 2) sc__law_ends.nd rfl (.inl rfl)) cr_name gNm_st (fun _ _ _ _ _ => rts_nil) (fun _ _ _ _ _ => (re_and (re_callF h__law_whole (hr.mono (by decide)) (by rfl) takes0 (ra_cons (re_var (i := 2) rfl (.inl rfl)) ra_nil)) (re_one (re_chain opm_le opm_lt re_int (re_var (i := 2) rfl (.inl rfl)) (re_op opm_mul re_int (re_var (i := 1) rfl (.inr (.inl rfl))))))))) ra_nil))))
abbrev t__law_formed : Stmt := topS 29
theorem sc__law_formed : FnScope ["_law_work_here", "_law_ins", "_law_firsts", "_law_outs", "_law_knots", "_law_gate", "_law_k", "_law_box", "_law_some"] ["_law_work_here", "_law_ins", "_law_firsts", "_law_outs"] (defScope t__law_formed) := ⟨rfl, rfl, rfl, by decide +kernel, rfl, by decide +kernel, by decide +kernel⟩
theorem ok__law_formed {f : Addr} {fd : FuncData} (F : Fun K "_law_formed" "_law_formed" t__law_formed f fd) (T : Txt w K mg) (h__law_ends : Fn P w K mg base "_law_ends" 2 ["_law_some", "_law_knots"] s__law_ends) (h__law_whole : Fn P w K mg base "_law_whole" 1 ["_law_found"] s__law_whole) : FnOk P w K mg base (L2.CX P w) 3 f fd ["_law_work_here", "_law_ins", "_law_firsts", "_law_outs"] (spM K mg s__law_formed) := by
  unfold s__law_formed
  exact fn_ok F sc__law_formed fun cdv A outer s H E hr =>
  (rss_cons (rs_if (rt_bop (rw_or (rt_not (rt_tru (re_callB cm_isi (by rfl) T.b_isinstance bb_isinstance (ra_cons (re_var (i := 0) rfl (.inl rfl)) (ra_cons (re_ty (by rfl) T.b_tuple bb_tuple) ra_nil))))) (rw_or (rt_cmp (opm_ne (hu64 hr)) (re_callB cm_len (by rfl) T.b_len bb_len (ra_cons (re_var (i := 0) rfl (.inl rfl)) ra_nil)) re_int) (rw_or (rt_not (rt_tru (re_callF h__law_whole (hr.mono (by decide)) (by rfl) (takes_of rfl rfl rfl rfl) (ra_cons (re_ix (ixm (hu1 hr)) (re_var (i := 0) rfl (.inl rfl)) re_int) ra_nil)))) (rw_or1 (rt_cmp (opm_ne (hu64 hr)) (re_ix (ixm (hu1 hr)) (re_var (i := 0) rfl (.inl rfl)) re_int) (re_var (i := 1) rfl (.inl rfl)))))))) (rss_one (rs_ret re_bl)) rss_nil)
  (rss_cons (rs_if (rt_bop (rw_or (rt_not (rt_tru (re_callB (cm_all rfl) (by rfl) T.b_all bb_all (ra_cons (re_lc rfl sc__law_formed.nd (ri_any (re_slice (re_var (i := 0) rfl (.inl rfl)) (ro_sm re_int) ro_no)) (blk_of (own := [("_law_some", 8)]) (by kernel_rfl)) rfl (fun _ _ _ _ _ => pg_name (i := 8) sc__law_formed.nd rfl (.inl rfl)) cr_name gNm_st (fun _ _ _ _ _ => rts_nil) (fun _ _ _ _ _ => (re_callB cm_isi (by rfl) T.b_isinstance bb_isinstance (ra_cons (re_var (i := 8) rfl (.inl rfl)) (ra_cons (re_ty (by rfl) T.b_list bb_list) ra_nil))))) ra_nil)))) (rw_or1 (rt_cmp (opm_ne (hu64 hr)) (re_callB cm_len (by rfl) T.b_len bb_len (ra_cons (re_ix (ixm (hu1 hr)) (re_var (i := 0) rfl (.inl rfl)) re_int) ra_nil)) (re_callB cm_len (by rfl) T.b_len bb_len (ra_cons (re_var (i := 2) rfl (.inl rfl)) ra_nil)))))) (rss_one (rs_ret re_bl)) rss_nil)
  (rss_cons (rs_set (i := 4) sc__law_formed.nd rfl (.inl rfl) (re_op opm_add (re_op opm_add re_int (re_var (i := 1) rfl (.inl rfl))) (re_callB cm_len (by rfl) T.b_len bb_len (ra_cons (re_var (i := 2) rfl (.inl rfl)) ra_nil))))
  (rss_cons (rs_for (passes_of rfl) rfl (ri_any (re_ix (ixm (hu1 hr)) (re_var (i := 0) rfl (.inl rfl)) re_int)) (rg_name (i := 5) sc__law_formed.nd rfl (.inl rfl)) (rss_cons (rs_if (rt_bop (rw_or (rt_not (rt_tru (re_callB cm_isi (by rfl) T.b_isinstance bb_isinstance (ra_cons (re_var (i := 5) rfl (.inl rfl)) (ra_cons (re_ty (by rfl) T.b_tuple bb_tuple) ra_nil))))) (rw_or (rt_cmp (opm_ne (hu64 hr)) (re_callB cm_len (by rfl) T.b_len bb_len (ra_cons (re_var (i := 5) rfl (.inl rfl)) ra_nil)) re_int) (rw_or1 (rt_not (rt_tru (re_callF h__law_ends (hr.mono (by decide)) (by rfl) (takes_of rfl rfl rfl rfl) (ra_cons (re_var (i := 5) rfl (.inl rfl)) (ra_cons (re_var (i := 4) rfl (.inl rfl)) ra_nil))))))))) (rss_one (rs_ret re_bl)) rss_nil)
  (rss_one (rs_set (i := 4) sc__law_formed.nd rfl (.inl rfl) (re_op opm_add (re_var (i := 4) rfl (.inl rfl)) re_int)))))
  (rss_cons (rs_for (passes_of rfl) rfl (ri_range1 (by rfl) T.b_range (ra_cons (re_callB cm_len (by rfl) T.b_len bb_len (ra_cons (re_var (i := 2) rfl (.inl rfl)) ra_nil)) ra_nil)) (rg_name (i := 6) sc__law_formed.nd rfl (.inl rfl)) (rss_cons (rs_set (i := 7) sc__law_formed.nd rfl (.inl rfl) (re_ix (ixm (hu1 hr)) (re_ix (ixm (hu1 hr)) (re_var (i := 0) rfl (.inl rfl)) re_int) (re_var (i := 6) rfl (.inl rfl))))
  (rss_cons (rs_if (rt_bop (rw_or (rt_not (rt_tru (re_callB cm_isi (by rfl) T.b_isinstance bb_isinstance (ra_cons (re_var (i := 7) rfl (.inl rfl)) (ra_cons (re_ty (by rfl) T.b_tuple bb_tuple) ra_nil))))) (rw_or (rt_cmp (opm_ne (hu64 hr)) (re_callB cm_len (by rfl) T.b_len bb_len (ra_cons (re_var (i := 7) rfl (.inl rfl)) ra_nil)) re_int) (rw_or (rt_not (rt_tru (re_callF h__law_whole (hr.mono (by decide)) (by rfl) (takes_of rfl rfl rfl rfl) (ra_cons (re_ix (ixm (hu1 hr)) (re_var (i := 7) rfl (.inl rfl)) re_int) ra_nil)))) (rw_or1 (rt_cmp (opm_ne (hu64 hr)) (re_ix (ixm (hu1 hr)) (re_var (i := 7) rfl (.inl rfl)) re_int) (re_ix (ixm (hu1 hr)) (re_var (i := 2) rfl (.inl rfl)) (re_var (i := 6) rfl (.inl rfl))))))))) (rss_one (rs_ret re_bl)) rss_nil)
  (rss_one (rs_if (rt_not (rt_tru (re_callF h__law_ends (hr.mono (by decide)) (by rfl) (takes_of rfl rfl rfl rfl) (ra_cons (re_slice (re_var (i := 7) rfl (.inl rfl)) (ro_sm re_int) ro_no) (ra_cons (re_var (i := 4) rfl (.inl rfl)) ra_nil))))) (rss_one (rs_ret re_bl)) rss_nil)))))
  (rss_one (rs_ret (re_and (re_cmp (opm_eq (hu64 hr)) (re_callB cm_len (by rfl) T.b_len bb_len (ra_cons (re_ix (ixm (hu1 hr)) (re_var (i := 0) rfl (.inl rfl)) re_int) ra_nil)) (re_var (i := 3) rfl (.inl rfl))) (re_one (re_callF h__law_ends (hr.mono (by decide)) (by rfl) (takes_of rfl rfl rfl rfl) (ra_cons (re_ix (ixm (hu1 hr)) (re_var (i := 0) rfl (.inl rfl)) re_int) (ra_cons (re_var (i := 4) rfl (.inl rfl)) ra_nil))))))))))))
abbrev t_in_order : Stmt := topS 20
theorem sc_in_order : FnScope ["rows", "words", "most", "at", "row"] ["rows", "words", "most"] (defScope t_in_order) := ⟨rfl, rfl, rfl, by decide +kernel, rfl, by decide +kernel, by decide +kernel⟩
theorem ok_in_order {f : Addr} {fd : FuncData} (F : Fun K "in_order" "in_order" t_in_order f fd) (T : Txt w K mg)  : FnOk P w K mg base (L2.CX P w) 1 f fd ["rows", "words", "most"] (spM K mg s_in_order) := by
  unfold s_in_order
  exact fn_ok F sc_in_order fun cdv A outer s H E hr =>
  (rss_cons (rs_set (i := 3) sc_in_order.nd rfl (.inl rfl) re_int)
  (rss_one (rs_for (passes_of rfl) rfl (ri_any (re_var (i := 0) rfl (.inl rfl))) (rg_name (i := 4) sc_in_order.nd rfl (.inl rfl)) (rss_cons (rs_while (passes_of rfl) (rt_bop (rw_and (rt_cmp opm_lt (re_var (i := 3) rfl (.inl rfl)) (re_var (i := 2) rfl (.inl rfl))) (rw_and1 (rt_cmp (opm_ne (hu64 hr)) (re_ix (ixm (hu1 hr)) (re_var (i := 4) rfl (.inl rfl)) re_int) (re_ix (ixm (hu1 hr)) (re_var (i := 1) rfl (.inl rfl)) (re_var (i := 3) rfl (.inl rfl))))))) (rss_one (rs_aug (i := 3) sc_in_order.nd rfl (.inl rfl) re_int ipm_add)))
  (rss_one (rs_if (rt_cmp (opm_eq (hu64 hr)) (re_var (i := 3) rfl (.inl rfl)) (re_var (i := 2) rfl (.inl rfl))) (rss_one rs_stuck) rss_nil))))))
abbrev t_is_whole : Stmt := topS 9
theorem sc_is_whole : FnScope ["thing"] ["thing"] (defScope t_is_whole) := ⟨rfl, rfl, rfl, by decide +kernel, rfl, by decide +kernel, by decide +kernel⟩
theorem ok_is_whole {f : Addr} {fd : FuncData} (F : Fun K "is_whole" "is_whole" t_is_whole f fd) (T : Txt w K mg)  : FnOk P w K mg base (L2.CX P w) 1 f fd ["thing"] (spM K mg s_is_whole) := by
  unfold s_is_whole
  exact fn_ok F sc_is_whole fun cdv A outer s H E hr =>
  (rss_one (rs_ret (re_and (re_callB cm_isi (by rfl) T.b_isinstance bb_isinstance (ra_cons (re_var (i := 0) rfl (.inl rfl)) (ra_cons (re_ty (by rfl) T.b_int bb_int) ra_nil))) (re_one (re_not (re_callB cm_isi (by rfl) T.b_isinstance bb_isinstance (ra_cons (re_var (i := 0) rfl (.inl rfl)) (ra_cons (re_ty (by rfl) T.b_bool bb_bool) ra_nil))))))))
abbrev t_is_end : Stmt := topS 13
theorem sc_is_end : FnScope ["thing", "knots"] ["thing", "knots"] (defScope t_is_end) := ⟨rfl, rfl, rfl, by decide +kernel, rfl, by decide +kernel, by decide +kernel⟩
theorem ok_is_end {f : Addr} {fd : FuncData} (F : Fun K "is_end" "is_end" t_is_end f fd) (T : Txt w K mg) (h_is_whole : Fn P w K mg base "is_whole" 1 ["thing"] s_is_whole) : FnOk P w K mg base (L2.CX P w) 2 f fd ["thing", "knots"] (spM K mg s_is_end) := by
  unfold s_is_end
  exact fn_ok F sc_is_end fun cdv A outer s H E hr =>
  (rss_one (rs_ret (re_and (re_callF h_is_whole (hr.mono (by decide)) (by rfl) (takes_of rfl rfl rfl rfl) (ra_cons (re_var (i := 0) rfl (.inl rfl)) ra_nil)) (re_one (re_chain opm_le opm_lt re_int (re_var (i := 0) rfl (.inl rfl)) (re_op opm_mul re_int (re_var (i := 1) rfl (.inl rfl))))))))
abbrev t_is_pair : Stmt := topS 14
theorem sc_is_pair : FnScope ["thing"] ["thing"] (defScope t_is_pair) := ⟨rfl, rfl, rfl, by decide +kernel, rfl, by decide +kernel, by decide +kernel⟩
theorem ok_is_pair {f : Addr} {fd : FuncData} (F : Fun K "is_pair" "is_pair" t_is_pair f fd) (T : Txt w K mg)  : FnOk P w K mg base (L2.CX P w) 1 f fd ["thing"] (spM K mg s_is_pair) := by
  unfold s_is_pair
  exact fn_ok F sc_is_pair fun cdv A outer s H E hr =>
  (rss_one (rs_ret (re_and (re_callB cm_isi (by rfl) T.b_isinstance bb_isinstance (ra_cons (re_var (i := 0) rfl (.inl rfl)) (ra_cons (re_ty (by rfl) T.b_tuple bb_tuple) ra_nil))) (re_one (re_cmp (opm_eq (hu64 hr)) (re_callB cm_len (by rfl) T.b_len bb_len (ra_cons (re_var (i := 0) rfl (.inl rfl)) ra_nil)) re_int)))))
abbrev t_are_boxes : Stmt := topS 15
theorem sc_are_boxes : FnScope ["boxes", "knots", "box"] ["boxes", "knots"] (defScope t_are_boxes) := ⟨rfl, rfl, rfl, by decide +kernel, rfl, by decide +kernel, by decide +kernel⟩
theorem ok_are_boxes {f : Addr} {fd : FuncData} (F : Fun K "are_boxes" "are_boxes" t_are_boxes f fd) (T : Txt w K mg) (h_is_end : Fn P w K mg base "is_end" 2 ["thing", "knots"] s_is_end) (h_is_pair : Fn P w K mg base "is_pair" 1 ["thing"] s_is_pair) (h_is_whole : Fn P w K mg base "is_whole" 1 ["thing"] s_is_whole) : FnOk P w K mg base (L2.CX P w) 3 f fd ["boxes", "knots"] (spM K mg s_are_boxes) := by
  unfold s_are_boxes
  exact fn_ok F sc_are_boxes fun cdv A outer s H E hr =>
  (rss_cons (rs_for (passes_of rfl) rfl (ri_any (re_var (i := 0) rfl (.inl rfl))) (rg_name (i := 2) sc_are_boxes.nd rfl (.inl rfl)) (rss_one (rs_if (rt_bop (rw_or (rt_not (rt_tru (re_callF h_is_pair (hr.mono (by decide)) (by rfl) (takes_of rfl rfl rfl rfl) (ra_cons (re_var (i := 2) rfl (.inl rfl)) ra_nil)))) (rw_or (rt_not (rt_tru (re_callF h_is_whole (hr.mono (by decide)) (by rfl) (takes_of rfl rfl rfl rfl) (ra_cons (re_ix (ixm (hu1 hr)) (re_var (i := 2) rfl (.inl rfl)) re_int) ra_nil)))) (rw_or (rt_not (rt_chain opm_le opm_le re_int (re_ix (ixm (hu1 hr)) (re_var (i := 2) rfl (.inl rfl)) re_int) re_int)) (rw_or1 (rt_not (rt_tru (re_callF h_is_end (hr.mono (by decide)) (by rfl) (takes_of rfl rfl rfl rfl) (ra_cons (re_ix (ixm (hu1 hr)) (re_var (i := 2) rfl (.inl rfl)) re_int) (ra_cons (re_var (i := 1) rfl (.inl rfl)) ra_nil)))))))))) (rss_one (rs_ret re_bl)) rss_nil)))
  (rss_one (rs_ret re_bl)))
abbrev t_are_gates : Stmt := topS 16
theorem sc_are_gates : FnScope ["gates", "first", "k", "gate"] ["gates", "first"] (defScope t_are_gates) := ⟨rfl, rfl, rfl, by decide +kernel, rfl, by decide +kernel, by decide +kernel⟩
theorem ok_are_gates {f : Addr} {fd : FuncData} (F : Fun K "are_gates" "are_gates" t_are_gates f fd) (T : Txt w K mg) (h_is_end : Fn P w K mg base "is_end" 2 ["thing", "knots"] s_is_end) (h_is_pair : Fn P w K mg base "is_pair" 1 ["thing"] s_is_pair) : FnOk P w K mg base (L2.CX P w) 3 f fd ["gates", "first"] (spM K mg s_are_gates) := by
  unfold s_are_gates
  exact fn_ok F sc_are_gates fun cdv A outer s H E hr =>
  (rss_cons (rs_for (passes_of rfl) rfl (ri_enumX (by rfl) T.b_enumerate (ra_cons (re_var (i := 0) rfl (.inl rfl)) ra_nil)) (rg_tupL rfl sc_are_gates.nd (.cons (i := 2) rfl (.inl rfl) (.inr rfl) (.cons (i := 3) rfl (.inl rfl) (.inr rfl) .nil))) (rss_one (rs_if (rt_bop (rw_or (rt_not (rt_tru (re_callF h_is_pair (hr.mono (by decide)) (by rfl) (takes_of rfl rfl rfl rfl) (ra_cons (re_var (i := 3) rfl (.inl rfl)) ra_nil)))) (rw_or (rt_not (rt_tru (re_callF h_is_end (hr.mono (by decide)) (by rfl) (takes_of rfl rfl rfl rfl) (ra_cons (re_ix (ixm (hu1 hr)) (re_var (i := 3) rfl (.inl rfl)) re_int) (ra_cons (re_op opm_add (re_var (i := 1) rfl (.inl rfl)) (re_var (i := 2) rfl (.inl rfl))) ra_nil))))) (rw_or1 (rt_not (rt_tru (re_callF h_is_end (hr.mono (by decide)) (by rfl) (takes_of rfl rfl rfl rfl) (ra_cons (re_ix (ixm (hu1 hr)) (re_var (i := 3) rfl (.inl rfl)) re_int) (ra_cons (re_op opm_add (re_var (i := 1) rfl (.inl rfl)) (re_var (i := 2) rfl (.inl rfl))) ra_nil))))))))) (rss_one (rs_ret re_bl)) rss_nil)))
  (rss_one (rs_ret re_bl)))
abbrev t_first_gate : Stmt := topS 11
theorem sc_first_gate : FnScope ["work"] ["work"] (defScope t_first_gate) := ⟨rfl, rfl, rfl, by decide +kernel, rfl, by decide +kernel, by decide +kernel⟩
theorem ok_first_gate {f : Addr} {fd : FuncData} (F : Fun K "first_gate" "first_gate" t_first_gate f fd) (T : Txt w K mg)  : FnOk P w K mg base (L2.CX P w) 1 f fd ["work"] (spM K mg s_first_gate) := by
  unfold s_first_gate
  exact fn_ok F sc_first_gate fun cdv A outer s H E hr =>
  (rss_one (rs_ret (re_op opm_add (re_op opm_add re_int (re_ix (ixm (hu1 hr)) (re_var (i := 0) rfl (.inl rfl)) re_int)) (re_callB cm_len (by rfl) T.b_len bb_len (ra_cons (re_ix (ixm (hu1 hr)) (re_var (i := 0) rfl (.inl rfl)) re_int) ra_nil)))))
abbrev t_knots_of : Stmt := topS 12
theorem sc_knots_of : FnScope ["work"] ["work"] (defScope t_knots_of) := ⟨rfl, rfl, rfl, by decide +kernel, rfl, by decide +kernel, by decide +kernel⟩
theorem ok_knots_of {f : Addr} {fd : FuncData} (F : Fun K "knots_of" "knots_of" t_knots_of f fd) (T : Txt w K mg) (h_first_gate : Fn P w K mg base "first_gate" 1 ["work"] s_first_gate) : FnOk P w K mg base (L2.CX P w) 2 f fd ["work"] (spM K mg s_knots_of) := by
  unfold s_knots_of
  exact fn_ok F sc_knots_of fun cdv A outer s H E hr =>
  (rss_one (rs_ret (re_op opm_add (re_callF h_first_gate (hr.mono (by decide)) (by rfl) (takes_of rfl rfl rfl rfl) (ra_cons (re_var (i := 0) rfl (.inl rfl)) ra_nil)) (re_callB cm_len (by rfl) T.b_len bb_len (ra_cons (re_ix (ixm (hu1 hr)) (re_var (i := 0) rfl (.inl rfl)) re_int) ra_nil)))))
abbrev t_is_work : Stmt := topS 17
theorem sc_is_work : FnScope ["thing", "ins", "boxes", "gates", "outs", "knots", "end"] ["thing"] (defScope t_is_work) := ⟨rfl, rfl, rfl, by decide +kernel, rfl, by decide +kernel, by decide +kernel⟩
theorem ok_is_work {f : Addr} {fd : FuncData} (F : Fun K "is_work" "is_work" t_is_work f fd) (T : Txt w K mg) (h_are_boxes : Fn P w K mg base "are_boxes" 3 ["boxes", "knots"] s_are_boxes) (h_are_gates : Fn P w K mg base "are_gates" 3 ["gates", "first"] s_are_gates) (h_first_gate : Fn P w K mg base "first_gate" 1 ["work"] s_first_gate) (h_is_end : Fn P w K mg base "is_end" 2 ["thing", "knots"] s_is_end) (h_is_whole : Fn P w K mg base "is_whole" 1 ["thing"] s_is_whole) (h_knots_of : Fn P w K mg base "knots_of" 2 ["work"] s_knots_of) : FnOk P w K mg base (L2.CX P w) 4 f fd ["thing"] (spM K mg s_is_work) := by
  unfold s_is_work
  exact fn_ok F sc_is_work fun cdv A outer s H E hr =>
  (rss_cons (rs_if (rt_bop (rw_or (rt_not (rt_tru (re_callB cm_isi (by rfl) T.b_isinstance bb_isinstance (ra_cons (re_var (i := 0) rfl (.inl rfl)) (ra_cons (re_ty (by rfl) T.b_tuple bb_tuple) ra_nil))))) (rw_or (rt_cmp (opm_ne (hu64 hr)) (re_callB cm_len (by rfl) T.b_len bb_len (ra_cons (re_var (i := 0) rfl (.inl rfl)) ra_nil)) re_int) (rw_or (rt_not (rt_tru (re_callF h_is_whole (hr.mono (by decide)) (by rfl) (takes_of rfl rfl rfl rfl) (ra_cons (re_ix (ixm (hu1 hr)) (re_var (i := 0) rfl (.inl rfl)) re_int) ra_nil)))) (rw_or1 (rt_cmp opm_lt (re_ix (ixm (hu1 hr)) (re_var (i := 0) rfl (.inl rfl)) re_int) re_int)))))) (rss_one (rs_ret re_bl)) rss_nil)
  (rss_cons (rs_asg (re_var (i := 0) rfl (.inl rfl)) (rg_tupL rfl sc_is_work.nd (.cons (i := 1) rfl (.inl rfl) (.inr rfl) (.cons (i := 2) rfl (.inl rfl) (.inr rfl) (.cons (i := 3) rfl (.inl rfl) (.inr rfl) (.cons (i := 4) rfl (.inl rfl) (.inr rfl) .nil))))))
  (rss_cons (rs_if (rt_bop (rw_or (rt_not (rt_tru (re_callB cm_isi (by rfl) T.b_isinstance bb_isinstance (ra_cons (re_var (i := 2) rfl (.inl rfl)) (ra_cons (re_ty (by rfl) T.b_list bb_list) ra_nil))))) (rw_or (rt_not (rt_tru (re_callB cm_isi (by rfl) T.b_isinstance bb_isinstance (ra_cons (re_var (i := 3) rfl (.inl rfl)) (ra_cons (re_ty (by rfl) T.b_list bb_list) ra_nil))))) (rw_or1 (rt_not (rt_tru (re_callB cm_isi (by rfl) T.b_isinstance bb_isinstance (ra_cons (re_var (i := 4) rfl (.inl rfl)) (ra_cons (re_ty (by rfl) T.b_list bb_list) ra_nil))))))))) (rss_one (rs_ret re_bl)) rss_nil)
  (rss_cons (rs_set (i := 5) sc_is_work.nd rfl (.inr rfl) (re_callF h_knots_of (hr.mono (by decide)) (by rfl) (takes_of rfl rfl rfl rfl) (ra_cons (re_var (i := 0) rfl (.inl rfl)) ra_nil)))
  (rss_cons (rs_if (rt_bop (rw_or (rt_not (rt_tru (re_callF h_are_boxes (hr.mono (by decide)) (by rfl) (takes_of rfl rfl rfl rfl) (ra_cons (re_var (i := 2) rfl (.inl rfl)) (ra_cons (re_var (i := 5) rfl (.inr (.inl rfl))) ra_nil))))) (rw_or1 (rt_not (rt_tru (re_callF h_are_gates (hr.mono (by decide)) (by rfl) (takes_of rfl rfl rfl rfl) (ra_cons (re_var (i := 3) rfl (.inl rfl)) (ra_cons (re_callF h_first_gate (hr.mono (by decide)) (by rfl) (takes_of rfl rfl rfl rfl) (ra_cons (re_var (i := 0) rfl (.inl rfl)) ra_nil)) ra_nil)))))))) (rss_one (rs_ret re_bl)) rss_nil)
  (rss_one (rs_ret (re_callB (cm_all rfl) (by rfl) T.b_all bb_all (ra_cons (re_lc rfl sc_is_work.nd (ri_any (re_var (i := 4) rfl (.inl rfl))) (blk_of (own := [("end", 6)]) (by kernel_rfl)) rfl (fun _ _ _ _ _ => pg_name (i := 6) sc_is_work.nd rfl (.inl rfl)) cr_name gNm_st (fun _ _ _ _ _ => rts_nil) (fun _ _ _ _ _ => (re_callF h_is_end (hr.mono (by decide)) (by rfl) takes0 (ra_cons (re_var (i := 6) rfl (.inl rfl)) (ra_cons (re_var (i := 5) rfl (.inr (.inl rfl))) ra_nil))))) ra_nil)))))))))
abbrev t_number_of : Stmt := topS 6
theorem sc_number_of : FnScope ["word", "sign"] ["word"] (defScope t_number_of) := ⟨rfl, rfl, rfl, by decide +kernel, rfl, by decide +kernel, by decide +kernel⟩
theorem ok_number_of {f : Addr} {fd : FuncData} (F : Fun K "number_of" "number_of" t_number_of f fd) (T : Txt w K mg)  : FnOk P w K mg base (L2.CX P w) 1 f fd ["word"] (spM K mg s_number_of) := by
  unfold s_number_of
  exact fn_ok F sc_number_of fun cdv A outer s H E hr =>
  (rss_cons (rs_if (rt_bop (rw_or (rt_cmp (opm_eq (hu64 hr)) (re_var (i := 0) rfl (.inl rfl)) re_str) (rw_or (rt_cmp opm_gt (re_callB cm_len (by rfl) T.b_len bb_len (ra_cons (re_var (i := 0) rfl (.inl rfl)) ra_nil)) (re_glob (by rfl) T.c_LONGEST)) (rw_or1 (rt_bop (rw_and (rt_cmp (opm_eq (hu64 hr)) (re_ix (ixm (hu1 hr)) (re_var (i := 0) rfl (.inl rfl)) re_int) re_str) (rw_and1 (rt_cmp (opm_ne (hu64 hr)) (re_var (i := 0) rfl (.inl rfl)) re_str)))))))) (rss_one rs_stuck) rss_nil)
  (rss_cons (rs_for (passes_of rfl) rfl (ri_any (re_var (i := 0) rfl (.inl rfl))) (rg_name (i := 1) sc_number_of.nd rfl (.inl rfl)) (rss_one (rs_if (rt_cmp (opm_ninX (hu65 hr)) (re_var (i := 1) rfl (.inl rfl)) (re_glob (by rfl) T.c_FIGURES)) (rss_one rs_stuck) rss_nil)))
  (rss_one (rs_ret (re_callTy cm_intS (by rfl) T.b_int bb_int (ra_cons (re_var (i := 0) rfl (.inl rfl)) ra_nil))))))
abbrev t_numbers_after : Stmt := topS 19
theorem sc_numbers_after : FnScope ["words", "word", "many", "one"] ["words", "word", "many"] (defScope t_numbers_after) := ⟨rfl, rfl, rfl, by decide +kernel, rfl, by decide +kernel, by decide +kernel⟩
theorem ok_numbers_after {f : Addr} {fd : FuncData} (F : Fun K "numbers_after" "numbers_after" t_numbers_after f fd) (T : Txt w K mg) (h_number_of : Fn P w K mg base "number_of" 1 ["word"] s_number_of) : FnOk P w K mg base (L2.CX P w) 2 f fd ["words", "word", "many"] (spM K mg s_numbers_after) := by
  unfold s_numbers_after
  exact fn_ok F sc_numbers_after fun cdv A outer s H E hr =>
  (rss_cons (rs_if (rt_bop (rw_or (rt_cmp (opm_ne (hu64 hr)) (re_ix (ixm (hu1 hr)) (re_var (i := 0) rfl (.inl rfl)) re_int) (re_var (i := 1) rfl (.inl rfl))) (rw_or1 (rt_cmp (opm_ne (hu64 hr)) (re_callB cm_len (by rfl) T.b_len bb_len (ra_cons (re_var (i := 0) rfl (.inl rfl)) ra_nil)) (re_op opm_add (re_var (i := 2) rfl (.inl rfl)) re_int))))) (rss_one rs_stuck) rss_nil)
  (rss_one (rs_ret (re_lc rfl sc_numbers_after.nd (ri_any (re_slice (re_var (i := 0) rfl (.inl rfl)) (ro_sm re_int) ro_no)) (blk_of (own := [("one", 3)]) (by kernel_rfl)) rfl (fun _ _ _ _ _ => pg_name (i := 3) sc_numbers_after.nd rfl (.inl rfl)) cr_name gNm_st (fun _ _ _ _ _ => rts_nil) (fun _ _ _ _ _ => (re_callF h_number_of (hr.mono (by decide)) (by rfl) takes0 (ra_cons (re_var (i := 3) rfl (.inl rfl)) ra_nil)))))))
abbrev t_rows_of : Stmt := topS 7
theorem sc_rows_of : FnScope ["text", "row"] ["text"] (defScope t_rows_of) := ⟨rfl, rfl, rfl, by decide +kernel, rfl, by decide +kernel, by decide +kernel⟩
theorem ok_rows_of {f : Addr} {fd : FuncData} (F : Fun K "rows_of" "rows_of" t_rows_of f fd) (T : Txt w K mg)  : FnOk P w K mg base (L2.CX P w) 1 f fd ["text"] (spM K mg s_rows_of) := by
  unfold s_rows_of
  exact fn_ok F sc_rows_of fun cdv A outer s H E hr =>
  (rss_cons (rs_if (rt_not (rt_tru (re_callB cm_isi (by rfl) T.b_isinstance bb_isinstance (ra_cons (re_var (i := 0) rfl (.inl rfl)) (ra_cons (re_ty (by rfl) T.b_str bb_str) ra_nil))))) (rss_one rs_stuck) rss_nil)
  (rss_one (rs_ret (re_lc rfl sc_rows_of.nd (ri_any (re_mt PySem.F.plainAttrs_str PySem.F.slot_str_split PySem.F.type_str_split mm_split (ho := (re_var (i := 0) rfl (.inl rfl))) (ha := (ra_cons re_str ra_nil)))) (blk_of (own := [("row", 1)]) (by kernel_rfl)) rfl (fun _ _ _ _ _ => pg_name (i := 1) sc_rows_of.nd rfl (.inl rfl)) cr_name gNm_st (fun _ _ _ _ _ => rts_nil) (fun _ _ _ _ _ => (re_mt PySem.F.plainAttrs_str PySem.F.slot_str_split PySem.F.type_str_split mm_split (ho := (re_var (i := 1) rfl (.inl rfl))) (ha := (ra_cons re_str ra_nil))))))))
abbrev t_read_work : Stmt := topS 21
theorem sc_read_work : FnScope ["text", "rows", "ins", "boxes", "gates", "outs", "row"] ["text"] (defScope t_read_work) := ⟨rfl, rfl, rfl, by decide +kernel, rfl, by decide +kernel, by decide +kernel⟩
theorem ok_read_work {f : Addr} {fd : FuncData} (F : Fun K "read_work" "read_work" t_read_work f fd) (T : Txt w K mg) (h_in_order : Fn P w K mg base "in_order" 1 ["rows", "words", "most"] s_in_order) (h_is_work : Fn P w K mg base "is_work" 4 ["thing"] s_is_work) (h_numbers_after : Fn P w K mg base "numbers_after" 2 ["words", "word", "many"] s_numbers_after) (h_rows_of : Fn P w K mg base "rows_of" 1 ["text"] s_rows_of) : FnOk P w K mg base (L2.CX P w) 5 f fd ["text"] (spM K mg s_read_work) := by
  unfold s_read_work
  exact fn_ok F sc_read_work fun cdv A outer s H E hr =>
  (rss_cons (rs_set (i := 1) sc_read_work.nd rfl (.inl rfl) (re_callF h_rows_of (hr.mono (by decide)) (by rfl) (takes_of rfl rfl rfl rfl) (ra_cons (re_var (i := 0) rfl (.inl rfl)) ra_nil)))
  (rss_cons (rs_set (i := 2) sc_read_work.nd rfl (.inl rfl) (re_ix (ixm (hu1 hr)) (re_callF h_numbers_after (hr.mono (by decide)) (by rfl) (takes_of rfl rfl rfl rfl) (ra_cons (re_ix (ixm (hu1 hr)) (re_var (i := 1) rfl (.inl rfl)) re_int) (ra_cons re_str (ra_cons re_int ra_nil)))) re_int))
  (rss_cons (rs_set (i := 1) sc_read_work.nd rfl (.inl rfl) (re_slice (re_var (i := 1) rfl (.inl rfl)) (ro_sm re_int) ro_no))
  (rss_cons (rs_expr (re_callF h_in_order (hr.mono (by decide)) (by rfl) (takes_of rfl rfl rfl rfl) (ra_cons (re_var (i := 1) rfl (.inl rfl)) (ra_cons (re_lst (ra_cons re_str (ra_cons re_str (ra_cons re_str ra_nil)))) (ra_cons re_int ra_nil)))))
  (rss_cons (rs_setLc (i := 3) rfl sc_read_work.nd rfl rfl rfl (ri_any (re_var (i := 1) rfl (.inl rfl))) (blk_of (own := [("row", 6)]) (by kernel_rfl)) rfl (fun _ _ _ _ _ => pg_name (i := 6) sc_read_work.nd rfl (.inl rfl)) cr_name gNm_st (fun _ _ _ _ _ => (rts_one (rt_cmp (opm_eq (hu64 hr)) (re_ix (ixm (hu1 hr)) (re_var (i := 6) rfl (.inl rfl)) re_int) re_str))) (fun _ _ _ _ _ => (re_callTy cm_tuple (by rfl) T.b_tuple bb_tuple (ra_cons (re_callF h_numbers_after (hr.mono (by decide)) (by rfl) takes0 (ra_cons (re_var (i := 6) rfl (.inl rfl)) (ra_cons re_str (ra_cons re_int ra_nil)))) ra_nil))))
  (rss_cons (rs_setLc (i := 4) rfl sc_read_work.nd rfl rfl rfl (ri_any (re_var (i := 1) rfl (.inl rfl))) (blk_of (own := [("row", 6)]) (by kernel_rfl)) rfl (fun _ _ _ _ _ => pg_name (i := 6) sc_read_work.nd rfl (.inl rfl)) cr_name gNm_st (fun _ _ _ _ _ => (rts_one (rt_cmp (opm_eq (hu64 hr)) (re_ix (ixm (hu1 hr)) (re_var (i := 6) rfl (.inl rfl)) re_int) re_str))) (fun _ _ _ _ _ => (re_callTy cm_tuple (by rfl) T.b_tuple bb_tuple (ra_cons (re_callF h_numbers_after (hr.mono (by decide)) (by rfl) takes0 (ra_cons (re_var (i := 6) rfl (.inl rfl)) (ra_cons re_str (ra_cons re_int ra_nil)))) ra_nil))))
  (rss_cons (rs_setLc (i := 5) rfl sc_read_work.nd rfl rfl rfl (ri_any (re_var (i := 1) rfl (.inl rfl))) (blk_of (own := [("row", 6)]) (by kernel_rfl)) rfl (fun _ _ _ _ _ => pg_name (i := 6) sc_read_work.nd rfl (.inl rfl)) cr_name gNm_st (fun _ _ _ _ _ => (rts_one (rt_cmp (opm_eq (hu64 hr)) (re_ix (ixm (hu1 hr)) (re_var (i := 6) rfl (.inl rfl)) re_int) re_str))) (fun _ _ _ _ _ => (re_ix (ixm (hu1 hr)) (re_callF h_numbers_after (hr.mono (by decide)) (by rfl) takes0 (ra_cons (re_var (i := 6) rfl (.inl rfl)) (ra_cons re_str (ra_cons re_int ra_nil)))) re_int)))
  (rss_cons (rs_if (rt_not (rt_tru (re_callF h_is_work (hr.mono (by decide)) (by rfl) (takes_of rfl rfl rfl rfl) (ra_cons (re_tup (ra_cons (re_var (i := 2) rfl (.inl rfl)) (ra_cons (re_var (i := 3) rfl (.inl rfl)) (ra_cons (re_var (i := 4) rfl (.inl rfl)) (ra_cons (re_var (i := 5) rfl (.inl rfl)) ra_nil))))) ra_nil)))) (rss_one rs_stuck) rss_nil)
  (rss_one (rs_ret (re_tup (ra_cons (re_var (i := 2) rfl (.inl rfl)) (ra_cons (re_var (i := 3) rfl (.inl rfl)) (ra_cons (re_var (i := 4) rfl (.inl rfl)) (ra_cons (re_var (i := 5) rfl (.inl rfl)) ra_nil)))))))))))))))
abbrev t__law_read : Stmt := topS 32
theorem sc__law_read : FnScope ["_law_work_here", "_law_text_here", "_law_found", "_law_firsts", "_law_box"] ["_law_work_here", "_law_text_here"] (defScope t__law_read) := ⟨rfl, rfl, rfl, by decide +kernel, rfl, by decide +kernel, by decide +kernel⟩
theorem ok__law_read {f : Addr} {fd : FuncData} (F : Fun K "_law_read" "_law_read" t__law_read f fd) (T : Txt w K mg) (h__law_formed : Fn P w K mg base "_law_formed" 3 ["_law_work_here", "_law_ins", "_law_firsts", "_law_outs"] s__law_formed) (h_read_work : Fn P w K mg base "read_work" 5 ["text"] s_read_work) : FnOk P w K mg base (L2.CX P w) 6 f fd ["_law_work_here", "_law_text_here"] (spM K mg s__law_read) := by
  unfold s__law_read
  exact fn_ok F sc__law_read fun cdv A outer s H E hr =>
  (rss_cons (rs_set (i := 2) sc__law_read.nd rfl (.inl rfl) (re_callF h_read_work (hr.mono (by decide)) (by rfl) (takes_of rfl rfl rfl rfl) (ra_cons (re_var (i := 1) rfl (.inl rfl)) ra_nil)))
  (rss_cons (rs_setLc (i := 3) rfl sc__law_read.nd rfl rfl rfl (ri_any (re_ix (ixm (hu1 hr)) (re_var (i := 0) rfl (.inl rfl)) re_int)) (blk_of (own := [("_law_box", 4)]) (by kernel_rfl)) rfl (fun _ _ _ _ _ => pg_name (i := 4) sc__law_read.nd rfl (.inl rfl)) cr_name gNm_st (fun _ _ _ _ _ => rts_nil) (fun _ _ _ _ _ => (re_ix (ixm (hu1 hr)) (re_var (i := 4) rfl (.inl rfl)) re_int)))
  (rss_cons (rs_if (rt_bop (rw_or (rt_not (rt_tru (re_callF h__law_formed (hr.mono (by decide)) (by rfl) (takes_of rfl rfl rfl rfl) (ra_cons (re_var (i := 2) rfl (.inl rfl)) (ra_cons (re_ix (ixm (hu1 hr)) (re_var (i := 0) rfl (.inl rfl)) re_int) (ra_cons (re_var (i := 3) rfl (.inl rfl)) (ra_cons (re_callB cm_len (by rfl) T.b_len bb_len (ra_cons (re_ix (ixm (hu1 hr)) (re_var (i := 0) rfl (.inl rfl)) re_int) ra_nil)) ra_nil))))))) (rw_or1 (rt_cmp (opm_ne (hu64 hr)) (re_var (i := 2) rfl (.inl rfl)) (re_var (i := 0) rfl (.inl rfl)))))) (rss_one (rs_ret re_bl)) rss_nil)
  (rss_cons (rs_expr (re_mt PySem.F.plainAttrs_list PySem.F.slot_list_append PySem.F.type_list_append mm_append (ho := (re_ix (ixm (hu1 hr)) (re_var (i := 2) rfl (.inl rfl)) re_int)) (ha := (ra_cons (re_tup (ra_cons re_int (ra_cons re_int ra_nil))) ra_nil))))
  (rss_cons (rs_expr (re_mt0 PySem.F.plainAttrs_list PySem.F.slot_list_clear PySem.F.type_list_clear mm_clear (ho := (re_ix (ixm (hu1 hr)) (re_var (i := 2) rfl (.inl rfl)) re_int))))
  (rss_cons (rs_expr (re_mt PySem.F.plainAttrs_list PySem.F.slot_list_append PySem.F.type_list_append mm_append (ho := (re_ix (ixm (hu1 hr)) (re_var (i := 2) rfl (.inl rfl)) re_int)) (ha := (ra_cons re_int ra_nil))))
  (rss_one (rs_ret re_bl))))))))
abbrev t__law_take : Stmt := topS 26
theorem sc__law_take : FnScope ["_law_bag_here", "_law_many", "_law_found"] ["_law_bag_here", "_law_many"] (defScope t__law_take) := ⟨rfl, rfl, rfl, by decide +kernel, rfl, by decide +kernel, by decide +kernel⟩
theorem ok__law_take {f : Addr} {fd : FuncData} (F : Fun K "_law_take" "_law_take" t__law_take f fd) (T : Txt w K mg)  : FnOk P w K mg base (L2.CX P w) 1 f fd ["_law_bag_here", "_law_many"] (spM K mg s__law_take) := by
  unfold s__law_take
  exact fn_ok F sc__law_take fun cdv A outer s H E hr =>
  (rss_cons (rs_if (rt_cmp opm_gt (re_ix (ixm (hu1 hr)) (re_var (i := 0) rfl (.inl rfl)) re_int) re_int) (rss_cons (rs_set (i := 2) sc__law_take.nd rfl (.inl rfl) (re_op opm_mod (re_ix (ixm (hu1 hr)) (re_var (i := 0) rfl (.inl rfl)) re_int) (re_var (i := 1) rfl (.inl rfl))))
  (rss_cons (rs_asg (re_op opm_fdiv (re_ix (ixm (hu1 hr)) (re_var (i := 0) rfl (.inl rfl)) re_int) (re_var (i := 1) rfl (.inl rfl))) (rg_sub (W := fun cls d _ H => E cls d H) (hu1 hr) (re_var (i := 0) rfl (.inl rfl)) re_int))
  (rss_one (rs_ret (re_var (i := 2) rfl (.inl rfl)))))) rss_nil)
  (rss_cons (rs_asg (re_op opm_mod (re_op opm_add (re_op opm_mul (re_ix (ixm (hu1 hr)) (re_var (i := 0) rfl (.inl rfl)) re_int) re_int) re_int) re_int) (rg_sub (W := fun cls d _ H => E cls d H) (hu1 hr) (re_var (i := 0) rfl (.inl rfl)) re_int))
  (rss_one (rs_ret (re_op opm_mod (re_op opm_fdiv (re_op opm_mod (re_op opm_mul (re_ix (ixm (hu1 hr)) (re_var (i := 0) rfl (.inl rfl)) re_int) re_int) re_int) re_int) (re_var (i := 1) rfl (.inl rfl)))))))
abbrev t__law_text : Stmt := topS 31
theorem sc__law_text : FnScope ["_law_work_here", "_law_rows", "_law_first", "_law_end", "_law_one", "_law_other"] ["_law_work_here"] (defScope t__law_text) := ⟨rfl, rfl, rfl, by decide +kernel, rfl, by decide +kernel, by decide +kernel⟩
theorem ok__law_text {f : Addr} {fd : FuncData} (F : Fun K "_law_text" "_law_text" t__law_text f fd) (T : Txt w K mg)  : FnOk P w K mg base (L2.CX P w) 1 f fd ["_law_work_here"] (spM K mg s__law_text) := by
  unfold s__law_text
  exact fn_ok F sc__law_text fun cdv A outer s H E hr =>
  (rss_cons (rs_set (i := 1) sc__law_text.nd rfl (.inl rfl) (re_lst (ra_cons (re_op opm_add re_str (re_callTy cm_str (by rfl) T.b_str bb_str (ra_cons (re_ix (ixm (hu1 hr)) (re_var (i := 0) rfl (.inl rfl)) re_int) ra_nil))) ra_nil)))
  (rss_cons (rs_for (passes_of rfl) rfl (ri_any (re_ix (ixm (hu1 hr)) (re_var (i := 0) rfl (.inl rfl)) re_int)) (rg_tupL rfl sc__law_text.nd (.cons (i := 2) rfl (.inl rfl) (.inr rfl) (.cons (i := 3) rfl (.inl rfl) (.inr rfl) .nil))) (rss_one (rs_expr (re_mt PySem.F.plainAttrs_list PySem.F.slot_list_append PySem.F.type_list_append mm_append (ho := (re_var (i := 1) rfl (.inl rfl))) (ha := (ra_cons (re_op opm_add (re_op opm_add (re_op opm_add re_str (re_callTy cm_str (by rfl) T.b_str bb_str (ra_cons (re_var (i := 2) rfl (.inl rfl)) ra_nil))) re_str) (re_callTy cm_str (by rfl) T.b_str bb_str (ra_cons (re_var (i := 3) rfl (.inl rfl)) ra_nil))) ra_nil))))))
  (rss_cons (rs_for (passes_of rfl) rfl (ri_any (re_ix (ixm (hu1 hr)) (re_var (i := 0) rfl (.inl rfl)) re_int)) (rg_tupL rfl sc__law_text.nd (.cons (i := 4) rfl (.inl rfl) (.inr rfl) (.cons (i := 5) rfl (.inl rfl) (.inr rfl) .nil))) (rss_one (rs_expr (re_mt PySem.F.plainAttrs_list PySem.F.slot_list_append PySem.F.type_list_append mm_append (ho := (re_var (i := 1) rfl (.inl rfl))) (ha := (ra_cons (re_op opm_add (re_op opm_add (re_op opm_add re_str (re_callTy cm_str (by rfl) T.b_str bb_str (ra_cons (re_var (i := 4) rfl (.inl rfl)) ra_nil))) re_str) (re_callTy cm_str (by rfl) T.b_str bb_str (ra_cons (re_var (i := 5) rfl (.inl rfl)) ra_nil))) ra_nil))))))
  (rss_cons (rs_for (passes_of rfl) rfl (ri_any (re_ix (ixm (hu1 hr)) (re_var (i := 0) rfl (.inl rfl)) re_int)) (rg_name (i := 3) sc__law_text.nd rfl (.inl rfl)) (rss_one (rs_expr (re_mt PySem.F.plainAttrs_list PySem.F.slot_list_append PySem.F.type_list_append mm_append (ho := (re_var (i := 1) rfl (.inl rfl))) (ha := (ra_cons (re_op opm_add re_str (re_callTy cm_str (by rfl) T.b_str bb_str (ra_cons (re_var (i := 3) rfl (.inl rfl)) ra_nil))) ra_nil))))))
  (rss_one (rs_ret (re_mt PySem.F.plainAttrs_str PySem.F.slot_str_join PySem.F.type_str_join mm_join (ho := re_str) (ha := (ra_cons (re_var (i := 1) rfl (.inl rfl)) ra_nil)))))))))
abbrev t__law_work : Stmt := topS 30
theorem sc__law_work : FnScope ["_law_bag_here", "_law_ins", "_law_boxes", "_law_gates", "_law_outs", "_law_knots", "_law_some", "_law_k", "_law_one", "_law_kept", "_law_first"] ["_law_bag_here", "_law_ins", "_law_boxes", "_law_gates", "_law_outs"] (defScope t__law_work) := ⟨rfl, rfl, rfl, by decide +kernel, rfl, by decide +kernel, by decide +kernel⟩
theorem ok__law_work {f : Addr} {fd : FuncData} (F : Fun K "_law_work" "_law_work" t__law_work f fd) (T : Txt w K mg) (h__law_take : Fn P w K mg base "_law_take" 1 ["_law_bag_here", "_law_many"] s__law_take) : FnOk P w K mg base (L2.CX P w) 2 f fd ["_law_bag_here", "_law_ins", "_law_boxes", "_law_gates", "_law_outs"] (spM K mg s__law_work) := by
  unfold s__law_work
  exact fn_ok F sc__law_work fun cdv A outer s H E hr =>
  (rss_cons (rs_set (i := 5) sc__law_work.nd rfl (.inr rfl) (re_op opm_add (re_op opm_add re_int (re_var (i := 1) rfl (.inl rfl))) (re_var (i := 2) rfl (.inl rfl))))
  (rss_cons (rs_set (i := 6) sc__law_work.nd rfl (.inl rfl) (re_lst ra_nil))
  (rss_cons (rs_for (passes_of rfl) rfl (ri_range1 (by rfl) T.b_range (ra_cons (re_var (i := 3) rfl (.inl rfl)) ra_nil)) (rg_name (i := 7) sc__law_work.nd rfl (.inl rfl)) (rss_cons (rs_set (i := 8) sc__law_work.nd rfl (.inl rfl) (re_callF h__law_take (hr.mono (by decide)) (by rfl) (takes_of rfl rfl rfl rfl) (ra_cons (re_var (i := 0) rfl (.inr (.inl rfl))) (ra_cons (re_op opm_mul re_int (re_var (i := 5) rfl (.inr (.inl rfl)))) ra_nil))))
  (rss_cons (rs_expr (re_mt PySem.F.plainAttrs_list PySem.F.slot_list_append PySem.F.type_list_append mm_append (ho := (re_var (i := 6) rfl (.inl rfl))) (ha := (ra_cons (re_tup (ra_cons (re_var (i := 8) rfl (.inl rfl)) (ra_cons (re_callF h__law_take (hr.mono (by decide)) (by rfl) (takes_of rfl rfl rfl rfl) (ra_cons (re_var (i := 0) rfl (.inr (.inl rfl))) (ra_cons (re_op opm_mul re_int (re_var (i := 5) rfl (.inr (.inl rfl)))) ra_nil))) ra_nil))) ra_nil))))
  (rss_one (rs_set (i := 5) sc__law_work.nd rfl (.inr rfl) (re_op opm_add (re_var (i := 5) rfl (.inr (.inl rfl))) re_int))))))
  (rss_cons (rs_set (i := 9) sc__law_work.nd rfl (.inl rfl) (re_lst ra_nil))
  (rss_cons (rs_for (passes_of rfl) rfl (ri_range1 (by rfl) T.b_range (ra_cons (re_var (i := 2) rfl (.inl rfl)) ra_nil)) (rg_name (i := 7) sc__law_work.nd rfl (.inl rfl)) (rss_cons (rs_set (i := 10) sc__law_work.nd rfl (.inl rfl) (re_callF h__law_take (hr.mono (by decide)) (by rfl) (takes_of rfl rfl rfl rfl) (ra_cons (re_var (i := 0) rfl (.inr (.inl rfl))) (ra_cons re_int ra_nil))))
  (rss_one (rs_expr (re_mt PySem.F.plainAttrs_list PySem.F.slot_list_append PySem.F.type_list_append mm_append (ho := (re_var (i := 9) rfl (.inl rfl))) (ha := (ra_cons (re_tup (ra_cons (re_var (i := 10) rfl (.inl rfl)) (ra_cons (re_callF h__law_take (hr.mono (by decide)) (by rfl) (takes_of rfl rfl rfl rfl) (ra_cons (re_var (i := 0) rfl (.inr (.inl rfl))) (ra_cons (re_op opm_mul re_int (re_var (i := 5) rfl (.inr (.inl rfl)))) ra_nil))) ra_nil))) ra_nil)))))))
  (rss_one (rs_ret (re_tup (ra_cons (re_var (i := 1) rfl (.inl rfl)) (ra_cons (re_var (i := 9) rfl (.inl rfl)) (ra_cons (re_var (i := 6) rfl (.inl rfl)) (ra_cons (re_lc rfl sc__law_work.nd (ri_range1 (by rfl) T.b_range (ra_cons (re_var (i := 4) rfl (.inl rfl)) ra_nil)) (blk_of (own := [("_law_k", 7)]) (by kernel_rfl)) rfl (fun _ _ _ _ _ => pg_name (i := 7) sc__law_work.nd rfl (.inl rfl)) cr_name gNm_st (fun _ _ _ _ _ => rts_nil) (fun _ _ _ _ _ => (re_callF h__law_take (hr.mono (by decide)) (by rfl) takes0 (ra_cons (re_var (i := 0) rfl (.inr (.inl rfl))) (ra_cons (re_op opm_mul re_int (re_var (i := 5) rfl (.inr (.inl rfl)))) ra_nil))))) ra_nil))))))))))))
abbrev t_work_text : Stmt := topS 22
theorem sc_work_text : FnScope ["work", "ins", "boxes", "gates", "outs", "rows", "first", "end", "one", "other"] ["work"] (defScope t_work_text) := ⟨rfl, rfl, rfl, by decide +kernel, rfl, by decide +kernel, by decide +kernel⟩
theorem ok_work_text {f : Addr} {fd : FuncData} (F : Fun K "work_text" "work_text" t_work_text f fd) (T : Txt w K mg)  : FnOk P w K mg base (L2.CX P w) 1 f fd ["work"] (spM K mg s_work_text) := by
  unfold s_work_text
  exact fn_ok F sc_work_text fun cdv A outer s H E hr =>
  (rss_cons (rs_asg (re_var (i := 0) rfl (.inl rfl)) (rg_tupL rfl sc_work_text.nd (.cons (i := 1) rfl (.inl rfl) (.inr rfl) (.cons (i := 2) rfl (.inl rfl) (.inr rfl) (.cons (i := 3) rfl (.inl rfl) (.inr rfl) (.cons (i := 4) rfl (.inl rfl) (.inr rfl) .nil))))))
  (rss_cons (rs_set (i := 5) sc_work_text.nd rfl (.inl rfl) (re_lst (ra_cons (re_js (.cons re_str (.cons (re_fmt (re_var (i := 1) rfl (.inl rfl))) .nil))) ra_nil)))
  (rss_cons (rs_for (passes_of rfl) rfl (ri_any (re_var (i := 2) rfl (.inl rfl))) (rg_tupL rfl sc_work_text.nd (.cons (i := 6) rfl (.inl rfl) (.inr rfl) (.cons (i := 7) rfl (.inl rfl) (.inr rfl) .nil))) (rss_one (rs_expr (re_mt PySem.F.plainAttrs_list PySem.F.slot_list_append PySem.F.type_list_append mm_append (ho := (re_var (i := 5) rfl (.inl rfl))) (ha := (ra_cons (re_js (.cons re_str (.cons (re_fmt (re_var (i := 6) rfl (.inl rfl))) (.cons re_str (.cons (re_fmt (re_var (i := 7) rfl (.inl rfl))) .nil))))) ra_nil))))))
  (rss_cons (rs_for (passes_of rfl) rfl (ri_any (re_var (i := 3) rfl (.inl rfl))) (rg_tupL rfl sc_work_text.nd (.cons (i := 8) rfl (.inl rfl) (.inr rfl) (.cons (i := 9) rfl (.inl rfl) (.inr rfl) .nil))) (rss_one (rs_expr (re_mt PySem.F.plainAttrs_list PySem.F.slot_list_append PySem.F.type_list_append mm_append (ho := (re_var (i := 5) rfl (.inl rfl))) (ha := (ra_cons (re_js (.cons re_str (.cons (re_fmt (re_var (i := 8) rfl (.inl rfl))) (.cons re_str (.cons (re_fmt (re_var (i := 9) rfl (.inl rfl))) .nil))))) ra_nil))))))
  (rss_cons (rs_for (passes_of rfl) rfl (ri_any (re_var (i := 4) rfl (.inl rfl))) (rg_name (i := 7) sc_work_text.nd rfl (.inl rfl)) (rss_one (rs_expr (re_mt PySem.F.plainAttrs_list PySem.F.slot_list_append PySem.F.type_list_append mm_append (ho := (re_var (i := 5) rfl (.inl rfl))) (ha := (ra_cons (re_js (.cons re_str (.cons (re_fmt (re_var (i := 7) rfl (.inl rfl))) .nil))) ra_nil))))))
  (rss_one (rs_ret (re_mt PySem.F.plainAttrs_str PySem.F.slot_str_join PySem.F.type_str_join mm_join (ho := re_str) (ha := (ra_cons (re_var (i := 5) rfl (.inl rfl)) ra_nil))))))))))
abbrev t_law : Stmt := topS 33
theorem sc_law : FnScope ["_law_script", "_law_bag_here", "_law_sizes", "_law_work_here", "_law_other", "_law_text_here", "_law_kept", "_law_found"] ["_law_script"] (defScope t_law) := ⟨rfl, rfl, rfl, by decide +kernel, rfl, by decide +kernel, by decide +kernel⟩
theorem ok_law {f : Addr} {fd : FuncData} (F : Fun K "law" "law" t_law f fd) (T : Txt w K mg) (h__law_bag : Fn P w K mg base "_law_bag" 2 ["_law_script", "_law_k"] s__law_bag) (h__law_read : Fn P w K mg base "_law_read" 6 ["_law_work_here", "_law_text_here"] s__law_read) (h__law_take : Fn P w K mg base "_law_take" 1 ["_law_bag_here", "_law_many"] s__law_take) (h__law_text : Fn P w K mg base "_law_text" 1 ["_law_work_here"] s__law_text) (h__law_work : Fn P w K mg base "_law_work" 2 ["_law_bag_here", "_law_ins", "_law_boxes", "_law_gates", "_law_outs"] s__law_work) (h_read_work : Fn P w K mg base "read_work" 5 ["text"] s_read_work) (h_work_text : Fn P w K mg base "work_text" 1 ["work"] s_work_text) : FnG P w K mg base (L2.CX P w) 7 f ["_law_script"] fd (spM K mg s_law) := by
  unfold s_law
  exact fn_okG F sc_law fun cdv A outer s H E hgd hr =>
  (rss_cons (rs_set (i := 1) sc_law.nd rfl (.inl rfl) (re_callF h__law_bag (hr.mono (by decide)) (by rfl) (takes_of rfl rfl rfl rfl) (ra_cons (re_var (i := 0) rfl (.inl rfl)) (ra_cons re_int ra_nil))))
  (rss_cons (rs_set (i := 2) sc_law.nd rfl (.inl rfl) (re_lst (ra_cons (re_callF h__law_take (hr.mono (by decide)) (by rfl) (takes_of rfl rfl rfl rfl) (ra_cons (re_var (i := 1) rfl (.inl rfl)) (ra_cons re_int ra_nil))) (ra_cons (re_callF h__law_take (hr.mono (by decide)) (by rfl) (takes_of rfl rfl rfl rfl) (ra_cons (re_var (i := 1) rfl (.inl rfl)) (ra_cons re_int ra_nil))) (ra_cons (re_callF h__law_take (hr.mono (by decide)) (by rfl) (takes_of rfl rfl rfl rfl) (ra_cons (re_var (i := 1) rfl (.inl rfl)) (ra_cons re_int ra_nil))) (ra_cons (re_callF h__law_take (hr.mono (by decide)) (by rfl) (takes_of rfl rfl rfl rfl) (ra_cons (re_var (i := 1) rfl (.inl rfl)) (ra_cons re_int ra_nil))) ra_nil))))))
  (rss_cons (rs_if (rt_cmp (opm_eq (hu64 hr)) (re_callF h__law_take (hr.mono (by decide)) (by rfl) (takes_of rfl rfl rfl rfl) (ra_cons (re_var (i := 1) rfl (.inl rfl)) (ra_cons re_int ra_nil))) re_int) (rss_one (rs_asg (re_callF h__law_take (hr.mono (by decide)) (by rfl) (takes_of rfl rfl rfl rfl) (ra_cons (re_var (i := 1) rfl (.inl rfl)) (ra_cons re_int ra_nil))) (rg_sub (W := fun cls d _ H => E cls d H) (hu1 hr) (re_var (i := 2) rfl (.inl rfl)) re_int))) rss_nil)
  (rss_cons (rs_set (i := 3) sc_law.nd rfl (.inl rfl) (re_callF h__law_work (hr.mono (by decide)) (by rfl) (takes_of rfl rfl rfl rfl) (ra_cons (re_callF h__law_bag (hr.mono (by decide)) (by rfl) (takes_of rfl rfl rfl rfl) (ra_cons (re_var (i := 0) rfl (.inl rfl)) (ra_cons re_int ra_nil))) (ra_cons (re_ix (ixm (hu1 hr)) (re_var (i := 2) rfl (.inl rfl)) re_int) (ra_cons (re_ix (ixm (hu1 hr)) (re_var (i := 2) rfl (.inl rfl)) re_int) (ra_cons (re_ix (ixm (hu1 hr)) (re_var (i := 2) rfl (.inl rfl)) re_int) (ra_cons (re_ix (ixm (hu1 hr)) (re_var (i := 2) rfl (.inl rfl)) re_int) ra_nil)))))))
  (rss_cons (rs_set (i := 4) sc_law.nd rfl (.inl rfl) (re_callF h__law_work (hr.mono (by decide)) (by rfl) (takes_of rfl rfl rfl rfl) (ra_cons (re_callF h__law_bag (hr.mono (by decide)) (by rfl) (takes_of rfl rfl rfl rfl) (ra_cons (re_var (i := 0) rfl (.inl rfl)) (ra_cons re_int ra_nil))) (ra_cons re_int (ra_cons re_int (ra_cons re_int (ra_cons re_int ra_nil)))))))
  (rss_cons (rs_set (i := 5) sc_law.nd rfl (.inl rfl) (re_callF h__law_text (hr.mono (by decide)) (by rfl) (takes_of rfl rfl rfl rfl) (ra_cons (re_var (i := 3) rfl (.inl rfl)) ra_nil)))
  (rss_cons (rs_set (i := 6) sc_law.nd rfl (.inl rfl) (re_callB (cm_repr hgd (hu64 hr)) (by rfl) T.b_repr PyProof.Rows.Boot.«repr» (ra_cons (re_var (i := 3) rfl (.inl rfl)) ra_nil)))
  (rss_cons (rs_set (i := 7) sc_law.nd rfl (.inl rfl) (re_callF h_work_text (hr.mono (by decide)) (by rfl) (takes_of rfl rfl rfl rfl) (ra_cons (re_var (i := 3) rfl (.inl rfl)) ra_nil)))
  (rss_cons (rs_if (rt_bop (rw_or (rt_not (rt_tru (re_callB cm_isi (by rfl) T.b_isinstance bb_isinstance (ra_cons (re_var (i := 7) rfl (.inl rfl)) (ra_cons (re_ty (by rfl) T.b_str bb_str) ra_nil))))) (rw_or (rt_cmp (opm_ne (hu64 hr)) (re_var (i := 7) rfl (.inl rfl)) (re_var (i := 5) rfl (.inl rfl))) (rw_or1 (rt_cmp (opm_ne (hu64 hr)) (re_callB (cm_repr hgd (hu64 hr)) (by rfl) T.b_repr PyProof.Rows.Boot.«repr» (ra_cons (re_var (i := 3) rfl (.inl rfl)) ra_nil)) (re_var (i := 6) rfl (.inl rfl))))))) (rss_one (rs_ret re_bl)) rss_nil)
  (rss_cons (rs_if (rt_bop (rw_or (rt_not (rt_tru (re_callF h__law_read (hr.mono (by decide)) (by rfl) (takes_of rfl rfl rfl rfl) (ra_cons (re_var (i := 3) rfl (.inl rfl)) (ra_cons (re_var (i := 5) rfl (.inl rfl)) ra_nil))))) (rw_or (rt_not (rt_tru (re_callF h__law_read (hr.mono (by decide)) (by rfl) (takes_of rfl rfl rfl rfl) (ra_cons (re_var (i := 4) rfl (.inl rfl)) (ra_cons (re_callF h__law_text (hr.mono (by decide)) (by rfl) (takes_of rfl rfl rfl rfl) (ra_cons (re_var (i := 4) rfl (.inl rfl)) ra_nil)) ra_nil))))) (rw_or1 (rt_not (rt_tru (re_callF h__law_read (hr.mono (by decide)) (by rfl) (takes_of rfl rfl rfl rfl) (ra_cons (re_var (i := 3) rfl (.inl rfl)) (ra_cons (re_var (i := 5) rfl (.inl rfl)) ra_nil))))))))) (rss_one (rs_ret re_bl)) rss_nil)
  (rss_one (rs_ret (re_cmp (opm_eq (hu64 hr)) (re_callF h_work_text (hr.mono (by decide)) (by rfl) (takes_of rfl rfl rfl rfl) (ra_cons (re_callF h_read_work (hr.mono (by decide)) (by rfl) (takes_of rfl rfl rfl rfl) (ra_cons (re_var (i := 5) rfl (.inl rfl)) ra_nil)) ra_nil)) (re_var (i := 5) rfl (.inl rfl)))))))))))))))
end
theorem all_mk {l : PySem.W.OpenLaw} {w : World} {K : PySem.W.Frag} {h : Heap} {mg : Str → Option Value} {fa : Addr} (X : K.In h) (G : h.Ns mainGlobals mg) (hfa : mg "law" = some (.ref fa))
    (hmain : ∀ ns : List Int, ns.length ≤ 63 → ∃ st, s_law [.fzl (ns.map DV.int)] [] = .ok (.bl true) st)
    {f0 : Addr} {od0 an0 : Option Addr} {sl0 : Array (Option Value)} {oc0 kV0 dc0 pm0 cd0 ct0 : Value}
    {f1 : Addr} {od1 an1 : Option Addr} {sl1 : Array (Option Value)} {oc1 kV1 dc1 pm1 cd1 ct1 : Value}
    {f2 : Addr} {od2 an2 : Option Addr} {sl2 : Array (Option Value)} {oc2 kV2 dc2 pm2 cd2 ct2 : Value}
    {f3 : Addr} {od3 an3 : Option Addr} {sl3 : Array (Option Value)} {oc3 kV3 dc3 pm3 cd3 ct3 : Value}
    {f4 : Addr} {od4 an4 : Option Addr} {sl4 : Array (Option Value)} {oc4 kV4 dc4 pm4 cd4 ct4 : Value}
    {f5 : Addr} {od5 an5 : Option Addr} {sl5 : Array (Option Value)} {oc5 kV5 dc5 pm5 cd5 ct5 : Value}
    {f6 : Addr} {od6 an6 : Option Addr} {sl6 : Array (Option Value)} {oc6 kV6 dc6 pm6 cd6 ct6 : Value}
    {f7 : Addr} {od7 an7 : Option Addr} {sl7 : Array (Option Value)} {oc7 kV7 dc7 pm7 cd7 ct7 : Value}
    {f8 : Addr} {od8 an8 : Option Addr} {sl8 : Array (Option Value)} {oc8 kV8 dc8 pm8 cd8 ct8 : Value}
    {f9 : Addr} {od9 an9 : Option Addr} {sl9 : Array (Option Value)} {oc9 kV9 dc9 pm9 cd9 ct9 : Value}
    {f10 : Addr} {od10 an10 : Option Addr} {sl10 : Array (Option Value)} {oc10 kV10 dc10 pm10 cd10 ct10 : Value}
    {f11 : Addr} {od11 an11 : Option Addr} {sl11 : Array (Option Value)} {oc11 kV11 dc11 pm11 cd11 ct11 : Value}
    {f12 : Addr} {od12 an12 : Option Addr} {sl12 : Array (Option Value)} {oc12 kV12 dc12 pm12 cd12 ct12 : Value}
    {f13 : Addr} {od13 an13 : Option Addr} {sl13 : Array (Option Value)} {oc13 kV13 dc13 pm13 cd13 ct13 : Value}
    {f14 : Addr} {od14 an14 : Option Addr} {sl14 : Array (Option Value)} {oc14 kV14 dc14 pm14 cd14 ct14 : Value}
    {f15 : Addr} {od15 an15 : Option Addr} {sl15 : Array (Option Value)} {oc15 kV15 dc15 pm15 cd15 ct15 : Value}
    {f16 : Addr} {od16 an16 : Option Addr} {sl16 : Array (Option Value)} {oc16 kV16 dc16 pm16 cd16 ct16 : Value}
    {f17 : Addr} {od17 an17 : Option Addr} {sl17 : Array (Option Value)} {oc17 kV17 dc17 pm17 cd17 ct17 : Value}
    {f18 : Addr} {od18 an18 : Option Addr} {sl18 : Array (Option Value)} {oc18 kV18 dc18 pm18 cd18 ct18 : Value}
    {f19 : Addr} {od19 an19 : Option Addr} {sl19 : Array (Option Value)} {oc19 kV19 dc19 pm19 cd19 ct19 : Value}
    {f20 : Addr} {od20 an20 : Option Addr} {sl20 : Array (Option Value)} {oc20 kV20 dc20 pm20 cd20 ct20 : Value}
    {f21 : Addr} {od21 an21 : Option Addr} {sl21 : Array (Option Value)} {oc21 kV21 dc21 pm21 cd21 ct21 : Value}
    {f22 : Addr} {od22 an22 : Option Addr} {sl22 : Array (Option Value)} {oc22 kV22 dc22 pm22 cd22 ct22 : Value}
    {f23 : Addr} {od23 an23 : Option Addr} {sl23 : Array (Option Value)} {oc23 kV23 dc23 pm23 cd23 ct23 : Value}
    {ct_FIGURES : Tok}
    {ct_LONGEST : Tok}
    (a0 : PySem.W.nsIn K mainGlobals "_law_cell_at" = some (some (.ref f0)))
    (l0 : K.lookup f0 = some ⟨oc0, od0, .func (PySem.W.fnOf "_law_cell_at" "_law_cell_at" (defArgs t__law_cell_at) (defBody t__law_cell_at) (defScope t__law_cell_at) .none kV0 dc0 pm0 an0 cd0 ct0), sl0⟩) (c0 : PySem.W.codeIn K cd0 "_law_cell_at" = true) (k0 : PySem.W.keepIn K (.ref f0) = true)
    (a1 : PySem.W.nsIn K mainGlobals "_law_bag" = some (some (.ref f1)))
    (l1 : K.lookup f1 = some ⟨oc1, od1, .func (PySem.W.fnOf "_law_bag" "_law_bag" (defArgs t__law_bag) (defBody t__law_bag) (defScope t__law_bag) .none kV1 dc1 pm1 an1 cd1 ct1), sl1⟩) (c1 : PySem.W.codeIn K cd1 "_law_bag" = true) (k1 : PySem.W.keepIn K (.ref f1) = true)
    (a2 : PySem.W.nsIn K mainGlobals "_law_whole" = some (some (.ref f2)))
    (l2 : K.lookup f2 = some ⟨oc2, od2, .func (PySem.W.fnOf "_law_whole" "_law_whole" (defArgs t__law_whole) (defBody t__law_whole) (defScope t__law_whole) .none kV2 dc2 pm2 an2 cd2 ct2), sl2⟩) (c2 : PySem.W.codeIn K cd2 "_law_whole" = true) (k2 : PySem.W.keepIn K (.ref f2) = true)
    (a3 : PySem.W.nsIn K mainGlobals "_law_ends" = some (some (.ref f3)))
    (l3 : K.lookup f3 = some ⟨oc3, od3, .func (PySem.W.fnOf "_law_ends" "_law_ends" (defArgs t__law_ends) (defBody t__law_ends) (defScope t__law_ends) .none kV3 dc3 pm3 an3 cd3 ct3), sl3⟩) (c3 : PySem.W.codeIn K cd3 "_law_ends" = true) (k3 : PySem.W.keepIn K (.ref f3) = true)
    (a4 : PySem.W.nsIn K mainGlobals "_law_formed" = some (some (.ref f4)))
    (l4 : K.lookup f4 = some ⟨oc4, od4, .func (PySem.W.fnOf "_law_formed" "_law_formed" (defArgs t__law_formed) (defBody t__law_formed) (defScope t__law_formed) .none kV4 dc4 pm4 an4 cd4 ct4), sl4⟩) (c4 : PySem.W.codeIn K cd4 "_law_formed" = true) (k4 : PySem.W.keepIn K (.ref f4) = true)
    (a5 : PySem.W.nsIn K mainGlobals "in_order" = some (some (.ref f5)))
    (l5 : K.lookup f5 = some ⟨oc5, od5, .func (PySem.W.fnOf "in_order" "in_order" (defArgs t_in_order) (defBody t_in_order) (defScope t_in_order) .none kV5 dc5 pm5 an5 cd5 ct5), sl5⟩) (c5 : PySem.W.codeIn K cd5 "in_order" = true) (k5 : PySem.W.keepIn K (.ref f5) = true)
    (a6 : PySem.W.nsIn K mainGlobals "is_whole" = some (some (.ref f6)))
    (l6 : K.lookup f6 = some ⟨oc6, od6, .func (PySem.W.fnOf "is_whole" "is_whole" (defArgs t_is_whole) (defBody t_is_whole) (defScope t_is_whole) .none kV6 dc6 pm6 an6 cd6 ct6), sl6⟩) (c6 : PySem.W.codeIn K cd6 "is_whole" = true) (k6 : PySem.W.keepIn K (.ref f6) = true)
    (a7 : PySem.W.nsIn K mainGlobals "is_end" = some (some (.ref f7)))
    (l7 : K.lookup f7 = some ⟨oc7, od7, .func (PySem.W.fnOf "is_end" "is_end" (defArgs t_is_end) (defBody t_is_end) (defScope t_is_end) .none kV7 dc7 pm7 an7 cd7 ct7), sl7⟩) (c7 : PySem.W.codeIn K cd7 "is_end" = true) (k7 : PySem.W.keepIn K (.ref f7) = true)
    (a8 : PySem.W.nsIn K mainGlobals "is_pair" = some (some (.ref f8)))
    (l8 : K.lookup f8 = some ⟨oc8, od8, .func (PySem.W.fnOf "is_pair" "is_pair" (defArgs t_is_pair) (defBody t_is_pair) (defScope t_is_pair) .none kV8 dc8 pm8 an8 cd8 ct8), sl8⟩) (c8 : PySem.W.codeIn K cd8 "is_pair" = true) (k8 : PySem.W.keepIn K (.ref f8) = true)
    (a9 : PySem.W.nsIn K mainGlobals "are_boxes" = some (some (.ref f9)))
    (l9 : K.lookup f9 = some ⟨oc9, od9, .func (PySem.W.fnOf "are_boxes" "are_boxes" (defArgs t_are_boxes) (defBody t_are_boxes) (defScope t_are_boxes) .none kV9 dc9 pm9 an9 cd9 ct9), sl9⟩) (c9 : PySem.W.codeIn K cd9 "are_boxes" = true) (k9 : PySem.W.keepIn K (.ref f9) = true)
    (a10 : PySem.W.nsIn K mainGlobals "are_gates" = some (some (.ref f10)))
    (l10 : K.lookup f10 = some ⟨oc10, od10, .func (PySem.W.fnOf "are_gates" "are_gates" (defArgs t_are_gates) (defBody t_are_gates) (defScope t_are_gates) .none kV10 dc10 pm10 an10 cd10 ct10), sl10⟩) (c10 : PySem.W.codeIn K cd10 "are_gates" = true) (k10 : PySem.W.keepIn K (.ref f10) = true)
    (a11 : PySem.W.nsIn K mainGlobals "first_gate" = some (some (.ref f11)))
    (l11 : K.lookup f11 = some ⟨oc11, od11, .func (PySem.W.fnOf "first_gate" "first_gate" (defArgs t_first_gate) (defBody t_first_gate) (defScope t_first_gate) .none kV11 dc11 pm11 an11 cd11 ct11), sl11⟩) (c11 : PySem.W.codeIn K cd11 "first_gate" = true) (k11 : PySem.W.keepIn K (.ref f11) = true)
    (a12 : PySem.W.nsIn K mainGlobals "knots_of" = some (some (.ref f12)))
    (l12 : K.lookup f12 = some ⟨oc12, od12, .func (PySem.W.fnOf "knots_of" "knots_of" (defArgs t_knots_of) (defBody t_knots_of) (defScope t_knots_of) .none kV12 dc12 pm12 an12 cd12 ct12), sl12⟩) (c12 : PySem.W.codeIn K cd12 "knots_of" = true) (k12 : PySem.W.keepIn K (.ref f12) = true)
    (a13 : PySem.W.nsIn K mainGlobals "is_work" = some (some (.ref f13)))
    (l13 : K.lookup f13 = some ⟨oc13, od13, .func (PySem.W.fnOf "is_work" "is_work" (defArgs t_is_work) (defBody t_is_work) (defScope t_is_work) .none kV13 dc13 pm13 an13 cd13 ct13), sl13⟩) (c13 : PySem.W.codeIn K cd13 "is_work" = true) (k13 : PySem.W.keepIn K (.ref f13) = true)
    (a14 : PySem.W.nsIn K mainGlobals "number_of" = some (some (.ref f14)))
    (l14 : K.lookup f14 = some ⟨oc14, od14, .func (PySem.W.fnOf "number_of" "number_of" (defArgs t_number_of) (defBody t_number_of) (defScope t_number_of) .none kV14 dc14 pm14 an14 cd14 ct14), sl14⟩) (c14 : PySem.W.codeIn K cd14 "number_of" = true) (k14 : PySem.W.keepIn K (.ref f14) = true)
    (a15 : PySem.W.nsIn K mainGlobals "numbers_after" = some (some (.ref f15)))
    (l15 : K.lookup f15 = some ⟨oc15, od15, .func (PySem.W.fnOf "numbers_after" "numbers_after" (defArgs t_numbers_after) (defBody t_numbers_after) (defScope t_numbers_after) .none kV15 dc15 pm15 an15 cd15 ct15), sl15⟩) (c15 : PySem.W.codeIn K cd15 "numbers_after" = true) (k15 : PySem.W.keepIn K (.ref f15) = true)
    (a16 : PySem.W.nsIn K mainGlobals "rows_of" = some (some (.ref f16)))
    (l16 : K.lookup f16 = some ⟨oc16, od16, .func (PySem.W.fnOf "rows_of" "rows_of" (defArgs t_rows_of) (defBody t_rows_of) (defScope t_rows_of) .none kV16 dc16 pm16 an16 cd16 ct16), sl16⟩) (c16 : PySem.W.codeIn K cd16 "rows_of" = true) (k16 : PySem.W.keepIn K (.ref f16) = true)
    (a17 : PySem.W.nsIn K mainGlobals "read_work" = some (some (.ref f17)))
    (l17 : K.lookup f17 = some ⟨oc17, od17, .func (PySem.W.fnOf "read_work" "read_work" (defArgs t_read_work) (defBody t_read_work) (defScope t_read_work) .none kV17 dc17 pm17 an17 cd17 ct17), sl17⟩) (c17 : PySem.W.codeIn K cd17 "read_work" = true) (k17 : PySem.W.keepIn K (.ref f17) = true)
    (a18 : PySem.W.nsIn K mainGlobals "_law_read" = some (some (.ref f18)))
    (l18 : K.lookup f18 = some ⟨oc18, od18, .func (PySem.W.fnOf "_law_read" "_law_read" (defArgs t__law_read) (defBody t__law_read) (defScope t__law_read) .none kV18 dc18 pm18 an18 cd18 ct18), sl18⟩) (c18 : PySem.W.codeIn K cd18 "_law_read" = true) (k18 : PySem.W.keepIn K (.ref f18) = true)
    (a19 : PySem.W.nsIn K mainGlobals "_law_take" = some (some (.ref f19)))
    (l19 : K.lookup f19 = some ⟨oc19, od19, .func (PySem.W.fnOf "_law_take" "_law_take" (defArgs t__law_take) (defBody t__law_take) (defScope t__law_take) .none kV19 dc19 pm19 an19 cd19 ct19), sl19⟩) (c19 : PySem.W.codeIn K cd19 "_law_take" = true) (k19 : PySem.W.keepIn K (.ref f19) = true)
    (a20 : PySem.W.nsIn K mainGlobals "_law_text" = some (some (.ref f20)))
    (l20 : K.lookup f20 = some ⟨oc20, od20, .func (PySem.W.fnOf "_law_text" "_law_text" (defArgs t__law_text) (defBody t__law_text) (defScope t__law_text) .none kV20 dc20 pm20 an20 cd20 ct20), sl20⟩) (c20 : PySem.W.codeIn K cd20 "_law_text" = true) (k20 : PySem.W.keepIn K (.ref f20) = true)
    (a21 : PySem.W.nsIn K mainGlobals "_law_work" = some (some (.ref f21)))
    (l21 : K.lookup f21 = some ⟨oc21, od21, .func (PySem.W.fnOf "_law_work" "_law_work" (defArgs t__law_work) (defBody t__law_work) (defScope t__law_work) .none kV21 dc21 pm21 an21 cd21 ct21), sl21⟩) (c21 : PySem.W.codeIn K cd21 "_law_work" = true) (k21 : PySem.W.keepIn K (.ref f21) = true)
    (a22 : PySem.W.nsIn K mainGlobals "work_text" = some (some (.ref f22)))
    (l22 : K.lookup f22 = some ⟨oc22, od22, .func (PySem.W.fnOf "work_text" "work_text" (defArgs t_work_text) (defBody t_work_text) (defScope t_work_text) .none kV22 dc22 pm22 an22 cd22 ct22), sl22⟩) (c22 : PySem.W.codeIn K cd22 "work_text" = true) (k22 : PySem.W.keepIn K (.ref f22) = true)
    (a23 : PySem.W.nsIn K mainGlobals "law" = some (some (.ref f23)))
    (l23 : K.lookup f23 = some ⟨oc23, od23, .func (PySem.W.fnOf "law" "law" (defArgs t_law) (defBody t_law) (defScope t_law) .none kV23 dc23 pm23 an23 cd23 ct23), sl23⟩) (c23 : PySem.W.codeIn K cd23 "law" = true) (k23 : PySem.W.keepIn K (.ref f23) = true)
    (z_all : PySem.W.nsIn K mainGlobals "all" = some none)
    (z_bool : PySem.W.nsIn K mainGlobals "bool" = some none)
    (z_enumerate : PySem.W.nsIn K mainGlobals "enumerate" = some none)
    (z_int : PySem.W.nsIn K mainGlobals "int" = some none)
    (z_isinstance : PySem.W.nsIn K mainGlobals "isinstance" = some none)
    (z_len : PySem.W.nsIn K mainGlobals "len" = some none)
    (z_list : PySem.W.nsIn K mainGlobals "list" = some none)
    (z_range : PySem.W.nsIn K mainGlobals "range" = some none)
    (z_repr : PySem.W.nsIn K mainGlobals "repr" = some none)
    (z_str : PySem.W.nsIn K mainGlobals "str" = some none)
    (z_tuple : PySem.W.nsIn K mainGlobals "tuple" = some none)
    (cz_FIGURES : PySem.W.nsIn K mainGlobals "FIGURES" = some (some (.str "0123456789" ct_FIGURES)))
    (cz_LONGEST : PySem.W.nsIn K mainGlobals "LONGEST" = some (some (.int (9) ct_LONGEST))) :
    ∃ fd : FuncData, (∀ (s : Shared) (v : Value), BindsTo s fd ⟨[v], []⟩ [("_law_script", v)]) ∧ ∀ base : Heap, K.In base → base.Ns mainGlobals mg → FnG l.prog w K mg base (L2.CX l.prog w) 7 fa ["_law_script"] fd (spL K 63) := by
  have e := hfa.symm.trans (PySem.W.mg_of X G a23)
  cases e
  have T : Txt w K mg := ⟨PySem.W.mg_none_of X G z_all, PySem.W.mg_none_of X G z_bool, PySem.W.mg_none_of X G z_enumerate, PySem.W.mg_none_of X G z_int, PySem.W.mg_none_of X G z_isinstance, PySem.W.mg_none_of X G z_len, PySem.W.mg_none_of X G z_list, PySem.W.mg_none_of X G z_range, PySem.W.mg_none_of X G z_repr, PySem.W.mg_none_of X G z_str, PySem.W.mg_none_of X G z_tuple, gc_str X G cz_FIGURES, gc_int X G cz_LONGEST, trivial⟩
  have F0 := fun_mk (st := t__law_cell_at) l0 c0 k0
  have b0 := F0.binds (ps := ["_law_script", "_law_k"]) fun _ _ _ _ _ _ us hl => match us, hl with | [_, _], _ => rfl
  have F1 := fun_mk (st := t__law_bag) l1 c1 k1
  have b1 := F1.binds (ps := ["_law_script", "_law_k"]) fun _ _ _ _ _ _ us hl => match us, hl with | [_, _], _ => rfl
  have F2 := fun_mk (st := t__law_whole) l2 c2 k2
  have b2 := F2.binds (ps := ["_law_found"]) fun _ _ _ _ _ _ us hl => match us, hl with | [_], _ => rfl
  have F3 := fun_mk (st := t__law_ends) l3 c3 k3
  have b3 := F3.binds (ps := ["_law_some", "_law_knots"]) fun _ _ _ _ _ _ us hl => match us, hl with | [_, _], _ => rfl
  have F4 := fun_mk (st := t__law_formed) l4 c4 k4
  have b4 := F4.binds (ps := ["_law_work_here", "_law_ins", "_law_firsts", "_law_outs"]) fun _ _ _ _ _ _ us hl => match us, hl with | [_, _, _, _], _ => rfl
  have F5 := fun_mk (st := t_in_order) l5 c5 k5
  have b5 := F5.binds (ps := ["rows", "words", "most"]) fun _ _ _ _ _ _ us hl => match us, hl with | [_, _, _], _ => rfl
  have F6 := fun_mk (st := t_is_whole) l6 c6 k6
  have b6 := F6.binds (ps := ["thing"]) fun _ _ _ _ _ _ us hl => match us, hl with | [_], _ => rfl
  have F7 := fun_mk (st := t_is_end) l7 c7 k7
  have b7 := F7.binds (ps := ["thing", "knots"]) fun _ _ _ _ _ _ us hl => match us, hl with | [_, _], _ => rfl
  have F8 := fun_mk (st := t_is_pair) l8 c8 k8
  have b8 := F8.binds (ps := ["thing"]) fun _ _ _ _ _ _ us hl => match us, hl with | [_], _ => rfl
  have F9 := fun_mk (st := t_are_boxes) l9 c9 k9
  have b9 := F9.binds (ps := ["boxes", "knots"]) fun _ _ _ _ _ _ us hl => match us, hl with | [_, _], _ => rfl
  have F10 := fun_mk (st := t_are_gates) l10 c10 k10
  have b10 := F10.binds (ps := ["gates", "first"]) fun _ _ _ _ _ _ us hl => match us, hl with | [_, _], _ => rfl
  have F11 := fun_mk (st := t_first_gate) l11 c11 k11
  have b11 := F11.binds (ps := ["work"]) fun _ _ _ _ _ _ us hl => match us, hl with | [_], _ => rfl
  have F12 := fun_mk (st := t_knots_of) l12 c12 k12
  have b12 := F12.binds (ps := ["work"]) fun _ _ _ _ _ _ us hl => match us, hl with | [_], _ => rfl
  have F13 := fun_mk (st := t_is_work) l13 c13 k13
  have b13 := F13.binds (ps := ["thing"]) fun _ _ _ _ _ _ us hl => match us, hl with | [_], _ => rfl
  have F14 := fun_mk (st := t_number_of) l14 c14 k14
  have b14 := F14.binds (ps := ["word"]) fun _ _ _ _ _ _ us hl => match us, hl with | [_], _ => rfl
  have F15 := fun_mk (st := t_numbers_after) l15 c15 k15
  have b15 := F15.binds (ps := ["words", "word", "many"]) fun _ _ _ _ _ _ us hl => match us, hl with | [_, _, _], _ => rfl
  have F16 := fun_mk (st := t_rows_of) l16 c16 k16
  have b16 := F16.binds (ps := ["text"]) fun _ _ _ _ _ _ us hl => match us, hl with | [_], _ => rfl
  have F17 := fun_mk (st := t_read_work) l17 c17 k17
  have b17 := F17.binds (ps := ["text"]) fun _ _ _ _ _ _ us hl => match us, hl with | [_], _ => rfl
  have F18 := fun_mk (st := t__law_read) l18 c18 k18
  have b18 := F18.binds (ps := ["_law_work_here", "_law_text_here"]) fun _ _ _ _ _ _ us hl => match us, hl with | [_, _], _ => rfl
  have F19 := fun_mk (st := t__law_take) l19 c19 k19
  have b19 := F19.binds (ps := ["_law_bag_here", "_law_many"]) fun _ _ _ _ _ _ us hl => match us, hl with | [_, _], _ => rfl
  have F20 := fun_mk (st := t__law_text) l20 c20 k20
  have b20 := F20.binds (ps := ["_law_work_here"]) fun _ _ _ _ _ _ us hl => match us, hl with | [_], _ => rfl
  have F21 := fun_mk (st := t__law_work) l21 c21 k21
  have b21 := F21.binds (ps := ["_law_bag_here", "_law_ins", "_law_boxes", "_law_gates", "_law_outs"]) fun _ _ _ _ _ _ us hl => match us, hl with | [_, _, _, _, _], _ => rfl
  have F22 := fun_mk (st := t_work_text) l22 c22 k22
  have b22 := F22.binds (ps := ["work"]) fun _ _ _ _ _ _ us hl => match us, hl with | [_], _ => rfl
  have F23 := fun_mk (st := t_law) l23 c23 k23
  have b23 := F23.binds (ps := ["_law_script"]) fun _ _ _ _ _ _ us hl => match us, hl with | [_], _ => rfl
  refine ⟨PySem.W.fnOf "law" "law" (defArgs t_law) (defBody t_law) (defScope t_law) .none kV23 dc23 pm23 an23 cd23 ct23, fun s v => .of_eq rfl, fun base _ _ => ?_⟩
  have h__law_cell_at : Fn l.prog w K mg base "_law_cell_at" 1 ["_law_script", "_law_k"] s__law_cell_at := ⟨_, _, ok__law_cell_at F0 T , PySem.W.mg_of X G a0, F0.kp, b0⟩
  have h__law_bag : Fn l.prog w K mg base "_law_bag" 2 ["_law_script", "_law_k"] s__law_bag := ⟨_, _, ok__law_bag F1 T h__law_cell_at, PySem.W.mg_of X G a1, F1.kp, b1⟩
  have h__law_whole : Fn l.prog w K mg base "_law_whole" 1 ["_law_found"] s__law_whole := ⟨_, _, ok__law_whole F2 T , PySem.W.mg_of X G a2, F2.kp, b2⟩
  have h__law_ends : Fn l.prog w K mg base "_law_ends" 2 ["_law_some", "_law_knots"] s__law_ends := ⟨_, _, ok__law_ends F3 T h__law_whole, PySem.W.mg_of X G a3, F3.kp, b3⟩
  have h__law_formed : Fn l.prog w K mg base "_law_formed" 3 ["_law_work_here", "_law_ins", "_law_firsts", "_law_outs"] s__law_formed := ⟨_, _, ok__law_formed F4 T h__law_ends h__law_whole, PySem.W.mg_of X G a4, F4.kp, b4⟩
  have h_in_order : Fn l.prog w K mg base "in_order" 1 ["rows", "words", "most"] s_in_order := ⟨_, _, ok_in_order F5 T , PySem.W.mg_of X G a5, F5.kp, b5⟩
  have h_is_whole : Fn l.prog w K mg base "is_whole" 1 ["thing"] s_is_whole := ⟨_, _, ok_is_whole F6 T , PySem.W.mg_of X G a6, F6.kp, b6⟩
  have h_is_end : Fn l.prog w K mg base "is_end" 2 ["thing", "knots"] s_is_end := ⟨_, _, ok_is_end F7 T h_is_whole, PySem.W.mg_of X G a7, F7.kp, b7⟩
  have h_is_pair : Fn l.prog w K mg base "is_pair" 1 ["thing"] s_is_pair := ⟨_, _, ok_is_pair F8 T , PySem.W.mg_of X G a8, F8.kp, b8⟩
  have h_are_boxes : Fn l.prog w K mg base "are_boxes" 3 ["boxes", "knots"] s_are_boxes := ⟨_, _, ok_are_boxes F9 T h_is_end h_is_pair h_is_whole, PySem.W.mg_of X G a9, F9.kp, b9⟩
  have h_are_gates : Fn l.prog w K mg base "are_gates" 3 ["gates", "first"] s_are_gates := ⟨_, _, ok_are_gates F10 T h_is_end h_is_pair, PySem.W.mg_of X G a10, F10.kp, b10⟩
  have h_first_gate : Fn l.prog w K mg base "first_gate" 1 ["work"] s_first_gate := ⟨_, _, ok_first_gate F11 T , PySem.W.mg_of X G a11, F11.kp, b11⟩
  have h_knots_of : Fn l.prog w K mg base "knots_of" 2 ["work"] s_knots_of := ⟨_, _, ok_knots_of F12 T h_first_gate, PySem.W.mg_of X G a12, F12.kp, b12⟩
  have h_is_work : Fn l.prog w K mg base "is_work" 4 ["thing"] s_is_work := ⟨_, _, ok_is_work F13 T h_are_boxes h_are_gates h_first_gate h_is_end h_is_whole h_knots_of, PySem.W.mg_of X G a13, F13.kp, b13⟩
  have h_number_of : Fn l.prog w K mg base "number_of" 1 ["word"] s_number_of := ⟨_, _, ok_number_of F14 T , PySem.W.mg_of X G a14, F14.kp, b14⟩
  have h_numbers_after : Fn l.prog w K mg base "numbers_after" 2 ["words", "word", "many"] s_numbers_after := ⟨_, _, ok_numbers_after F15 T h_number_of, PySem.W.mg_of X G a15, F15.kp, b15⟩
  have h_rows_of : Fn l.prog w K mg base "rows_of" 1 ["text"] s_rows_of := ⟨_, _, ok_rows_of F16 T , PySem.W.mg_of X G a16, F16.kp, b16⟩
  have h_read_work : Fn l.prog w K mg base "read_work" 5 ["text"] s_read_work := ⟨_, _, ok_read_work F17 T h_in_order h_is_work h_numbers_after h_rows_of, PySem.W.mg_of X G a17, F17.kp, b17⟩
  have h__law_read : Fn l.prog w K mg base "_law_read" 6 ["_law_work_here", "_law_text_here"] s__law_read := ⟨_, _, ok__law_read F18 T h__law_formed h_read_work, PySem.W.mg_of X G a18, F18.kp, b18⟩
  have h__law_take : Fn l.prog w K mg base "_law_take" 1 ["_law_bag_here", "_law_many"] s__law_take := ⟨_, _, ok__law_take F19 T , PySem.W.mg_of X G a19, F19.kp, b19⟩
  have h__law_text : Fn l.prog w K mg base "_law_text" 1 ["_law_work_here"] s__law_text := ⟨_, _, ok__law_text F20 T , PySem.W.mg_of X G a20, F20.kp, b20⟩
  have h__law_work : Fn l.prog w K mg base "_law_work" 2 ["_law_bag_here", "_law_ins", "_law_boxes", "_law_gates", "_law_outs"] s__law_work := ⟨_, _, ok__law_work F21 T h__law_take, PySem.W.mg_of X G a21, F21.kp, b21⟩
  have h_work_text : Fn l.prog w K mg base "work_text" 1 ["work"] s_work_text := ⟨_, _, ok_work_text F22 T , PySem.W.mg_of X G a22, F22.kp, b22⟩
  exact law_okG (ok_law F23 T h__law_bag h__law_read h__law_take h__law_text h__law_work h_read_work h_work_text) hmain
def ck0 (K : PySem.W.Frag) : Bool := decide ((PySem.W.nsIn K mainGlobals "_law_cell_at" = some (some (.ref (He.fAd K ("_law_cell_at", none))))) ∧ (PySem.W.keepIn K (.ref (He.fAd K ("_law_cell_at", none))) = true) ∧ (PySem.W.nsIn K mainGlobals "_law_bag" = some (some (.ref (He.fAd K ("_law_bag", none))))) ∧ (PySem.W.keepIn K (.ref (He.fAd K ("_law_bag", none))) = true) ∧ (PySem.W.nsIn K mainGlobals "_law_whole" = some (some (.ref (He.fAd K ("_law_whole", none))))) ∧ (PySem.W.keepIn K (.ref (He.fAd K ("_law_whole", none))) = true) ∧ (PySem.W.nsIn K mainGlobals "_law_ends" = some (some (.ref (He.fAd K ("_law_ends", none))))) ∧ (PySem.W.keepIn K (.ref (He.fAd K ("_law_ends", none))) = true) ∧ (PySem.W.nsIn K mainGlobals "_law_formed" = some (some (.ref (He.fAd K ("_law_formed", none))))) ∧ (PySem.W.keepIn K (.ref (He.fAd K ("_law_formed", none))) = true))
def ck1 (K : PySem.W.Frag) : Bool := decide ((PySem.W.nsIn K mainGlobals "in_order" = some (some (.ref (He.fAd K ("in_order", none))))) ∧ (PySem.W.keepIn K (.ref (He.fAd K ("in_order", none))) = true) ∧ (PySem.W.nsIn K mainGlobals "is_whole" = some (some (.ref (He.fAd K ("is_whole", none))))) ∧ (PySem.W.keepIn K (.ref (He.fAd K ("is_whole", none))) = true) ∧ (PySem.W.nsIn K mainGlobals "is_end" = some (some (.ref (He.fAd K ("is_end", none))))) ∧ (PySem.W.keepIn K (.ref (He.fAd K ("is_end", none))) = true) ∧ (PySem.W.nsIn K mainGlobals "is_pair" = some (some (.ref (He.fAd K ("is_pair", none))))) ∧ (PySem.W.keepIn K (.ref (He.fAd K ("is_pair", none))) = true) ∧ (PySem.W.nsIn K mainGlobals "are_boxes" = some (some (.ref (He.fAd K ("are_boxes", none))))) ∧ (PySem.W.keepIn K (.ref (He.fAd K ("are_boxes", none))) = true))
def ck2 (K : PySem.W.Frag) : Bool := decide ((PySem.W.nsIn K mainGlobals "are_gates" = some (some (.ref (He.fAd K ("are_gates", none))))) ∧ (PySem.W.keepIn K (.ref (He.fAd K ("are_gates", none))) = true) ∧ (PySem.W.nsIn K mainGlobals "first_gate" = some (some (.ref (He.fAd K ("first_gate", none))))) ∧ (PySem.W.keepIn K (.ref (He.fAd K ("first_gate", none))) = true) ∧ (PySem.W.nsIn K mainGlobals "knots_of" = some (some (.ref (He.fAd K ("knots_of", none))))) ∧ (PySem.W.keepIn K (.ref (He.fAd K ("knots_of", none))) = true) ∧ (PySem.W.nsIn K mainGlobals "is_work" = some (some (.ref (He.fAd K ("is_work", none))))) ∧ (PySem.W.keepIn K (.ref (He.fAd K ("is_work", none))) = true) ∧ (PySem.W.nsIn K mainGlobals "number_of" = some (some (.ref (He.fAd K ("number_of", none))))) ∧ (PySem.W.keepIn K (.ref (He.fAd K ("number_of", none))) = true))
def ck3 (K : PySem.W.Frag) : Bool := decide ((PySem.W.nsIn K mainGlobals "numbers_after" = some (some (.ref (He.fAd K ("numbers_after", none))))) ∧ (PySem.W.keepIn K (.ref (He.fAd K ("numbers_after", none))) = true) ∧ (PySem.W.nsIn K mainGlobals "rows_of" = some (some (.ref (He.fAd K ("rows_of", none))))) ∧ (PySem.W.keepIn K (.ref (He.fAd K ("rows_of", none))) = true) ∧ (PySem.W.nsIn K mainGlobals "read_work" = some (some (.ref (He.fAd K ("read_work", none))))) ∧ (PySem.W.keepIn K (.ref (He.fAd K ("read_work", none))) = true) ∧ (PySem.W.nsIn K mainGlobals "_law_read" = some (some (.ref (He.fAd K ("_law_read", none))))) ∧ (PySem.W.keepIn K (.ref (He.fAd K ("_law_read", none))) = true) ∧ (PySem.W.nsIn K mainGlobals "_law_take" = some (some (.ref (He.fAd K ("_law_take", none))))) ∧ (PySem.W.keepIn K (.ref (He.fAd K ("_law_take", none))) = true))
def ck4 (K : PySem.W.Frag) : Bool := decide ((PySem.W.nsIn K mainGlobals "_law_text" = some (some (.ref (He.fAd K ("_law_text", none))))) ∧ (PySem.W.keepIn K (.ref (He.fAd K ("_law_text", none))) = true) ∧ (PySem.W.nsIn K mainGlobals "_law_work" = some (some (.ref (He.fAd K ("_law_work", none))))) ∧ (PySem.W.keepIn K (.ref (He.fAd K ("_law_work", none))) = true) ∧ (PySem.W.nsIn K mainGlobals "work_text" = some (some (.ref (He.fAd K ("work_text", none))))) ∧ (PySem.W.keepIn K (.ref (He.fAd K ("work_text", none))) = true) ∧ (PySem.W.nsIn K mainGlobals "law" = some (some (.ref (He.fAd K ("law", none))))) ∧ (PySem.W.keepIn K (.ref (He.fAd K ("law", none))) = true) ∧ (PySem.W.nsIn K mainGlobals "all" = some none) ∧ (PySem.W.nsIn K mainGlobals "bool" = some none))
def ck5 (K : PySem.W.Frag) : Bool := decide ((PySem.W.nsIn K mainGlobals "enumerate" = some none) ∧ (PySem.W.nsIn K mainGlobals "int" = some none) ∧ (PySem.W.nsIn K mainGlobals "isinstance" = some none) ∧ (PySem.W.nsIn K mainGlobals "len" = some none) ∧ (PySem.W.nsIn K mainGlobals "list" = some none) ∧ (PySem.W.nsIn K mainGlobals "range" = some none) ∧ (PySem.W.nsIn K mainGlobals "repr" = some none) ∧ (PySem.W.nsIn K mainGlobals "str" = some none) ∧ (PySem.W.nsIn K mainGlobals "tuple" = some none) ∧ (tokS K "FIGURES" "0123456789" = true))
def ck6 (K : PySem.W.Frag) : Bool := decide ((tokI K "LONGEST" (9) = true))
def cks : List (PySem.W.Frag → Bool) := [ck0, ck1, ck2, ck3, ck4, ck5, ck6]
def ckA (K : PySem.W.Frag) : Bool := cks.all fun f => f K
def dd0 : He.FnD := ⟨("_law_cell_at", none), "_law_cell_at", "_law_cell_at", defArgs t__law_cell_at, defBody t__law_cell_at, defScope t__law_cell_at⟩
def dd1 : He.FnD := ⟨("_law_bag", none), "_law_bag", "_law_bag", defArgs t__law_bag, defBody t__law_bag, defScope t__law_bag⟩
def dd2 : He.FnD := ⟨("_law_whole", none), "_law_whole", "_law_whole", defArgs t__law_whole, defBody t__law_whole, defScope t__law_whole⟩
def dd3 : He.FnD := ⟨("_law_ends", none), "_law_ends", "_law_ends", defArgs t__law_ends, defBody t__law_ends, defScope t__law_ends⟩
def dd4 : He.FnD := ⟨("_law_formed", none), "_law_formed", "_law_formed", defArgs t__law_formed, defBody t__law_formed, defScope t__law_formed⟩
def dd5 : He.FnD := ⟨("in_order", none), "in_order", "in_order", defArgs t_in_order, defBody t_in_order, defScope t_in_order⟩
def dd6 : He.FnD := ⟨("is_whole", none), "is_whole", "is_whole", defArgs t_is_whole, defBody t_is_whole, defScope t_is_whole⟩
def dd7 : He.FnD := ⟨("is_end", none), "is_end", "is_end", defArgs t_is_end, defBody t_is_end, defScope t_is_end⟩
def dd8 : He.FnD := ⟨("is_pair", none), "is_pair", "is_pair", defArgs t_is_pair, defBody t_is_pair, defScope t_is_pair⟩
def dd9 : He.FnD := ⟨("are_boxes", none), "are_boxes", "are_boxes", defArgs t_are_boxes, defBody t_are_boxes, defScope t_are_boxes⟩
def dd10 : He.FnD := ⟨("are_gates", none), "are_gates", "are_gates", defArgs t_are_gates, defBody t_are_gates, defScope t_are_gates⟩
def dd11 : He.FnD := ⟨("first_gate", none), "first_gate", "first_gate", defArgs t_first_gate, defBody t_first_gate, defScope t_first_gate⟩
def dd12 : He.FnD := ⟨("knots_of", none), "knots_of", "knots_of", defArgs t_knots_of, defBody t_knots_of, defScope t_knots_of⟩
def dd13 : He.FnD := ⟨("is_work", none), "is_work", "is_work", defArgs t_is_work, defBody t_is_work, defScope t_is_work⟩
def dd14 : He.FnD := ⟨("number_of", none), "number_of", "number_of", defArgs t_number_of, defBody t_number_of, defScope t_number_of⟩
def dd15 : He.FnD := ⟨("numbers_after", none), "numbers_after", "numbers_after", defArgs t_numbers_after, defBody t_numbers_after, defScope t_numbers_after⟩
def dd16 : He.FnD := ⟨("rows_of", none), "rows_of", "rows_of", defArgs t_rows_of, defBody t_rows_of, defScope t_rows_of⟩
def dd17 : He.FnD := ⟨("read_work", none), "read_work", "read_work", defArgs t_read_work, defBody t_read_work, defScope t_read_work⟩
def dd18 : He.FnD := ⟨("_law_read", none), "_law_read", "_law_read", defArgs t__law_read, defBody t__law_read, defScope t__law_read⟩
def dd19 : He.FnD := ⟨("_law_take", none), "_law_take", "_law_take", defArgs t__law_take, defBody t__law_take, defScope t__law_take⟩
def dd20 : He.FnD := ⟨("_law_text", none), "_law_text", "_law_text", defArgs t__law_text, defBody t__law_text, defScope t__law_text⟩
def dd21 : He.FnD := ⟨("_law_work", none), "_law_work", "_law_work", defArgs t__law_work, defBody t__law_work, defScope t__law_work⟩
def dd22 : He.FnD := ⟨("work_text", none), "work_text", "work_text", defArgs t_work_text, defBody t_work_text, defScope t_work_text⟩
def dd23 : He.FnD := ⟨("law", none), "law", "law", defArgs t_law, defBody t_law, defScope t_law⟩
def fns : List He.FnD := ([dd0, dd1, dd2, dd3, dd4, dd5, dd6, dd7, dd8, dd9, dd10, dd11, dd12, dd13, dd14, dd15, dd16, dd17, dd18, dd19, dd20, dd21, dd22, dd23] : List He.FnD)
def names : List PySem.Str := (["ForgeError", "NoText", "FIGURES", "LONGEST", "number_of", "rows_of", "is_whole", "first_gate", "knots_of", "is_end", "is_pair", "are_boxes", "are_gates", "is_work", "numbers_after", "in_order", "read_work", "work_text", "_law_cell_at", "_law_bag"] : List PySem.Str) ++ (["_law_take", "_law_whole", "_law_ends", "_law_formed", "_law_work", "_law_text", "_law_read"] : List PySem.Str)
abbrev R : PySem.W.OpenRow := PySem.W.OpenLaw.row PySem.Challenge.rw_lampforge_k65_works_written_and_read
abbrev hk : PySem.W.Hook := ML.hookM ckA fns
def ob (s : PySem.W.SharedT) : He.Al := ML.obsMG ckA fns (HandSHeadRun.getT s)
theorem ob_eq (s : PySem.W.SharedT) : ob s = hk.obs s.abs := ML.obsMG_eq (HandSHeadRun.getT_eq s)
abbrev qv : Program := PySem.W.view R.prog [33]
theorem run (w : World) : HandSHeadRun.RunEq R qv hk ob 20000 names w := by
  intro os
  kernel_rfl
theorem facts {l : PySem.W.OpenLaw} {w : World} {K : PySem.W.Frag} {h : Heap} {mg : Str → Option Value} {fa : Addr} (X : K.In h) (G : h.Ns mainGlobals mg) (hfa : mg "law" = some (.ref fa)) (c : ML.SaysM ckA fns K) :
    ∃ fd : FuncData, (∀ (s : Shared) (v : Value), BindsTo s fd ⟨[v], []⟩ [("_law_script", v)]) ∧ ∀ base : Heap, K.In base → base.Ns mainGlobals mg → FnG l.prog w K mg base (L2.CX l.prog w) 7 fa ["_law_script"] fd (spL K 63) := by
  have ck := c.ck_
  have g0 : ck0 K = true := List.all_eq_true.mp ck ck0 (List.mem_of_getElem? (i := 0) rfl)
  obtain ⟨a0, k0, a1, k1, a2, k2, a3, k3, a4, k4⟩ := of_decide_eq_true (show decide ((PySem.W.nsIn K mainGlobals "_law_cell_at" = some (some (.ref (He.fAd K ("_law_cell_at", none))))) ∧ (PySem.W.keepIn K (.ref (He.fAd K ("_law_cell_at", none))) = true) ∧ (PySem.W.nsIn K mainGlobals "_law_bag" = some (some (.ref (He.fAd K ("_law_bag", none))))) ∧ (PySem.W.keepIn K (.ref (He.fAd K ("_law_bag", none))) = true) ∧ (PySem.W.nsIn K mainGlobals "_law_whole" = some (some (.ref (He.fAd K ("_law_whole", none))))) ∧ (PySem.W.keepIn K (.ref (He.fAd K ("_law_whole", none))) = true) ∧ (PySem.W.nsIn K mainGlobals "_law_ends" = some (some (.ref (He.fAd K ("_law_ends", none))))) ∧ (PySem.W.keepIn K (.ref (He.fAd K ("_law_ends", none))) = true) ∧ (PySem.W.nsIn K mainGlobals "_law_formed" = some (some (.ref (He.fAd K ("_law_formed", none))))) ∧ (PySem.W.keepIn K (.ref (He.fAd K ("_law_formed", none))) = true)) = true from g0)
  have g1 : ck1 K = true := List.all_eq_true.mp ck ck1 (List.mem_of_getElem? (i := 1) rfl)
  obtain ⟨a5, k5, a6, k6, a7, k7, a8, k8, a9, k9⟩ := of_decide_eq_true (show decide ((PySem.W.nsIn K mainGlobals "in_order" = some (some (.ref (He.fAd K ("in_order", none))))) ∧ (PySem.W.keepIn K (.ref (He.fAd K ("in_order", none))) = true) ∧ (PySem.W.nsIn K mainGlobals "is_whole" = some (some (.ref (He.fAd K ("is_whole", none))))) ∧ (PySem.W.keepIn K (.ref (He.fAd K ("is_whole", none))) = true) ∧ (PySem.W.nsIn K mainGlobals "is_end" = some (some (.ref (He.fAd K ("is_end", none))))) ∧ (PySem.W.keepIn K (.ref (He.fAd K ("is_end", none))) = true) ∧ (PySem.W.nsIn K mainGlobals "is_pair" = some (some (.ref (He.fAd K ("is_pair", none))))) ∧ (PySem.W.keepIn K (.ref (He.fAd K ("is_pair", none))) = true) ∧ (PySem.W.nsIn K mainGlobals "are_boxes" = some (some (.ref (He.fAd K ("are_boxes", none))))) ∧ (PySem.W.keepIn K (.ref (He.fAd K ("are_boxes", none))) = true)) = true from g1)
  have g2 : ck2 K = true := List.all_eq_true.mp ck ck2 (List.mem_of_getElem? (i := 2) rfl)
  obtain ⟨a10, k10, a11, k11, a12, k12, a13, k13, a14, k14⟩ := of_decide_eq_true (show decide ((PySem.W.nsIn K mainGlobals "are_gates" = some (some (.ref (He.fAd K ("are_gates", none))))) ∧ (PySem.W.keepIn K (.ref (He.fAd K ("are_gates", none))) = true) ∧ (PySem.W.nsIn K mainGlobals "first_gate" = some (some (.ref (He.fAd K ("first_gate", none))))) ∧ (PySem.W.keepIn K (.ref (He.fAd K ("first_gate", none))) = true) ∧ (PySem.W.nsIn K mainGlobals "knots_of" = some (some (.ref (He.fAd K ("knots_of", none))))) ∧ (PySem.W.keepIn K (.ref (He.fAd K ("knots_of", none))) = true) ∧ (PySem.W.nsIn K mainGlobals "is_work" = some (some (.ref (He.fAd K ("is_work", none))))) ∧ (PySem.W.keepIn K (.ref (He.fAd K ("is_work", none))) = true) ∧ (PySem.W.nsIn K mainGlobals "number_of" = some (some (.ref (He.fAd K ("number_of", none))))) ∧ (PySem.W.keepIn K (.ref (He.fAd K ("number_of", none))) = true)) = true from g2)
  have g3 : ck3 K = true := List.all_eq_true.mp ck ck3 (List.mem_of_getElem? (i := 3) rfl)
  obtain ⟨a15, k15, a16, k16, a17, k17, a18, k18, a19, k19⟩ := of_decide_eq_true (show decide ((PySem.W.nsIn K mainGlobals "numbers_after" = some (some (.ref (He.fAd K ("numbers_after", none))))) ∧ (PySem.W.keepIn K (.ref (He.fAd K ("numbers_after", none))) = true) ∧ (PySem.W.nsIn K mainGlobals "rows_of" = some (some (.ref (He.fAd K ("rows_of", none))))) ∧ (PySem.W.keepIn K (.ref (He.fAd K ("rows_of", none))) = true) ∧ (PySem.W.nsIn K mainGlobals "read_work" = some (some (.ref (He.fAd K ("read_work", none))))) ∧ (PySem.W.keepIn K (.ref (He.fAd K ("read_work", none))) = true) ∧ (PySem.W.nsIn K mainGlobals "_law_read" = some (some (.ref (He.fAd K ("_law_read", none))))) ∧ (PySem.W.keepIn K (.ref (He.fAd K ("_law_read", none))) = true) ∧ (PySem.W.nsIn K mainGlobals "_law_take" = some (some (.ref (He.fAd K ("_law_take", none))))) ∧ (PySem.W.keepIn K (.ref (He.fAd K ("_law_take", none))) = true)) = true from g3)
  have g4 : ck4 K = true := List.all_eq_true.mp ck ck4 (List.mem_of_getElem? (i := 4) rfl)
  obtain ⟨a20, k20, a21, k21, a22, k22, a23, k23, z_all, z_bool⟩ := of_decide_eq_true (show decide ((PySem.W.nsIn K mainGlobals "_law_text" = some (some (.ref (He.fAd K ("_law_text", none))))) ∧ (PySem.W.keepIn K (.ref (He.fAd K ("_law_text", none))) = true) ∧ (PySem.W.nsIn K mainGlobals "_law_work" = some (some (.ref (He.fAd K ("_law_work", none))))) ∧ (PySem.W.keepIn K (.ref (He.fAd K ("_law_work", none))) = true) ∧ (PySem.W.nsIn K mainGlobals "work_text" = some (some (.ref (He.fAd K ("work_text", none))))) ∧ (PySem.W.keepIn K (.ref (He.fAd K ("work_text", none))) = true) ∧ (PySem.W.nsIn K mainGlobals "law" = some (some (.ref (He.fAd K ("law", none))))) ∧ (PySem.W.keepIn K (.ref (He.fAd K ("law", none))) = true) ∧ (PySem.W.nsIn K mainGlobals "all" = some none) ∧ (PySem.W.nsIn K mainGlobals "bool" = some none)) = true from g4)
  have g5 : ck5 K = true := List.all_eq_true.mp ck ck5 (List.mem_of_getElem? (i := 5) rfl)
  obtain ⟨z_enumerate, z_int, z_isinstance, z_len, z_list, z_range, z_repr, z_str, z_tuple, qcz_FIGURES⟩ := of_decide_eq_true (show decide ((PySem.W.nsIn K mainGlobals "enumerate" = some none) ∧ (PySem.W.nsIn K mainGlobals "int" = some none) ∧ (PySem.W.nsIn K mainGlobals "isinstance" = some none) ∧ (PySem.W.nsIn K mainGlobals "len" = some none) ∧ (PySem.W.nsIn K mainGlobals "list" = some none) ∧ (PySem.W.nsIn K mainGlobals "range" = some none) ∧ (PySem.W.nsIn K mainGlobals "repr" = some none) ∧ (PySem.W.nsIn K mainGlobals "str" = some none) ∧ (PySem.W.nsIn K mainGlobals "tuple" = some none) ∧ (tokS K "FIGURES" "0123456789" = true)) = true from g5)
  have g6 : ck6 K = true := List.all_eq_true.mp ck ck6 (List.mem_of_getElem? (i := 6) rfl)
  obtain qcz_LONGEST := of_decide_eq_true (show decide ((tokI K "LONGEST" (9) = true)) = true from g6)
  obtain ⟨_, _, _, _, _, _, _, _, _, l0, c0⟩ := c.def_ 0 (d := dd0) rfl
  obtain ⟨_, _, _, _, _, _, _, _, _, l1, c1⟩ := c.def_ 1 (d := dd1) rfl
  obtain ⟨_, _, _, _, _, _, _, _, _, l2, c2⟩ := c.def_ 2 (d := dd2) rfl
  obtain ⟨_, _, _, _, _, _, _, _, _, l3, c3⟩ := c.def_ 3 (d := dd3) rfl
  obtain ⟨_, _, _, _, _, _, _, _, _, l4, c4⟩ := c.def_ 4 (d := dd4) rfl
  obtain ⟨_, _, _, _, _, _, _, _, _, l5, c5⟩ := c.def_ 5 (d := dd5) rfl
  obtain ⟨_, _, _, _, _, _, _, _, _, l6, c6⟩ := c.def_ 6 (d := dd6) rfl
  obtain ⟨_, _, _, _, _, _, _, _, _, l7, c7⟩ := c.def_ 7 (d := dd7) rfl
  obtain ⟨_, _, _, _, _, _, _, _, _, l8, c8⟩ := c.def_ 8 (d := dd8) rfl
  obtain ⟨_, _, _, _, _, _, _, _, _, l9, c9⟩ := c.def_ 9 (d := dd9) rfl
  obtain ⟨_, _, _, _, _, _, _, _, _, l10, c10⟩ := c.def_ 10 (d := dd10) rfl
  obtain ⟨_, _, _, _, _, _, _, _, _, l11, c11⟩ := c.def_ 11 (d := dd11) rfl
  obtain ⟨_, _, _, _, _, _, _, _, _, l12, c12⟩ := c.def_ 12 (d := dd12) rfl
  obtain ⟨_, _, _, _, _, _, _, _, _, l13, c13⟩ := c.def_ 13 (d := dd13) rfl
  obtain ⟨_, _, _, _, _, _, _, _, _, l14, c14⟩ := c.def_ 14 (d := dd14) rfl
  obtain ⟨_, _, _, _, _, _, _, _, _, l15, c15⟩ := c.def_ 15 (d := dd15) rfl
  obtain ⟨_, _, _, _, _, _, _, _, _, l16, c16⟩ := c.def_ 16 (d := dd16) rfl
  obtain ⟨_, _, _, _, _, _, _, _, _, l17, c17⟩ := c.def_ 17 (d := dd17) rfl
  obtain ⟨_, _, _, _, _, _, _, _, _, l18, c18⟩ := c.def_ 18 (d := dd18) rfl
  obtain ⟨_, _, _, _, _, _, _, _, _, l19, c19⟩ := c.def_ 19 (d := dd19) rfl
  obtain ⟨_, _, _, _, _, _, _, _, _, l20, c20⟩ := c.def_ 20 (d := dd20) rfl
  obtain ⟨_, _, _, _, _, _, _, _, _, l21, c21⟩ := c.def_ 21 (d := dd21) rfl
  obtain ⟨_, _, _, _, _, _, _, _, _, l22, c22⟩ := c.def_ 22 (d := dd22) rfl
  obtain ⟨_, _, _, _, _, _, _, _, _, l23, c23⟩ := c.def_ 23 (d := dd23) rfl
  obtain ⟨_, cz_FIGURES⟩ := tokS_ok qcz_FIGURES
  obtain ⟨_, cz_LONGEST⟩ := tokI_ok qcz_LONGEST
  exact all_mk (l := l) (w := w) X G hfa main (a0 := a0) (l0 := l0) (c0 := c0) (k0 := k0) (a1 := a1) (l1 := l1) (c1 := c1) (k1 := k1) (a2 := a2) (l2 := l2) (c2 := c2) (k2 := k2) (a3 := a3) (l3 := l3) (c3 := c3) (k3 := k3) (a4 := a4) (l4 := l4) (c4 := c4) (k4 := k4) (a5 := a5) (l5 := l5) (c5 := c5) (k5 := k5) (a6 := a6) (l6 := l6) (c6 := c6) (k6 := k6) (a7 := a7) (l7 := l7) (c7 := c7) (k7 := k7) (a8 := a8) (l8 := l8) (c8 := c8) (k8 := k8) (a9 := a9) (l9 := l9) (c9 := c9) (k9 := k9) (a10 := a10) (l10 := l10) (c10 := c10) (k10 := k10) (a11 := a11) (l11 := l11) (c11 := c11) (k11 := k11) (a12 := a12) (l12 := l12) (c12 := c12) (k12 := k12) (a13 := a13) (l13 := l13) (c13 := c13) (k13 := k13) (a14 := a14) (l14 := l14) (c14 := c14) (k14 := k14) (a15 := a15) (l15 := l15) (c15 := c15) (k15 := k15) (a16 := a16) (l16 := l16) (c16 := c16) (k16 := k16) (a17 := a17) (l17 := l17) (c17 := c17) (k17 := k17) (a18 := a18) (l18 := l18) (c18 := c18) (k18 := k18) (a19 := a19) (l19 := l19) (c19 := c19) (k19 := k19) (a20 := a20) (l20 := l20) (c20 := c20) (k20 := k20) (a21 := a21) (l21 := l21) (c21 := c21) (k21 := k21) (a22 := a22) (l22 := l22) (c22 := c22) (k22 := k22) (a23 := a23) (l23 := l23) (c23 := c23) (k23 := k23) (z_all := z_all) (z_bool := z_bool) (z_enumerate := z_enumerate) (z_int := z_int) (z_isinstance := z_isinstance) (z_len := z_len) (z_list := z_list) (z_range := z_range) (z_repr := z_repr) (z_str := z_str) (z_tuple := z_tuple) (cz_FIGURES := cz_FIGURES) (cz_LONGEST := cz_LONGEST)
end LK
open PySem PySem.W PySem.Calls PyProof.Rows
set_option maxHeartbeats 0 in
theorem PySem.Challenge.cw_lampforge_k65_works_written_and_read_holds : PySem.Challenge.rw_lampforge_k65_works_written_and_read.Holds := by
  w_on; o_law
  refine HandSHeadRun.head_any (r := OpenLaw.row PySem.Challenge.rw_lampforge_k65_works_written_and_read) (q := LK.qv) (H := LK.hk) (ob := LK.ob) (M := 20000) (loose := LK.names) (d := HandSHeadRun.topDef (OpenLaw.row PySem.Challenge.rw_lampforge_k65_works_written_and_read).prog 33) (kwd := []) LK.ob_eq
    (by kernel_rfl) (fun s => by kernel_rfl) LK.run (by kernel_rfl) (by kernel_rfl) (by kernel_rfl) (by rfl) (by first | assumption | decide +kernel) (by decide +kernel) ⟨rfl, rfl, rfl, rfl, rfl, by decide +kernel⟩ ?hw ?hc
  case hw => w_witness2
  case hc =>
    refine ML.walk_ofH (l := PySem.Challenge.rw_lampforge_k65_works_written_and_read) (n := 63) (k := 7) (x := "_law_script") (CX := fun w => L2.CX _ w) rfl (by decide) (by kernel_rfl) ⟨rfl, by decide, by decide⟩ ?F (fun _ _ _ _ _ h => ML.cx_none (P := PySem.Challenge.rw_lampforge_k65_works_written_and_read.prog) h)
    intro w mg fa h Y G hmg0
    obtain ⟨K, KX, c⟩ := Y
    have hmg : mg ("law" : PySem.Str) = some (.ref fa) := by
      have e : (HandSHeadRun.topDef (OpenLaw.row PySem.Challenge.rw_lampforge_k65_works_written_and_read).prog 33).name = ("law" : PySem.Str) := by kernel_rfl
      rw [← e]
      exact hmg0
    exact ⟨K, KX, LK.facts KX G hmg c⟩
